import PyProof.Rows.All
import Wide.All
import OpenK.AllK
import Wide.FinOn
import HandS.ForMost
import HandS.Deep
import HandS.IsInst
import HandS.Conv
import HandS.DictComp
import HandS.EndBits
import HandS.Wide
import HandS.Flow
import KE.DataEq
import HandS.TupAny
import HandS.Walk
import KE.GoesEnum
import KE.KDictSum
import HandS.Defaults
import HandS.Style
import HandS.SlotsOwn
import HandS.Star
import HandS.OwnEq
import KE.DataFind
import HandS.More
import HandS.Text
import HandS.Strs
import KE.KSuper
import KE.KExcSuper
import KE.KExcMake
import HandS.Base
import HandS.Call
import HandS.Exc
import HandS.ExcInit
import HandS.Nested
import HandS.WordsExc
import HandS.ExcField
import HandS.TryMany
import HandS.TryOnly
import HandS.Words
import HandS.HeadHook1
import HandS.HeadHook2
import HandS.Lambda
import KE.KNestM
import HandS.HotCalls
import PyProof.EqKinds
import PyProof.FactsAll.dict_1
import PyProof.FactsAll.subtypes_3
import PyProof.FactsAll.subtypes_4
import KE.KExcIs
import KE.KLam
import KE.KNest
import HandS.ExcValue
import HandS.MakeKwOnly
import PySem.Challenge.RW_lastopen_k01_errors_made
import HandS.Head0
import HandS.Head1
import HandS.Head2
import HandS.HeadHook4
set_option Elab.async false
set_option linter.all false
set_option maxRecDepth 100000
set_option maxHeartbeats 1000000
namespace L3
open PySem L2

/-! the ghost part M of the heap: what never changes from here on -/
structure Gr (M H M' H' : Hp) : Prop where
  mm : Same M M'
  hh : Same H H'
  mh : Same M' H'
  nw : ∀ a o, M' a = some o → M a = some o ∨ H a = none ∨ ∃ xs, o = HO.tup xs
  nt : ∀ a ps, M' a = some (.tbl ps) → M a = some (.tbl ps)
theorem same_new {H : Hp} {p : Addr} {o : HO} (h : H p = none) : Same H (upd H p o) := fun b u e => by
  rw [upd_ne (ne_of_none e h)]; exact e
theorem same_mut {M H : Hp} {p : Addr} {o : HO} (e : Same M H) (h : M p = none) : Same M (upd H p o) := fun b u q => by
  rw [upd_ne (ne_of_none q h)]; exact e b u q
theorem Gr.refl {M H : Hp} (mh : Same M H) : Gr M H M H := ⟨Same.refl M, Same.refl H, mh, fun _ _ e => .inl e, fun _ _ e => e⟩
theorem Gr.trans {M H M1 H1 M2 H2 : Hp} (a : Gr M H M1 H1) (b : Gr M1 H1 M2 H2) : Gr M H M2 H2 :=
  ⟨a.mm.trans b.mm, a.hh.trans b.hh, b.mh, fun x o e => by
    rcases b.nw x o e with h | h | h
    · exact a.nw x o h
    · exact .inr (.inl (a.hh.free h))
    · exact .inr (.inr h), fun x ps e => a.nt x ps (b.nt x ps e)⟩
theorem upd_nt {M : Hp} {p : Addr} {o : HO} (hn : ∀ ps, o ≠ HO.tbl ps) (a : Addr) (ps : Array Value) (e : upd M p o a = some (.tbl ps)) : M a = some (.tbl ps) := by
  by_cases h : a = p
  · subst h; rw [upd_same] at e; exact absurd (Option.some.inj e) (hn ps)
  · rw [upd_ne h] at e; exact e
/-- a new object that is known from now on; one that may still change -/
theorem Gr.new {M H : Hp} {p : Addr} {o : HO} (mh : Same M H) (hp : H p = none) (hn : ∀ ps, o ≠ HO.tbl ps := by intro _ z; cases z) : Gr M H (upd M p o) (upd H p o) := by
  refine ⟨same_new (mh.free hp), same_new hp, fun b u e => ?_, fun b u e => ?_, upd_nt hn⟩
  · by_cases hb : b = p
    · subst hb; rw [upd_same] at e ⊢; exact e
    · rw [upd_ne hb] at e ⊢; exact mh b u e
  · by_cases hb : b = p
    · subst hb; exact .inr (.inl hp)
    · rw [upd_ne hb] at e; exact .inl e
theorem Gr.own {M H : Hp} {p : Addr} {o : HO} (mh : Same M H) (hp : H p = none) : Gr M H M (upd H p o) :=
  ⟨Same.refl M, same_new hp, same_mut mh (mh.free hp), fun _ _ e => .inl e, fun _ _ e => e⟩
/-- an object of ours changes -/
theorem Gr.mut {M0 H0 M H : Hp} {p : Addr} {o : HO} (g : Gr M0 H0 M H) (h0 : H0 p = none) (hm : M p = none) : Gr M0 H0 M (upd H p o) :=
  ⟨g.mm, same_mut g.hh h0, same_mut g.mh hm, g.nw, g.nt⟩
/-- an object of ours is known from now on -/
theorem Gr.freeze {M0 H0 M H : Hp} {p : Addr} {o : HO} (g : Gr M0 H0 M H) (h0 : H0 p = none) (hm : M p = none) (hp : H p = some o) (hn : ∀ ps, o ≠ HO.tbl ps := by intro _ z; cases z) : Gr M0 H0 (upd M p o) H := by
  refine ⟨g.mm.trans (same_new hm), g.hh, fun b u e => ?_, fun b u e => ?_, fun b ps e => g.nt b ps (upd_nt hn b ps e)⟩
  · by_cases hb : b = p
    · subst hb; rw [upd_same] at e; rw [hp]; exact e
    · rw [upd_ne hb] at e; exact g.mh b u e
  · by_cases hb : b = p
    · subst hb; exact .inr (.inl h0)
    · rw [upd_ne hb] at e; exact g.nw b u e
theorem Gr.keep {M H M' H' : Hp} {p : Addr} {o : HO} (g : Gr M H M' H') (hm : M p = none) (hp : H p = some o) (hn : ∀ xs, o ≠ HO.tup xs := by intro _ z; cases z) : M' p = none := by
  cases e : M' p with
  | none => rfl
  | some u =>
    rcases g.nw p u e with h | h | ⟨xs, h⟩
    · rw [hm] at h; cases h
    · rw [hp] at h; cases h
    · subst h
      have h1 := g.mh p _ e
      rw [g.hh p _ hp] at h1
      exact absurd (Option.some.inj h1) (hn xs)
theorem rd_mono {H H' : Hp} {a : Addr} {u : HO} (e : Same H H') (h : Rd H a u) : Rd H' a u := by
  rcases h with h | ⟨o, h⟩
  · exact Or.inl (e a _ h)
  · exact Or.inr ⟨o, e a _ h⟩
theorem sl_mono {K : PySem.W.Frag} {H H' : Hp} {a : Addr} {xs : List V} (e : Same H H') (h : SqL K H a xs) : SqL K H' a xs := by
  rcases h with h | h
  · exact Or.inl (rd_mono e h)
  · exact Or.inr h
theorem st_mono {K : PySem.W.Frag} {H H' : Hp} {a : Addr} {xs : List V} (e : Same H H') (h : SqT K H a xs) : SqT K H' a xs := by
  rcases h with h | h
  · exact Or.inl (rd_mono e h)
  · exact Or.inr h
mutual
theorem dp_mono {K : PySem.W.Frag} {H H' : Hp} (e : Same H H') : ∀ {v : V} {d : PyData}, Dp K H v d → Dp K H' v d
  | _, _, .non => .non
  | _, _, .bl b => .bl b
  | _, _, .int i => .int i
  | _, _, .str x => .str x
  | _, _, .lst hs ha => .lst (sl_mono e hs) (dpa_mono e ha)
  | _, _, .tup hs ha => .tup (st_mono e hs) (dpa_mono e ha)
theorem dpa_mono {K : PySem.W.Frag} {H H' : Hp} (e : Same H H') : ∀ {vs : List V} {ds : List PyData}, DpAll K H vs ds → DpAll K H' vs ds
  | _, _, .nil => .nil
  | _, _, .cons h t => .cons (dp_mono e h) (dpa_mono e t)
end
end L3

set_option Elab.async false
set_option linter.all false
set_option maxRecDepth 100000
set_option maxHeartbeats 1000000
namespace L3
open PySem PySem.Spec PyProof.Rows L2

/-! defs whose text asks repr: no repr is under way around them -/
structure FnG (P : Program) (w : World) (K : PySem.W.Frag) (mg : Str → Option Value) (base : Heap) (CX : CXT) (k : Nat) (f : Addr) (fd : FuncData) (ps : List Str) (sp : Sp) : Prop where
  len (vs : List V) (H : Hp) (Q : VK) (E : XK) : sp vs H Q E → vs.length = ps.length
  run : ∀ (A : Around) (outer : List Env) (s : Shared) (H : Hp) (args : Args) (us : List Value) (vs : List V) (Q : VK) (E : XK), A.guards = some [] → Room k A →
    Env0 P w K mg base A outer s H → BindsTo s fd args (ps.zip us) → Vals vs us → sp vs H Q E → codeAny (model P w) A (.call (.ref f) args) (CR CX outer P w H s Q E) s
section
variable {P : Program} {w : World} {K : PySem.W.Frag} {mg : Str → Option Value} {base : Heap} {CX : CXT} {k : Nat} {f : Addr} {fd : FuncData} {ps : List Str} {sp : Sp}
theorem FnG.of (F : FnOk P w K mg base CX k f fd ps sp) : FnG P w K mg base CX k f fd ps sp :=
  ⟨F.len, fun A outer s H args us vs Q E _ hr he hb hv h => F.run A outer s H args us vs Q E hr he hb hv h⟩
theorem FnG.mono {j : Nat} (F : FnG P w K mg base CX j f fd ps sp) (h : j ≤ k) : FnG P w K mg base CX k f fd ps sp :=
  ⟨F.len, fun A outer s H args us vs Q E hg hr he hb hv hs => F.run A outer s H args us vs Q E hg (hr.mono h) he hb hv hs⟩
end
/-- a def of the text keeps its promise where no repr is under way: its body is walked in the new frame, and each way out of the body is a way out of the call -/
theorem fun_okG {P : Program} {w : World} {K : PySem.W.Frag} {mg : Str → Option Value} {base : Heap} {x qual : Str} {st : Stmt} {f : Addr} {fd : FuncData} {N ps : List Str} {k : Nat} {sp : Sp} (F : Fun K x qual st f fd) (S : FnScope N ps (defScope st))
    (ar : ∀ vs H Q E, sp vs H Q E → vs.length = ps.length) (hb : ∀ (cdv : Value) (A : Around) (outer : List Env) (s : Shared) (H : Hp) (vs : List V) (Q : VK) (E : XK), A.guards = some [] → Room k (A.deeper (envOfC qual (defScope st) s.heap.objs.size f cdv)) → sp vs H Q E →
      ∃ t, PSs (cxOf CX0 P w K mg base N qual (defScope st) f cdv A outer s H E).nox (defBody st) t ∧ t { nx := fun _ H' => Q .non H', rt := Q } (start N vs) H) :
    FnG P w K mg base CX0 (k + 1) f fd ps sp where
  len := ar
  run A outer s H args us vs Q E hgu hr e0 hbi rv hsp := by
    have ⟨c1, c2, c3, c4, c5, c6, cdv, c7, c8, efd, lk, hcd⟩ := F.ex
    subst efd
    have grown : ∀ b o, base.get? b = some o → s.heap.get? b = some o := fun b o e => (e0.bs b o e).1
    have inK := e0.mod.kin.keeps grown
    apply codeAny_call_function hr.depth (inK _ _ lk) rfl S.co S.gen rfl (PySem.W.codeRec_of inK hcd)
    apply hbi
    refine wpAny_newFunctionEnv_cells S.kind (fun ⟨n, v⟩ hy => ?_) fun env he s1 new => ?_
    · rcases S.par n (List.of_mem_zip hy).1 with q | q
      · exact .inl q
      · exact .inr ⟨q, PySem.W.cellsFrom_some _ _ _ (.inl q)⟩
    subst he
    have ⟨t, pt, q⟩ := hb cdv A outer s H vs Q E hgu (hr.deeper _) hsp
    have I0 := inv_start (CX := CX0) (E := E) S hr.hd e0 (ar _ _ _ _ hsp) rv new
    refine ⟨(e0.mod.nolimit.keeps grown).keeps new.toInCall.keep, codeAny_func (wpAny_mono (pt.nox.run [] s1 _ H _ I0 q) ?_ fun _ _ z => z)⟩
    rintro (_ | _ | _ | u) s2 h2
    · have ⟨_, _, J, z⟩ := h2
      exact ⟨V.non, _, J.os, J.bare, J.base, J.hok, rfl, z⟩
    · exact h2.elim fun _ h => h.elim fun _ h => h.2.elim
    · exact h2.elim fun _ h => h.elim fun _ h => h.2.elim
    · have ⟨v, _, _, J, ru, z⟩ := h2
      exact ⟨v, _, J.os, J.bare, J.base, J.hok, ru, z⟩
section
variable {X : Cx} {CX : CXT} {k : Nat} {f C : Addr} {fd : FuncData} {ps : List Str} {sp : Sp} {dvs : List V} {ds : List Value} {E : XK} {x : Str} {p pos : Pos} {e : Expr} {es : List Expr} {t : TA}
theorem run_fnG {pins : List (Addr × Obj)} {σ : L2.St} {H : Hp} {s : Shared} {Q : VK} {us : List Value} {vs : List V} (F : FnG X.prog X.w X.K X.mg X.base CX k f fd ps sp) (hgu : X.A.guards = some []) (hr : Room k X.A) (hb : Binds X.K fd ps ds) (hd : Vals dvs ds) (hx : Passes CX X E) (I : Inv X pins σ H s) (rv : Vals vs us)
    (h : sp (vs ++ dvs) H Q E) : wpAny (model X.prog X.w) X.A (call (.ref f) us) (EP X pins σ Q) X.xe s := by
  have rr := rv.append hd
  have bind := hb s us I.kIn (rr.length ▸ F.len _ _ _ _ h)
  apply wpAny_call
  apply codeAny_mono (F.run X.A X.stack s H ⟨us, []⟩ _ _ Q E hgu hr I.env0 bind rr h)
  rintro (e | fl) s' hq
  · exact hx pins σ H s e s' I hq
  · cases fl with
    | ret u => exact I.after hq
    | _ => exact hq.elim
theorem pe_callG (F : FnG X.prog X.w X.K X.mg X.base CX k f fd ps sp) (hgu : X.A.guards = some []) (hr : Room k X.A) (hg : Gl X x) (hm : X.mg x = some (.ref f)) (hk : PySem.W.keepIn X.K (.ref f) = true) (hb : Binds X.K fd ps ds) (hd : Vals dvs ds) (hx : Passes CX X E)
    (ha : PA X (e :: es) t) (hdb : (x == ("__debug__" : Str)) = false := by decide) (he : starEach (e :: es) X.env = (false, eval e X.env) :: starEach es X.env := by rfl) (hpl : (backTo pos (starEach es X.env)).any (·.1) = false := by rfl) :
    PE X (.Call (.Name x p) (e :: es) [] pos) (tCall sp dvs E t) :=
  ⟨fun pins s σ H Q I h => wpAny_Call_Name_kw (ld_glob I hg hm (PySem.W.callWith_K (h₀ := X.base) I.ok.mod.kin hk
    (thn (ha.run pos pins s σ H _ I h) fun us s1 ⟨vs, H1, I1, r, q⟩ => ⟨I1.kIn, run_fnG F hgu hr hb hd hx I1 r q⟩) he hpl) hdb)⟩

/-! repr of data -/
mutual
theorem dp_nodict {K : PySem.W.Frag} {H : Hp} : ∀ {v : V} {d : PyData}, Dp K H v d → d.hasDict = false
  | _, _, .non => by simp only [PyData.hasDict]
  | _, _, .bl b => by simp only [PyData.hasDict]
  | _, _, .int i => by simp only [PyData.hasDict]
  | _, _, .str x => by simp only [PyData.hasDict]
  | _, _, .lst _ ha => by simp only [PyData.hasDict]; exact dpa_nodict ha
  | _, _, .tup _ ha => by simp only [PyData.hasDict]; exact dpa_nodict ha
theorem dpa_nodict {K : PySem.W.Frag} {H : Hp} : ∀ {vs : List V} {ds : List PyData}, DpAll K H vs ds → PyData.hasDictAll ds = false
  | _, _, .nil => by simp only [PyData.hasDictAll]
  | _, _, .cons h t => by simp only [PyData.hasDictAll]; rw [dp_nodict h, dpa_nodict t]; rfl
end
end
end L3

set_option Elab.async false
set_option linter.all false
set_option maxRecDepth 100000
set_option maxHeartbeats 1000000
namespace L3
open PySem PySem.Spec PyProof.Rows L2

/-! the law's own end, over a promise that knows the guards. The script stands in the written part, or it is the one object that is known at the start -/
def scrO (vs : List Value) : Obj := { cls := .type "list", data := .seq vs.toArray }
def scrH (K : PySem.W.Frag) (a : Addr) (vs : List Value) (xs : List V) : Hp := fun b => if b = a ∧ K.lookup a = none then some (.frz (scrO vs) (.lst xs)) else none
section
variable {K : PySem.W.Frag} {a : Addr} {vs : List Value} {xs : List V} {h : Heap} {P : Program} {w : World}
theorem scrH_some {b : Addr} {u : HO} (e : scrH K a vs xs b = some u) : b = a ∧ K.lookup a = none ∧ u = .frz (scrO vs) (.lst xs) := by
  unfold scrH at e
  split at e
  next c => exact ⟨c.1, c.2, (Option.some.inj e).symm⟩
  next => cases e
theorem scrH_sq (KX : K.In h) (ho : h.get? a = some (scrO vs)) (rv : Vals xs vs) (hz : xs.length ≤ sizeLine) : SqL K (scrH K a vs xs) a xs := by
  cases e : K.lookup a with
  | none => exact .inl (.inr ⟨_, if_pos ⟨rfl, e⟩⟩)
  | some o =>
    cases ho.symm.trans (KX a o e)
    exact .inr ⟨_, vs.toArray, _, e, rfl, rfl, rfl, (by rw [List.size_toArray, ← rv.length]; exact hz), rv⟩
end
end L3

set_option Elab.async false
set_option linter.all false
set_option maxRecDepth 100000
set_option maxHeartbeats 1000000
namespace L3
open PySem PySem.Spec PyProof.Rows L2
abbrev Sl := L2.St

/-! operators by data -/
mutual
theorem dp_plain {K : PySem.W.Frag} {H : Hp} : ∀ {v : V} {d : PyData}, Dp K H v d → d.plain = true
  | _, _, .non => by simp only [PyData.plain]
  | _, _, .bl b => by simp only [PyData.plain]
  | _, _, .int i => by simp only [PyData.plain]
  | _, _, .str x => by simp only [PyData.plain]
  | _, _, .lst _ ha => by simp only [PyData.plain]; exact dpa_plain ha
  | _, _, .tup _ ha => by simp only [PyData.plain]; exact dpa_plain ha
theorem dpa_plain {K : PySem.W.Frag} {H : Hp} : ∀ {vs : List V} {ds : List PyData}, DpAll K H vs ds → PyData.plainAll ds = true
  | _, _, .nil => by simp only [PyData.plainAll]
  | _, _, .cons h t => by simp only [PyData.plainAll]; rw [dp_plain h, dpa_plain t]; rfl
end
/-- a list or a tuple of ds -/
def Sq (K : PySem.W.Frag) (ds : List PyData) (H : Hp) (v : V) : Prop := Dp K H v (.list ds) ∨ Dp K H v (.tuple ds)
theorem Sq.mono {K : PySem.W.Frag} {ds : List PyData} {H H' : Hp} {v : V} (e : Same H H') (h : Sq K ds H v) : Sq K ds H' v := h.imp (dp_mono e) (dp_mono e)
theorem Sq.at {K : PySem.W.Frag} {ds : List PyData} {H : Hp} {v : V} (h : Sq K ds H v) : ∃ a xs, v = .ref a ∧ (SqL K H a xs ∨ SqT K H a xs) ∧ DpAll K H xs ds := by
  rcases h with h | h
  · cases h with
    | lst hs ha => exact ⟨_, _, rfl, .inl hs, ha⟩
  · cases h with
    | tup hs ha => exact ⟨_, _, rfl, .inr hs, ha⟩
def rEqP (K : PySem.W.Frag) (neg : Bool) : R2 := fun x y H Q => ∃ d e, Dp K H x d ∧ Dp K H y e ∧ d.depth ≤ 60 ∧ Q (.bl (xor neg (PyData.eqv d e))) H
section
variable {X : Cx}
theorem op_eqP (hu : X.A.units + 64 < cLine) : OpR X (compareOp .Eq) (rEqP X.K false) := by
  intro pins s σ H x y v u Q I rx ry ⟨d, e, hd, he, hz, q⟩
  obtain ⟨as, r1⟩ := Dp.reads I d x v hd rx
  obtain ⟨bs, r2⟩ := Dp.reads I e y u he ry
  exact SeqAt.eq_plain r1 r2 (dp_plain hd) (dp_plain he) (by omega) ⟨.bl _, H, I, rfl, by simpa using q⟩
theorem op_neP (hu : X.A.units + 64 < cLine) : OpR X (compareOp .NotEq) (rEqP X.K true) := by
  intro pins s σ H x y v u Q I rx ry ⟨d, e, hd, he, hz, q⟩
  obtain ⟨as, r1⟩ := Dp.reads I d x v hd rx
  obtain ⟨bs, r2⟩ := Dp.reads I e y u he ry
  exact SeqAt.ne_plain r1 r2 (dp_plain hd) (dp_plain he) (by omega) ⟨.bl _, H, I, rfl, by simpa using q⟩
/-- two readings of one expression, of one thing walked -/
theorem PE.or {e : Expr} {t u : TE} (h : PE X e t) (h' : PE X e u) : PE X e (fun σ H Q => t σ H Q ∨ u σ H Q) :=
  ⟨fun pins s σ H Q I q => q.elim (h.run pins s σ H Q I) (h'.run pins s σ H Q I)⟩
theorem PI.or {tg e : Expr} {t u : TI} (h : PI X tg e t) (h' : PI X tg e u) : PI X tg e (fun σ H R => t σ H R ∨ u σ H R) :=
  ⟨fun pins s σ H Q I q => q.elim (h.run pins s σ H Q I) (h'.run pins s σ H Q I)⟩
end

/-! what an expression is worth, over the known part M -/
abbrev Pr := Hp → V → Prop
abbrev Dd (K : PySem.W.Frag) (d : PyData) : Pr := fun M v => Dp K M v d
def Gv (te : TE) (σ : Sl) (M : Hp) (P : Pr) : Prop := ∀ H, Same M H → ∀ Q : VK, (∀ v M' H', Gr M H M' H' → P M' v → Q v H') → te σ H Q
def GvT (tt : TT) (σ : Sl) (M : Hp) (b : Bool) : Prop := ∀ H, Same M H → ∀ Q : Bool → Hp → Prop, (∀ M' H', Gr M H M' H' → Q b H') → tt σ H Q
/-- a new list, ours -/
def GvL (te : TE) (σ : Sl) (M : Hp) (P : Hp → List V → Prop) : Prop := ∀ H, Same M H → ∀ Q : VK, (∀ p vs M' H', Gr M H M' H' → H p = none → M' p = none → H' p = some (.lst vs) → P M' vs → Q (.ref p) H') → te σ H Q
def GvA (ta : TA) (σ : Sl) (M : Hp) (P : Hp → List V → Prop) : Prop := ∀ H, Same M H → ∀ Q : List V → Hp → Prop, (∀ vs M' H', Gr M H M' H' → P M' vs → Q vs H') → ta σ H Q
class Mono (P : Pr) : Prop where
  mono : ∀ {M M' : Hp} {v : V}, Same M M' → P M v → P M' v
instance {K : PySem.W.Frag} {d : PyData} : Mono (Dd K d) := ⟨fun e h => dp_mono e h⟩
instance {K : PySem.W.Frag} {ds : List PyData} : Mono (Sq K ds) := ⟨fun e h => h.mono e⟩
section
variable {K : PySem.W.Frag} {σ : Sl} {M M1 : Hp} {ta tb te : TE} {tt tu : TT} {P P1 : Pr} {b c : Bool} {v : V}
def jn (M1 M' : Hp) : Hp := fun a => (M1 a).or (M' a)
theorem jn_some {M1 M' : Hp} {a : Addr} {o : HO} (q : M1 a = some o) : jn M1 M' a = some o := by unfold jn; rw [q]; rfl
theorem jn_none {M1 M' : Hp} {a : Addr} (q : M1 a = none) : jn M1 M' a = M' a := by unfold jn; rw [q]; rfl
theorem Gr.join {M H M' H' M1 : Hp} (g : Gr M H M' H') (e : Same M M1) (h1 : Same M1 H) : Gr M1 H (jn M1 M') H' ∧ Same M' (jn M1 M') := by
  have k1 := h1.trans g.hh
  refine ⟨⟨fun a o q => jn_some q, g.hh, fun a o q => ?_, fun a o q => ?_, fun a ps q => ?_⟩, fun a o q => ?_⟩
  · cases z : M1 a with
    | some u => rw [jn_some z] at q; cases q; exact k1 a _ z
    | none => rw [jn_none z] at q; exact g.mh a o q
  · cases z : M1 a with
    | some u => rw [jn_some z] at q; exact .inl q
    | none =>
      rw [jn_none z] at q
      rcases g.nw a o q with y | y
      · rw [e a o y] at z; cases z
      · exact .inr y
  · cases z : M1 a with
    | some u => rw [jn_some z] at q; exact q
    | none =>
      rw [jn_none z] at q
      have y := e a _ (g.nt a ps q)
      rw [z] at y
      cases y
  · cases z : M1 a with
    | some u =>
      have y := k1 a _ z
      rw [g.mh a o q] at y
      cases y
      exact jn_some z
    | none => rw [jn_none z]; exact q
theorem Gv.le [Mono P] (h : Gv te σ M P) (e : Same M M1) : Gv te σ M1 P := fun H mh Q q =>
  h H (e.trans mh) Q fun v M' H' g p => q v _ H' (g.join e mh).1 (Mono.mono (g.join e mh).2 p)
theorem GvT.le (h : GvT tt σ M b) (e : Same M M1) : GvT tt σ M1 b := fun H mh Q q =>
  h H (e.trans mh) Q fun M' H' g => q _ H' (g.join e mh).1
/-- a reading over values -/
def RV (r : Hp → VK → Prop) (M : Hp) (P : Pr) : Prop := ∀ H, Same M H → ∀ Q : VK, (∀ v M' H', Gr M H M' H' → P M' v → Q v H') → r H Q
theorem gv_var {i : Nat} (h : σ[i]? = some (some v)) (p : P M v) : Gv (tVar i) σ M P := fun H mh Q q => ⟨v, h, q v M H (.refl mh) p⟩
theorem gv_c (p : P M v) : Gv (tC v) σ M P := fun H mh Q q => q v M H (.refl mh) p
theorem gv_op {r : R2} {R : Pr} [Mono P] [Mono P1] (ha : Gv ta σ M P) (hb : Gv tb σ M P1) (hr : ∀ M' x y, P M' x → P1 M' y → RV (r x y) M' R) : Gv (tOp r ta tb) σ M R := fun H mh Q q =>
  ha H mh _ fun x M1 H1 g1 p1 => (hb.le g1.mm) H1 g1.mh _ fun y M2 H2 g2 p2 => hr M2 x y (Mono.mono g2.mm p1) p2 H2 g2.mh Q fun v M' H' g p => q v M' H' ((g1.trans g2).trans g) p
theorem gv_is {P' : Pr} (h : Gv te σ M P) (e : ∀ M v, P M v → P' M v) : Gv te σ M P' := fun H mh Q q => h H mh Q fun v M' H' g p => q v M' H' g (e M' v p)
/-- tests -/
theorem gt_test {te : TE} (h : Gv te σ M (fun _ v => v = .bl b)) : GvT (tTest te) σ M b := fun H mh Q q => h H mh _ fun v M' H' g p => ⟨b, p, q M' H' g⟩
theorem gt_B {te : TE} (h : Gv te σ M (fun _ v => v = .bl b)) : GvT (tB te) σ M b := fun H mh Q q => h H mh _ fun v M' H' g p => ⟨b, p, q M' H' g⟩
theorem gt_and (h : GvT tt σ M b) (h2 : b = true → GvT tu σ M c) : GvT (tAnd tt tu) σ M (b && c) := fun H mh Q q => h H mh _ fun M1 H1 g1 => by
  cases b with
  | true => exact (h2 rfl).le g1.mm H1 g1.mh Q fun M' H' g => q M' H' (g1.trans g)
  | false => exact q M1 H1 g1
theorem gt_or (h : GvT tt σ M b) (h2 : b = false → GvT tu σ M c) : GvT (tOr tt tu) σ M (b || c) := fun H mh Q q => h H mh _ fun M1 H1 g1 => by
  cases b with
  | true => exact q M1 H1 g1
  | false => exact (h2 rfl).le g1.mm H1 g1.mh Q fun M' H' g => q M' H' (g1.trans g)
theorem gt_not (h : GvT tt σ M b) : GvT (tNot tt) σ M (!b) := fun H mh Q q => h H mh _ q
theorem gt_is (h : GvT tt σ M b) (e : b = c) : GvT tt σ M c := e ▸ h
abbrev Bl (b : Bool) : Pr := fun _ v => v = .bl b
abbrev It' (i : Int) : Pr := fun _ v => v = .int i
abbrev Tx (x : Str) : Pr := fun _ v => v = .str x
instance {b : Bool} : Mono (Bl b) := ⟨fun _ h => h⟩
instance {i : Int} : Mono (It' i) := ⟨fun _ h => h⟩
instance {x : Str} : Mono (Tx x) := ⟨fun _ h => h⟩
theorem gv_andV {ta tb : TE} (h : Gv ta σ M (Bl b)) (h2 : b = true → Gv tb σ M (Bl c)) : Gv (tAndV ta tb) σ M (Bl (b && c)) := fun H mh Q q => h H mh _ fun v M1 H1 g1 p => ⟨b, p, by
  cases b with
  | true => exact (h2 rfl).le g1.mm H1 g1.mh Q fun v M' H' g p => q v M' H' (g1.trans g) p
  | false => exact q _ M1 H1 g1 rfl⟩
theorem gv_notV {ta : TE} (h : Gv ta σ M (Bl b)) : Gv (tNotV ta) σ M (Bl (!b)) := fun H mh Q q => h H mh _ fun v M1 H1 g1 p => ⟨b, p, q _ M1 H1 g1 rfl⟩
/-- operators -/
theorem rv_pure {r : Hp → VK → Prop} (h : ∀ H, Same M H → ∀ Q : VK, Q v H → r H Q) (p : P M v) : RV r M P := fun H mh Q q => h H mh Q (q v M H (.refl mh) p)
theorem gv_eq {neg : Bool} {d e : PyData} (ha : Gv ta σ M (Dd K d)) (hb : Gv tb σ M (Dd K e)) (hz : d.depth ≤ 60) : Gv (tOp (rEqP K neg) ta tb) σ M (Bl (xor neg (PyData.eqv d e))) :=
  gv_op ha hb fun M' x y px py => rv_pure (fun H mh Q q => ⟨d, e, dp_mono mh px, dp_mono mh py, hz, q⟩) rfl
/-- arguments -/
theorem ga_nil : GvA tNil σ M (fun _ vs => vs = []) := fun H mh Q q => q [] M H (.refl mh) rfl
theorem gl_lst {ta : TA} {R : Hp → List V → Prop} (h : GvA ta σ M R) (hz : ∀ M vs, R M vs → vs.length ≤ sizeLine) : GvL (tLst ta) σ M R := fun H mh Q q =>
  h H mh _ fun vs M1 H1 g1 p1 => ⟨hz M1 vs p1, fun p np => q p vs M1 _ (g1.trans (.own g1.mh np)) (g1.hh.free np) (g1.mh.free np) upd_same p1⟩
/-- our new list, known from now on -/
theorem GvL.gv {R : Hp → List V → Prop} (h : GvL te σ M R) (hp : ∀ M vs p, R M vs → M p = none → P (upd M p (.lst vs)) (.ref p)) : Gv te σ M P := fun H mh Q q =>
  h H mh Q fun p vs M' H' g h0 m0 hv r => q _ _ H' (g.freeze h0 m0 hv) (hp M' vs p r m0)
theorem GvL.le {R : Hp → List V → Prop} (hR : ∀ M M' vs, Same M M' → R M vs → R M' vs) (h : GvL te σ M R) (e : Same M M1) : GvL te σ M1 R := fun H mh Q q =>
  h H (e.trans mh) Q fun p vs M' H' g h0 m0 hv r => q p vs _ H' (g.join e mh).1 h0 (by rw [jn_none (mh.free h0)]; exact m0) hv (hR _ _ _ (g.join e mh).2 r)
end
end L3

set_option Elab.async false
set_option linter.all false
set_option maxRecDepth 100000
set_option maxHeartbeats 1000000
namespace L3
open PySem PySem.Spec PyProof.Rows L2
/-! walking a value: one rule for each kind of value, joined by «or» -/
abbrev RI := V → Hp → (It → Hp → Prop) → Prop
def PIv (X : Cx) (tg : Expr) (r : RI) : Prop :=
  ∀ {pins : List (Addr × Obj)} {s : Shared} {σ : Sl} {H : Hp} {R : It → Hp → Prop} {x : V} {u : Value}, Inv X pins σ H s → RelV x u → r x H R → wpAny (model X.prog X.w) X.A (pyIter u) (PIE X pins σ tg R) X.xe s
section
variable {X : Cx} {tg : Expr} {r r' : RI}
theorem PIv.or (h : PIv X tg r) (h' : PIv X tg r') : PIv X tg fun x H R => r x H R ∨ r' x H R := fun I rx q => q.elim (h I rx) (h' I rx)
theorem PIv.pi {l : Expr} {te : TE} (h : PIv X tg r) (hl : PE X l te) : PI X tg l fun σ H R => te σ H fun x H1 => r x H1 R where
  run pins s σ H R I q := thn (hl.run pins s σ H _ I q) fun u s1 ⟨_, _, I1, rx, q1⟩ => h I1 rx q1
theorem fps_new {pins : List (Addr × Obj)} {s : Shared} {σ : Sl} {H : Hp} {fp : List Addr} (I : Inv X pins σ H s) (h : ∀ b ∈ fp, s.heap.objs.size ≤ b) : ∀ b ∈ fp, FpOk X pins H b :=
  fun b hb => I.fpOk (h b hb) (I.hok.fresh (h b hb))
/-- a value whose iterator is one new object -/
theorem walk_new {pins : List (Addr × Obj)} {s : Shared} {σ : Sl} {H : Hp} {R : It → Hp → Prop} {u : Value} {o : Obj} {G : Heap → Prop} {J : It} {tn : Addr → Nat → Heap → Prop} (B : Begins u o G) (I : Inv X pins σ H s) (g : G s.heap)
    (T : ∀ it, Turn X.prog X.w X.K tg J [it] it (tn it)) (h0 : ∀ it h, h.get? it = some o → tn it 0 h) (q : R J H) : wpAny (model X.prog X.w) X.A (pyIter u) (PIE X pins σ tg R) X.xe s :=
  B.iter _ _ _ _ s _ g ⟨s.heap.objs.size, _, _, J, H, rfl, I.kept (t' := s.toks) (fun _ _ z => Heap.get?_push_of_some _ z), T _, h0 _ _ (Heap.get?_push_size _ B.free), fps_new I (by intro b hb; rw [List.mem_singleton.mp hb]; exact Nat.le_refl _), q⟩
def wLst (K : PySem.W.Frag) : RI := fun x H R => ∃ a xs, x = .ref a ∧ SqL K H a xs ∧ R (Itl K a) H
def wTup (K : PySem.W.Frag) : RI := fun x H R => ∃ a xs, x = .ref a ∧ SqT K H a xs ∧ R (Itt K a) H
theorem pv_lst : PIv X tg (wLst X.K) := fun I rx ⟨a, xs, ea, hs, q⟩ => by
  subst ea; cases rx
  let ⟨its, _, pl, _⟩ := I.list hs
  exact walk_new (begins_list a its.toArray) I pl.isList (turn_list a) (fun it h e => ⟨_, e, rfl, rfl⟩) q
theorem pv_tup : PIv X tg (wTup X.K) := fun I rx ⟨a, xs, ea, hs, q⟩ => by
  subst ea; cases rx
  let ⟨its, _, pl, _⟩ := I.tuple hs
  exact walk_new (begins_tuple a its.toArray) I pl (turn_tuple a) (fun it h e => ⟨_, e, rfl, rfl⟩) q
/-- a list or a tuple walked -/
def iSq (K : PySem.W.Frag) (te : TE) : TI := fun σ H R => te σ H fun x H1 => ∃ a, x = .ref a ∧ ((∃ xs, SqL K H1 a xs ∧ R (Itl K a) H1) ∨ ∃ xs, SqT K H1 a xs ∧ R (Itt K a) H1)
theorem pi_sq {l : Expr} {te : TE} (hl : PE X l te) : PI X tg l (iSq X.K te) :=
  PIv.pi (r := fun x H1 R => ∃ a, x = .ref a ∧ ((∃ xs, SqL X.K H1 a xs ∧ R (Itl X.K a) H1) ∨ ∃ xs, SqT X.K H1 a xs ∧ R (Itt X.K a) H1))
    (fun I rx ⟨a, ea, q⟩ => (pv_lst.or pv_tup) I rx (q.imp (fun ⟨xs, z⟩ => ⟨a, xs, ea, z⟩) fun ⟨xs, z⟩ => ⟨a, xs, ea, z⟩)) hl
end

/-! enumerate over anything whose items stand still -/
structure Still (P : Program) (w : World) (K : PySem.W.Frag) (a : Addr) (o : Obj) (rd : Hp → List V → Prop) (pt : Addr → Nat → Heap → Prop) (fx : List Value → Heap → Prop) : Prop where
  got : ∀ {X : Cx} {pins : List (Addr × Obj)} {σ : Sl} {H : Hp} {s : Shared} {xs : List V}, X.K = K → Inv X pins σ H s → rd H xs → ∃ its, Vals xs its ∧ fx its s.heap
  one : ∀ {X : Cx} {pins : List (Addr × Obj)} {σ : Sl} {H : Hp} {s : Shared} {xs ys : List V}, X.K = K → Inv X pins σ H s → rd H xs → rd H ys → xs = ys
  dr : ∀ {A : Around} {it : Addr} (its : List Value), A.handled = none → a ≠ it → Draws P w A it [it, a] its.toArray.size (fun i v => its.toArray[i]? = some v) (fun i h => pt it i h ∧ fx its h)
  live : ∀ {it : Addr} {i : Nat} {h : Heap}, pt it i h → ∃ ob, h.get? it = some ob ∧ ∀ v, ob.data ≠ .cell v
  mv : ∀ {it : Addr} {i : Nat} {h h' : Heap}, pt it i h → (∀ ob, h.get? it = some ob → h'.get? it = some ob) → pt it i h'
  lt : ∀ {its : List Value} {h : Heap}, fx its h → a < h.objs.size
  bg : ∀ its : List Value, Begins (.ref a) o (fx its)
  st : ∀ {it : Addr} {h : Heap}, h.get? it = some o → pt it 0 h
section
end
end L3

set_option Elab.async false
set_option linter.all false
set_option maxRecDepth 100000
set_option maxHeartbeats 1000000
namespace L3
open PySem PySem.Spec PyProof.Rows L2
/-! typed relations -/
abbrev Rl (α : Type) := α → Pr
class Mon {α : Type} (R : Rl α) : Prop where
  mono : ∀ {x : α} {M M' : Hp} {v : V}, Same M M' → R x M v → R x M' v
instance {α : Type} {R : Rl α} [h : Mon R] {x : α} : Mono (R x) := ⟨fun e p => h.mono e p⟩
instance : Mon Tx := ⟨fun _ h => h⟩
instance : Mon It' := ⟨fun _ h => h⟩
instance : Mon Bl := ⟨fun _ h => h⟩
instance {K : PySem.W.Frag} : Mon (Dd K) := ⟨fun e h => dp_mono e h⟩
abbrev Pd {α : Type} (R : Rl α) (M : Hp) : List α → List V → Prop := Paired fun x v => R x M v
theorem Pd.mono {α : Type} {R : Rl α} [Mon R] {M M' : Hp} (e : Same M M') {xs : List α} {vs : List V} (h : Pd R M xs vs) : Pd R M' xs vs := Paired.mapP h fun _ _ q => Mon.mono e q
theorem pd_get {α β : Type} {F : α → β → Prop} : ∀ {xs : List α} {vs : List β} {i : Nat} {x : α}, Paired F xs vs → xs[i]? = some x → ∃ v, vs[i]? = some v ∧ F x v
  | _, _, _, _, .nil, e => by simp at e
  | _, _, 0, _, .cons h _, e => by
    have e' := Option.some.inj (show some _ = some _ from e)
    subst e'
    exact ⟨_, rfl, h⟩
  | _, _, i + 1, _, .cons _ t, e => pd_get (i := i) t (by simpa using e)
theorem pd_get' {α β : Type} {F : α → β → Prop} : ∀ {xs : List α} {vs : List β} {i : Nat} {v : β}, Paired F xs vs → vs[i]? = some v → ∃ x, xs[i]? = some x ∧ F x v
  | _, _, _, _, .nil, e => by simp at e
  | _, _, 0, _, .cons h _, e => by
    have e' := Option.some.inj (show some _ = some _ from e)
    subst e'
    exact ⟨_, rfl, h⟩
  | _, _, i + 1, _, .cons _ t, e => pd_get' (i := i) t (by simpa using e)
theorem pd_app {α β : Type} {F : α → β → Prop} : ∀ {xs ys : List α} {vs ws : List β}, Paired F xs vs → Paired F ys ws → Paired F (xs ++ ys) (vs ++ ws)
  | _, _, _, _, .nil, s => s
  | _, _, _, _, .cons r t, s => .cons r (pd_app t s)
def TupR (K : PySem.W.Frag) {α : Type} (R : Rl α) : Rl (List α) := fun xs M v => ∃ a vs, v = .ref a ∧ SqT K M a vs ∧ Pd R M xs vs
def LstR (K : PySem.W.Frag) {α : Type} (R : Rl α) : Rl (List α) := fun xs M v => ∃ a vs, v = .ref a ∧ SqL K M a vs ∧ Pd R M xs vs
def SqR (K : PySem.W.Frag) {α : Type} (R : Rl α) : Rl (List α) := fun xs M v => LstR K R xs M v ∨ TupR K R xs M v
section
variable {K : PySem.W.Frag} {α : Type} {R : Rl α}
instance [Mon R] : Mon (TupR K R) := ⟨fun e ⟨a, vs, h1, h2, h3⟩ => ⟨a, vs, h1, st_mono e h2, h3.mono e⟩⟩
instance [Mon R] : Mon (LstR K R) := ⟨fun e ⟨a, vs, h1, h2, h3⟩ => ⟨a, vs, h1, sl_mono e h2, h3.mono e⟩⟩
instance [Mon R] : Mon (SqR K R) := ⟨fun e h => h.imp (Mon.mono e) (Mon.mono e)⟩
theorem TupR.sq {xs : List α} {M : Hp} {v : V} (h : TupR K R xs M v) : SqR K R xs M v := .inr h
theorem LstR.sq {xs : List α} {M : Hp} {v : V} (h : LstR K R xs M v) : SqR K R xs M v := .inl h
/-- as data -/
def PyR (K : PySem.W.Frag) (R : Rl α) (e : α → PyData) : Prop := ∀ x M v, R x M v → Dp K M v (e x)
theorem py_str : PyR K Tx PyData.str := fun x M v h => by cases (show v = .str x from h); exact .str x
theorem py_int : PyR K It' PyData.int := fun x M v h => by cases (show v = .int x from h); exact .int x
theorem py_bl : PyR K Bl PyData.bool := fun x M v h => by cases (show v = .bl x from h); exact .bl x
theorem py_all {e : α → PyData} (h : PyR K R e) {M : Hp} : ∀ {xs : List α} {vs : List V}, Pd R M xs vs → DpAll K M vs (xs.map e)
  | _, _, .nil => .nil
  | _, _, .cons q t => .cons (h _ _ _ q) (py_all h t)
theorem py_lst {e : α → PyData} (h : PyR K R e) : PyR K (LstR K R) fun xs => .list (xs.map e) := fun xs M v ⟨a, vs, h1, h2, h3⟩ => by subst h1; exact .lst h2 (py_all h h3)
/-- e tells things apart as == does -/
def Inj (e : α → PyData) [DecidableEq α] : Prop := ∀ x y, PyData.eqv (e x) (e y) = decide (x = y)
theorem str_beq (x y : Str) : (x == y) = decide (x = y) := by
  by_cases h : x = y
  · subst h; simp
  · rw [decide_eq_false h]; exact beq_eq_false_iff_ne.mpr h
theorem inj_str : Inj PyData.str := fun x y => by simp only [PyData.eqv]; exact str_beq x y
theorem inj_int : Inj PyData.int := fun x y => by
  simp only [PyData.eqv]
  by_cases h : x = y
  · subst h; simp
  · rw [decide_eq_false h]; exact beq_eq_false_iff_ne.mpr h
end
section
variable {K : PySem.W.Frag} {σ : Sl} {M : Hp} {ta tb te ts : TE} {tt : TT} {α β : Type} {R : Rl α} {S : Rl β}
theorem gv_eqT {e : α → PyData} [DecidableEq α] [Mon R] {neg : Bool} {x y : α} (pe : PyR K R e) (ie : Inj e) (ha : Gv ta σ M (R x)) (hb : Gv tb σ M (R y)) (hz : (e x).depth ≤ 60) : Gv (tOp (rEqP K neg) ta tb) σ M (Bl (xor neg (decide (x = y)))) := by
  rw [← ie]
  exact gv_eq (gv_is ha fun M v h => pe _ _ _ h) (gv_is hb fun M v h => pe _ _ _ h) hz
theorem wipe1 {j : Nat} {v : V} : wipe ((wipe σ [j]).set j (some v)) [j] = wipe σ [j] := by
  show ((σ.set j none).set j (some v)).set j none = σ.set j none
  rw [List.set_set, List.set_set]
end
end L3

set_option Elab.async false
set_option linter.all false
set_option maxRecDepth 100000
set_option maxHeartbeats 1000000
namespace L3
open PySem PySem.Spec PyProof.Rows L2
/-! promises of pure defs -/
section
variable {α β γ : Type}
def sp2 (R1 : Rl α) (R2 : Rl β) (pre : α → β → Prop) (R : α → β → Pr) : Sp := fun vs H Q _ => ∃ x y M v w, vs = [v, w] ∧ Same M H ∧ R1 x M v ∧ R2 y M w ∧ pre x y ∧ ∀ u M' H', Gr M H M' H' → R x y M' u → Q u H'
/-- a new list comes back -/
def sl1 (R1 : Rl α) (pre : α → Prop) (R : α → Hp → List V → Prop) : Sp := fun vs H Q _ => ∃ x M v, vs = [v] ∧ Same M H ∧ R1 x M v ∧ pre x ∧
  ∀ p ws M' H', Gr M H M' H' → H p = none → M' p = none → H' p = some (.lst ws) → R x M' ws → Q (.ref p) H'
variable {K : PySem.W.Frag} {σ : Sl} {M : Hp} {t1 t2 t3 ta te ts : TE} {R1 : Rl α} {R2 : Rl β} {R3 : Rl γ} {E : XK}
theorem gv_call2 [Mon R1] [Mon R2] {pre : α → β → Prop} {R : α → β → Pr} {x : α} {y : β} (h1 : Gv t1 σ M (R1 x)) (h2 : Gv t2 σ M (R2 y)) (hp : pre x y) : Gv (tCall (sp2 R1 R2 pre R) [] E (tCons t1 (tCons t2 tNil))) σ M (R x y) := fun H mh Q q =>
  h1 H mh _ fun v M1 H1 g1 p1 => h2.le g1.mm H1 g1.mh _ fun w M2 H2 g2 p2 => ⟨x, y, M2, v, w, rfl, g2.mh, Mon.mono g2.mm p1, p2, hp, fun u M' H' g r => q u M' H' ((g1.trans g2).trans g) r⟩
theorem gl_call1 {pre : α → Prop} {R : α → Hp → List V → Prop} {x : α} (h1 : Gv t1 σ M (R1 x)) (hp : pre x) : GvL (tCall (sl1 R1 pre R) [] E (tCons t1 tNil)) σ M (R x) := fun H mh Q q =>
  h1 H mh _ fun v M1 H1 g1 p1 => ⟨x, M1, v, rfl, g1.mh, p1, hp, fun p ws M' H' g h0 m0 hw r => q p ws M' H' (g1.trans g) (g1.hh.free h0) m0 hw r⟩
/-! built-ins -/
theorem gv_cb1 {r : List V → Hp → VK → Prop} {P P' : Pr} [Mono P] (h : Gv te σ M P) (hr : ∀ M' v, P M' v → RV (r [v]) M' P') : Gv (tCB r (tCons te tNil)) σ M P' := fun H mh Q q =>
  h H mh _ fun v M1 H1 g1 p1 => hr M1 v p1 H1 g1.mh Q fun u M' H' g r => q u M' H' (g1.trans g) r
theorem pd_bl {bs : List Bool} {M : Hp} : ∀ {vs : List V}, Pd Bl M bs vs → vs = bs.map V.bl := by
  induction bs with
  | nil => intro vs h; cases h; rfl
  | cons b bs ih => intro vs h; cases h with | cons q t => rw [ih t, (show _ = V.bl b from q)]; rfl
theorem pd_tx {xs : List Str} {M : Hp} : ∀ {vs : List V}, Pd Tx M xs vs → vs = xs.map V.str := by
  induction xs with
  | nil => intro vs h; cases h; rfl
  | cons b bs ih => intro vs h; cases h with | cons q t => rw [ih t, (show _ = V.str b from q)]; rfl
theorem pd_of_tx {M : Hp} : ∀ (xs : List Str), Pd Tx M xs (xs.map V.str)
  | [] => .nil
  | _ :: r => .cons rfl (pd_of_tx r)
theorem gv_all {bs : List Bool} (h : GvL te σ M fun M vs => Pd Bl M bs vs) : Gv (tCB (rAll K) (tCons te tNil)) σ M (Bl (bs.all id)) := fun H mh Q q =>
  h H mh _ fun p vs M' H' g h0 m0 hw r => ⟨p, bs, rfl, by rw [pd_bl r] at hw; exact .inl (.inl hw), q _ M' H' g rfl⟩
theorem gv_any {bs : List Bool} (h : GvL te σ M fun M vs => Pd Bl M bs vs) : Gv (tCB (rAny K) (tCons te tNil)) σ M (Bl (bs.any id)) := fun H mh Q q =>
  h H mh _ fun p vs M' H' g h0 m0 hw r => ⟨p, bs, rfl, by rw [pd_bl r] at hw; exact .inl (.inl hw), q _ M' H' g rfl⟩
def rLstOf (K : PySem.W.Frag) : List V → Hp → VK → Prop := fun xs H Q => ∃ p ys, xs = [.ref p] ∧ (SqL K H p ys ∨ SqT K H p ys) ∧ ∀ l, H l = none → Q (.ref l) (upd H l (.lst ys))
def rLenOf (K : PySem.W.Frag) : List V → Hp → VK → Prop := fun xs H Q => ∃ p ys, xs = [.ref p] ∧ (SqL K H p ys ∨ SqT K H p ys) ∧ Q (.int ys.length) H
theorem gl_lstOf [Mon R1] {xs : List α} (h : Gv te σ M (SqR K R1 xs)) : GvL (tCB (rLstOf K) (tCons te tNil)) σ M fun M vs => Pd R1 M xs vs := fun H mh Q q =>
  h H mh _ fun v M1 H1 g1 hv => by
    rcases hv with ⟨a, vs, rfl, hs, hp⟩ | ⟨a, vs, rfl, hs, hp⟩
    · exact ⟨a, vs, rfl, .inl (sl_mono g1.mh hs), fun l nl => q l vs M1 _ (g1.trans (.own g1.mh nl)) (g1.hh.free nl) (g1.mh.free nl) upd_same hp⟩
    · exact ⟨a, vs, rfl, .inr (st_mono g1.mh hs), fun l nl => q l vs M1 _ (g1.trans (.own g1.mh nl)) (g1.hh.free nl) (g1.mh.free nl) upd_same hp⟩
/-! texts cut -/
/-! loops -/
end
end L3

set_option Elab.async false
set_option linter.all false
set_option maxRecDepth 100000
set_option maxHeartbeats 1000000
namespace L3
open PySem PySem.Spec PyProof.Rows L2
/-! one rule for each operator, whatever the kinds -/
def rAddI : R2 := rI0 fun i j => .int (i + j)
def rAddS : R2 := fun x y H Q => ∃ i j, x = .str i ∧ y = .str j ∧ i.length + j.length ≤ sizeLine ∧ Q (.str (i ++ j)) H
def rAddA (K : PySem.W.Frag) : R2 := fun x y H Q => rAddI x y H Q ∨ rAddS x y H Q ∨ rCatA K x y H Q ∨ rCat x y H Q
def rLenS : List V → Hp → VK → Prop := fun xs H Q => ∃ z, xs = [.str z] ∧ z.length ≤ sizeLine ∧ Q (.int z.length) H
def rLenD : List V → Hp → VK → Prop := fun xs H Q => ∃ a kvs, xs = [V.ref a] ∧ H a = some (.dK kvs) ∧ Q (.int kvs.length) H
def rLenA (K : PySem.W.Frag) : List V → Hp → VK → Prop := fun xs H Q => rLenOf K xs H Q ∨ rLenS xs H Q ∨ rLenD xs H Q
def rIxX (K : PySem.W.Frag) : R2 := fun x y H Q => rIxL K x y H Q ∨ rIxT K x y H Q ∨ rIxS x y H Q
section
variable {X : Cx}
theorem CallR.or {f : Value} {r r' : List V → Hp → VK → Prop} (h : CallR X f r) (h' : CallR X f r') : CallR X f (fun xs H Q => r xs H Q ∨ r' xs H Q) := fun pins s σ H xs us Q I rx q => q.elim (h pins s σ H xs us Q I rx) (h' pins s σ H xs us Q I rx)
theorem op_addA : OpR X (binaryOp .Add) (rAddA X.K) := OpR.or op_add (OpR.or op_add_str (OpR.or op_catA op_cat))
theorem call_lenA : CallR X (.builtin "len") (rLenA X.K) := CallR.or call_len_seq (CallR.or call_len_str call_lenD)
theorem ix_X : IxR X (rIxX X.K) := IxR.or ix_list (IxR.or ix_tup ix_str)
theorem call_lstA : CallR X (.type "list") (rLstOf X.K) := call_list_of
end
/-! dicts whose keys are texts, each with True -/
def kvT (ks : List Str) : List (Key × V) := ks.map fun k => (Sum.inr k, V.bl true)
def DcR : Rl (List Str) := fun ks M v => ∃ a, v = .ref a ∧ Rd M a (.dK (kvT ks))
instance : Mon DcR := ⟨fun e ⟨a, h, r⟩ => ⟨a, h, rd_mono e r⟩⟩
/-- anything with texts that «in» asks -/
def CtR (K : PySem.W.Frag) : Rl (List Str) := fun xs M v => SqR K Tx xs M v ∨ DcR xs M v
instance {K : PySem.W.Frag} : Mon (CtR K) := ⟨fun e h => h.imp (Mon.mono e) (Mon.mono e)⟩
section
variable {K : PySem.W.Frag} {σ : Sl} {M : Hp} {ta tb te ts : TE} {tt : TT} {α β : Type} {R : Rl α} {S : Rl β}
theorem gv_addIn {x y : Int} (ha : Gv ta σ M (It' x)) (hb : Gv tb σ M (It' y)) : Gv (tOp (rAddA K) ta tb) σ M (It' (x + y)) :=
  gv_op ha hb fun M' u w px py => rv_pure (fun H mh Q q => .inl ⟨x, y, px, py, q⟩) rfl
theorem gv_lenA [Mon R] {xs : List α} (h : Gv te σ M (SqR K R xs)) : Gv (tCB (rLenA K) (tCons te tNil)) σ M (It' xs.length) := gv_cb1 h fun M' v hv H mh Q q => by
  rcases hv with ⟨a, vs, rfl, hs, hp⟩ | ⟨a, vs, rfl, hs, hp⟩
  · exact .inl ⟨a, vs, rfl, .inl (sl_mono mh hs), q _ M' H (.refl mh) (by rw [hp.length])⟩
  · exact .inl ⟨a, vs, rfl, .inr (st_mono mh hs), q _ M' H (.refl mh) (by rw [hp.length])⟩
theorem gv_lenS {x : Str} (h : Gv te σ M (Tx x)) (hz : x.length ≤ sizeLine) : Gv (tCB (rLenA K) (tCons te tNil)) σ M (It' x.length) := gv_cb1 h fun M' v hv H mh Q q => .inr (.inl ⟨x, by rw [hv], hz, q _ M' H (.refl mh) rfl⟩)
/-- an item -/
theorem gv_ix [Mon R] {xs : List α} {i : Int} {x : α} (ha : Gv ta σ M (SqR K R xs)) (hb : Gv tb σ M (It' i)) (hx : atI xs i = some x) : Gv (tOp (rIxX K) ta tb) σ M (R x) := by
  refine gv_op ha hb fun M' u w pu pw => ?_
  cases (show w = .int i from pw)
  unfold atI at hx
  obtain ⟨j, hj, hx⟩ := Option.bind_eq_some_iff.mp hx
  rcases pu with ⟨a, vs, rfl, hs, hp⟩ | ⟨a, vs, rfl, hs, hp⟩
  all_goals
    obtain ⟨v, hv, rv⟩ := pd_get hp hx
    have ha : atI vs i = some v := by unfold atI; rw [← hp.length, hj]; exact hv
  · exact rv_pure (v := v) (fun H mh Q q => .inl ⟨a, vs, i, v, rfl, rfl, sl_mono mh hs, ha, q⟩) rv
  · exact rv_pure (v := v) (fun H mh Q q => .inr (.inl ⟨a, vs, i, v, rfl, rfl, st_mono mh hs, ha, q⟩)) rv
theorem gv_ixS {x : Str} {i : Int} {c : Nat} (ha : Gv ta σ M (Tx x)) (hb : Gv tb σ M (It' i)) (hz : x.length ≤ sizeLine) (hx : atI x.cps.toList i = some c) : Gv (tOp (rIxX K) ta tb) σ M (Tx ⟨#[c]⟩) :=
  gv_op ha hb fun M' u w pu pw => rv_pure (fun H mh Q q => .inr (.inr ⟨x, i, c, pu, pw, hz, hx, q⟩)) rfl
end
end L3

set_option Elab.async false
set_option linter.all false
set_option maxRecDepth 100000
set_option maxHeartbeats 1000000
namespace L3
open PySem PySem.Spec PyProof.Rows L2
/-! calls of defs by name -/
def Cal (P : Program) (w : World) (K : PySem.W.Frag) (mg : Str → Option Value) (base : Heap) (k : Nat) (x : Str) (ps : List Str) (sp : Sp) : Prop :=
  ∃ f fd, FnOk P w K mg base CX0 k f fd ps sp ∧ mg x = some (.ref f) ∧ PySem.W.keepIn K (.ref f) = true ∧ Binds K fd ps []
theorem pe_f {X : Cx} {k : Nat} {x : Str} {ps : List Str} {sp : Sp} {e : Expr} {es : List Expr} {t : TA} {p pos : Pos} (c : Cal X.prog X.w X.K X.mg X.base k x ps sp) (hr : Room k X.A) (ha : PA X (e :: es) t) (hg : Gl X x := by rfl)
    (hdb : (x == ("__debug__" : Str)) = false := by decide) (he : starEach (e :: es) X.env = (false, eval e X.env) :: starEach es X.env := by rfl) (hpl : (backTo pos (starEach es X.env)).any (·.1) = false := by rfl) :
    PE X (.Call (.Name x p) (e :: es) [] pos) (tCall sp [] E0 t) :=
  let ⟨_, _, G, m, kp, b⟩ := c
  pe_call G hr hg m kp b .nil pass0 ha hdb he hpl
/-! small statements -/
section
variable {K : PySem.W.Frag} {σ : Sl} {M H : Hp} {te : TE} {P : Pr} {D : Ends} {tu tw tz : TS} {tt : TT} {b : Bool}
theorem s_ret (mh : Same M H) (h : Gv te σ M P) (k : ∀ v M' H', Gr M H M' H' → P M' v → D.rt v H') : tRet te D σ H := h H mh _ k
theorem q_asg {i : Nat} (mh : Same M H) (h : Gv te σ M P) (k : ∀ v M' H', Gr M H M' H' → P M' v → tz D (σ.set i (some v)) H') : tSeq (tAsg te (gName i)) tz D σ H := h H mh _ k
theorem q_asgL {i : Nat} {P : Hp → List V → Prop} (mh : Same M H) (h : GvL te σ M P) (k : ∀ p vs M' H', Gr M H M' H' → H p = none → M' p = none → H' p = some (.lst vs) → P M' vs → tz D (σ.set i (some (.ref p))) H') : tSeq (tAsg te (gName i)) tz D σ H := h H mh _ k
theorem q_if (mh : Same M H) (h : GvT tt σ M b) (h1 : b = true → ∀ H', Same H H' → tu { D with nx := tz D } σ H') (h2 : b = false → ∀ H', Same H H' → tw { D with nx := tz D } σ H') : tSeq (tIfS tt tu tw) tz D σ H := h H mh _ fun M' H' g => by
  cases b with
  | true => exact h1 rfl H' g.hh
  | false => exact h2 rfl H' g.hh
theorem s_if (mh : Same M H) (h : GvT tt σ M b) (h1 : b = true → ∀ H', Same H H' → tu D σ H') (h2 : b = false → ∀ H', Same H H' → tw D σ H') : tIfS tt tu tw D σ H := h H mh _ fun M' H' g => by
  cases b with
  | true => exact h1 rfl H' g.hh
  | false => exact h2 rfl H' g.hh
theorem Gr.idle {M H H' : Hp} (mh : Same M H) (hh : Same H H') : Gr M H M H' := ⟨Same.refl M, hh, mh.trans hh, fun _ _ e => .inl e, fun _ _ e => e⟩
/-- an empty list, ours -/
theorem gl_nil : GvL (tLst tNil) σ M fun _ vs => vs = [] := gl_lst ga_nil fun _ vs h => by rw [h]; exact Nat.zero_le _
/-- xs.extend(e), e a new list -/
theorem s_ext {i : Nat} {p : Addr} {vs : List V} {P : Hp → List V → Prop} (mh : Same M H) (hi : σ[i]? = some (some (.ref p))) (hp : H p = some (.lst vs)) (h : GvL te σ M P) (hz : ∀ M' ws, P M' ws → vs.length + ws.length ≤ sizeLine)
    (k : ∀ ws M' H', Gr M H M' H' → P M' ws → D.nx σ (upd H' p (.lst (vs ++ ws)))) : tDrop (tBM K "list" rExtend (tVar i) (tCons te tNil)) D σ H :=
  ⟨.ref p, hi, .inl ⟨rfl, _, .inl (.inl hp)⟩, h H mh _ fun b ws M' H' g h0 m0 hb r => ⟨p, b, vs, ws, rfl, rfl, g.hh _ _ hp, hb, hz M' ws r, k ws M' H' g r⟩⟩
end
/-- what we own: new since H0, not known to M -/
structure Own (H0 M H : Hp) (p : Addr) (vs : List V) : Prop where
  h0 : H0 p = none
  m : M p = none
  h : H p = some (.lst vs)
theorem Own.up {H0 M H : Hp} {p : Addr} {vs : List V} (o : Own H0 M H p vs) : Same M (upd M p (.lst vs)) := same_new o.m
theorem Own.idle {H0 M H H' : Hp} {p : Addr} {vs : List V} (o : Own H0 M H p vs) (hh : Same H H') : Own H0 M H' p vs := ⟨o.h0, o.m, hh _ _ o.h⟩
theorem Own.put {H0 M H : Hp} {p : Addr} {vs ws : List V} (o : Own H0 M H p vs) : Own H0 M (upd H p (.lst ws)) p ws := ⟨o.h0, o.m, upd_same⟩
theorem Own.lst {K : PySem.W.Frag} {α : Type} {R : Rl α} {H0 M H : Hp} {p : Addr} {vs : List V} {xs : List α} [Mon R] (o : Own H0 M H p vs) (h : Pd R M xs vs) : LstR K R xs (upd M p (.lst vs)) (.ref p) := ⟨p, vs, rfl, .inl (.inl upd_same), h.mono o.up⟩
theorem Own.step {H0 M H M' H' : Hp} {p : Addr} {vs : List V} (o : Own H0 M H p vs) (g : Gr M H M' H') : Own H0 M' H' p vs := ⟨o.h0, g.keep o.m o.h, g.hh _ _ o.h⟩
section
end
end L3

set_option Elab.async false
set_option linter.all false
set_option maxRecDepth 100000
set_option maxHeartbeats 1000000
namespace L3
open PySem PySem.Spec PyProof.Rows L2
/-! isinstance of data -/
section
variable {K : PySem.W.Frag} {σ : Sl} {M : Hp} {ta tb te ts : TE} {α : Type} {R : Rl α}
/-- None or a number -/
def OpN : Rl (Option Nat) := fun o _ v => v = match o with | none => .non | some i => .int (i : Nat)
instance : Mon OpN := ⟨fun _ h => h⟩
/-- None or something -/
def OpR' (R : Rl α) : Rl (Option α) := fun o M v => match o with | none => v = .non | some x => R x M v
instance [Mon R] : Mon (OpR' R) := ⟨fun {o M M' v} e h => by
  cases o with
  | none => exact h
  | some x => exact Mon.mono (R := R) e h⟩
end
end L3

set_option Elab.async false
set_option linter.all false
set_option maxRecDepth 100000
set_option maxHeartbeats 1000000
namespace L3
open PySem PySem.Spec PyProof.Rows L2
/-! anything walked: the items xs, each told by R -/
def GW {α : Type} (M1 : Hp) (J : It) (xs : List α) (R : Rl α) : Prop := ∃ (G : Hp → Prop) (Y : Nat → Hp → V → Hp → Prop), Walk J xs.length G Y ∧ (∀ M2 H2, Same M1 M2 → Same M2 H2 → G H2) ∧
  ∀ i M2 H2 v H3, Same M1 M2 → Same M2 H2 → i < xs.length → Y i H2 v H3 → ∃ x M3, xs[i]? = some x ∧ Gr M2 H2 M3 H3 ∧ R x M3 v
def GvI {α : Type} (wi : TI) (σ : Sl) (M : Hp) (xs : List α) (R : Rl α) : Prop := ∀ H, Same M H → ∀ Q : It → Hp → Prop, (∀ J M1 H1, Gr M H M1 H1 → GW M1 J xs R → Q J H1) → wi σ H Q
/-- a target: how the slots change -/
def TgOk {α : Type} (g : TG) (R : Rl α) (U : α → Hp → Sl → Sl → Prop) : Prop := ∀ x M v H σ (Q : L2.St → Hp → Prop), R x M v → Same M H → (∀ σ', U x M σ σ' → Q σ' H) → g v σ H Q
abbrev U1 {α : Type} (R : Rl α) (j : Nat) : α → Hp → Sl → Sl → Prop := fun x M σ σ' => ∃ v, R x M v ∧ σ' = σ.set j (some v)
/-- a pair in a tuple -/
def PrR (K : PySem.W.Frag) {α β : Type} (R : Rl α) (S : Rl β) : Rl (α × β) := fun x M v => ∃ a u w, v = .ref a ∧ SqT K M a [u, w] ∧ R x.1 M u ∧ S x.2 M w
instance {K : PySem.W.Frag} {α β : Type} {R : Rl α} {S : Rl β} [Mon R] [Mon S] : Mon (PrR K R S) := ⟨fun e ⟨a, u, w, h1, h2, h3, h4⟩ => ⟨a, u, w, h1, st_mono e h2, Mon.mono e h3, Mon.mono e h4⟩⟩
abbrev U2 {α β : Type} (R : Rl α) (S : Rl β) (j k : Nat) : α × β → Hp → Sl → Sl → Prop := fun x M σ σ' => ∃ v w, R x.1 M v ∧ S x.2 M w ∧ σ' = (σ.set j (some v)).set k (some w)
section
variable {K : PySem.W.Frag} {σ : Sl} {M : Hp} {ta tb te ts : TE} {tt : TT} {α β : Type} {R : Rl α} {S : Rl β} {wi : TI} {g : TG}
theorem tg_1 {j : Nat} : TgOk (gName j) R (U1 R j) := fun x M v H σ Q r mh q => q _ ⟨v, r, rfl⟩
theorem tg_2 {j k : Nat} : TgOk (gTup K 2 (gCons (gName j) (gCons (gName k) gNil))) (PrR K R S) (U2 R S j k) := by
  rintro x M v H σ Q ⟨a, u, w, rfl, h2, h3, h4⟩ mh q
  exact ⟨a, _, rfl, st_mono mh h2, rfl, u, _, rfl, w, _, rfl, rfl, q _ ⟨u, w, h3, h4, rfl⟩⟩
theorem gi_sq [Mon R] {xs : List α} (h : Gv ts σ M (SqR K R xs)) : GvI (iSq K ts) σ M xs R := fun H mh Q q => h H mh _ fun v M1 H1 g1 hv => by
  rcases hv with ⟨a, vs, rfl, hs, hp⟩ | ⟨a, vs, rfl, hs, hp⟩
  · refine ⟨a, rfl, .inl ⟨vs, sl_mono g1.mh hs, q _ M1 H1 g1 ⟨_, _, (by rw [hp.length]; exact walk_list (xs := vs)), fun M2 H2 s1 s2 => sl_mono (s1.trans s2) hs, ?_⟩⟩⟩
    rintro i M2 H2 v H3 s1 s2 hi ⟨rfl, hy⟩
    obtain ⟨x, hx, rx⟩ := pd_get' hp hy
    exact ⟨x, M2, hx, .refl s2, Mon.mono s1 rx⟩
  · refine ⟨a, rfl, .inr ⟨vs, st_mono g1.mh hs, q _ M1 H1 g1 ⟨_, _, (by rw [hp.length]; exact walk_tup (xs := vs)), fun M2 H2 s1 s2 => st_mono (s1.trans s2) hs, ?_⟩⟩⟩
    rintro i M2 H2 v H3 s1 s2 hi ⟨rfl, hy⟩
    obtain ⟨x, hx, rx⟩ := pd_get' hp hy
    exact ⟨x, M2, hx, .refl s2, Mon.mono s1 rx⟩
theorem gi_rng1 {n : Nat} (h : Gv te σ M (It' (n : Int))) (hn : n ≤ 1000000000) : GvI (iRng1 (tCons te tNil)) σ M (List.range n) (fun i => It' (i : Nat)) := fun H mh Q q => h H mh _ fun v M1 H1 g1 hv => by
  cases (show v = _ from hv)
  refine ⟨(n : Int), rfl, by omega, by omega, q _ M1 H1 g1 ⟨_, _, (by rw [List.length_range, Int.toNat_natCast]; exact walk_range), fun _ _ _ _ => trivial, ?_⟩⟩
  rintro i M2 H2 v H3 s1 s2 hi ⟨rfl, rfl⟩
  rw [List.length_range] at hi
  exact ⟨i, M2, by simp [hi], .refl s2, by show V.int _ = V.int _; rw [Int.zero_add]⟩
/-- the keys of a dict that is locked -/
def DcF : Rl (List Str) := fun ks M v => ∃ a o, v = .ref a ∧ M a = some (.frz o (.dK (kvT ks)))
instance : Mon DcF := ⟨fun e ⟨a, o, h, r⟩ => ⟨a, o, h, e _ _ r⟩⟩
theorem gl_comp [Mon S] {U : α → Hp → Sl → Sl → Prop} {vs : List Nat} {xs : List α} (hsrc : GvI wi σ M xs R) (htg : TgOk g R U) (hw : ∀ x M' σ', U x M' (wipe σ vs) σ' → wipe σ' vs = wipe σ vs) (hz : xs.length ≤ sizeLine) (t : α → Bool) (f : α → β)
    (ht : ∀ x ∈ xs, ∀ M1 σ', Same M M1 → U x M1 (wipe σ vs) σ' → GvT tt σ' M1 (t x))
    (he : ∀ x ∈ xs, t x = true → ∀ M1 σ', Same M M1 → U x M1 (wipe σ vs) σ' → Gv te σ' M1 (S (f x))) :
    GvL (tLc wi g tt te vs) σ M fun M ws => Pd S M ((xs.filter t).map f) ws := by
  intro H mh Q q
  refine hsrc H mh _ fun J M1 H1 g1 ⟨G, Y, w, hG, hY⟩ D hD => ?_
  refine lc_it w (fun i H' => ∃ M' ws, Gr M1 H1 M' H' ∧ M' D = none ∧ H' D = some (.lst ws) ∧ ws.length ≤ i ∧ Pd S M' (((xs.take i).filter t).map f) ws) ⟨M1, [], .own g1.mh hD, g1.mh.free hD, upd_same, Nat.le_refl _, .nil⟩ (fun i H' _ ⟨M', ws, g, _⟩ => hG M' H' g.mm g.mh) ?_ ?_
  · rintro i y H' H'' hi ⟨M', ws, g, m0, hw', hl, hpd⟩ hy
    obtain ⟨x, M0, hx, g0, rx⟩ := hY i M' H' y H'' g.mm g.mh hi hy
    have hxm : x ∈ xs := List.mem_of_getElem? hx
    have et : xs.take (i + 1) = xs.take i ++ [x] := by rw [List.take_add_one, hx]; rfl
    have gg := g.trans g0
    have sm := g1.mm.trans gg.mm
    have k0 : H'' D = some (.lst ws) := g0.hh _ _ hw'
    have m0' : M0 D = none := g0.keep m0 hw'
    refine htg x M0 y H'' _ _ rx gg.mh fun σ2 hU => ⟨hw x M0 σ2 hU, ht x hxm M0 σ2 sm hU H'' gg.mh _ fun M2 H2 g2 => ?_⟩
    cases ex : t x with
    | true =>
      refine (he x hxm ex M0 σ2 sm hU).le g2.mm H2 g2.mh _ fun z M3 H3 g3 hz3 => ?_
      have m3 : M3 D = none := (g2.trans g3).keep m0' k0
      refine ⟨ws, g3.hh _ _ (g2.hh _ _ k0), Nat.lt_of_lt_of_le (Nat.lt_of_le_of_lt hl hi) hz, M3, ws ++ [z], ((gg.trans g2).trans g3).mut hD m3, m3, upd_same, by rw [List.length_append]; exact Nat.succ_le_succ hl, ?_⟩
      rw [et, List.filter_append, List.map_append, List.filter_cons, ex]
      exact pd_app (hpd.mono ((g0.mm.trans g2.mm).trans g3.mm)) (.cons hz3 .nil)
    | false =>
      refine ⟨M2, ws, gg.trans g2, g2.keep m0' k0, g2.hh _ _ k0, Nat.le_succ_of_le hl, ?_⟩
      rw [et, List.filter_append, List.map_append, List.filter_cons, ex]
      show Pd S M2 (_ ++ []) ws
      rw [List.append_nil]
      exact hpd.mono (g0.mm.trans g2.mm)
  · rintro H' ⟨M', ws, g, m0, hw', hl, hpd⟩
    rw [List.take_length] at hpd
    exact q D ws M' H' (g1.trans g) (g1.hh.free hD) m0 hw' hpd
/-- the plain form: a name for the target -/
theorem gl_c1 [Mon S] {j : Nat} {xs : List α} (hsrc : GvI wi σ M xs R) (hz : xs.length ≤ sizeLine) (t : α → Bool) (f : α → β)
    (ht : ∀ x ∈ xs, ∀ M1 v, Same M M1 → R x M1 v → GvT tt ((wipe σ [j]).set j (some v)) M1 (t x))
    (he : ∀ x ∈ xs, t x = true → ∀ M1 v, Same M M1 → R x M1 v → Gv te ((wipe σ [j]).set j (some v)) M1 (S (f x))) : GvL (tLc wi (gName j) tt te [j]) σ M fun M ws => Pd S M ((xs.filter t).map f) ws :=
  gl_comp hsrc tg_1 (fun x M' σ' ⟨v, _, e⟩ => by subst e; exact wipe1) hz t f (fun x hx M1 σ' sm ⟨v, r, e⟩ => by subst e; exact ht x hx M1 v sm r) (fun x hx e M1 σ' sm ⟨v, r, e'⟩ => by subst e'; exact he x hx e M1 v sm r)
theorem gt_yes : GvT tYes σ M true := fun H mh Q q => q M H (.refl mh)
/-- without a test -/
theorem gl_m1 [Mon S] {j : Nat} {xs : List α} (hsrc : GvI wi σ M xs R) (hz : xs.length ≤ sizeLine) (f : α → β)
    (he : ∀ x ∈ xs, ∀ M1 v, Same M M1 → R x M1 v → Gv te ((wipe σ [j]).set j (some v)) M1 (S (f x))) : GvL (tLc wi (gName j) tYes te [j]) σ M fun M ws => Pd S M (xs.map f) ws := by
  have h := gl_c1 (tt := tYes) (te := te) (S := S) (j := j) hsrc hz (fun _ => true) f (fun _ _ _ _ _ _ => gt_yes) (fun x hx _ M1 v sm r => he x hx M1 v sm r)
  rw [List.filter_eq_self.mpr fun _ _ => rfl] at h
  exact h
end
end L3

set_option Elab.async false
set_option linter.all false
set_option maxRecDepth 100000
set_option maxHeartbeats 2000000
namespace L3
open PySem PySem.Spec PyProof.Rows L2
/-! tuple(x) where x is collected -/
/-! the frame of a comprehension -/
section
variable {X : Cx} {pins : List (Addr × Obj)} {σ τ : Sl} {H0 H : Hp} {s0 s : Shared} {scope : Scope} {ce : Env} {fp : List Addr} {tn : Nat → Heap → Prop} {i : Nat}
/-- the frame between two turns: the walk stands ahead of item i -/
structure Ahead (Y : Cx) (fp : List Addr) (tn : Nat → Heap → Prop) (τ : Sl) (i : Nat) (H : Hp) (s : Shared) : Prop where
  inv : Inv Y [] τ H s
  at_ : tn i s.heap
  off : ∀ b ∈ fp, H b = none
end
/-! a dict comprehension whose keys are tuples -/
section
end
end L3

set_option Elab.async false
set_option linter.all false
set_option maxRecDepth 100000
set_option maxHeartbeats 1000000
namespace L3
open PySem PySem.Spec PyProof.Rows L2
/-- a tuple of texts that stands in the heap itself; a tuple of anything -/
def TT : Rl (List Str) := fun xs M v => ∃ a, v = .ref a ∧ M a = some (.tup (xs.map V.str))
instance : Mon TT := ⟨fun e ⟨a, h, r⟩ => ⟨a, h, e _ _ r⟩⟩
theorem TT.tup {K : PySem.W.Frag} {xs : List Str} {M : Hp} {v : V} (h : TT xs M v) : TupR K Tx xs M v := let ⟨a, e, r⟩ := h; ⟨a, _, e, .inl (.inl r), pd_of_tx xs⟩
theorem TT.sq {K : PySem.W.Frag} {xs : List Str} {M : Hp} {v : V} (h : TT xs M v) : SqR K Tx xs M v := .inr h.tup
theorem TT.new {M : Hp} {p : Addr} (xs : List Str) : TT xs (upd M p (.tup (xs.map V.str))) (.ref p) := ⟨p, rfl, upd_same⟩
def TuR {α : Type} (R : Rl α) : Rl (List α) := fun xs M v => ∃ a vs, v = .ref a ∧ M a = some (.tup vs) ∧ Pd R M xs vs
def LiR {α : Type} (R : Rl α) : Rl (List α) := fun xs M v => ∃ a vs, v = .ref a ∧ M a = some (.lst vs) ∧ Pd R M xs vs
section
variable {K : PySem.W.Frag} {α : Type} {R : Rl α}
instance [Mon R] : Mon (TuR R) := ⟨fun e ⟨a, vs, h1, h2, h3⟩ => ⟨a, vs, h1, e _ _ h2, h3.mono e⟩⟩
instance [Mon R] : Mon (LiR R) := ⟨fun e ⟨a, vs, h1, h2, h3⟩ => ⟨a, vs, h1, e _ _ h2, h3.mono e⟩⟩
theorem TuR.tup {xs : List α} {M : Hp} {v : V} (h : TuR R xs M v) : TupR K R xs M v := let ⟨a, vs, e, r, p⟩ := h; ⟨a, vs, e, .inl (.inl r), p⟩
theorem TuR.sq {xs : List α} {M : Hp} {v : V} (h : TuR R xs M v) : SqR K R xs M v := .inr h.tup
theorem LiR.lst {xs : List α} {M : Hp} {v : V} (h : LiR R xs M v) : LstR K R xs M v := let ⟨a, vs, e, r, p⟩ := h; ⟨a, vs, e, .inl (.inl r), p⟩
theorem LiR.sq {xs : List α} {M : Hp} {v : V} (h : LiR R xs M v) : SqR K R xs M v := .inl h.lst
end
/-! tuple({x: True for x in xs}): each once -/
def onceP {α : Type} [DecidableEq α] (acc : List α) (x : α) : List α := if x ∈ acc then acc else acc ++ [x]
def once {α : Type} [DecidableEq α] (xs : List α) : List α := xs.foldl onceP []
def ent (acc : List (List Str)) : List (List Key × V) := acc.map fun c => (c.map Sum.inr, V.bl true)
section
end
end L3

set_option Elab.async false
set_option linter.all false
set_option maxRecDepth 100000
set_option maxHeartbeats 1000000
namespace L3
open PySem PySem.Spec PyProof.Rows L2
/-! something of ours is lent to the known part while an expression runs -/
def del (M : Hp) (x : Addr) : Hp := fun a => if a = x then none else M a
theorem del_ne {M : Hp} {x a : Addr} (h : a ≠ x) : del M x a = M a := if_neg h
class Stb (P : Pr) : Prop where
  del : ∀ {M : Hp} {v : V} {x : Addr} {o : HO}, (∀ xs, o ≠ HO.tup xs) → M x = some o → P M v → P (del M x) v
class Stl {α : Type} (R : Rl α) : Prop where
  del : ∀ {y : α} {M : Hp} {v : V} {x : Addr} {o : HO}, (∀ xs, o ≠ HO.tup xs) → M x = some o → R y M v → R y (del M x) v
instance {α : Type} {R : Rl α} [h : Stl R] {y : α} : Stb (R y) := ⟨fun a b c => h.del a b c⟩
instance : Stl Tx := ⟨fun _ _ h => h⟩
instance : Stl It' := ⟨fun _ _ h => h⟩
instance : Stl Bl := ⟨fun _ _ h => h⟩
instance : Stl OpN := ⟨fun _ _ h => h⟩
theorem tup_ne {M : Hp} {a x : Addr} {o : HO} {xs : List V} (hn : ∀ xs, o ≠ HO.tup xs) (hx : M x = some o) (ha : M a = some (.tup xs)) : a ≠ x := fun z => by
  subst z; rw [hx] at ha; exact hn xs (Option.some.inj ha)
instance : Stl TT := ⟨fun hn hx ⟨a, e, r⟩ => ⟨a, e, by rw [del_ne (tup_ne hn hx r)]; exact r⟩⟩
theorem Pd.del {α : Type} {R : Rl α} [Stl R] {M : Hp} {x : Addr} {o : HO} (hn : ∀ xs, o ≠ HO.tup xs) (hx : M x = some o) {ys : List α} {vs : List V} (h : Pd R M ys vs) : Pd R (L3.del M x) ys vs := Paired.mapP h fun _ _ q => Stl.del hn hx q
instance {α : Type} {R : Rl α} [Stl R] : Stl (TuR R) := ⟨fun hn hx ⟨a, vs, e, r, p⟩ => ⟨a, vs, e, by rw [del_ne (tup_ne hn hx r)]; exact r, p.del hn hx⟩⟩
theorem same_lent {M H : Hp} {x : Addr} {o : HO} (mh : Same M H) (hx : H x = some o) : Same (upd M x o) H := fun b u e => by
  by_cases hb : b = x
  · subst hb; rw [upd_same] at e; rw [hx]; exact e
  · rw [upd_ne hb] at e; exact mh b u e
section
end
/-! our instance -/
structure OwnI (H0 M H : Hp) (x C dx : Addr) (fs : List (Str × V)) : Prop where
  h0 : H0 x = none
  m : M x = none
  h : H x = some (.ins C dx fs)
section
end
end L3

set_option Elab.async false
set_option linter.all false
set_option maxRecDepth 100000
set_option maxHeartbeats 1000000
namespace L3
open PySem PySem.Spec PyProof.Rows L2
/-! a dict of ours whose keys are texts -/
section
end
/-- what we own: a dict -/
structure OwnK (H0 M H : Hp) (p : Addr) (ks : List Str) : Prop where
  h0 : H0 p = none
  m : M p = none
  h : H p = some (.dK (kvT ks))
theorem OwnK.step {H0 M H M' H' : Hp} {p : Addr} {ks : List Str} (o : OwnK H0 M H p ks) (g : Gr M H M' H') : OwnK H0 M' H' p ks := ⟨o.h0, g.keep o.m o.h, g.hh _ _ o.h⟩
theorem OwnK.idle {H0 M H H' : Hp} {p : Addr} {ks : List Str} (o : OwnK H0 M H p ks) (hh : Same H H') : OwnK H0 M H' p ks := ⟨o.h0, o.m, hh _ _ o.h⟩
theorem OwnK.put {H0 M H : Hp} {p : Addr} {ks ls : List Str} (o : OwnK H0 M H p ks) : OwnK H0 M (upd H p (.dK (kvT ls))) p ls := ⟨o.h0, o.m, upd_same⟩
/-- another thing of ours changes -/
theorem OwnK.off {H0 M H : Hp} {p b : Addr} {ks : List Str} {u : HO} (o : OwnK H0 M H p ks) (h : p ≠ b) : OwnK H0 M (upd H b u) p ks := ⟨o.h0, o.m, by rw [upd_ne h]; exact o.h⟩
theorem Own.off {H0 M H : Hp} {p b : Addr} {vs : List V} {u : HO} (o : Own H0 M H p vs) (h : p ≠ b) : Own H0 M (upd H b u) p vs := ⟨o.h0, o.m, by rw [upd_ne h]; exact o.h⟩
theorem OwnK.ne {H0 M H : Hp} {p b : Addr} {ks : List Str} {vs : List V} (o : OwnK H0 M H p ks) (q : Own H0 M H b vs) : p ≠ b := ne_of o.h q.h (by intro z; cases z)
theorem kt_nt {kvs : List (Key × V)} : ∀ xs, HO.dK kvs ≠ HO.tup xs := by intro _ z; cases z
/-! a thing is locked for good behind an expression -/
section
end
end L3

set_option Elab.async false
set_option linter.all false
set_option maxRecDepth 100000
set_option maxHeartbeats 1000000
namespace L3
open PySem PySem.Spec PyProof.Rows L2
/-! a dict of ours is lent -/
class Sdk (P : Pr) : Prop where
  del : ∀ {M : Hp} {v : V} {x : Addr} {kvs : List (Key × V)}, M x = some (.dK kvs) → P M v → P (L3.del M x) v
class Sdl {α : Type} (R : Rl α) : Prop where
  del : ∀ {y : α} {M : Hp} {v : V} {x : Addr} {kvs : List (Key × V)}, M x = some (.dK kvs) → R y M v → R y (L3.del M x) v
instance {α : Type} {R : Rl α} [h : Sdl R] {y : α} : Sdk (R y) := ⟨fun b c => h.del b c⟩
instance {α : Type} {R : Rl α} [h : Stl R] : Sdl R := ⟨fun b c => h.del kt_nt b c⟩
theorem Pd.delK {α : Type} {R : Rl α} [Sdl R] {M : Hp} {x : Addr} {kvs : List (Key × V)} (hx : M x = some (.dK kvs)) {ys : List α} {vs : List V} (h : Pd R M ys vs) : Pd R (L3.del M x) ys vs := Paired.mapP h fun _ _ q => Sdl.del hx q
instance {α : Type} {R : Rl α} [Sdl R] : Sdl (LiR R) := ⟨fun hx ⟨a, vs, e, r, p⟩ => ⟨a, vs, e, by
  rw [del_ne (fun z => by subst z; rw [hx] at r; cases r)]; exact r, p.delK hx⟩⟩
instance {α : Type} {R : Rl α} [h : Sdl R] : Sdl (OpR' R) := ⟨fun {y M v x kvs} hx r => by
  cases y with
  | none => exact r
  | some y => exact h.del hx r⟩
section
variable {K : PySem.W.Frag} {σ : Sl} {M H : Hp} {te : TE} {P : Pr} {x : Addr} {kvs : List (Key × V)} {D : Ends} {tz : TS}
theorem q_if0 {tt : L2.TT} {b : Bool} {tu : TS} (mh : Same M H) (h : GvT tt σ M b) (h1 : b = true → ∀ H', Same H H' → tu { D with nx := tz D } σ H') (h2 : b = false → ∀ H', Same H H' → tz D σ H') : tSeq (tIfS tt tu tNext) tz D σ H := q_if mh h h1 h2
theorem s_if0 {tt : L2.TT} {b : Bool} {tu : TS} (mh : Same M H) (h : GvT tt σ M b) (h1 : b = true → ∀ H', Same H H' → tu D σ H') (h2 : b = false → ∀ H', Same H H' → D.nx σ H') : tIfS tt tu tNext D σ H := s_if mh h h1 h2
/-! arguments one by one -/
variable {tr ta : TA} {QA : List V → Hp → Prop}
theorem a_L {P : Hp → List V → Prop} (mh : Same M H) (h : GvL te σ M P) (k : ∀ p vs M' H', Gr M H M' H' → H p = none → M' p = none → H' p = some (.lst vs) → P M' vs → tr σ H' fun us H2 => QA (.ref p :: us) H2) : tCons te tr σ H QA := h H mh _ k
end
end L3

set_option Elab.async false
set_option linter.all false
set_option maxRecDepth 100000
set_option maxHeartbeats 1000000
namespace L3
open PySem PySem.Spec PyProof.Rows L2
/-! len(x) by an own __len__ -/
section
variable {X : Cx} {CX : CXT} {pins : List (Addr × Obj)} {σ : L2.St} {H : Hp} {s : Shared} {a C dx f : Addr} {fs : List (Str × V)} {k : Nat} {fd : FuncData} {ps : List Str} {sp : Sp} {E : XK}
/-- a class with an own __len__ -/
structure OwnLen (P : Program) (w : World) (K : PySem.W.Frag) (mg : Str → Option Value) (base : Heap) (k : Nat) (C : Addr) (sp : Sp) : Prop where
  ok : ∃ f fd, FnOk P w K mg base CX0 k f fd ["self"] sp ∧ PySem.W.findIn K (.ref C) "__len__" = some (some (.ref f)) ∧ PySem.W.isFn K (.ref f) = true ∧ Binds K fd ["self"] []
end
section
end
section
end
end L3

set_option Elab.async false
set_option linter.all false
set_option maxRecDepth 100000
set_option maxHeartbeats 1000000
namespace L3
open PySem PySem.Spec PyProof.Rows L2
/-! the law's stream: two lists that change behind all else -/
structure Strm where
  a : Addr
  b : Addr
namespace Strm
def off (S : Strm) (x : Addr) : Prop := x = S.a ∨ x = S.b
instance {S : Strm} {x : Addr} : Decidable (S.off x) := by unfold off; infer_instance
def cut (S : Strm) (H : Hp) : Hp := fun x => if S.off x then none else H x
/-- the stream stands, k draws are left -/
structure At (S : Strm) (k : Nat) (H : Hp) : Prop where
  ne : S.a ≠ S.b
  ex : ∃ (cells : List Int) (x n m : Int), H S.a = some (.lst [.ref S.b, .int x, .int n, .int m]) ∧ H S.b = some (.lst (cells.map V.int)) ∧ 0 ≤ x ∧ 0 ≤ n ∧ n + k ≤ 10000000 ∧ 0 ≤ m ∧ m < 2147483647
variable {S : Strm} {H H' M M' : Hp} {x p : Addr} {o : HO} {j k : Nat}
theorem cut_off (h : S.off x) : S.cut H x = none := if_pos h
theorem cut_on (h : ¬ S.off x) : S.cut H x = H x := if_neg h
theorem on_of (h : S.cut H x = some o) : ¬ S.off x := fun z => by rw [cut_off z] at h; cases h
theorem of_cut (h : S.cut H x = some o) : H x = some o := by rw [← cut_on (S := S) (H := H) (on_of h)]; exact h
theorem cut_same : Same (S.cut H) H := fun _ _ h => of_cut h
theorem cut_upd (h : ¬ S.off p) : S.cut (upd H p o) = upd (S.cut H) p o := by
  funext y
  by_cases hy : y = p
  · subst hy; rw [cut_on h, upd_same, upd_same]
  · rw [upd_ne hy]
    by_cases ho : S.off y
    · rw [cut_off ho, cut_off ho]
    · rw [cut_on ho, cut_on ho, upd_ne hy]
theorem At.le (h : S.At k H) (e : j ≤ k) : S.At j H := let ⟨c, x, n, m, h1, h2, h3, h4, h5, h6⟩ := h.ex; ⟨h.ne, c, x, n, m, h1, h2, h3, h4, by omega, h6⟩
theorem At.same (h : S.At k H) (e : Same H H') : S.At k H' := let ⟨c, x, n, m, h1, h2, h3⟩ := h.ex; ⟨h.ne, c, x, n, m, e _ _ h1, e _ _ h2, h3⟩
theorem At.upd (h : S.At k H) (hp : ¬ S.off p) : S.At k (upd H p o) := let ⟨c, x, n, m, h1, h2, h3⟩ := h.ex
  ⟨h.ne, c, x, n, m, by rw [upd_ne (fun z => hp (.inl z.symm))]; exact h1, by rw [upd_ne (fun z => hp (.inr z.symm))]; exact h2, h3⟩
theorem At.at_ (h : S.At k H) (ho : S.off x) : ∃ vs, H x = some (.lst vs) := let ⟨c, y, n, m, h1, h2, h3⟩ := h.ex; by
  rcases ho with rfl | rfl
  · exact ⟨_, h1⟩
  · exact ⟨_, h2⟩
theorem At.fresh (h : S.At k H) (hp : H p = none) : ¬ S.off p := fun z => by obtain ⟨vs, e⟩ := h.at_ z; rw [hp] at e; cases e
theorem At.cutn (h : S.At k H) (hp : H p = none) : S.cut H p = none := by rw [cut_on (h.fresh hp)]; exact hp
theorem off_none (mh : Same M (S.cut H)) (ho : S.off x) : M x = none := by
  cases e : M x with
  | none => rfl
  | some o => have := mh x o e; rw [cut_off ho] at this; cases this
theorem lift (mh : Same M (S.cut H)) (h : S.At k H) (g : Gr M H M' H') : Gr M (S.cut H) M' (S.cut H') := by
  refine ⟨g.mm, fun y u e => ?_, fun y u e => ?_, fun y u e => ?_, g.nt⟩
  · rw [cut_on (on_of e)]; exact g.hh y u (of_cut e)
  · have ny : ¬ S.off y := fun z => by
      obtain ⟨vs, hy⟩ := h.at_ z
      rw [g.keep (off_none mh z) hy] at e
      cases e
    rw [cut_on ny]; exact g.mh y u e
  · rcases g.nw y u e with z | z | z
    · exact .inl z
    · by_cases ho : S.off y
      · exact .inr (.inl (cut_off ho))
      · exact .inr (.inl (by rw [cut_on ho]; exact z))
    · exact .inr (.inr z)
end Strm
open Strm
/-- a value behind draws -/
def GvS (S : Strm) (c : Nat) (te : TE) (σ : Sl) (M : Hp) (P : Pr) : Prop := ∀ H k, Same M (S.cut H) → S.At (k + c) H → ∀ Q : VK, (∀ v M' H', Gr M (S.cut H) M' (S.cut H') → S.At k H' → P M' v → Q v H') → te σ H Q
def GvTS (S : Strm) (c : Nat) (tt : L2.TT) (σ : Sl) (M : Hp) (B : Bool → Prop) : Prop := ∀ H k, Same M (S.cut H) → S.At (k + c) H → ∀ Q : Bool → Hp → Prop, (∀ b M' H', Gr M (S.cut H) M' (S.cut H') → S.At k H' → B b → Q b H') → tt σ H Q
def GvLS (S : Strm) (c : Nat) (te : TE) (σ : Sl) (M : Hp) (P : Hp → List V → Prop) : Prop := ∀ H k, Same M (S.cut H) → S.At (k + c) H → ∀ Q : VK,
  (∀ p vs M' H', Gr M (S.cut H) M' (S.cut H') → S.At k H' → S.cut H p = none → M' p = none → S.cut H' p = some (.lst vs) → P M' vs → Q (.ref p) H') → te σ H Q
def GvIS {α : Type} (S : Strm) (c : Nat) (wi : TI) (σ : Sl) (M : Hp) (G : List α → Prop) (R : Rl α) : Prop := ∀ H k, Same M (S.cut H) → S.At (k + c) H → ∀ Q : It → Hp → Prop, (∀ J xs M1 H1, Gr M (S.cut H) M1 (S.cut H1) → S.At k H1 → G xs → GW M1 J xs R → Q J H1) → wi σ H Q
/-- some x that is good -/
def Ex {α : Type} (R : Rl α) (good : α → Prop) : Pr := fun M v => ∃ x, good x ∧ R x M v
instance {α : Type} {R : Rl α} [Mon R] {good : α → Prop} : Mono (Ex R good) := ⟨fun e ⟨x, g, r⟩ => ⟨x, g, Mon.mono e r⟩⟩
section
variable {K : PySem.W.Frag} {S : Strm} {c c1 c2 : Nat} {σ : Sl} {M M1 : Hp} {ta tb te : TE} {tt tu : L2.TT} {P P1 : Pr} {α : Type} {R : Rl α}
theorem Gv.s (h : Gv te σ M P) : GvS S 0 te σ M P := fun H k mh at_ Q q => h H (mh.trans cut_same) Q fun v M' H' g p => q v M' H' (lift mh at_ g) (at_.same g.hh) p
theorem GvT.s {b : Bool} (h : GvT tt σ M b) : GvTS S 0 tt σ M (· = b) := fun H k mh at_ Q q => h H (mh.trans cut_same) Q fun M' H' g => q b M' H' (lift mh at_ g) (at_.same g.hh) rfl
theorem GvI.s {wi : TI} {xs : List α} (h : GvI wi σ M xs R) : GvIS S 0 wi σ M (· = xs) R := fun H k mh at_ Q q => h H (mh.trans cut_same) Q fun J M' H' g w => q J xs M' H' (lift mh at_ g) (at_.same g.hh) rfl w
theorem GvL.s {P : Hp → List V → Prop} (h : GvL te σ M P) : GvLS S 0 te σ M P := fun H k mh at_ Q q => h H (mh.trans cut_same) Q fun p vs M' H' g h0 m0 hp r =>
  q p vs M' H' (lift mh at_ g) (at_.same g.hh) (Strm.At.cutn at_ h0) m0 (by rw [cut_on (Strm.At.fresh at_ h0)]; exact hp) r
theorem GvS.is {P' : Pr} (h : GvS S c te σ M P) (e : ∀ M v, P M v → P' M v) : GvS S c te σ M P' := fun H k mh at_ Q q => h H k mh at_ Q fun v M' H' g a p => q v M' H' g a (e M' v p)
theorem GvTS.is {B B' : Bool → Prop} (h : GvTS S c tt σ M B) (e : ∀ b, B b → B' b) : GvTS S c tt σ M B' := fun H k mh at_ Q q => h H k mh at_ Q fun b M' H' g a p => q b M' H' g a (e b p)
theorem GvS.le [Mono P] (h : GvS S c te σ M P) (e : Same M M1) : GvS S c te σ M1 P := fun H k mh at_ Q q =>
  h H k (e.trans mh) at_ Q fun v M' H' g a p => q v _ H' (g.join e mh).1 a (Mono.mono (g.join e mh).2 p)
theorem GvTS.le {B : Bool → Prop} (h : GvTS S c tt σ M B) (e : Same M M1) : GvTS S c tt σ M1 B := fun H k mh at_ Q q => h H k (e.trans mh) at_ Q fun b M' H' g a p => q b _ H' (g.join e mh).1 a p
theorem GvLS.gv {R : Hp → List V → Prop} (h : GvLS S c te σ M R) (hp : ∀ M vs p, R M vs → M p = none → P (upd M p (.lst vs)) (.ref p)) : GvS S c te σ M P := fun H k mh at_ Q q =>
  h H k mh at_ Q fun p vs M' H' g a h0 m0 hw r => q (.ref p) _ H' (g.freeze h0 m0 hw) a (hp M' vs p r m0)
theorem GvLS.is {R R' : Hp → List V → Prop} (h : GvLS S c te σ M R) (e : ∀ M vs, R M vs → R' M vs) : GvLS S c te σ M R' := fun H k mh at_ Q q => h H k mh at_ Q fun p vs M' H' g a h0 m0 hw r => q p vs M' H' g a h0 m0 hw (e M' vs r)
theorem gs_op {r : R2} {R : Pr} [Mono P] [Mono P1] (ha : GvS S c1 ta σ M P) (hb : GvS S c2 tb σ M P1) (hr : ∀ M' x y, P M' x → P1 M' y → RV (r x y) M' R) : GvS S (c1 + c2) (tOp r ta tb) σ M R := fun H k mh at_ Q q =>
  ha H (k + c2) mh (at_.le (by omega)) _ fun x M1 H1 g1 a1 p1 => hb.le g1.mm H1 k g1.mh a1 _ fun y M2 H2 g2 a2 p2 =>
    hr M2 x y (Mono.mono g2.mm p1) p2 H2 (g2.mh.trans cut_same) _ fun v M3 H3 g3 p3 => q v M3 H3 ((g1.trans g2).trans (lift g2.mh a2 g3)) (a2.same g3.hh) p3
end
end L3

set_option Elab.async false
set_option linter.all false
set_option maxRecDepth 100000
set_option maxHeartbeats 1000000
namespace L3
open PySem PySem.Spec PyProof.Rows L2
open Strm
instance {α : Type} {R : Rl α} [h : Stl R] {good : α → Prop} : Stb (Ex R good) := ⟨fun a b ⟨x, g, r⟩ => ⟨x, g, h.del a b r⟩⟩
/-! statements behind draws -/
section
variable {K : PySem.W.Frag} {S : Strm} {c c1 c2 k : Nat} {σ : Sl} {M H : Hp} {ta tb te : TE} {tt tu : L2.TT} {P P1 : Pr} {α β : Type} {R : Rl α} {D : Ends} {tz tx tw : TS}
theorem z_ret (mh : Same M (S.cut H)) (a : S.At (k + c) H) (h : GvS S c te σ M P) (q : ∀ v M' H', Gr M (S.cut H) M' (S.cut H') → S.At k H' → P M' v → D.rt v H') : tRet te D σ H := h H k mh a _ q
theorem z_asg {i : Nat} (mh : Same M (S.cut H)) (a : S.At (k + c) H) (h : GvS S c te σ M P) (q : ∀ v M' H', Gr M (S.cut H) M' (S.cut H') → S.At k H' → P M' v → tz D (σ.set i (some v)) H') : tSeq (tAsg te (gName i)) tz D σ H := h H k mh a _ q
theorem z_if {B : Bool → Prop} (mh : Same M (S.cut H)) (a : S.At (k + c) H) (h : GvTS S c tt σ M B) (h1 : B true → ∀ M' H', Gr M (S.cut H) M' (S.cut H') → S.At k H' → tx { D with nx := tz D } σ H') (h2 : B false → ∀ M' H', Gr M (S.cut H) M' (S.cut H') → S.At k H' → tz D σ H') :
    tSeq (tIfS tt tx tNext) tz D σ H := h H k mh a _ fun b M' H' g a' p => by
  cases b with
  | true => exact h1 p M' H' g a'
  | false => exact h2 p M' H' g a'
/-- a list of ours changes -/
theorem cut_put {p : Addr} {o u : HO} (hp : S.cut H p = some o) : S.cut (upd H p u) = upd (S.cut H) p u := cut_upd (on_of hp)
/-- for over anything, drawing -/
theorem z_for {wi : TI} {g : TG} {tbd : TS} {U : α → Hp → Sl → Sl → Prop} {G : List α → Prop} (mh : Same M (S.cut H)) (a : S.At (k + c) H) (hsrc : GvIS S c wi σ M G R) (htg : TgOk g R U) (Pv : List α → Hp → Nat → Sl → Hp → Hp → Prop)
    (h0 : ∀ xs M1 H1, G xs → Gr M (S.cut H) M1 (S.cut H1) → S.At k H1 → Pv xs M1 0 σ M1 H1) (hk : ∀ xs M1 i σ' M' H', Pv xs M1 i σ' M' H' → Same M1 M' ∧ Same M' (S.cut H') ∧ S.At 0 H')
    (hs : ∀ xs M1 i x σ' M' H' M2 H2 σ2, G xs → Same M M1 → xs[i]? = some x → Pv xs M1 i σ' M' H' → Gr M' H' M2 H2 → U x M2 σ' σ2 →
      tbd { D with nx := fun σ2 H2 => ∃ M2, Pv xs M1 (i + 1) σ2 M2 H2, ct := fun σ2 H2 => ∃ M2, Pv xs M1 (i + 1) σ2 M2 H2, bk := tz D } σ2 H2)
    (hd : ∀ xs M1 σ' M' H', G xs → Same M M1 → Pv xs M1 xs.length σ' M' H' → tz D σ' H') : tSeq (tFor wi g tbd) tz D σ H := by
  refine hsrc H k mh a _ fun J xs M1 H1 g1 a1 gx ⟨GG, Y, w, hG, hY⟩ => ?_
  refine for_it w (fun i σ' H' => ∃ M', Pv xs M1 i σ' M' H') ⟨M1, h0 xs M1 H1 gx g1 a1⟩ (fun i σ' H' _ ⟨M', p⟩ => hG M' H' (hk _ _ _ _ _ _ p).1 ((hk _ _ _ _ _ _ p).2.1.trans cut_same)) ?_ ?_
  · rintro i y σ' H' H'' hi ⟨M', p⟩ hy
    have km := hk _ _ _ _ _ _ p
    obtain ⟨x, M2, hx, g2, rx⟩ := hY i M' H' y H'' km.1 (km.2.1.trans cut_same) hi hy
    exact htg x M2 y H'' σ' _ rx g2.mh fun σ2 hU => hs xs M1 i x σ' M' H' M2 H'' σ2 gx g1.mm hx p g2 hU
  · rintro σ' H' ⟨M', p⟩
    exact hd xs M1 σ' M' H' gx g1.mm p
/-- a comprehension without a test, drawing at each item -/
theorem gls_m1 {T : Rl β} [Mon T] {j n : Nat} {wi : TI} {G : List α → Prop} {good : α → β → Prop} (hsrc : GvIS S c1 wi σ M G R) (hn : ∀ xs, G xs → xs.length ≤ n) (hz : n ≤ sizeLine)
    (he : ∀ xs, G xs → ∀ x ∈ xs, ∀ M1 v, Same M M1 → R x M1 v → GvS S c2 te ((wipe σ [j]).set j (some v)) M1 (Ex T (good x))) :
    GvLS S (c1 + n * c2) (tLc wi (gName j) tYes te [j]) σ M fun M ws => ∃ xs ys, G xs ∧ Paired good xs ys ∧ Pd T M ys ws := by
  intro H k mh at_ Q q
  refine hsrc H (k + n * c2) mh (at_.le (by omega)) _ fun J xs M1 H1 g1 a1 gx ⟨GG, Y, w, hG, hY⟩ D hD => ?_
  have hxn := hn xs gx
  have nD := a1.fresh hD
  refine lc_it w (fun i H' => ∃ M' ys ws, Gr M1 (S.cut H1) M' (S.cut H') ∧ S.At (k + (n - i) * c2) H' ∧ M' D = none ∧ S.cut H' D = some (.lst ws) ∧ ws.length ≤ i ∧ Paired good (xs.take i) ys ∧ Pd T M' ys ws)
    ⟨M1, [], [], by rw [cut_upd nD]; exact .own g1.mh (a1.cutn hD), a1.upd nD, g1.mh.free (a1.cutn hD), by rw [cut_upd nD, upd_same], Nat.le_refl _, .nil, .nil⟩ (fun i H' _ ⟨M', ys, ws, g, _⟩ => hG M' H' g.mm (g.mh.trans cut_same)) ?_ ?_
  · rintro i y H' H'' hi ⟨M', ys, ws, g, a', m0, hw', hl, hg, hpd⟩ hy
    obtain ⟨x, M0, hx, g0, rx⟩ := hY i M' H' y H'' g.mm (g.mh.trans cut_same) hi hy
    have hxm : x ∈ xs := List.mem_of_getElem? hx
    have et : xs.take (i + 1) = xs.take i ++ [x] := by rw [List.take_add_one, hx]; rfl
    have gg := g.trans (lift g.mh a' g0)
    have ag := a'.same g0.hh
    have k0 : S.cut H'' D = some (.lst ws) := (lift g.mh a' g0).hh _ _ hw'
    have m0' : M0 D = none := (lift g.mh a' g0).keep m0 hw'
    have hni : n - i = (n - (i + 1)) + 1 := by omega
    refine ⟨wipe1, ?_⟩
    show te _ H'' _
    refine he xs gx x hxm M0 y (g1.mm.trans gg.mm) rx H'' (k + (n - (i + 1)) * c2) gg.mh (ag.le (by rw [hni, Nat.add_mul]; omega)) _ fun z M3 H3 g3 a3 ⟨b, gb, hb⟩ => ?_
    have m3 : M3 D = none := g3.keep m0' k0
    have k3 := g3.hh _ _ k0
    have n3 := on_of k3
    refine ⟨ws, of_cut k3, Nat.lt_of_lt_of_le (Nat.lt_of_le_of_lt hl hi) (Nat.le_trans hxn hz), M3, ys ++ [b], ws ++ [z], by rw [cut_upd n3]; exact (gg.trans g3).mut (a1.cutn hD) m3, a3.upd n3, m3, by rw [cut_upd n3, upd_same], by rw [List.length_append]; exact Nat.succ_le_succ hl, ?_, ?_⟩
    · rw [et]; exact pd_app hg (.cons gb .nil)
    · exact pd_app (hpd.mono ((lift g.mh a' g0).mm.trans g3.mm)) (.cons hb .nil)
  · rintro H' ⟨M', ys, ws, g, a', m0, hw', hl, hg, hpd⟩
    rw [List.take_length] at hg
    exact q D ws M' H' (g1.trans g) (a'.le (by omega)) (g1.hh.free (a1.cutn hD)) m0 hw' ⟨xs, ys, gx, hg, hpd⟩
end
/-! promises of defs that draw -/
section
variable {α β γ : Type} {S : Strm} {c : Nat} {σ : Sl} {M : Hp} {t1 t2 t3 : TE} {R1 : Rl α} {R2 : Rl β} {R3 : Rl γ} {i : Nat}
def spS1 (R1 : Rl α) (pre : α → Prop) (c : α → Nat) (R : α → Pr) : Sp := fun vs H Q _ => ∃ (S : Strm) (x : α) (M : Hp) (v : V) (k : Nat), vs = [.ref S.a, v] ∧ Same M (S.cut H) ∧ S.At (k + c x) H ∧ R1 x M v ∧ pre x ∧ ∀ u M' H', Gr M (S.cut H) M' (S.cut H') → S.At k H' → R x M' u → Q u H'
theorem gs_call1 {pre : α → Prop} {cs : α → Nat} {R : α → Pr} {x : α} (hi : σ[i]? = some (some (.ref S.a))) (h1 : Gv t1 σ M (R1 x)) (hp : pre x) : GvS S (cs x) (tCall (spS1 R1 pre cs R) [] E0 (tCons (tVar i) (tCons t1 tNil))) σ M (R x) := fun H k mh a Q q =>
  ⟨_, hi, h1 H (mh.trans cut_same) _ fun v M1 H1 g1 p1 => ⟨S, x, M1, v, k, rfl, (lift mh a g1).mh, a.same g1.hh, p1, hp, fun u M' H' g a' r => q u M' H' ((lift mh a g1).trans g) a' r⟩⟩
end
end L3

set_option Elab.async false
set_option linter.all false
set_option maxRecDepth 100000
set_option maxHeartbeats 1000000
namespace L3
open PySem PySem.Spec PyProof.Rows L2
open Strm
namespace Strm
variable {S : Strm} {H H' M M' : Hp} {x p : Addr} {o : HO} {j k : Nat}
/-- the stream lent -/
def full (S : Strm) (M H : Hp) : Hp := fun x => if S.off x then H x else M x
theorem full_off (h : S.off x) : S.full M H x = H x := if_pos h
theorem full_on (h : ¬ S.off x) : S.full M H x = M x := if_neg h
theorem full_same (mh : Same M (S.cut H)) : Same (S.full M H) H := fun y u e => by
  by_cases h : S.off y
  · rw [full_off h] at e; exact e
  · rw [full_on h] at e; exact of_cut (mh y u e)
theorem cut_updo (h : S.off p) : S.cut (upd H p o) = S.cut H := by
  funext y
  by_cases ho : S.off y
  · rw [cut_off ho, cut_off ho]
  · rw [cut_on ho, cut_on ho, upd_ne (fun z => ho (by rw [z]; exact h))]
theorem unfull (mh : Same M (S.cut H)) (g : Gr (S.full M H) H M' H') : Gr M (S.cut H) (S.cut M') (S.cut H') := by
  refine ⟨fun y u e => ?_, fun y u e => ?_, fun y u e => ?_, fun y u e => ?_, fun y ps e => by
    have h := g.nt y ps (of_cut e)
    rw [full_on (on_of e)] at h
    exact h⟩
  · have ny := on_of (mh y u e)
    rw [cut_on ny]; exact g.mm y u (by rw [full_on ny]; exact e)
  · rw [cut_on (on_of e)]; exact g.hh y u (of_cut e)
  · rw [cut_on (on_of e)]; exact g.mh y u (of_cut e)
  · have ny := on_of e
    rcases g.nw y u (of_cut e) with z | z | z
    · rw [full_on ny] at z; exact .inl z
    · exact .inr (.inl (by rw [cut_on ny]; exact z))
    · exact .inr (.inr z)
end Strm
def cellD (cells : List Int) (x n m : Int) : List PyData := [.list (cells.map .int), .int x, .int n, .int m]
structure StAt (S : Strm) (H : Hp) (cells : List Int) (x n m : Int) : Prop where
  ne : S.a ≠ S.b
  a : H S.a = some (.lst [.ref S.b, .int x, .int n, .int m])
  b : H S.b = some (.lst (cells.map V.int))
/-- one statement, then what follows it is proved once -/
theorem q_cut {t tz : TS} {D : Ends} {σ : Sl} {H : Hp} (J : Sl → Hp → Prop) (h : ∀ nx, (∀ σ H, J σ H → nx σ H) → t { D with nx := nx } σ H) (hz : ∀ σ H, J σ H → tz D σ H) : tSeq t tz D σ H := h _ hz
section
variable {K : PySem.W.Frag} {S : Strm} {c k : Nat} {σ : Sl} {M H H' : Hp} {te : TE} {D : Ends} {tz tb : TS} {cells : List Int} {x n m : Int}
theorem StAt.same (st : StAt S H cells x n m) (e : Same H H') : StAt S H' cells x n m := ⟨st.ne, e _ _ st.a, e _ _ st.b⟩
theorem pd_int {M : Hp} : ∀ (cs : List Int), Pd (Dd K) M (cs.map PyData.int) (cs.map V.int)
  | [] => .nil
  | c :: r => .cons (.int c) (pd_int r)
theorem dpa_pd {M : Hp} {ds : List PyData} {vs : List V} (h : Pd (Dd K) M ds vs) : DpAll K M vs ds := by
  induction h with
  | nil => exact .nil
  | cons q _ ih => exact .cons q ih
theorem StAt.sq (st : StAt S H cells x n m) : SqR K (Dd K) (cellD cells x n m) (S.full M H) (.ref S.a) :=
  .inl ⟨_, _, rfl, .inl (.inl (by rw [full_off (.inl rfl)]; exact st.a)), .cons (.lst (.inl (.inl (by rw [full_off (.inr rfl)]; exact st.b))) (dpa_pd (pd_int cells))) (.cons (.int x) (.cons (.int n) (.cons (.int m) .nil)))⟩
/-- stream[j] = e -/
theorem z_subE {j : Int} {jn : Nat} {z : Int} (hσ : σ[0]? = some (some (.ref S.a))) (mh : Same M (S.cut H)) (st : StAt S H cells x n m) (hj : ixN 4 j = some jn) (h : Gv te σ (S.full M H) (It' z))
    (q : ∀ M' H', Gr M (S.cut H) M' (S.cut H') → H' S.a = some (.lst ([V.ref S.b, .int x, .int n, .int m].set jn (.int z))) → H' S.b = some (.lst (cells.map V.int)) → D.nx σ H') :
    tAsg te (gSub (tVar 0) (tC (.int j)) rSetL) D σ H := h H (full_same mh) _ fun v M' H' g p => by
  have st' := st.same g.hh
  refine ⟨.ref S.a, hσ, S.a, _, j, jn, rfl, rfl, st'.a, hj, ?_⟩
  cases (show v = _ from p)
  refine q _ _ (by rw [cut_updo (.inl rfl)]; exact unfull mh g) upd_same ?_
  rw [upd_ne (Ne.symm st.ne)]
  exact st'.b
theorem z_sub {j : Int} {jn : Nat} {z : Int} (hσ : σ[0]? = some (some (.ref S.a))) (mh : Same M (S.cut H)) (st : StAt S H cells x n m) (hj : ixN 4 j = some jn) (h : Gv te σ (S.full M H) (It' z))
    (q : ∀ M' H', Gr M (S.cut H) M' (S.cut H') → H' S.a = some (.lst ([V.ref S.b, .int x, .int n, .int m].set jn (.int z))) → H' S.b = some (.lst (cells.map V.int)) → tz D σ H') :
    tSeq (tAsg te (gSub (tVar 0) (tC (.int j)) rSetL)) tz D σ H := z_subE (D := { D with nx := tz D }) hσ mh st hj h q
end
end L3

set_option Elab.async false
set_option linter.all false
set_option maxRecDepth 100000
set_option maxHeartbeats 1000000
namespace L3
open PySem PySem.Spec PyProof.Rows L2
open Strm
section
end
end L3
namespace L3
open PySem PySem.Spec PyProof.Rows L2
open Strm
section
variable {K : PySem.W.Frag} {S : Strm} {c k : Nat} {σ : Sl} {M H : Hp} {te ta tb : TE} {P : Pr} {α β : Type} {R : Rl α} {T : Rl β} {D : Ends} {tz : TS} {g : TG} {U : α → Hp → Sl → Sl → Prop}
theorem gv_pair [Mon R] [Mon T] {x : α} {y : β} (h1 : Gv ta σ M (R x)) (h2 : Gv tb σ M (T y)) : Gv (tTup (tCons ta (tCons tb tNil))) σ M (PrR K R T (x, y)) := fun H mh Q q =>
  h1 H mh _ fun v M1 H1 g1 p1 => h2.le g1.mm H1 g1.mh _ fun w M2 H2 g2 p2 => ⟨by show 2 ≤ sizeLine; decide, fun p np => q _ _ _ ((g1.trans g2).trans (.new g2.mh np)) ⟨p, _, _, rfl, .inl (.inl upd_same), Mon.mono (g2.mm.trans (same_new (g2.mh.free np))) p1, Mon.mono (same_new (g2.mh.free np)) p2⟩⟩
theorem pd_of_it {M : Hp} : ∀ (xs : List Int), Pd It' M xs (xs.map V.int)
  | [] => .nil
  | _ :: r => .cons rfl (pd_of_it r)
/-- sep.join(a new list of texts) -/
theorem gs_join {good : List Str → Prop} {x : Str} (h : GvLS S c te σ M fun M ws => ∃ ys, good ys ∧ Pd Tx M ys ws) (hz : ∀ ys, good ys → (ys.map (·.length)).sum + ys.length * x.length ≤ 16777216) :
    GvS S c (tM1 (fun x xs H Q => ∃ a p, ∃ ys : List Str, x = .str a ∧ xs = [.ref p] ∧ (SqL K H p (ys.map V.str) ∨ SqT K H p (ys.map V.str)) ∧ (ys.map (·.length)).sum + ys.length * a.length ≤ 16777216 ∧ Q (.str (Txt.join a ys)) H) (tC (.str x)) te) σ M (Ex (fun ys => Tx (Txt.join x ys)) good) := fun H k mh a Q q =>
  ⟨⟨x, rfl⟩, h H k mh a _ fun p vs M' H' g a' h0 m0 hw ⟨ys, gy, hp⟩ => ⟨x, p, ys, rfl, rfl, .inl (.inl (.inl (by rw [← pd_tx hp]; exact of_cut hw))), hz ys gy, q _ M' H' g a' ⟨ys, gy, rfl⟩⟩⟩
end
end L3
namespace L3
open PySem PySem.Spec PyProof.Rows L2
open Strm
section
end
/-- a list of ours behind the stream -/
structure OwS (S : Strm) (H0 M H : Hp) (p : Addr) (vs : List V) : Prop where
  o : Own (S.cut H0) M (S.cut H) p vs
theorem OwS.put {S : Strm} {H0 M H : Hp} {p : Addr} {vs ws : List V} (o : OwS S H0 M H p vs) : OwS S H0 M (upd H p (.lst ws)) p ws := ⟨by rw [cut_put o.o.h]; exact o.o.put⟩
theorem OwS.step {S : Strm} {H0 M H M' H' : Hp} {p : Addr} {vs : List V} (o : OwS S H0 M H p vs) (g : Gr M (S.cut H) M' (S.cut H')) : OwS S H0 M' H' p vs := ⟨o.o.step g⟩
theorem OwS.mut {S : Strm} {M0 H0 M H : Hp} {p : Addr} {vs ws : List V} (o : OwS S H0 M H p vs) (g : Gr M0 (S.cut H0) M (S.cut H)) : Gr M0 (S.cut H0) M (S.cut (upd H p (.lst ws))) := by rw [cut_put o.o.h]; exact g.mut o.o.h0 o.o.m
end L3
namespace L3
open PySem PySem.Spec PyProof.Rows L2
open Strm
section
end
end L3
namespace L3
open PySem PySem.Spec PyProof.Rows L2
section
end
end L3

set_option Elab.async false
set_option linter.all false
set_option maxRecDepth 100000
set_option maxHeartbeats 1000000
namespace L3
open PySem PySem.Spec PyProof.Rows L2
open Strm
/-! instances made by name -/
section
end
end L3
namespace L3
open PySem PySem.Spec PyProof.Rows L2
open Strm
section
end
end L3
namespace L3
open PySem PySem.Spec PyProof.Rows L2
end L3
namespace L3
open PySem PySem.Spec PyProof.Rows L2
end L3
namespace L3
open PySem PySem.Spec PyProof.Rows L2
def CalG (P : Program) (w : World) (K : PySem.W.Frag) (mg : Str → Option Value) (base : Heap) (k : Nat) (x : Str) (ps : List Str) (sp : Sp) : Prop :=
  ∃ f fd, FnG P w K mg base CX0 k f fd ps sp ∧ mg x = some (.ref f) ∧ PySem.W.keepIn K (.ref f) = true ∧ Binds K fd ps []
theorem pe_fG {X : Cx} {k : Nat} {x : Str} {ps : List Str} {sp : Sp} {e : Expr} {es : List Expr} {t : TA} {p pos : Pos} (c : CalG X.prog X.w X.K X.mg X.base k x ps sp) (hgu : X.A.guards = some []) (hr : Room k X.A) (ha : PA X (e :: es) t) (hg : Gl X x := by rfl)
    (hdb : (x == ("__debug__" : Str)) = false := by decide) (he : starEach (e :: es) X.env = (false, eval e X.env) :: starEach es X.env := by rfl) (hpl : (backTo pos (starEach es X.env)).any (·.1) = false := by rfl) :
    PE X (.Call (.Name x p) (e :: es) [] pos) (tCall sp [] E0 t) :=
  let ⟨_, _, G, m, kp, b⟩ := c
  pe_callG G hgu hr hg m kp b .nil pass0 ha hdb he hpl
end L3

set_option Elab.async false
set_option linter.all false
set_option maxRecDepth 100000
set_option maxHeartbeats 1000000
namespace L3
open PySem PySem.Spec PyProof.Rows L2
open Strm
section
variable {K : PySem.W.Frag} {S : Strm} {c k : Nat} {σ : Sl} {M H : Hp} {te t1 t2 t3 : TE} {ta tr : TA} {tt : L2.TT} {tx tz : TS} {P : Pr} {D : Ends} {α β γ : Type} {R : Rl α} {R1 : Rl α} {R2 : Rl β} {R3 : Rl γ} {QA : List V → Hp → Prop} {E : XK}
theorem q_asgS {i : Nat} (h : te σ H fun v H1 => tz D (σ.set i (some v)) H1) : tSeq (tAsg te (gName i)) tz D σ H := h
theorem lst_in {Q : VK} (h : ta σ H fun vs H1 => vs.length ≤ sizeLine ∧ ∀ p, H1 p = none → Q (.ref p) (upd H1 p (.lst vs))) : tLst ta σ H Q := h
end
section
end
theorem pd_itv {M : Hp} {xs : List Int} {vs : List V} (h : Pd It' M xs vs) : vs = xs.map V.int := by
  induction h with
  | nil => rfl
  | cons q _ ih => rw [ih, show _ = V.int _ from q]; rfl
theorem inj_bl : Inj PyData.bool := fun a b => by cases a <;> cases b <;> simp [PyData.eqv]
end L3

set_option Elab.async false
set_option linter.all false
set_option maxRecDepth 100000
set_option maxHeartbeats 1000000
namespace L3
open PySem PySem.Spec PyProof.Rows L2
open Strm
section
end
/-! methods -/
section
end
section
end
/-! dicts with tuple keys, known -/
def DtR : Rl (List (List Str)) := fun ks M v => ∃ a, v = .ref a ∧ M a = some (.dT (ent ks))
instance : Mon DtR := ⟨fun e ⟨a, h, r⟩ => ⟨a, h, e _ _ r⟩⟩
section
end
end L3

set_option Elab.async false
set_option linter.all false
set_option maxRecDepth 100000
set_option maxHeartbeats 1000000
namespace L3
open PySem PySem.Spec PyProof.Rows L2
/-! *d in a display, d a dict with texts for keys -/
section
end
/-! defs called with defaults -/
section
end
end L3

set_option Elab.async false
set_option linter.all false
set_option maxRecDepth 100000
set_option maxHeartbeats 1000000
namespace L3
open PySem PySem.Spec PyProof.Rows L2
/-! x in o, x not in o by an own __contains__; o == p, o != p by an own __eq__ -/
section
variable {X : Cx} {CX : CXT} {pins : List (Addr × Obj)} {σ : L2.St} {H : Hp} {s : Shared} {C : Addr} {k : Nat} {ps : List Str} {sp : Sp} {E : XK}
/-- a class that has object's != -/
structure NeObj (K : PySem.W.Frag) (C : Addr) : Prop where
  ne : PySem.W.findIn K (.ref C) "__ne__" = some (some (.builtin "object.__ne__"))
  ob : PySem.W.subIn K (.ref C) (.type "object") = some true
end
end L3

set_option Elab.async false
set_option linter.all false
set_option maxRecDepth 100000
set_option maxHeartbeats 1000000
namespace L3
open PySem PySem.Spec PyProof.Rows L2
/-! lists of data: remove, index; insert -/
section
variable {K : PySem.W.Frag} {σ : Sl} {M H : Hp} {te tb : TE} {P : Pr} {D : Ends} {tz : TS} {α : Type} {R : Rl α}
/-- what isinstance asks of a class of the text -/
structure InsF (K : PySem.W.Frag) (C : Addr) : Prop where
  cl : Cls K C
  gc : PySem.W.findIn K (.ref C) "__class__" = some (some (.builtin "object.__class__"))
  sp : PySem.W.specialIn K (.builtin "object.__class__") "__get__" = some (some (.builtin "getset_descriptor.__get__"))
  tk : PySem.W.takesIn K (.builtin "object.__class__") = some true
  mr : PySem.W.mroIn K C (.type "object") = some true
end
section
end
end L3

set_option Elab.async false
set_option linter.all false
set_option maxRecDepth 100000
set_option maxHeartbeats 1000000
namespace L3
open PySem PySem.Spec PyProof.Rows L2
/-! instances made with defaults -/
end L3

set_option Elab.async false
set_option linter.all false
set_option maxRecDepth 100000
set_option maxHeartbeats 1000000
namespace L3
open PySem PySem.Spec PyProof.Rows L2
section
end
end L3

set_option Elab.async false
set_option linter.all false
set_option maxRecDepth 100000
set_option maxHeartbeats 1000000
namespace L3
open PySem PySem.Spec PyProof.Rows L2
/-! texts cut, lists repeated, several things of ours lent, a dict of new lists -/
section
/-! several things of ours, lent at once -/
end
section
end
end L3

set_option Elab.async false
set_option linter.all false
set_option maxRecDepth 100000
set_option maxHeartbeats 2000000
namespace L3
open PySem PySem.Spec PyProof.Rows PySem.Calls L2 NdefX
/-! own exceptions whose __init__ says super().__init__('..') and then self.f = x -/
/-- the body of such an __init__ -/
abbrev supBody (p0 p1 p2 p3 p4 p5 p6 p7 p8 p9 : Pos) (k : Nat) (tx : Str) (f x : Str) : List Stmt :=
  [.Expr (.Call (.Attribute (.Call (.Name "super" p0) [] [] p1) "__init__" p2) [.Constant (.str tx) k p3] [] p4) p5, .Assign [.Attribute (.Name "self" p6) f p7] (.Name x p8) p9]
/-- what the written part says of the class at C and its __init__ at fI -/
structure SupC (P : Program) (K : PySem.W.Frag) (C fI : Addr) (q : Str) (args : Arguments) (body : List Stmt) (sc : Scope) : Prop where
  T : OexC K C
  fn : ∃ oc od kV doc pm an cda ct osl cc cl cld csl ccl cdd vs ccs file tf, K.lookup fI = some ⟨oc, od, .func (PySem.W.fnX "__init__" q args body sc [("__class__", cc)] .none kV doc pm an (.ref cda) ct), osl⟩ ∧ PySem.W.codeIn K (.ref cda) q = true ∧
    K.lookup cc = some ⟨cl, cld, .cell (some (.ref C)), csl⟩ ∧ K.lookup cda = some ⟨ccl, cdd, .fields vs, ccs⟩ ∧ vs[2]? = some (.str file tf) ∧ ((P.main.file : Str) == file) = true
  sup : PySem.W.nsIn K mainGlobals "super" = some none
  opq : PySem.W.nsIn K cStatics "thirdparty.any" = some none
  hm : PySem.W.ks_superIn K C C "__init__" = some (some (.builtin "ValueError.__init__"))
  hB : PySem.W.subIn K (.ref C) (.type "ValueError") = some true
  hS : PySem.W.mroIn K C (.ref C) = some true
  top : (P.main.scope.names.lookup ("super" : Str)).isSome = false
/-- what such an __init__ does -/
def spSup (K : PySem.W.Frag) (C : Addr) (f : Str) : Sp := fun vs H Q _ => ∃ a v, vs = [.ref a, v] ∧ H a = some (exo a C none) ∧ ∀ dx, H dx = none → dx ≠ a → Q .non (upd (upd H dx (exd dx [(f, v)])) a (exo a C (some dx)))
section
variable {prog : Program} {w : World} {A : Around} {E : Value → Shared → Prop}
/-- the wrapper of ValueError.__init__, called -/
theorem call_mw {u e t0 C : Addr} {dv : Option Addr} {h : Heap} {g : Array GenState} {d : Drawn} {t : Nat} {os : OsState} {rest : List Value} {Q : Value → Shared → Prop} {nm q : Str} {N : Addr} {bs bm : List Value} {hdct : Bool} {sn : List Str} {sub : List Value} {ab : Bool} {col : Option Bool} {dd : Option Addr} {k0 k1 k2 k3 k5 : Option Value}
    (hC : h.get? C = some (excClassObj nm q C N bs bm hdct sn sub ab col dd k0 k1 k2 k3 k5 "ValueError.__new__")) (he : h.get? e = some (PySem.W.excRec (.ref C) t0 dv .none .none (.bool false))) (hu : h.get? u = some (PySem.W.kxs_mw "ValueError.__init__" e)) (hz : rest.length ≤ sizeLine)
    (hq : ∀ h', (∀ b o, b ≠ e → h.get? b = some o → h'.get? b = some o) → h'.get? e = some (PySem.W.excRec (.ref C) h.objs.size dv .none .none (.bool false)) → Q .none ⟨h', g, d, t, os⟩) : wpAny (model prog w) A (call (.ref u) rest) Q E ⟨h, g, d, t, os⟩ := by
  refine wpAny_call (codeAny_of_tree ?_)
  show wpAny _ A.in1 (callAny (.ref u) ⟨rest, []⟩) _ _ _
  simp only [callAny]
  refine wpAny_bind (wpAny_load hu ?_)
  simp only [PySem.W.kxs_mw, show (Value.type "method-wrapper" == Value.type "method" || Value.type "method-wrapper" == Value.type "builtin_function_or_method" || Value.type "method-wrapper" == Value.type "method-wrapper") = true by decide, if_true]
  refine PySem.W.KFB.if_so (by decide) ?_
  refine wpAny_bind (PySem.W.check_bound_init PySem.F.excBase_ValueError.toExcCallFacts hC he rfl ?_)
  refine wpAny_bind (wpAny_pure (wpAny_pure ?_))
  refine ⟨plainId_quiet PySem.F.excBase_ValueError.init.plain _, codeAny_builtin PySem.F.excBase_ValueError.initEntry ?_⟩
  exact PySem.W.exc_init_tree he hz fun h' k e' _ => hq h' k e'
end
/-- FnOk of such an __init__ -/
theorem sup_okB {Bx : FuncData → Prop} {CX : CXT} {P : Program} {w : World} {K : PySem.W.Frag} {mg : Str → Option Value} {base : Heap} {k : Nat} {C fI : Addr} {q : Str} {args : Arguments} {sc : Scope} {p0 p1 p2 p3 p4 p5 p6 p7 p8 p9 : Pos} {kk : Nat} {tx f x : Str}
    (S : SupC P K C fI q args (supBody p0 p1 p2 p3 p4 p5 p6 p7 p8 p9 kk tx f x) sc) (hno : PySem.W.findIn K (.ref C) f = some none) (hx1 : (x == ("__debug__" : Str)) = false) (hx2 : (x == ("__classdict__" : Str)) = false) (NS : NScope ["self", x, "__class__"] ["self", x] ["__class__"] sc) (hks : sc.names.lookup ("super" : Str) = some .globalImplicit)
    (har : ∃ ar : Arg, (args.posonlyargs ++ args.args).head? = some ar ∧ ar.arg = "self") (hev : ∀ env : Env, ∃ pl : Sem Bool, eval (.Call (.Attribute (.Call (.Name "super" p0) [] [] p1) "__init__" p2) [.Constant (.str tx) kk p3] [] p4) env = (do
      let ov ← attributeBase (.Call (.Name "super" p0) [] [] p1) "__init__" env (eval (.Call (.Name "super" p0) [] [] p1) env)
      standAt p2.atName
      let (f, first) ← holding [ov] (getMethod ov "__init__" pl)
      callWith p4 f first (backTo p4 (starEach [.Constant (.str tx) kk p3] env)) []))
    (hbind : ∀ (kV doc pm : Value) (an : Option Addr) (cdv ct : Value) (cl : List (Str × Addr)), Bx (PySem.W.fnX "__init__" q args (supBody p0 p1 p2 p3 p4 p5 p6 p7 p8 p9 kk tx f x) sc cl .none kV doc pm an cdv ct)) :
    ∃ fd, Bx fd ∧ FnOk P w K mg base CX (k + 1) fI fd ["self", x] (spSup K C f) := by
  obtain ⟨oc, od, kV, doc, pm, an, cda, ct, osl, cc, cl, cld, csl, ccl, cdd, vs, ccs, file, tf, lk, hcd, hcell, hcode, hvs, hfile⟩ := S.fn
  refine ⟨PySem.W.fnX "__init__" q args (supBody p0 p1 p2 p3 p4 p5 p6 p7 p8 p9 kk tx f x) sc [("__class__", cc)] .none kV doc pm an (.ref cda) ct, hbind _ _ _ _ _ _ _, ⟨fun vs H Q E h => ?_, fun A outer s H as us vs' Q E hr e0 hb r hsp => ?_⟩⟩
  · obtain ⟨a, v, rfl, _⟩ := h
    rfl
  have hl : vs'.length = 2 := by obtain ⟨a, v, rfl, _⟩ := hsp; rfl
  have KB : ∀ b o, K.lookup b = some o → s.heap.get? b = some o ∧ H b = none := fun b o e => e0.bs b o (e0.mod.kin b o e)
  have KX : K.In s.heap := fun b o e => (KB b o e).1
  have lim : s.heap.NoLimit := e0.mod.nolimit.keeps fun b o e => (e0.bs b o e).1
  let F : NF := ⟨"__init__", q, args, supBody p0 p1 p2 p3 p4 p5 p6 p7 p8 p9 kk tx f x, sc, [("__class__", cc)], cda⟩
  have hl2 : us.length = 2 := by rw [← r.length]; exact hl
  refine ks_codeAny_call_defAt hr.depth (KX _ _ lk) rfl lim (PySem.W.codeRec_of KX hcd) rfl hb NS.nocell (fun ⟨n, _⟩ hy => NS.par n (List.of_mem_zip hy).1) (fun h₁ hns kp => ?_) NS.co NS.gen NS.kind
  have one : ∀ {y : Str} {c : Addr}, F.cl.lookup y = some c → y = "__class__" ∧ c = cc := fun {y c} e => by
    have e : (match (y == ("__class__" : Str)) with | true => some cc | false => none) = some c := e
    cases hy : (y == ("__class__" : Str)) with
    | true => rw [hy] at e; exact ⟨beq_iff_eq.mp hy, (Option.some.inj e).symm⟩
    | false => rw [hy] at e; cases e
  have CA : CellsAt F.cl ["__class__"] [none] s.heap H := by
    refine ⟨rfl, fun y c e => ?_, fun x y c e1 e2 => (one e1).1.trans (one e2).1.symm, fun i y e => ?_⟩
    · obtain ⟨rfl, rfl⟩ := one e
      exact ⟨(KB _ _ hcell).2, _, ⟨_, (KB _ _ hcell).1, rfl⟩⟩
    · cases i with
      | zero =>
        cases (show (some ("__class__" : Str)) = some y from e)
        exact ⟨cc, rfl, fun v e => by cases (show (some none : Option (Option V)) = some (some v) from e)⟩
      | succ i => cases (show (none : Option Str) = some y from by simpa using e)
  have I : Inv (ncx CX P w K mg base ["self", x, "__class__"] F fI A outer s H E) [] (startF ["self", x, "__class__"] vs' [none]) H { s with heap := h₁, toks := s.toks + (([("self" : Str), x]).zip us).length } := inv_startN NS hr.hd e0 hl r CA hns kp
  obtain ⟨a, v, rfl, ha, hq⟩ := hsp
  obtain ⟨u0, u1, rfl⟩ : ∃ u0 u1, us = [u0, u1] := match us, hl2 with | [u0, u1], _ => ⟨u0, u1, rfl⟩
  obtain rfl : u0 = .ref a := by cases r with | cons r1 _ => exact r1
  obtain ⟨env, henv⟩ : ∃ env, env = envF F fI s.heap.objs.size := ⟨_, rfl⟩
  have goal : _root_.PySem.wpAt (model P w) (A.deeper env) (.func F.body env) (execs F.body env) (fun f s' => CR CX outer P w H s Q E (.ok (.ret (match f with | .ret v => v | _ => .none))) s')
      (fun e s' => wpAny (model P w) (A.deeper env) (leaving env e) (fun _ s'' => CR CX outer P w H s Q E (.error e) s'') (fun e' s'' => CR CX outer P w H s Q E (.error e') s'') s') { s with heap := h₁, toks := s.toks + (([("self" : Str), x]).zip [Value.ref a, u1]).length } := by
    have hk : env.scope.kind = .function := by rw [henv]; exact NS.kind
    have hin : interactive env = false := by unfold interactive; rw [hk]; rfl
    obtain ⟨pl, he⟩ := hev env
    refine ks_wpAt_execs_cons (ks_wpAt_Expr_any (ks_wpAt_MethodCall (pl := pl) ?_ he) hin ?_)
    · obtain ⟨ar, har1, har2⟩ := har
      have nd2 : ([("self" : Str), x] : List Str).Nodup := by
        have h := NS.nd
        have h2 : ([("self" : Str), x] ++ [("__class__" : Str)]).Nodup := h
        exact (List.nodup_append.mp h2).1
      have m0 : (([("self" : Str), x]).zip [Value.ref a, u1]).reverse.lookup ("self" : Str) = some (.ref a) := zip_look nd2 (i := 0) rfl rfl
      obtain ⟨nm, qC, NC, bs, bm, sn, sub, ab, col, dd, k0, k1, k2, k3, k5, hC, hbm⟩ := S.T.cls
      have hcl : PySem.W.clsIn K C = some { name := nm, bases := bs, mro := .ref C :: bm, ns := NC, qualname := qC, hasDict := true, slotNames := sn, subclasses := sub, abstract := ab, collection := col, hasDel := false } := by unfold PySem.W.clsIn; rw [hC] <;> rfl
      have KX1 : K.In h₁ := KX.keeps kp
      obtain ⟨t1, hoe⟩ := exo_at e0.hok ha
      have hoe1 := kp _ _ hoe
      obtain ⟨mb, hb1, hb2⟩ := e0.mod.blt
      have kB : ∀ b o, base.get? b = some o → h₁.get? b = some o := fun b o e => kp _ _ (e0.bs b o e).1
      refine ks_wpAt_super_base (cc := cda) (f := fI) (ar := ar) (by rw [henv]; exact hks) (by rw [henv]; exact NS.frk _ (by simp)) (by decide) (by rw [henv]) (kp _ _ (KX _ _ lk)) rfl har1 (by rw [henv]) (kp _ _ (KX _ _ hcode)) rfl hvs hfile S.top ?_
      refine PySem.W.ks_loadName_global hk (by rw [henv]; exact hks) (Calls.loadGlobal_builtin (mg := mg) (mb := mb) (by rw [henv]; exact e0.mod.glob.keeps kB) (PySem.W.mg_none_of e0.mod.kin e0.mod.glob S.sup) (by rw [henv]; exact hb1.keeps kB) ((hb2 "super" (by decide)).trans (by kernel_rfl)) ⟨rfl, ?_⟩)
      refine wpAny_loadName_free hk (by rw [henv]; exact NS.frk _ (by simp)) (by rw [henv]; rfl) ⟨_, KX1 _ _ hcell, rfl⟩ ?_
      rw [har2]
      refine wpAny_loadName_local hk (by rw [henv]; exact NS.par _ (by simp)) (by rw [henv]; exact hns) m0 ?_
      refine ks_wpAny_isType_cls (KX1 _ _ hC) rfl ⟨rfl, ?_⟩
      refine ks_wpAny_call_super (KX1 _ _ hC) rfl hoe1 rfl (fun c z => by cases z) (PySem.W.looks_mroIn KX1 S.hS) (fun h2 e2 k2 => ?_)
      have KX2 : K.In h2 := KX1.keeps k2
      have I2 : PySem.W.InstAt h2 a _ C none := ⟨k2 _ _ hoe1, rfl, rfl, trivial⟩
      have hm := S.hm
      unfold PySem.W.ks_superIn at hm
      rw [hcl] at hm
      refine PySem.W.kxs_getMethod PySem.W.kxs_ValueError e2 (PySem.W.looks_opaque KX2 S.opq) (l₀ := .ref C :: bm) (fun A Q E s k q => wpAny_bind ((PySem.W.looks_clsIn KX2 hcl) A _ E s k (wpAny_pure q))) rfl KX2 hm (I2.type.andThen (PySem.W.looks_subIn KX2 S.hB)) (PySem.W.ks_ne KX2 I2 hcl) (by decide) ?_
      -- the wrapper stands
      obtain ⟨u, hu⟩ : ∃ u, u = h2.objs.size := ⟨_, rfl⟩
      have k3 : ∀ b o, h₁.get? b = some o → (h2.push (PySem.W.kxs_mw "ValueError.__init__" a)).get? b = some o := fun b o e => Heap.get?_push_of_some _ (k2 _ _ e)
      have eu : (h2.push (PySem.W.kxs_mw "ValueError.__init__" a)).get? u = some (PySem.W.kxs_mw "ValueError.__init__" a) := by rw [hu]; exact Heap.get?_push_size _ rfl
      have lu : h₁.objs.size ≤ u := by
        rw [hu]
        refine Nat.le_of_not_lt fun z => ?_
        obtain ⟨oS, hS⟩ : ∃ oS, h2.get? h₁.objs.size = some oS := ⟨_, e2⟩
        exact absurd (Heap.lt_size hS) (Nat.not_lt.mpr (Nat.le_of_lt z))
      have I3 : Inv (ncx CX P w K mg base ["self", x, "__class__"] F fI A outer s H E) [] (startF ["self", x, "__class__"] [.ref a, v] [none]) H { s with heap := h2.push (PySem.W.kxs_mw "ValueError.__init__" a), toks := s.toks + (([("self" : Str), x]).zip [Value.ref a, u1]).length + 1 } := I.kept (t' := s.toks + (([("self" : Str), x]).zip [Value.ref a, u1]).length + 1) k3
      have I4 : Inv (ncx CX P w K mg base ["self", x, "__class__"] F fI A outer s H E) [(u, PySem.W.kxs_mw "ValueError.__init__" a)] (startF ["self", x, "__class__"] [.ref a, v] [none]) H { s with heap := h2.push (PySem.W.kxs_mw "ValueError.__init__" a), toks := s.toks + (([("self" : Str), x]).zip [Value.ref a, u1]).length + 1 } := I3.pins_of fun p hp => by
        rw [List.mem_singleton.mp hp]
        exact ⟨eu, I.hok.fresh lu, fun z => by
          have := I.lt
          rw [← z] at this
          exact absurd (Nat.lt_of_lt_of_le this lu) (Nat.lt_irrefl _), I.nofs lu, fun v z => by cases z⟩
      rw [← hu]
      show wpAny (model P w) (A.deeper env) (callWith p4 (.ref u) [] (backTo p4 (starEach [.Constant (.str tx) kk p3] env)) []) _ _ _
      refine PySem.W.kxs_callWith1 (i := "ValueError.__init__") (x := a) (h₀ := h₁) (L := s.heap.objs.size) (news := [(u, PySem.W.kxs_mw "ValueError.__init__" a)]) (fun p hp => ?_) (by simp) ?_ (by rfl) (by rfl)
      · rw [List.mem_singleton.mp hp]
        refine ⟨eu, fun z => ?_, ?_⟩
        · have z : u = s.heap.objs.size := z
          have := I.lt
          have this : s.heap.objs.size < h₁.objs.size := this
          omega
        · show h₁.get? u = none
          cases e : h₁.get? u with
          | none => rfl
          | some o => exact absurd (Heap.lt_size e) (Nat.not_lt.mpr lu)
      rw [henv]
      refine thn ((pa_cons (X := ncx CX P w K mg base ["self", x, "__class__"] F fI A outer s H E) (pe_str (x := tx)) pa_nil).run p4 [(u, PySem.W.kxs_mw "ValueError.__init__" a)] _ _ H (fun vs H' => vs = [.str tx] ∧ H' = H) I4 ⟨rfl, rfl⟩) fun us s5 hAP => ?_
      obtain ⟨vs5, H5, I5, r5, rfl, rfl⟩ := hAP
      have hu5 := (I5.pin (u, PySem.W.kxs_mw "ValueError.__init__" a) (List.mem_append_right _ List.mem_cons_self)).1
      obtain ⟨t5, he5⟩ := exo_at I5.hok ha
      have hz5 : us.length ≤ sizeLine := by rw [← r5.length]; show 1 ≤ sizeLine; decide
      obtain ⟨h5, g5, d5, tk5, os5⟩ := s5
      refine ⟨hu5, call_mw (I5.kIn _ _ hC) he5 hu5 hz5 fun h6 k6 e6 => ?_⟩
      have J := I5.write (t' := tk5) (x := a) (e := a) (o := exo a C none) (by rw [ha]; exact True.intro) (.inl rfl) k6 ⟨_, e6⟩ (exo_ok e6)
      have eH : upd H5 a (exo a C none) = H5 := by
        funext b
        by_cases hb : b = a
        · rw [hb, upd_same, ha]
        · rw [upd_ne hb]
      rw [eH] at J
      have J2 := J.pins_of (pins' := []) fun p hp => absurd hp (by simp)
      refine wpAt_of_wpAny (wpAny_mono ((pss_one (ps_ost (X := ncx CX P w K mg base ["self", x, "__class__"] F fI A outer s H5 E) (pv 0 rfl (.inl (NS.par _ (by simp)))) (pv 1 rfl (.inl (NS.par _ (by simp))) hx1 hx2))).run [] _ _ H5 { nx := fun _ H' => Q .non H', rt := Q } J2 ?_) (fun fl s' hs => ?_) fun e s' z => z)
      · exact ⟨v, rfl, .ref a, rfl, a, C, rfl, S.T, hno, .inl ⟨ha, fun dx n ne => hq dx n ne⟩⟩
      · have fin : ∀ {σ' : L2.St} {H' : Hp} {v : V} {u : Value}, Inv (ncx CX P w K mg base ["self", x, "__class__"] F fI A outer s H5 E) [] σ' H' s' → L2.RelV v u → Q v H' → CE outer P w H5 s Q u s' :=
          fun {σ' H' v u} J rv q => ⟨v, H', J.os, J.bare, J.base, J.hok, rv, q⟩
        cases fl with
        | ret u =>
          obtain ⟨v, σ', H', J, rv, q⟩ := hs
          exact fin J rv q
        | next =>
          obtain ⟨σ', H', J, q⟩ := hs
          exact fin (v := V.non) (u := Value.none) J rfl q
        | brk =>
          obtain ⟨_, _, _, q⟩ := hs
          exact False.elim q
        | cont =>
          obtain ⟨_, _, _, q⟩ := hs
          exact False.elim q
    · rfl
  rw [henv] at goal
  exact goal
end L3

set_option Elab.async false
set_option linter.all false
set_option maxRecDepth 100000
set_option maxHeartbeats 2000000
namespace L3
open PySem PySem.Spec PyProof.Rows L2
/-! own exceptions raised, caught, asked for their field -/
/-- an own exception class x of the module, its instances made with one thing, kept as field f -/
structure Rai (P : Program) (w : World) (K : PySem.W.Frag) (mg : Str → Option Value) (base : Heap) (k : Nat) (x : Str) (C : Addr) (f : Str) : Prop where
  T : OexC K C
  gl : mg x = some (.ref C)
  ini : ∃ (fI : Addr) (fd : FuncData) (p : Str), PySem.W.findIn K (.ref C) "__init__" = some (some (.ref fI)) ∧ PySem.W.typeIn K (.ref fI) = some (.type "function") ∧ FnOk P w K mg base CX0 k fI fd ["self", p] (spSup K C f) ∧ Binds K fd ["self", p] []
end L3

set_option Elab.async false
set_option linter.all false
set_option maxRecDepth 100000
set_option maxHeartbeats 2000000
namespace L3
open PySem PySem.Spec PyProof.Rows L2
/-! what the head must see of an own exception class, as a Boolean -/
def oexM (C : Addr) (cd : ClassData) : List Value → List (Option Value) → Bool
  | .ref C' :: bm, [_, _, _, _, some (.builtin n), _] => decide (C' = C) && (decide (n = "ValueError.__new__") && (cd.hasDict && (!cd.hasDel && PySem.HandSPX.refsVE bm)))
  | _, _ => false
def oexB (K : PySem.W.Frag) (C : Addr) : Bool := match K.lookup C with
  | some ⟨.type c, _, .cls cd, sl⟩ => decide (c = "type") && oexM C cd cd.mro sl.toList
  | _ => false
theorem oexM_ok {C : Addr} {cd : ClassData} {mro : List Value} {sl : List (Option Value)} (h : oexM C cd mro sl = true) : ∃ bm k0 k1 k2 k3 k5, mro = .ref C :: bm ∧ sl = [k0, k1, k2, k3, some (.builtin "ValueError.__new__"), k5] ∧ cd.hasDict = true ∧ cd.hasDel = false ∧ PySem.HandSPX.refsVE bm = true := by
  unfold oexM at h
  split at h
  · rename_i C' bm a0 a1 a2 a3 n a5
    obtain ⟨g1, h2⟩ := He.ba h
    obtain ⟨g2, h2⟩ := He.ba h2
    obtain ⟨g3, h2⟩ := He.ba h2
    obtain ⟨g4, g5⟩ := He.ba h2
    cases of_decide_eq_true g1
    cases of_decide_eq_true g2
    exact ⟨_, _, _, _, _, _, rfl, rfl, g3, by simpa using g4, g5⟩
  · cases h
theorem oexB_ok {K : PySem.W.Frag} {C : Addr} (h : oexB K C = true) : ∃ nm q N bs bm sn sub ab col dd k0 k1 k2 k3 k5, K.lookup C = some (excClassObj nm q C N bs bm true sn sub ab col dd k0 k1 k2 k3 k5 "ValueError.__new__") ∧ PySem.HandSPX.refsVE bm = true := by
  unfold oexB at h
  cases e : K.lookup C with
  | none => rw [e] at h; cases h
  | some o =>
    obtain ⟨oc, od, dt, ⟨sl⟩⟩ := o
    rw [e] at h
    cases oc with
    | type c =>
      cases dt with
      | cls cd =>
        obtain ⟨h1, h2⟩ := He.ba (show (decide (c = "type") && oexM C cd cd.mro sl) = true from h)
        cases of_decide_eq_true h1
        obtain ⟨bm, a0, a1, a2, a3, a5, e1, rfl, e3, e4, g5⟩ := oexM_ok h2
        obtain ⟨nm, bs, mro, ns, qn, hd, sn, sb, ab, col, del⟩ := cd
        dsimp only at e1 e3 e4
        subst e1 e3 e4
        exact ⟨nm, qn, ns, bs, bm, sn, sb, ab, col, od, a0, a1, a2, a3, a5, rfl, g5⟩
      | _ => cases h
    | _ => cases dt <;> cases h
/-- the words of the __init__ at fI -/
abbrev FnC : Type := Option (Str × Str × Arguments × FuncBody × Scope × Addr × List Str × Addr)
def fnC (K : PySem.W.Frag) (x : Str) : FnC := match K.lookup (He.ma K (He.ga K x) "__init__") with
  | some ⟨_, _, .func fd, _⟩ => some (fd.name, fd.qualname, fd.params, fd.body, fd.scope, fd.globals, fd.closure.map (·.1), fd.builtins)
  | _ => none
def fnCv (q : Str) (st : Stmt) : FnC := some ("__init__", q, defArgs st, .stmts (defBody st), defScope st, mainGlobals, ["__class__"], builtinsNs)
/-- its cell, its code, its defaults -/
def cellB (K : PySem.W.Frag) (C : Addr) : List (Str × Addr) → Bool
  | [(_, cc)] => (match K.lookup cc with
    | some ⟨_, _, .cell (some (.ref D)), _⟩ => decide (D = C)
    | _ => false)
  | _ => false
def fileB (P : Program) (K : PySem.W.Frag) : Value → Bool
  | .ref cda => (match K.lookup cda with
    | some ⟨_, _, .fields vs, _⟩ => (match (vs[2]? : Option Value) with
      | some (.str file _) => (P.main.file : Str) == file
      | _ => false)
    | _ => false)
  | _ => false
def noneB : Value → Bool
  | .none => true
  | _ => false
def restB (P : Program) (K : PySem.W.Frag) (x q : Str) : Bool := match K.lookup (He.ma K (He.ga K x) "__init__") with
  | some ⟨_, _, .func fd, _⟩ => PySem.W.codeIn K fd.code q && (fileB P K fd.code && (cellB K (He.ga K x) fd.closure && noneB fd.defaults))
  | _ => false
theorem cellB_ok {K : PySem.W.Frag} {C : Addr} {cl : List (Str × Addr)} (h : cellB K C cl = true) (e : cl.map (·.1) = [("__class__" : Str)]) : ∃ cc oc od osl, cl = [(("__class__" : Str), cc)] ∧ K.lookup cc = some ⟨oc, od, .cell (some (.ref C)), osl⟩ := by
  match cl, h, e with
  | [(n, cc)], h, e =>
    obtain rfl : n = "__class__" := by simpa using e
    have h : (match K.lookup cc with
      | some ⟨_, _, .cell (some (.ref D)), _⟩ => decide (D = C)
      | _ => false) = true := h
    split at h
    · rename_i oc od D osl hl
      cases of_decide_eq_true h
      exact ⟨cc, oc, od, osl, rfl, hl⟩
    · cases h
theorem fileB_ok {P : Program} {K : PySem.W.Frag} {v : Value} (h : fileB P K v = true) : ∃ cda ccl cdd vs ccs file tf, v = .ref cda ∧ K.lookup cda = some ⟨ccl, cdd, .fields vs, ccs⟩ ∧ vs[2]? = some (.str file tf) ∧ ((P.main.file : Str) == file) = true := by
  cases v with
  | ref cda =>
    have h : (match K.lookup cda with
      | some ⟨_, _, .fields vs, _⟩ => (match (vs[2]? : Option Value) with
        | some (.str file _) => (P.main.file : Str) == file
        | _ => false)
      | _ => false) = true := h
    split at h
    · rename_i ccl cdd vs ccs hl
      split at h
      · rename_i file tf hv
        exact ⟨cda, ccl, cdd, vs, ccs, file, tf, rfl, hl, hv, h⟩
      · cases h
    · cases h
  | _ => cases h
/-- all else of the class -/
def supB (P : Program) (K : PySem.W.Frag) (x q f : Str) : Bool :=
  oexB K (He.ga K x) && (decide (PySem.W.findIn K (.ref (He.ga K x)) "__setattr__" = some (some (.builtin "object.__setattr__"))) && (decide (PySem.W.subIn K (.ref (He.ga K x)) (.type "BaseException") = some true) && (decide (PySem.W.typeIn K (.ref (He.ga K x)) = some (.type "type")) &&
  (PySem.W.keepIn K (.ref (He.ga K x)) && (decide (PySem.W.nsIn K mainGlobals "super" = some none) && (decide (PySem.W.nsIn K cStatics "thirdparty.any" = some none) && (decide (PySem.W.ks_superIn K (He.ga K x) (He.ga K x) "__init__" = some (some (.builtin "ValueError.__init__"))) &&
  (decide (PySem.W.subIn K (.ref (He.ga K x)) (.type "ValueError") = some true) && (decide (PySem.W.mroIn K (He.ga K x) (.ref (He.ga K x)) = some true) && (decide (PySem.W.findIn K (.ref (He.ga K x)) "__init__" = some (some (.ref (He.ma K (He.ga K x) "__init__")))) &&
  (decide (PySem.W.typeIn K (.ref (He.ma K (He.ga K x) "__init__")) = some (.type "function")) && (decide (PySem.W.findIn K (.ref (He.ga K x)) f = some none) && (xfB K (He.ga K x) && restB P K x q)))))))))))))
structure SupF (P : Program) (K : PySem.W.Frag) (x q f : Str) (st : Stmt) : Prop where
  S : SupC P K (He.ga K x) (He.ma K (He.ga K x) "__init__") q (defArgs st) (defBody st) (defScope st)
  xf : XfC K (He.ga K x)
  ini : PySem.W.findIn K (.ref (He.ga K x)) "__init__" = some (some (.ref (He.ma K (He.ga K x) "__init__")))
  ty : PySem.W.typeIn K (.ref (He.ma K (He.ga K x) "__init__")) = some (.type "function")
  no : PySem.W.findIn K (.ref (He.ga K x)) f = some none
theorem supB_ok {P : Program} {K : PySem.W.Frag} {x q f : Str} {st : Stmt} (h : supB P K x q f = true) (e : fnC K x = fnCv q st) (top : (P.main.scope.names.lookup ("super" : Str)).isSome = false) : SupF P K x q f st := by
  obtain ⟨a1, h⟩ := He.ba h
  obtain ⟨a2, h⟩ := He.ba h
  obtain ⟨a3, h⟩ := He.ba h
  obtain ⟨a4, h⟩ := He.ba h
  obtain ⟨a5, h⟩ := He.ba h
  obtain ⟨a6, h⟩ := He.ba h
  obtain ⟨a7, h⟩ := He.ba h
  obtain ⟨a8, h⟩ := He.ba h
  obtain ⟨a9, h⟩ := He.ba h
  obtain ⟨b1, h⟩ := He.ba h
  obtain ⟨b2, h⟩ := He.ba h
  obtain ⟨b3, h⟩ := He.ba h
  obtain ⟨b4, h⟩ := He.ba h
  obtain ⟨b5, b6⟩ := He.ba h
  refine ⟨⟨⟨oexB_ok a1, of_decide_eq_true a2, of_decide_eq_true a3, of_decide_eq_true a4, a5⟩, ?_, of_decide_eq_true a6, of_decide_eq_true a7, of_decide_eq_true a8, of_decide_eq_true a9, of_decide_eq_true b1, top⟩, xfB_ok b5, of_decide_eq_true b2, of_decide_eq_true b3, of_decide_eq_true b4⟩
  unfold restB at b6
  unfold fnC at e
  cases hl : K.lookup (He.ma K (He.ga K x) "__init__") with
  | none => rw [hl] at b6; cases b6
  | some o =>
    obtain ⟨oc, od, dt, osl⟩ := o
    rw [hl] at b6 e
    cases dt with
    | func fd =>
      obtain ⟨n1, n2, n3, n4, n5, n6, n7, n8, n9, n10, n11, n12, n13, n14, n15⟩ := fd
      have e2 : (some (n1, n2, n3, n4, n5, n6, n7.map (·.1), n15) : FnC) = fnCv q st := e
      unfold fnCv at e2
      simp only [Option.some.injEq, Prod.mk.injEq] at e2
      obtain ⟨h1, h2, h3, h4, h5, h6, h7, h8⟩ := e2
      subst h1 h2 h3 h4 h5 h6 h8
      obtain ⟨c1, d2⟩ := He.ba (show (PySem.W.codeIn K n13 n2 && (fileB P K n13 && (cellB K (He.ga K x) n7 && noneB n8))) = true from b6)
      obtain ⟨c2, d3⟩ := He.ba d2
      obtain ⟨c3, c4⟩ := He.ba d3
      obtain ⟨cc, cl, cld, csl, rfl, hcell⟩ := cellB_ok c3 h7
      obtain ⟨cda, ccl, cdd, vs, ccs, file, tf, rfl, hcode, hvs, hfile⟩ := fileB_ok c2
      obtain rfl : n8 = .none := by cases n8 <;> first | rfl | cases c4
      exact ⟨_, _, _, _, _, _, cda, _, _, cc, cl, cld, csl, ccl, cdd, vs, ccs, file, tf, rfl, c1, hcell, hcode, hvs, hfile⟩
    | _ => cases b6
end L3

set_option Elab.async false
set_option linter.all false
set_option maxRecDepth 100000
set_option maxHeartbeats 1000000
namespace L3
open PySem PySem.Spec PyProof.Rows L2
/-! ~o by an own __invert__, o <= p by an own __le__, o op p by an own method of both's class -/
section
end
/-! dicts with tuple keys, locked -/
def DtF : Rl (List (List Str)) := fun ks M v => ∃ a o, v = .ref a ∧ M a = some (.frz o (.dT (ent ks)))
instance : Mon DtF := ⟨fun e ⟨a, o, h, r⟩ => ⟨a, o, h, e _ _ r⟩⟩
section
end
end L3

set_option Elab.async false
set_option linter.all false
set_option maxRecDepth 100000
set_option maxHeartbeats 1000000
namespace L3
open PySem PySem.Spec PyProof.Rows L2 LamX
open Strm
/-! a lambda handed to a def of the law, behind the stream -/
/-- a def whose code object stands at c -/
def FunC (K : PySem.W.Frag) (x qual : Str) (st : Stmt) (fd : FuncData) (f c : Addr) : Prop := ∃ (oc : Value) (od : Option Addr) (kV doc pm : Value) (an : Option Addr) (ct : Value) (osl : Array (Option Value)),
  fd = PySem.W.fnOf x qual (defArgs st) (defBody st) (defScope st) .none kV doc pm an (.ref c) ct ∧ K.lookup f = some ⟨oc, od, .func (PySem.W.fnOf x qual (defArgs st) (defBody st) (defScope st) .none kV doc pm an (.ref c) ct), osl⟩ ∧ PySem.W.codeIn K (.ref c) qual = true
/-- a def keeps its promise where no repr is under way; its code object is known -/
theorem fun_okGC {P : Program} {w : World} {K : PySem.W.Frag} {mg : Str → Option Value} {base : Heap} {x qual : Str} {st : Stmt} {f c : Addr} {fd : FuncData} {N ps : List Str} {k : Nat} {sp : Sp} (F : FunC K x qual st fd f c) (S : FnScope N ps (defScope st))
    (ar : ∀ vs H Q E, sp vs H Q E → vs.length = ps.length) (hb : ∀ (A : Around) (outer : List Env) (s : Shared) (H : Hp) (vs : List V) (Q : VK) (E : XK), A.guards = some [] → Room k (A.deeper (envOfC qual (defScope st) s.heap.objs.size f (.ref c))) → sp vs H Q E →
      ∃ t, PSs (cxOf CX0 P w K mg base N qual (defScope st) f (.ref c) A outer s H E).nox (defBody st) t ∧ t { nx := fun _ H' => Q .non H', rt := Q } (start N vs) H) :
    FnG P w K mg base CX0 (k + 1) f fd ps sp where
  len := ar
  run A outer s H args us vs Q E hgu hr e0 hbi rv hsp := by
    have ⟨c1, c2, c3, c4, c5, c6, c7, c8, efd, lk, hcd⟩ := F
    subst efd
    have grown : ∀ b o, base.get? b = some o → s.heap.get? b = some o := fun b o e => (e0.bs b o e).1
    have inK := e0.mod.kin.keeps grown
    apply codeAny_call_function hr.depth (inK _ _ lk) rfl S.co S.gen rfl (PySem.W.codeRec_of inK hcd)
    apply hbi
    refine wpAny_newFunctionEnv_cells S.kind (fun ⟨n, v⟩ hy => ?_) fun env he s1 new => ?_
    · rcases S.par n (List.of_mem_zip hy).1 with q | q
      · exact .inl q
      · exact .inr ⟨q, PySem.W.cellsFrom_some _ _ _ (.inl q)⟩
    subst he
    have ⟨t, pt, q⟩ := hb A outer s H vs Q E hgu (hr.deeper _) hsp
    have I0 := inv_start (CX := CX0) (E := E) S hr.hd e0 (ar _ _ _ _ hsp) rv new
    refine ⟨(e0.mod.nolimit.keeps grown).keeps new.toInCall.keep, codeAny_func (wpAny_mono (pt.nox.run [] s1 _ H _ I0 q) ?_ fun _ _ z => z)⟩
    rintro (_ | _ | _ | u) s2 h2
    · have ⟨_, _, J, z⟩ := h2
      exact ⟨V.non, _, J.os, J.bare, J.base, J.hok, rfl, z⟩
    · exact h2.elim fun _ h => h.elim fun _ h => h.2.elim
    · exact h2.elim fun _ h => h.elim fun _ h => h.2.elim
    · have ⟨v, _, _, J, ru, z⟩ := h2
      exact ⟨v, _, J.os, J.bare, J.base, J.hok, ru, z⟩
section
variable {S : Strm} {H H' M M' : Hp} {j k : Nat} {Pt : Addr} {q : Str} {σ : Sl} {P : Pr}
theorem Strm.At.ext (h : S.At k H) (e : ExtN H H') : S.At k H' := let ⟨c, x, n, m, h1, h2, h3⟩ := h.ex; ⟨h.ne, c, x, n, m, e _ _ h1 (fun _ z => by cases z), e _ _ h2 (fun _ z => by cases z), h3⟩
/-- the state of a law with a table of code objects -/
structure LS (S : Strm) (Pt : Addr) (q : Str) (M H : Hp) (k : Nat) : Prop where
  mh : Same M (S.cut H)
  at_ : S.At k H
  tb : TabS H Pt q
  mp : M Pt = none
  nt : ∀ a ps, M a ≠ some (.tbl ps)
theorem LS.le (L : LS S Pt q M H k) (e : j ≤ k) : LS S Pt q M H j := ⟨L.mh, L.at_.le e, L.tb, L.mp, L.nt⟩
theorem LS.step (L : LS S Pt q M H k) (g : Gr M (S.cut H) M' (S.cut H')) (a : S.At j H') : LS S Pt q M' H' j := by
  have kp : ∀ x o, H x = some o → (∀ vs, o ≠ HO.lst vs) → S.cut H x = some o ∧ H' x = some o := fun x o e n => by
    have no : ¬ S.off x := fun z => by
      obtain ⟨vs, hv⟩ := L.at_.at_ z
      rw [hv] at e
      exact n vs (Option.some.inj e).symm
    have e1 : S.cut H x = some o := by rw [cut_on no]; exact e
    exact ⟨e1, of_cut (g.hh x o e1)⟩
  obtain ⟨ps, hP, ok, h3⟩ := L.tb
  have h1 := kp Pt _ hP (fun _ z => by cases z)
  refine ⟨g.mh, a, ⟨ps, h1.2, ok, fun pos cv hc => ?_⟩, g.keep L.mp h1.1, fun x qs e => L.nt x qs (g.nt x qs e)⟩
  obtain ⟨c, e1, e2⟩ := h3 pos cv hc
  exact ⟨c, e1, (kp c _ e2 (fun _ z => by unfold CodeO at z; cases z)).2⟩
/-- a step that leaves all as it is -/
theorem LS.idle (L : LS S Pt q M H k) (hh : Same H H') : LS S Pt q M H' k := by
  have m1 : Same M (S.cut H') := fun x o e => by
    have h1 := L.mh x o e
    rw [cut_on (on_of h1)]
    exact hh _ _ (of_cut h1)
  exact ⟨m1, L.at_.same hh, L.tb.ext hh, L.mp, L.nt⟩
theorem LS.put (L : LS S Pt q M H k) {p : Addr} {o : HO} {vs : List V} (hp : S.cut H p = some (.lst vs)) (hm : M p = none) : LS S Pt q M (upd H p o) k := by
  have no : ¬ S.off p := on_of hp
  have hp' := of_cut hp
  obtain ⟨ps, hP, ok, h3⟩ := L.tb
  have n1 : Pt ≠ p := fun z => by rw [z, hp'] at hP; cases hP
  refine ⟨by rw [cut_upd no]; exact same_mut L.mh hm, L.at_.upd no, ⟨ps, by rw [upd_ne n1]; exact hP, ok, fun pos cv hc => ?_⟩, L.mp, L.nt⟩
  obtain ⟨c, e1, e2⟩ := h3 pos cv hc
  have n2 : c ≠ p := fun z => by rw [z, hp'] at e2; unfold CodeO at e2; cases e2
  exact ⟨c, e1, by rw [upd_ne n2]; exact e2⟩
end
end L3

set_option Elab.async false
set_option linter.all false
set_option maxRecDepth 100000
set_option maxHeartbeats 1000000
namespace L3
open PySem PySem.Spec PyProof.Rows L2
/-! data among which an empty dict may stand -/
/-- data, or an empty dict -/
def DdF (K : PySem.W.Frag) : Rl PyData := fun d M v => Dd K d M v ∨ (d = .dict [] ∧ ∃ a, v = .ref a ∧ M a = some (.dK []))
/-- .. or a list of such -/
def DdE (K : PySem.W.Frag) : Rl PyData := fun d M v => DdF K d M v ∨ ∃ a ds vs, d = .list ds ∧ v = .ref a ∧ SqL K M a vs ∧ Pd (DdF K) M ds vs
instance {K : PySem.W.Frag} : Mon (DdF K) := ⟨fun e h => h.elim (fun h => .inl (dp_mono e h)) fun ⟨h1, a, h2, h3⟩ => .inr ⟨h1, a, h2, e _ _ h3⟩⟩
instance {K : PySem.W.Frag} : Mon (DdE K) := ⟨fun e h => h.elim (fun h => .inl (Mon.mono e h)) fun ⟨a, ds, vs, h1, h2, h3, h4⟩ => .inr ⟨a, ds, vs, h1, h2, sl_mono e h3, h4.mono e⟩⟩
section
end
end L3

set_option Elab.async false
set_option linter.all false
set_option maxRecDepth 100000
set_option maxHeartbeats 1000000
namespace L3
open PySem PySem.Spec PyProof.Rows L2
/-! a written dict of three texts, locked at the return: it can be walked -/
section
end
section
end
end L3
namespace L3
open PySem PySem.Spec PyProof.Rows L2 LamX
open Strm
end L3

set_option Elab.async false
set_option linter.all false
set_option maxRecDepth 100000
set_option maxHeartbeats 1000000
namespace L3
open PySem PySem.Spec PyProof.Rows L2 LamX
/-! the law's own end, a table of code objects at Pt tracked from the start, empty -/
section
end
end L3

set_option Elab.async false
set_option linter.all false
set_option maxRecDepth 100000
set_option maxHeartbeats 1000000
namespace L3
open PySem PySem.Spec PyProof.Rows L2
/-! a quiet def (one that raises nothing and walks no range) called while an exception is handled -/
structure FnQ (P : Program) (w : World) (K : PySem.W.Frag) (mg : Str → Option Value) (base : Heap) (k : Nat) (f : Addr) (fd : FuncData) (ps : List Str) (sp : Sp) : Prop where
  len (vs : List V) (H : Hp) (Q : VK) (E : XK) : sp vs H Q E → vs.length = ps.length
  run : ∀ (A : Around) (outer : List Env) (s : Shared) (H : Hp) (args : Args) (us : List Value) (vs : List V) (Q : VK) (E : XK) (p : Addr × Obj), A.guards = some [] → L2H.RoomH k A → L2H.PinOk outer H s p →
    Env0 P w K mg base A outer s H → BindsTo s fd args (ps.zip us) → Vals vs us → sp vs H Q E → codeAny (model P w) A (.call (.ref f) args) (CR CX0 outer P w H s Q E) s
section
end
end L3

set_option Elab.async false
set_option linter.all false
set_option maxRecDepth 100000
set_option maxHeartbeats 1000000
namespace L3
open PySem PySem.Spec PyProof.Rows L2 MeetsSeq
open AutoSeq1 (wpAny_loadPart')
/-! an empty dict beside texts: not in a tuple of texts; repr of (text, thing) -/
section
end
/-- a tuple of a text and a thing -/
def TxF (K : PySem.W.Frag) : Rl (Str × PyData) := fun t M v => ∃ p w, v = .ref p ∧ M p = some (.tup [.str t.1, w]) ∧ DdF K t.2 M w
instance {K : PySem.W.Frag} : Mon (TxF K) := ⟨fun e ⟨p, w, h1, h2, h3⟩ => ⟨p, w, h1, e _ _ h2, Mon.mono e h3⟩⟩
section
end
end L3

set_option Elab.async false
set_option linter.all false
set_option maxRecDepth 100000
set_option maxHeartbeats 1000000
namespace L3
open PySem PySem.Spec PyProof.Rows L2 SeqAt
/-! data at any depth, among which empty dicts may stand anywhere -/
mutual
inductive Dx (K : PySem.W.Frag) (M : Hp) : V → PyData → Prop
  | non : Dx K M .non .none
  | bl (b : Bool) : Dx K M (.bl b) (.bool b)
  | int (i : Int) : Dx K M (.int i) (.int i)
  | str (x : Str) : Dx K M (.str x) (.str x)
  | dct {a : Addr} : M a = some (.dK []) → Dx K M (.ref a) (.dict [])
  | lst {a : Addr} {xs : List V} {ds : List PyData} : SqL K M a xs → DxAll K M xs ds → Dx K M (.ref a) (.list ds)
  | tup {a : Addr} {xs : List V} {ds : List PyData} : SqT K M a xs → DxAll K M xs ds → Dx K M (.ref a) (.tuple ds)
inductive DxAll (K : PySem.W.Frag) (M : Hp) : List V → List PyData → Prop
  | nil : DxAll K M [] []
  | cons {v : V} {vs : List V} {d : PyData} {ds : List PyData} : Dx K M v d → DxAll K M vs ds → DxAll K M (v :: vs) (d :: ds)
end
mutual
theorem dx_mono {K : PySem.W.Frag} {M M' : Hp} (e : Same M M') : ∀ {v : V} {d : PyData}, Dx K M v d → Dx K M' v d
  | _, _, .non => .non
  | _, _, .bl b => .bl b
  | _, _, .int i => .int i
  | _, _, .str x => .str x
  | _, _, .dct h => .dct (e _ _ h)
  | _, _, .lst hs ha => .lst (sl_mono e hs) (dxa_mono e ha)
  | _, _, .tup hs ha => .tup (st_mono e hs) (dxa_mono e ha)
theorem dxa_mono {K : PySem.W.Frag} {M M' : Hp} (e : Same M M') : ∀ {vs : List V} {ds : List PyData}, DxAll K M vs ds → DxAll K M' vs ds
  | _, _, .nil => .nil
  | _, _, .cons h t => .cons (dx_mono e h) (dxa_mono e t)
end
mutual
theorem dx_of {K : PySem.W.Frag} {M : Hp} : ∀ {v : V} {d : PyData}, Dp K M v d → Dx K M v d
  | _, _, .non => .non
  | _, _, .bl b => .bl b
  | _, _, .int i => .int i
  | _, _, .str x => .str x
  | _, _, .lst hs ha => .lst hs (dxa_of ha)
  | _, _, .tup hs ha => .tup hs (dxa_of ha)
theorem dxa_of {K : PySem.W.Frag} {M : Hp} : ∀ {vs : List V} {ds : List PyData}, DpAll K M vs ds → DxAll K M vs ds
  | _, _, .nil => .nil
  | _, _, .cons h t => .cons (dx_of h) (dxa_of t)
end
abbrev DxR (K : PySem.W.Frag) : Rl PyData := fun d M v => Dx K M v d
instance {K : PySem.W.Frag} : Mon (DxR K) := ⟨fun e h => dx_mono e h⟩
section
end
section
end
section
end
end L3

set_option Elab.async false
set_option linter.all false
set_option maxRecDepth 100000
set_option maxHeartbeats 1000000
namespace L3
open PySem PySem.Spec PyProof.Rows L2 LamX
/-! the law's own end, several tables of code objects tracked from the start, empty (C39 for more than one) -/
def scrTs (K : PySem.W.Frag) (a : Addr) (vs : List Value) (xs : List V) (Pt : List Addr) : Hp := fun b => if b ∈ Pt then some (.tbl #[]) else scrH K a vs xs b
section
variable {K : PySem.W.Frag} {a b : Addr} {Pt : List Addr} {vs : List Value} {xs : List V}
theorem scrTs_at (n : b ∈ Pt) : scrTs K a vs xs Pt b = some (.tbl #[]) := if_pos n
theorem scrTs_off (n : b ∉ Pt) : scrTs K a vs xs Pt b = scrH K a vs xs b := if_neg n
/-- what is known at the start: all but the table -/
theorem start_laws {H : Hp} {ns : List Int} (hP : ∀ b ∈ Pt, H b = some (.tbl #[])) (hs : SqL K H a (ns.map V.int)) (only : ∀ b qs, H b = some (.tbl qs) → b ∈ Pt) : ∃ M : Hp, L2.Same M H ∧ SqR K It' ns M (.ref a) ∧ (∀ b ∈ Pt, M b = none) ∧ ∀ b qs, M b ≠ some (.tbl qs) := by
  refine ⟨fun b => if b ∈ Pt then none else H b, fun b o e => ?_, ?_, fun b n => if_pos n, fun b qs e => ?_⟩
  · have e : (if b ∈ Pt then none else H b) = some o := e
    by_cases n : b ∈ Pt
    · rw [if_pos n] at e; cases e
    · rw [if_neg n] at e; exact e
  · have at_a : ∀ o, H a = some o → (∀ qs, o ≠ .tbl qs) → (fun b => if b ∈ Pt then none else H b) a = some o := fun o e no => by
      have n : a ∉ Pt := fun z => by rw [hP a z] at e; exact no _ (Option.some.inj e).symm
      show (if a ∈ Pt then none else H a) = some o
      rw [if_neg n]; exact e
    refine .inl ⟨a, _, rfl, ?_, pd_of_it ns⟩
    rcases hs with (h | ⟨o, h⟩) | h
    · exact .inl (.inl (at_a _ h (by intro qs z; cases z)))
    · exact .inl (.inr ⟨o, at_a _ h (by intro qs z; cases z)⟩)
    · exact .inr h
  · have e : (if b ∈ Pt then none else H b) = some (.tbl qs) := e
    by_cases n : b ∈ Pt
    · rw [if_pos n] at e; cases e
    · rw [if_neg n] at e; exact n (only b qs e)
end
theorem walk_GTs {l : PySem.W.OpenLaw} {n k : Nat} {q : Program} {loose : List Str} {XP : (Str → Option Value) → Heap → Prop} {YP : World → Heap → Prop} {d : DefRec} {sp : PySem.W.Frag → List (Addr × Addr) → Sp} {x : Str} (hn : l.most = some n) (hn2 : n ≤ sizeLine) (hdf : d.params.defaults = [])
    (hr : Room k callerA) (F : ∀ (w : World) (mg : Str → Option Value) (fa : Addr) (h : Heap), YP w h → h.Ns mainGlobals mg → mg d.name = some (.ref fa) → ∃ (K : PySem.W.Frag) (fd : FuncData) (cs : List (Addr × Addr)), K.In h ∧ (∀ p ∈ cs, PySem.W.codeHdIn K p.1 p.2 = true ∧ K.lookup p.2 = none ∧ h.get? p.2 = some { cls := .none, data := .fields #[] }) ∧
      (∀ (s : Shared) (u : Value), BindsTo s fd ⟨[u], []⟩ [(x, u)]) ∧ ∀ base : Heap, K.In base → base.Ns mainGlobals mg → (∀ p ∈ cs, TabB base mg p.1 p.2) → FnG l.prog w K mg base CX0 k fa fd [x] (sp K cs))
    (hsp : ∀ (K : PySem.W.Frag) (cs : List (Addr × Addr)) (H : Hp) (a : Addr) (ns : List Int), ns.length ≤ n → (∀ z ∈ ns, Builtin.Int.intBits z ≤ 1048576) → (∀ p ∈ cs, H p.2 = some (.tbl #[])) → SqL K H a (ns.map V.int) → (∀ b qs, H b = some (.tbl qs) → b ∈ cs.map (·.2)) → sp K cs [.ref a] H (fun v _ => v = .bl true) fun _ _ _ => False) : PySem.W.WalkO q loose XP YP l.row.toRowW d [] (fun f vs => PySem.call f vs) := by
  apply Att.attach_callB hn hdf
  intro w s0 s mg mb fa o pm cd doc a vs ns G Y ho hd hcd hmg hobj hints hlen hbits hgens
  obtain ⟨K, fd, cs, KX, hall, bind, hF⟩ := F w mg fa _ Y G.T.g hmg
  have isP : ∀ {b : Addr}, b ∈ cs.map (·.2) → ∃ p ∈ cs, p.2 = b := fun h => List.mem_map.mp h
  have hPK : ∀ b ∈ cs.map (·.2), K.lookup b = none := fun b h => by obtain ⟨p, hp, e⟩ := isP h; rw [← e]; exact (hall p hp).2.1
  have hPt : ∀ b ∈ cs.map (·.2), s.heap.get? b = some { cls := .none, data := .fields #[] } := fun b h => by obtain ⟨p, hp, e⟩ := isP h; rw [← e]; exact (hall p hp).2.2
  have memP : ∀ p ∈ cs, p.2 ∈ cs.map (·.2) := fun p hp => List.mem_map_of_mem hp
  generalize eP : cs.map (·.2) = Pt at *
  have rv := vals_ints hints
  have hz : (ns.map V.int).length ≤ sizeLine := by rw [List.length_map]; exact Nat.le_trans hlen hn2
  have hobj : s.heap.get? a = some (scrO vs) := hobj
  have aP : a ∉ Pt := fun z => by
    have hPt := hPt a z
    rw [hobj] at hPt
    cases (show Data.seq vs.toArray _ = Data.fields #[] from congrArg Obj.data (Option.some.inj hPt))
  -- what stands in s and is neither the table nor the script is seen
  have free : ∀ {b : Addr} {ob : Obj}, s.heap.get? b = some ob → ob ≠ { cls := .none, data := .fields #[] } → (scrH K a vs (ns.map V.int) b = none) → (hidT s.heap (scrTs K a vs (ns.map V.int) Pt)).get? b = some ob := fun {b ob} e h1 h2 => hidT_get e (by
    have nb : b ∉ Pt := fun z => by rw [hPt b z] at e; exact h1 (Option.some.inj e).symm
    rw [scrTs_off nb]; exact h2)
  have noscr : ∀ {b : Addr} {ob : Obj}, s.heap.get? b = some ob → (∀ its m, ob.data ≠ .seq its m) → scrH K a vs (ns.map V.int) b = none := fun {b ob} e h1 => by
    cases z : scrH K a vs (ns.map V.int) b with
    | none => rfl
    | some u =>
      rw [(scrH_some z).1, hobj] at e
      cases e
      exact (h1 _ _ rfl).elim
  have KB : K.In (hidT s.heap (scrTs K a vs (ns.map V.int) Pt)) := fun b ob e => hidT_get (KX b ob e) (by
    have nb : b ∉ Pt := fun z => by rw [hPK b z] at e; cases e
    rw [scrTs_off nb]
    cases z : scrH K a vs (ns.map V.int) b with
    | none => rfl
    | some u =>
      have z2 := scrH_some z
      rw [z2.1, z2.2.1] at e
      cases e)
  have NS : ∀ b m, s.heap.Ns b m → (hidT s.heap (scrTs K a vs (ns.map V.int) Pt)).Ns b m := fun b m ⟨ob, es, ep, e, dd, r⟩ => ⟨ob, es, ep, free e (fun z => by rw [z] at dd; cases dd) (noscr e fun its m z => by rw [dd] at z; cases z), dd, r⟩
  have hok : HOk l.prog w (scrTs K a vs (ns.map V.int) Pt) s.heap := fun b u e => by
    by_cases nb : b ∈ Pt
    · rw [scrTs_at nb] at e
      cases e
      exact hPt b nb
    · rw [scrTs_off nb] at e
      obtain ⟨e1, _, e3⟩ := scrH_some e
      subst e1 e3
      exact ⟨hobj, hz, vs, _, rv, hobj⟩
  have gP : mainGlobals ∉ Pt := fun z => by
    obtain ⟨ob, es, ep, e, dd, _⟩ := G.T.g
    rw [hPt _ z] at e
    cases e
    cases dd
  have bm : ∀ P1 ∈ Pt, (hidT s.heap (scrTs K a vs (ns.map V.int) Pt)).BuiltinsAt mg P1 := fun P1 hP1 => by
    obtain ⟨bm, ob, b1, b2, b3, b4, b5, b6⟩ := G.T.bmain
    refine ⟨bm, ob, b1, b2, fun z => ?_, fun z => ?_, free b3 (fun z => by rw [z] at b6; cases b6) (noscr b3 fun its m z => by rw [b6] at z; cases z), b4, b5, b6⟩
    · obtain ⟨o2, es, ep, e, dd, _⟩ := G.T.g
      rw [← z, b3] at e
      cases e
      rw [b6] at dd
      cases dd
    · rw [z, hPt P1 hP1] at b3
      cases b3
      cases b6
  have ⟨mc, l1, l2⟩ := G.T.nolimit
  have env : Env0 l.prog w K mg (hidT s.heap (scrTs K a vs (ns.map V.int) Pt)) callerA [] s (scrTs K a vs (ns.map V.int) Pt) :=
    ⟨rfl, ⟨KB, NS _ _ G.T.g, ⟨mb, NS _ _ G.T.b, G.T.builtins⟩, ⟨mc, NS _ _ l1, l2⟩⟩, fun b o e => of_hidT e, Nat.le_of_eq (hidT_size _ _), trivial, nofun, hok, .of_eq hgens⟩
  have sq : SqL K (scrTs K a vs (ns.map V.int) Pt) a (ns.map V.int) := sl_mono (fun b u e => by
    have nb : b ∉ Pt := fun z => aP ((scrH_some e).1 ▸ z)
    rw [scrTs_off nb]; exact e) (scrH_sq KX hobj rv hz)
  have only : ∀ b qs, scrTs K a vs (ns.map V.int) Pt b = some (.tbl qs) → b ∈ Pt := fun b qs e => by
    by_cases nb : b ∈ Pt
    · exact nb
    · rw [scrTs_off nb] at e
      cases (scrH_some e).2.2
  refine codeAny_mono ((hF _ KB (NS _ _ G.T.g) (fun p hp => ⟨PySem.W.codeHd_of_K KB (hall p hp).1, bm _ (memP p hp), fun z => gP (z ▸ memP p hp)⟩)).run callerA [] s _ ⟨[.ref a], []⟩ [.ref a] [.ref a] _ _ rfl hr env (bind _ _) (.cons rfl .nil) (hsp _ _ _ a ns hlen hbits (fun p hp => scrTs_at (memP p hp)) sq (by rw [eP]; exact only))) ?_
  intro r s1 h
  match r, h with
  | .ok (.ret u), h =>
    have ⟨v, H1, os, bare, un, hok1, ru, ev⟩ := h
    have e1 : v = .bl true := ev
    subst e1
    cases (show u = Value.bool true from ru)
    have grown : ∀ P1 ∈ Pt, ∃ more, s1.heap.get? P1 = some { cls := .none, data := .fields more } := fun P1 hP1 => by
      obtain ⟨more, hm⟩ := un.tbls P1 #[] (scrTs_at hP1)
      have z := hok1 P1 _ hm
      rw [Array.empty_append] at z
      exact ⟨more, z⟩
    have kept : ∀ b ob, b ∉ Pt → s.heap.get? b = some ob → s1.heap.get? b = some ob := fun b ob nb e => by
      cases z : scrTs K a vs (ns.map V.int) Pt b with
      | none => exact un.keep b ob e z nofun nofun
      | some y =>
        have z0 := z
        rw [scrTs_off nb] at z0
        have hy := scrH_some z0
        rw [hy.2.2] at z
        have now := (hok1 b _ (un.frzs b _ _ z)).1
        rw [hy.1, hobj] at e
        cases e
        exact now
    refine ⟨rfl, ⟨fun b ob e => ?_, fun b ob e => ?_⟩, os, bare⟩
    · by_cases nb : b ∈ Pt
      · have hb := hPt b nb
        rw [hb] at e
        cases e
        obtain ⟨more, gr⟩ := grown b nb
        obtain ⟨p, hp, ep⟩ := isP nb
        subst ep
        exact .inr (.inl ⟨((PySem.W.codeHd_of_K KX (hall p hp).1).tab hb).isCodeTable, rfl, #[], more, rfl, by rw [Array.empty_append]; exact gr⟩)
      · exact .inl (kept b ob nb e)
    · by_cases nb : b ∈ Pt
      · exact ⟨_, (grown b nb).choose_spec⟩
      · exact ⟨ob, kept b ob nb e⟩
end L3

set_option Elab.async false
set_option linter.all false
set_option maxRecDepth 100000
set_option maxHeartbeats 2000000
namespace L3
open PySem PySem.Spec PyProof.Rows PySem.Calls L2 NdefX
/-! own exceptions with two fields: super().__init__('..'), self.f = x, self.g = y -/
abbrev supBody2 (p0 p1 p2 p3 p4 p5 p6 p7 p8 p9 r6 r7 r8 r9 : Pos) (k : Nat) (tx : Str) (f x g y : Str) : List Stmt :=
  [.Expr (.Call (.Attribute (.Call (.Name "super" p0) [] [] p1) "__init__" p2) [.Constant (.str tx) k p3] [] p4) p5, .Assign [.Attribute (.Name "self" p6) f p7] (.Name x p8) p9, .Assign [.Attribute (.Name "self" r6) g r7] (.Name y r8) r9]
def spSup2 (K : PySem.W.Frag) (C : Addr) (f g : Str) : Sp := fun vs H Q _ => ∃ a v u, vs = [.ref a, v, u] ∧ H a = some (exo a C none) ∧ ∀ dx, H dx = none → dx ≠ a → Q .non (upd (upd H dx (exd dx [(g, u), (f, v)])) a (exo a C (some dx)))
/-- FnOk of such an __init__ with two fields -/
theorem sup_ok2B {Bx : FuncData → Prop} {CX : CXT} {P : Program} {w : World} {K : PySem.W.Frag} {mg : Str → Option Value} {base : Heap} {k : Nat} {C fI : Addr} {q : Str} {args : Arguments} {sc : Scope} {p0 p1 p2 p3 p4 p5 p6 p7 p8 p9 r6 r7 r8 r9 : Pos} {kk : Nat} {tx f x g y : Str}
    (S : SupC P K C fI q args (supBody2 p0 p1 p2 p3 p4 p5 p6 p7 p8 p9 r6 r7 r8 r9 kk tx f x g y) sc) (hno : PySem.W.findIn K (.ref C) f = some none) (hno2 : PySem.W.findIn K (.ref C) g = some none) (hx1 : (x == ("__debug__" : Str)) = false) (hx2 : (x == ("__classdict__" : Str)) = false) (hy1 : (y == ("__debug__" : Str)) = false) (hy2 : (y == ("__classdict__" : Str)) = false) (NS : NScope ["self", x, y, "__class__"] ["self", x, y] ["__class__"] sc) (hks : sc.names.lookup ("super" : Str) = some .globalImplicit)
    (har : ∃ ar : Arg, (args.posonlyargs ++ args.args).head? = some ar ∧ ar.arg = "self") (hev : ∀ env : Env, ∃ pl : Sem Bool, eval (.Call (.Attribute (.Call (.Name "super" p0) [] [] p1) "__init__" p2) [.Constant (.str tx) kk p3] [] p4) env = (do
      let ov ← attributeBase (.Call (.Name "super" p0) [] [] p1) "__init__" env (eval (.Call (.Name "super" p0) [] [] p1) env)
      standAt p2.atName
      let (f, first) ← holding [ov] (getMethod ov "__init__" pl)
      callWith p4 f first (backTo p4 (starEach [.Constant (.str tx) kk p3] env)) []))
    (hbind : ∀ (kV doc pm : Value) (an : Option Addr) (cdv ct : Value) (cl : List (Str × Addr)), Bx (PySem.W.fnX "__init__" q args (supBody2 p0 p1 p2 p3 p4 p5 p6 p7 p8 p9 r6 r7 r8 r9 kk tx f x g y) sc cl .none kV doc pm an cdv ct)) :
    ∃ fd, Bx fd ∧ FnOk P w K mg base CX (k + 1) fI fd ["self", x, y] (spSup2 K C f g) := by
  obtain ⟨oc, od, kV, doc, pm, an, cda, ct, osl, cc, cl, cld, csl, ccl, cdd, vs, ccs, file, tf, lk, hcd, hcell, hcode, hvs, hfile⟩ := S.fn
  refine ⟨PySem.W.fnX "__init__" q args (supBody2 p0 p1 p2 p3 p4 p5 p6 p7 p8 p9 r6 r7 r8 r9 kk tx f x g y) sc [("__class__", cc)] .none kV doc pm an (.ref cda) ct, hbind _ _ _ _ _ _ _, ⟨fun vs H Q E h => ?_, fun A outer s H as us vs' Q E hr e0 hb r hsp => ?_⟩⟩
  · obtain ⟨a, v, v2, rfl, _⟩ := h
    rfl
  have hl : vs'.length = 3 := by obtain ⟨a, v, v2, rfl, _⟩ := hsp; rfl
  have KB : ∀ b o, K.lookup b = some o → s.heap.get? b = some o ∧ H b = none := fun b o e => e0.bs b o (e0.mod.kin b o e)
  have KX : K.In s.heap := fun b o e => (KB b o e).1
  have lim : s.heap.NoLimit := e0.mod.nolimit.keeps fun b o e => (e0.bs b o e).1
  let F : NF := ⟨"__init__", q, args, supBody2 p0 p1 p2 p3 p4 p5 p6 p7 p8 p9 r6 r7 r8 r9 kk tx f x g y, sc, [("__class__", cc)], cda⟩
  have hl2 : us.length = 3 := by rw [← r.length]; exact hl
  refine ks_codeAny_call_defAt hr.depth (KX _ _ lk) rfl lim (PySem.W.codeRec_of KX hcd) rfl hb NS.nocell (fun ⟨n, _⟩ hy => NS.par n (List.of_mem_zip hy).1) (fun h₁ hns kp => ?_) NS.co NS.gen NS.kind
  have one : ∀ {y : Str} {c : Addr}, F.cl.lookup y = some c → y = "__class__" ∧ c = cc := fun {y c} e => by
    have e : (match (y == ("__class__" : Str)) with | true => some cc | false => none) = some c := e
    cases hy : (y == ("__class__" : Str)) with
    | true => rw [hy] at e; exact ⟨beq_iff_eq.mp hy, (Option.some.inj e).symm⟩
    | false => rw [hy] at e; cases e
  have CA : CellsAt F.cl ["__class__"] [none] s.heap H := by
    refine ⟨rfl, fun y c e => ?_, fun x y c e1 e2 => (one e1).1.trans (one e2).1.symm, fun i y e => ?_⟩
    · obtain ⟨rfl, rfl⟩ := one e
      exact ⟨(KB _ _ hcell).2, _, ⟨_, (KB _ _ hcell).1, rfl⟩⟩
    · cases i with
      | zero =>
        cases (show (some ("__class__" : Str)) = some y from e)
        exact ⟨cc, rfl, fun v e => by cases (show (some none : Option (Option V)) = some (some v) from e)⟩
      | succ i => cases (show (none : Option Str) = some y from by simpa using e)
  have I : Inv (ncx CX P w K mg base ["self", x, y, "__class__"] F fI A outer s H E) [] (startF ["self", x, y, "__class__"] vs' [none]) H { s with heap := h₁, toks := s.toks + (([("self" : Str), x, y]).zip us).length } := inv_startN NS hr.hd e0 hl r CA hns kp
  obtain ⟨a, v, v2, rfl, ha, hq⟩ := hsp
  obtain ⟨u0, u1, u2, rfl⟩ : ∃ u0 u1 u2, us = [u0, u1, u2] := match us, hl2 with | [u0, u1, u2], _ => ⟨u0, u1, u2, rfl⟩
  obtain rfl : u0 = .ref a := by cases r with | cons r1 _ => exact r1
  obtain ⟨env, henv⟩ : ∃ env, env = envF F fI s.heap.objs.size := ⟨_, rfl⟩
  have goal : _root_.PySem.wpAt (model P w) (A.deeper env) (.func F.body env) (execs F.body env) (fun f s' => CR CX outer P w H s Q E (.ok (.ret (match f with | .ret v => v | _ => .none))) s')
      (fun e s' => wpAny (model P w) (A.deeper env) (leaving env e) (fun _ s'' => CR CX outer P w H s Q E (.error e) s'') (fun e' s'' => CR CX outer P w H s Q E (.error e') s'') s') { s with heap := h₁, toks := s.toks + (([("self" : Str), x, y]).zip [Value.ref a, u1, u2]).length } := by
    have hk : env.scope.kind = .function := by rw [henv]; exact NS.kind
    have hin : interactive env = false := by unfold interactive; rw [hk]; rfl
    obtain ⟨pl, he⟩ := hev env
    refine ks_wpAt_execs_cons (ks_wpAt_Expr_any (ks_wpAt_MethodCall (pl := pl) ?_ he) hin ?_)
    · obtain ⟨ar, har1, har2⟩ := har
      have nd2 : ([("self" : Str), x, y] : List Str).Nodup := by
        have h := NS.nd
        have h2 : ([("self" : Str), x, y] ++ [("__class__" : Str)]).Nodup := h
        exact (List.nodup_append.mp h2).1
      have m0 : (([("self" : Str), x, y]).zip [Value.ref a, u1, u2]).reverse.lookup ("self" : Str) = some (.ref a) := zip_look nd2 (i := 0) rfl rfl
      obtain ⟨nm, qC, NC, bs, bm, sn, sub, ab, col, dd, k0, k1, k2, k3, k5, hC, hbm⟩ := S.T.cls
      have hcl : PySem.W.clsIn K C = some { name := nm, bases := bs, mro := .ref C :: bm, ns := NC, qualname := qC, hasDict := true, slotNames := sn, subclasses := sub, abstract := ab, collection := col, hasDel := false } := by unfold PySem.W.clsIn; rw [hC] <;> rfl
      have KX1 : K.In h₁ := KX.keeps kp
      obtain ⟨t1, hoe⟩ := exo_at e0.hok ha
      have hoe1 := kp _ _ hoe
      obtain ⟨mb, hb1, hb2⟩ := e0.mod.blt
      have kB : ∀ b o, base.get? b = some o → h₁.get? b = some o := fun b o e => kp _ _ (e0.bs b o e).1
      refine ks_wpAt_super_base (cc := cda) (f := fI) (ar := ar) (by rw [henv]; exact hks) (by rw [henv]; exact NS.frk _ (by simp)) (by decide) (by rw [henv]) (kp _ _ (KX _ _ lk)) rfl har1 (by rw [henv]) (kp _ _ (KX _ _ hcode)) rfl hvs hfile S.top ?_
      refine PySem.W.ks_loadName_global hk (by rw [henv]; exact hks) (Calls.loadGlobal_builtin (mg := mg) (mb := mb) (by rw [henv]; exact e0.mod.glob.keeps kB) (PySem.W.mg_none_of e0.mod.kin e0.mod.glob S.sup) (by rw [henv]; exact hb1.keeps kB) ((hb2 "super" (by decide)).trans (by kernel_rfl)) ⟨rfl, ?_⟩)
      refine wpAny_loadName_free hk (by rw [henv]; exact NS.frk _ (by simp)) (by rw [henv]; rfl) ⟨_, KX1 _ _ hcell, rfl⟩ ?_
      rw [har2]
      refine wpAny_loadName_local hk (by rw [henv]; exact NS.par _ (by simp)) (by rw [henv]; exact hns) m0 ?_
      refine ks_wpAny_isType_cls (KX1 _ _ hC) rfl ⟨rfl, ?_⟩
      refine ks_wpAny_call_super (KX1 _ _ hC) rfl hoe1 rfl (fun c z => by cases z) (PySem.W.looks_mroIn KX1 S.hS) (fun h2 e2 k2 => ?_)
      have KX2 : K.In h2 := KX1.keeps k2
      have I2 : PySem.W.InstAt h2 a _ C none := ⟨k2 _ _ hoe1, rfl, rfl, trivial⟩
      have hm := S.hm
      unfold PySem.W.ks_superIn at hm
      rw [hcl] at hm
      refine PySem.W.kxs_getMethod PySem.W.kxs_ValueError e2 (PySem.W.looks_opaque KX2 S.opq) (l₀ := .ref C :: bm) (fun A Q E s k q => wpAny_bind ((PySem.W.looks_clsIn KX2 hcl) A _ E s k (wpAny_pure q))) rfl KX2 hm (I2.type.andThen (PySem.W.looks_subIn KX2 S.hB)) (PySem.W.ks_ne KX2 I2 hcl) (by decide) ?_
      -- the wrapper stands
      obtain ⟨u, hu⟩ : ∃ u, u = h2.objs.size := ⟨_, rfl⟩
      have k3 : ∀ b o, h₁.get? b = some o → (h2.push (PySem.W.kxs_mw "ValueError.__init__" a)).get? b = some o := fun b o e => Heap.get?_push_of_some _ (k2 _ _ e)
      have eu : (h2.push (PySem.W.kxs_mw "ValueError.__init__" a)).get? u = some (PySem.W.kxs_mw "ValueError.__init__" a) := by rw [hu]; exact Heap.get?_push_size _ rfl
      have lu : h₁.objs.size ≤ u := by
        rw [hu]
        refine Nat.le_of_not_lt fun z => ?_
        obtain ⟨oS, hS⟩ : ∃ oS, h2.get? h₁.objs.size = some oS := ⟨_, e2⟩
        exact absurd (Heap.lt_size hS) (Nat.not_lt.mpr (Nat.le_of_lt z))
      have I3 : Inv (ncx CX P w K mg base ["self", x, y, "__class__"] F fI A outer s H E) [] (startF ["self", x, y, "__class__"] [.ref a, v, v2] [none]) H { s with heap := h2.push (PySem.W.kxs_mw "ValueError.__init__" a), toks := s.toks + (([("self" : Str), x, y]).zip [Value.ref a, u1, u2]).length + 1 } := I.kept (t' := s.toks + (([("self" : Str), x, y]).zip [Value.ref a, u1, u2]).length + 1) k3
      have I4 : Inv (ncx CX P w K mg base ["self", x, y, "__class__"] F fI A outer s H E) [(u, PySem.W.kxs_mw "ValueError.__init__" a)] (startF ["self", x, y, "__class__"] [.ref a, v, v2] [none]) H { s with heap := h2.push (PySem.W.kxs_mw "ValueError.__init__" a), toks := s.toks + (([("self" : Str), x, y]).zip [Value.ref a, u1, u2]).length + 1 } := I3.pins_of fun p hp => by
        rw [List.mem_singleton.mp hp]
        exact ⟨eu, I.hok.fresh lu, fun z => by
          have := I.lt
          rw [← z] at this
          exact absurd (Nat.lt_of_lt_of_le this lu) (Nat.lt_irrefl _), I.nofs lu, fun v z => by cases z⟩
      rw [← hu]
      show wpAny (model P w) (A.deeper env) (callWith p4 (.ref u) [] (backTo p4 (starEach [.Constant (.str tx) kk p3] env)) []) _ _ _
      refine PySem.W.kxs_callWith1 (i := "ValueError.__init__") (x := a) (h₀ := h₁) (L := s.heap.objs.size) (news := [(u, PySem.W.kxs_mw "ValueError.__init__" a)]) (fun p hp => ?_) (by simp) ?_ (by rfl) (by rfl)
      · rw [List.mem_singleton.mp hp]
        refine ⟨eu, fun z => ?_, ?_⟩
        · have z : u = s.heap.objs.size := z
          have := I.lt
          have this : s.heap.objs.size < h₁.objs.size := this
          omega
        · show h₁.get? u = none
          cases e : h₁.get? u with
          | none => rfl
          | some o => exact absurd (Heap.lt_size e) (Nat.not_lt.mpr lu)
      rw [henv]
      refine thn ((pa_cons (X := ncx CX P w K mg base ["self", x, y, "__class__"] F fI A outer s H E) (pe_str (x := tx)) pa_nil).run p4 [(u, PySem.W.kxs_mw "ValueError.__init__" a)] _ _ H (fun vs H' => vs = [.str tx] ∧ H' = H) I4 ⟨rfl, rfl⟩) fun us s5 hAP => ?_
      obtain ⟨vs5, H5, I5, r5, rfl, rfl⟩ := hAP
      have hu5 := (I5.pin (u, PySem.W.kxs_mw "ValueError.__init__" a) (List.mem_append_right _ List.mem_cons_self)).1
      obtain ⟨t5, he5⟩ := exo_at I5.hok ha
      have hz5 : us.length ≤ sizeLine := by rw [← r5.length]; show 1 ≤ sizeLine; decide
      obtain ⟨h5, g5, d5, tk5, os5⟩ := s5
      refine ⟨hu5, call_mw (I5.kIn _ _ hC) he5 hu5 hz5 fun h6 k6 e6 => ?_⟩
      have J := I5.write (t' := tk5) (x := a) (e := a) (o := exo a C none) (by rw [ha]; exact True.intro) (.inl rfl) k6 ⟨_, e6⟩ (exo_ok e6)
      have eH : upd H5 a (exo a C none) = H5 := by
        funext b
        by_cases hb : b = a
        · rw [hb, upd_same, ha]
        · rw [upd_ne hb]
      rw [eH] at J
      have J2 := J.pins_of (pins' := []) fun p hp => absurd hp (by simp)
      refine wpAt_of_wpAny (wpAny_mono ((pss_cons (ps_ost (X := ncx CX P w K mg base ["self", x, y, "__class__"] F fI A outer s H5 E) (pv 0 rfl (.inl (NS.par _ (by simp)))) (pv 1 rfl (.inl (NS.par _ (by simp))) hx1 hx2)) (pss_one (ps_ost (X := ncx CX P w K mg base ["self", x, y, "__class__"] F fI A outer s H5 E) (pv 0 rfl (.inl (NS.par _ (by simp)))) (pv 2 rfl (.inl (NS.par _ (by simp))) hy1 hy2)))).run [] _ _ H5 { nx := fun _ H' => Q .non H', rt := Q } J2 ?_) (fun fl s' hs => ?_) fun e s' z => z)
      · refine ⟨v, rfl, .ref a, rfl, a, C, rfl, S.T, hno, .inl ⟨ha, fun dx n ne => ?_⟩⟩
        refine ⟨v2, rfl, .ref a, rfl, a, C, rfl, S.T, hno2, .inr ⟨dx, [(f, v)], upd_same, ?_, (by show 1 ≤ 900; decide), ?_⟩⟩
        · rw [upd_ne ne]; exact upd_same
        · have e : upd (upd (upd H5 dx (exd dx [(f, v)])) a (exo a C (some dx))) dx (exd dx [(g, v2), (f, v)]) = upd (upd H5 dx (exd dx [(g, v2), (f, v)])) a (exo a C (some dx)) := by
            funext b
            by_cases hb : b = dx
            · rw [hb, upd_same, upd_ne ne, upd_same]
            · by_cases hb2 : b = a
              · rw [hb2, upd_ne (Ne.symm ne), upd_same, upd_same]
              · rw [upd_ne hb, upd_ne hb2, upd_ne hb, upd_ne hb2, upd_ne hb]
          rw [e]
          exact hq dx n ne
      · have fin : ∀ {σ' : L2.St} {H' : Hp} {v : V} {u : Value}, Inv (ncx CX P w K mg base ["self", x, y, "__class__"] F fI A outer s H5 E) [] σ' H' s' → L2.RelV v u → Q v H' → CE outer P w H5 s Q u s' :=
          fun {σ' H' v u} J rv q => ⟨v, H', J.os, J.bare, J.base, J.hok, rv, q⟩
        cases fl with
        | ret u =>
          obtain ⟨v, σ', H', J, rv, q⟩ := hs
          exact fin J rv q
        | next =>
          obtain ⟨σ', H', J, q⟩ := hs
          exact fin (v := V.non) (u := Value.none) J rfl q
        | brk =>
          obtain ⟨_, _, _, q⟩ := hs
          exact False.elim q
        | cont =>
          obtain ⟨_, _, _, q⟩ := hs
          exact False.elim q
    · rfl
  rw [henv] at goal
  exact goal
/-- an own exception class x of the module, its instances made with two things, kept as fields f and g -/
structure Rai2 (P : Program) (w : World) (K : PySem.W.Frag) (mg : Str → Option Value) (base : Heap) (k : Nat) (x : Str) (C : Addr) (f g : Str) : Prop where
  T : OexC K C
  gl : mg x = some (.ref C)
  ini : ∃ (fI : Addr) (fd : FuncData) (p q : Str), PySem.W.findIn K (.ref C) "__init__" = some (some (.ref fI)) ∧ PySem.W.typeIn K (.ref fI) = some (.type "function") ∧ FnOk P w K mg base CX0 k fI fd ["self", p, q] (spSup2 K C f g) ∧ Binds K fd ["self", p, q] []
end L3

set_option Elab.async false
set_option linter.all false
set_option maxRecDepth 100000
set_option maxHeartbeats 1000000
namespace L3
open PySem PySem.Spec PyProof.Rows L2 SeqAt
/-! list.count of data; a list of anything beside an empty list -/
def rCntD (K : PySem.W.Frag) : V → List V → Hp → VK → Prop := fun x xs H Q => ∃ (a : Addr) (y : V) (d : PyData) (ds : List PyData), x = V.ref a ∧ xs = [y] ∧ Dp K H (V.ref a) (.list ds) ∧ Dp K H y d ∧ d.depth ≤ 60 ∧ Q (.int ((ds.countP fun z => PyData.eqv z d : Nat) : Int)) H
section
variable {X : Cx}
theorem mt_cntD (hu : X.A.units + 64 < cLine) : MtR X "list.count" (rCntD X.K) := by
  intro pins s σ H x xs v us Q I rx rxs h
  obtain ⟨a, y, d, ds, rfl, rfl, hl, hy, hz, q⟩ := h
  cases rx
  obtain ⟨u, rfl, ru⟩ := rxs.one
  obtain ⟨bs, r1⟩ := Dp.reads I d y u hy ru
  have hp : PyData.plainAll ds = true := by simpa only [PyData.plain] using dp_plain hl
  cases hl with
  | lst hs ha =>
    obtain ⟨its, rv, ⟨⟨cls, dd, data, sls⟩, n, ho, hc, hdn, hdt⟩, hlen⟩ := I.list hs
    simp only at hc hdt
    subst hc hdt
    obtain ⟨as, h4⟩ := Dp.readsAll I ds _ its ha rv
    refine count_list_data (vs := its.toArray) ⟨_, ho, rfl, n, rfl⟩ h4 r1 hp (dp_plain hy) (by omega) ⟨.int _, H, I.tok _, ⟨s.toks, rfl⟩, q⟩
end
section
end
section
variable {K : PySem.W.Frag} {σ : Sl} {M : Hp} {te t1 t2 : TE}
/-- xs.count(x) -/
theorem gv_cntD {α : Type} {R : Rl α} {e : α → PyData} [DecidableEq α] [Mon R] {x : α} {xs : List α} (pe : PyR K R e) (ie : Inj e) (h1 : Gv t1 σ M (LiR R xs)) (h2 : Gv t2 σ M (R x)) (hz : (e x).depth ≤ 60) : Gv (tBM K "list" (rCntD K) t1 (tCons t2 tNil)) σ M (It' ((xs.count x : Nat) : Int)) := by
  intro H mh Q q
  refine h1 H mh _ fun v1 M1 H1 g1 ⟨a, vs, e1, ha, pd⟩ => ?_
  subst e1
  refine ⟨.inl ⟨rfl, vs, .inl (.inl (g1.mh _ _ ha))⟩, h2.le g1.mm H1 g1.mh _ fun v2 M2 H2 g2 p2 => ?_⟩
  have hl : Dp K M2 (.ref a) (.list (xs.map e)) := py_lst pe xs _ _ (LiR.lst (K := K) (show LiR R xs M2 (.ref a) from ⟨a, vs, rfl, g2.mm _ _ ha, pd.mono g2.mm⟩))
  refine ⟨a, v2, e x, xs.map e, rfl, rfl, dp_mono g2.mh hl, dp_mono g2.mh (pe _ _ _ p2), hz, ?_⟩
  have ec : (xs.map e).countP (fun z => PyData.eqv z (e x)) = xs.count x := by
    rw [List.countP_map]
    unfold List.count
    refine List.countP_congr fun y _ => ?_
    show PyData.eqv (e y) (e x) = true ↔ _
    rw [ie y x]
    simp
  rw [ec]
  exact q _ M2 H2 (g1.trans g2) rfl
end
end L3

set_option Elab.async false
set_option linter.all false
set_option maxRecDepth 100000
set_option maxHeartbeats 4000000
namespace L3
open PySem PySem.Spec PyProof.Rows PySem.Calls L2 PySem.HandSPX
/-! own exceptions as values: C(..), also by names -/
section
variable {prog : Program} {w : World} {A : Around} {R : Result → Shared → Prop} {h : Heap} {g : Array GenState} {d : Drawn} {t : Nat} {os : OsState}
variable {nm q : Str} {C N : Addr} {bs bm bmB : List Value} {hdct : Bool} {sn : List Str} {sub : List Value} {ab : Bool} {col : Option Bool} {dd : Option Addr} {k0 k1 k2 k3 k5 : Option Value} {B newId initId : String} {us : List Value} {kw : List (Str × Value)}
/-- the new exception laid, whatever the names; its __init__ comes next -/
theorem laid_kw (F : ExcBaseFacts B newId initId bmB) (hT : ∀ Y : String, bm.contains (.type Y) = bmB.contains (.type Y)) (hC : h.get? C = some (excClassObj nm q C N bs bm hdct sn sub ab col dd k0 k1 k2 k3 k5 newId)) (hz : us.length ≤ sizeLine)
    (z : R (.ok (.ret (.ref (h.objs.size + 1)))) ⟨(h.push (PySem.W.kdv_tup us)).push (excO C h.objs.size), g, d, t, os⟩) :
    (∀ (Q : Unit → Shared → Prop) (E : Value → Shared → Prop), Q () ⟨h, g, d, t, os⟩ → wpAny (model prog w) A (checkBuiltinCall newId ⟨.ref C :: us, kw⟩) Q E ⟨h, g, d, t, os⟩) ∧ codeAny (model prog w) A (.builtin newId ⟨.ref C :: us, kw⟩) R ⟨h, g, d, t, os⟩ := by
  have ends := F.ends
  have star := F.noStar
  have isA : ∀ Y : String, (Value.ref C :: bm).contains (.type Y) = bmB.contains (.type Y) := fun Y => by rw [List.contains_cons, hT]; rfl
  have inB := (isA B).trans F.hasB
  have outA := (isA "AttributeError").trans F.noAttr
  have outN := (isA "NameError").trans F.noName
  constructor
  · intro Q E y
    simp only [checkBuiltinCall, F.newKind, F.newSplit, F.newRow]
    repeat (first | refine wpAny_loadPart_at hC ?_ | (refine wpAny_isSubtype_exc hC ?_; rw [inB]) | refine wpAny_staticBase_exc hC ?_ | refine wpAny_madeBy_exc hC ?_ | simp only [bne_self_eq_false, Bool.false_eq_true, if_false] | wp_step)
    exact y
  · apply codeAny_builtinAt F.entry
    unfold Builtin.«BaseException.__new__»
    refine PySem.wpAt_bind ?_
    show PySem.wpAt _ _ _ (stack >>= _) _ _ _
    refine PySem.wpAt_bind (PySem.wpAt_stack fun p below => PySem.wpAt_of_wpAny ?_)
    wp_walk
    apply PySem.wpAt_of_wpAny
    rw [F.owner]
    repeat (first | with_reducible refine wpAny_madeHere_exc F.canon hC ?_ | with_reducible refine wpAny_loadPart_at hC ?_ | (with_reducible refine wpAny_isSubtype_exc hC ?_; first | rw [inB] | rw [outA] | rw [outN]) | wp_step)
    show R _ _
    rw [Heap.size_push]
    exact z
/-- C(.., k = v, ..) -/
theorem call_exc (F : ExcBaseFacts B newId initId bmB) (hT : ∀ Y : String, bm.contains (.type Y) = bmB.contains (.type Y)) (hC : h.get? C = some (excClassObj nm q C N bs bm hdct sn sub ab col dd k0 k1 k2 k3 k5 newId)) (hz : us.length ≤ sizeLine) {fI : Addr}
    (hi : PySem.W.Looks (model prog w) h (typeLookup (.ref C) "__init__") (some (.ref fI))) (hb : ∀ self, PySem.W.Looks (model prog w) h (bindSpecial (.ref fI) self) (.ref fI, [self]))
    (hq : codeAny (model prog w) (A.under (.builtin "type.__call__" ⟨.ref C :: us, kw⟩)) (.call (.ref fI) ⟨.ref (h.objs.size + 1) :: us, kw⟩) (PySem.W.InitBack (h.objs.size + 1) R) ⟨(h.push (PySem.W.kdv_tup us)).push (excO C h.objs.size), g, d, t, os⟩) :
    codeAny (model prog w) A (.call (.ref C) ⟨us, kw⟩) R ⟨h, g, d, t, os⟩ := by
  have f1 := tc_lookup
  have f2 := tc_bind (.ref C)
  have f3 := tc_sub
  have isTy : (⟨h, g, d, t, os⟩ : Shared).TypeIs (.ref C) "type" := ⟨_, hC, rfl⟩
  apply codeAny_of_tree
  show wpAny _ _ (callAny (.ref C) _) _ _ _
  repeat (any_goals (first | assumption | with_reducible refine wpAny_loadPart_at hC ?_ | wp_step))
  constructor
  · rfl
  have typ : PySem.W.Looks (model prog w) h (isInstance (.ref C) (.type "type")) true := ((PySem.W.Looks.ld hC).andThen .now).andThen (PySem.W.Looks.of_pure tc_sub)
  refine codeAny_call_builtin_at (Code.quiet_builtin _ (by decide +kernel)) entry_typeCall (PySem.W.check_slot tc_kind tc_split typ (PySem.W.tc_args _ _ _) ?_)
  have k : ∀ b o, h.get? b = some o → ((h.push (PySem.W.kdv_tup us)).push (excO C h.objs.size)).get? b = some o := fun b o e => Heap.get?_push_of_some _ (Heap.get?_push_of_some _ e)
  have stands : ((h.push (PySem.W.kdv_tup us)).push (excO C h.objs.size)).get? (h.objs.size + 1) = some (excO C h.objs.size) := by heap_get
  have own : (Value.ref C :: bm).contains (.ref C) = true := by simp
  have hC₁ := k _ _ hC
  have i1 := hi.keeps k
  have b1 := (hb (.ref (h.objs.size + 1))).keeps k
  unfold Builtin.«type.__call__»
  repeat (first | with_reducible refine wpAny_loadPart_at hC ?_ | with_reducible refine wpAny_madeBy_exc hC ?_ | wp_step)
  have new := laid_kw (A := (A.under (.builtin "type.__call__" ⟨.ref C :: us, kw⟩)).in1) (kw := kw) (g := g) (d := d) (t := t) (os := os) (prog := prog) (w := w) F hT hC hz (R := fun _ _ => True) True.intro
  refine codeAny_call_builtin_code (Code.quiet_builtin _ F.quiet) (new.1 _ _ ?_)
  refine (laid_kw F hT hC hz ?_).2
  show wpAny _ _ _ _ _ _
  unfold isInstance
  repeat (first | with_reducible refine wpAny_loadPart_at stands ?_ | (with_reducible refine wpAny_isSubtype_exc hC₁ ?_; rw [own]) | wp_step)
  show wpAny _ _ (typeLookup (.ref C) _) _ _ _
  refine i1.at ?_
  refine wpAny_holding (wpAny_bind (b1.at ?_))
  refine wpAny_bind (wpAny_call (codeAny_mono hq ?_))
  rintro (e | v | _ | _ | _) s' z <;> first | exact z | exact z.elim | skip
  obtain ⟨rfl, z⟩ := z
  first
    | exact wpAny_pure (wpAny_pure z)
    | (wp_walk; exact z)
end
end L3

set_option Elab.async false
set_option linter.all false
set_option maxRecDepth 100000
set_option maxHeartbeats 4000000
namespace L3
open PySem PySem.Spec PyProof.Rows PySem.Calls L2 LamX
/-- an own exception class with an __init__ of its own, made by place or by names -/
structure ErM (P : Program) (w : World) (K : PySem.W.Frag) (mg : Str → Option Value) (base : Heap) (k : Nat) (x : Str) (C : Addr) (ps ks : List Str) (sp : Sp) (gV : List V → List V → List V) : Prop where
  T : OexC K C
  gl : mg x = some (.ref C)
  ini : ∃ (fI : Addr) (fd : FuncData) (g : List Value → List Value → List Value), PySem.W.findIn K (.ref C) "__init__" = some (some (.ref fI)) ∧ PySem.W.typeIn K (.ref fI) = some (.type "function") ∧ FnOk P w K mg base CX0 k fI fd ps sp ∧ L2.Binds K fd ps [] ∧ KBn K fd ps 1 ks g gV
section
variable {X : Cx} {pins : List (Addr × Obj)} {σ : L2.St} {H : Hp} {s : Shared}
theorem run_exc {Q : VK} {k : Nat} {C fI : Addr} {fd : FuncData} {ps : List Str} {sp : Sp} {us : List Value} {kw : List (Str × Value)} {ws : Addr → List Value} {vs : Addr → List V} (T : OexC X.K C) (iC : PySem.W.findIn X.K (.ref C) "__init__" = some (some (.ref fI))) (tI : PySem.W.typeIn X.K (.ref fI) = some (.type "function"))
    (F : FnOk X.prog X.w X.K X.mg X.base CX0 k fI fd ps sp) (hr : Room (k + 1) X.A) (I : L2.Inv X pins σ H s) (hz : us.length ≤ sizeLine) (hb : ∀ (s : Shared) (a : Addr), X.K.In s.heap → BindsTo s fd ⟨.ref a :: us, kw⟩ (ps.zip (ws a))) (hv : ∀ a : Addr, Vals (vs a) (ws a))
    (h : ∀ a, H a = none → sp (vs a) (upd H a (exo a C none)) (fun v H2 => v = .non ∧ Q (.ref a) H2) (fun _ _ _ => False)) : wpAny (model X.prog X.w) X.A (call (.ref C) us kw) (EP X pins σ Q) X.xe s := by
  obtain ⟨nm, q, N, bs, bm, sn, sub, ab, col, dd, k0, k1, k2, k3, k5, hC, hbm⟩ := T.cls
  obtain ⟨hp, g, d, tk, os⟩ := s
  have up : ∀ b o, hp.get? b = some o → ((hp.push (PySem.W.kdv_tup us)).push (PySem.HandSPX.excO C hp.objs.size)).get? b = some o := fun b o e => Heap.get?_push_of_some _ (Heap.get?_push_of_some _ e)
  have stands : ((hp.push (PySem.W.kdv_tup us)).push (PySem.HandSPX.excO C hp.objs.size)).get? (hp.objs.size + 1) = some (PySem.HandSPX.excO C hp.objs.size) := by heap_get
  have J : L2.Inv X pins σ (upd H (hp.objs.size + 1) (exo (hp.objs.size + 1) C none)) ⟨(hp.push (PySem.W.kdv_tup us)).push (PySem.HandSPX.excO C hp.objs.size), g, d, tk, os⟩ := I.laid (t' := tk) up (Nat.le_succ _) (exo_ok stands)
  have hq := h _ (I.hok.fresh (Nat.le_succ _))
  refine wpAny_call (call_exc PySem.F.excBase_ValueError (fun Y => PySem.HandSPX.refsVE_contains Y bm hbm) (I.kIn _ _ hC) hz (PySem.W.looks_findIn I.kIn iC) (fun self => PySem.W.bind_fn I.kIn self tI)
    (codeAny_mono (F.run _ X.stack _ _ ⟨.ref (hp.objs.size + 1) :: us, kw⟩ (ws _) _ _ (fun _ _ _ => False) (hr.make C us kw) (J.env0.make C us kw) (hb _ _ J.kIn) (hv _) hq) ?_))
  rintro (e | fl) s' z
  · exact pass0 pins σ _ _ e s' J z
  · cases fl with
    | ret u =>
      obtain ⟨v, H', I3, rv, ev, q⟩ := J.after z
      subst ev
      exact ⟨rv, .ref _, H', I3, rfl, q⟩
    | next => exact z.elim
    | brk => exact z.elim
    | cont => exact z.elim
end
/-- C(e, ..) -/
def tExP (C : Addr) (n : Nat) (sp : Sp) (ta : TA) : TE := fun σ H Q => ta σ H fun vs H1 => vs.length = n ∧ ∀ a, H1 a = none → sp (.ref a :: vs) (upd H1 a (exo a C none)) (fun v H2 => v = .non ∧ Q (.ref a) H2) (fun _ _ _ => False)
/-- C(k = e, ..) -/
def tExK (C : Addr) (n : Nat) (sp : Sp) (gV : List V → List V → List V) (tk : TA) : TE := fun σ H Q => tk σ H fun zs H1 => zs.length = n ∧ ∀ a, H1 a = none → sp (gV [.ref a] zs) (upd H1 a (exo a C none)) (fun v H2 => v = .non ∧ Q (.ref a) H2) (fun _ _ _ => False)
section
variable {X : Cx} {k : Nat} {x : Str} {C : Addr} {ps ks : List Str} {sp : Sp} {gV : List V → List V → List V} {p pos : Pos}
theorem pe_exP {e : Expr} {es : List Expr} {ta : TA} {n : Nat} (R : ErM X.prog X.w X.K X.mg X.base k x C ps ks sp gV) (hr : Room (k + 1) X.A) (hn : ps.length = n + 1) (hz : n ≤ 1000) (ha : PA X (e :: es) ta) (hg : Gl X x := by rfl) (hdb : (x == ("__debug__" : Str)) = false := by decide)
    (he : starEach (e :: es) X.env = (false, eval e X.env) :: starEach es X.env := by rfl) (hpl : (backTo pos (starEach es X.env)).any (·.1) = false := by rfl) : PE X (.Call (.Name x p) (e :: es) [] pos) (tExP C n sp ta) := by
  obtain ⟨fI, fd, g, h1, h2, h3, h4, _⟩ := R.ini
  refine ⟨fun pins s σ H Q I h => wpAny_Call_Name_kw (ld_glob I hg R.gl (PySem.W.callWith_K (h₀ := X.base) I.ok.mod.kin R.T.kC (thn (ha.run pos pins s σ H _ I h) ?_) he hpl) hdb)⟩
  rintro us s1 ⟨vs, H1, I1, r1, hl, q⟩
  have lu : us.length = n := r1.length.symm.trans hl
  exact ⟨I1.kIn, run_exc (us := us) (ws := fun a => Value.ref a :: us) (vs := fun a => V.ref a :: vs) R.T h1 h2 h3 hr I1 (by rw [lu]; exact Nat.le_trans hz (by decide)) (fun s a Y => by
    have z := h4 s (.ref a :: us) Y (by rw [List.append_nil, List.length_cons, lu, hn])
    rw [List.append_nil] at z
    exact z) (fun a => .cons rfl r1) q⟩
theorem pe_exK {kws : List Keyword} {tk : TA} (R : ErM X.prog X.w X.K X.mg X.base k x C ps ks sp gV) (hr : Room (k + 1) X.A) (hkw : PK X kws tk) (hg : Gl X x := by rfl) (hdb : (x == ("__debug__" : Str)) = false := by decide)
    (hall : (backToKw pos (keywordEach kws X.env)).all (·.1.isSome) = true := by rfl) (hks : (backToKw pos (keywordEach kws X.env)).filterMap (·.1) = ks := by rfl)
    (hpl : ((backTo pos (starEach [] X.env)).any (·.1) || (backToKw pos (keywordEach kws X.env)).any (·.1.isNone)) = false := by rfl) : PE X (.Call (.Name x p) [] kws pos) (tExK C ks.length sp gV tk) := by
  obtain ⟨fI, fd, g, h1, h2, h3, _, h5⟩ := R.ini
  refine ⟨fun pins s σ H Q I h => wpAny_Call_Name_kw (ld_glob I hg R.gl (PySem.W.callWith_KW0 (h₀ := X.base) I.ok.mod.kin R.T.kC hall (thn (hkw.run pos pins s σ H _ I h) ?_) hpl) hdb)⟩
  rintro us s1 ⟨zs, H1, I1, rz, hl, q⟩
  rw [hks]
  exact ⟨I1.kIn, run_exc (us := []) (kw := ks.zip us) (ws := fun a => g [Value.ref a] us) (vs := fun a => gV [V.ref a] zs) R.T h1 h2 h3 hr I1 (Nat.zero_le _) (fun s a Y => h5.to s [.ref a] us Y rfl (rz.length.symm.trans hl)) (fun a => h5.rel (.cons rfl .nil) rz) q⟩
end
/-- an own exception class without an __init__ of its own -/
structure ErN (K : PySem.W.Frag) (mg : Str → Option Value) (x : Str) (C : Addr) : Prop where
  gl : mg x = some (.ref C)
  kC : PySem.W.keepIn K (.ref C) = true
  q : PySem.W.excIn K C PySem.HandSPX.veTail "ValueError.__new__" = true
def tEx0 (C : Addr) : TE := fun _ H Q => ∀ a, H a = none → Q (.ref a) (upd H a (exo a C none))
theorem pe_ex0 {X : Cx} {x : Str} {C : Addr} {p pos : Pos} (R : ErN X.K X.mg x C) (hg : Gl X x := by rfl) (hdb : (x == ("__debug__" : Str)) = false := by decide) :
    PE X (.Call (.Name x p) [] [] pos) (tEx0 C) := by
  refine ⟨fun pins s σ H Q I h => wpAny_Call_Name_kw (ld_glob I hg R.gl (PySem.W.callWith_K0 I.kIn R.kC ?_) hdb)⟩
  show wpAny _ _ (call (.ref C) []) _ _ _
  obtain ⟨bm, N, nm, qn, bs, hdct, sn, sub, ab, col, dd, k0, k1, k2, k3, k5, mN, hC, hN, hni, T⟩ := exc_obj I.kIn R.q
  refine wpAny_call_exc_subT PySem.F.excBase_ValueError T hC hN hni (fun h' a hm => ?_) (Nat.zero_le _)
  have hn : H a = none := I.hok.gone hm.new
  obtain ⟨t, ht, _, _⟩ := hm.there
  exact ⟨.ref a, upd H a (exo a C none), I.laidN hm.keeps hm.new hn (exo_ok ht), rfl, h a hn⟩
end L3

set_option Elab.async false
set_option linter.all false
set_option maxRecDepth 100000
set_option maxHeartbeats 4000000
namespace L3
open PySem PySem.Spec PyProof.Rows PySem.Calls L2 LamX
/-! errors that are held: isinstance, fields; lambdas that are held and called -/
/-- an error of the class at C -/
def ErAt (H : Hp) (a C : Addr) : Prop := H a = some (exo a C none) ∨ ∃ dx fs, H a = some (exo a C (some dx)) ∧ H dx = some (exd dx fs)
/-- what isinstance and the fields ask of such a class -/
structure ErC (K : PySem.W.Frag) (C : Addr) : Prop where
  cl : (PySem.W.clsIn K C).isSome = true
  xf : XfC K C
  ac : PySem.W.findIn K (.ref C) "__class__" = some (some (.builtin "object.__class__"))
  sp : PySem.W.specialIn K (.builtin "object.__class__") "__get__" = some (some (.builtin "getset_descriptor.__get__"))
  tk : PySem.W.takesIn K (.builtin "object.__class__") = some true
  mr : PySem.W.mroIn K C (.type "object") = some true
section
variable {X : Cx} {pins : List (Addr × Obj)} {σ : L2.St} {H : Hp} {s : Shared} {a C dx : Addr} {fs : List (Str × V)}
theorem er_field (I : L2.Inv X pins σ H s) (h1 : H a = some (exo a C (some dx))) (h2 : H dx = some (exd dx fs)) : ∃ (ox od : Obj) (mA : Str → Option Value), PySem.W.InstAt s.heap a ox C (some od) ∧ (∀ f, RelO (fs.lookup f) (mA f)) ∧ ∀ f, PySem.W.lookIn f od = some (mA f) := by
  obtain ⟨t1, ho⟩ := exo_at I.hok h1
  obtain ⟨mA, hns, rel⟩ := exd_at I.hok h2
  obtain ⟨od, hd, hl⟩ := lookIn_ns hns
  exact ⟨_, od, mA, ⟨ho, rfl, rfl, hd⟩, rel, hl⟩
theorem er_inst (I : L2.Inv X pins σ H s) (h : ErAt H a C) : ∃ ox od, PySem.W.InstAt s.heap a ox C od := by
  rcases h with h | ⟨dx, fs, h1, h2⟩
  · obtain ⟨t1, ho⟩ := exo_at I.hok h
    exact ⟨_, none, ho, rfl, rfl, trivial⟩
  · obtain ⟨ox, od, _, h, _⟩ := er_field I h1 h2
    exact ⟨ox, some od, h⟩
end
/-- isinstance(e, c) -/
def rIsV (K : PySem.W.Frag) : List V → Hp → VK → Prop := fun xs H Q => ∃ (a C : Addr) (c : V) (u : Value) (b : Bool), xs = [.ref a, c] ∧ ErAt H a C ∧ ClsV c u ∧ ErC K C ∧ PySem.W.kitOne K (.ref C) u = some b ∧ Q (.bl b) H
theorem call_isV {X : Cx} : CallR X (.builtin "isinstance") (rIsV X.K) := by
  rintro pins s σ H xs us Q I r ⟨a, C, c, u, b, rfl, he, hc, T, hk, q⟩
  obtain ⟨u1, u2, rfl, r1, r2⟩ := vals2 r
  cases (show u1 = Value.ref a from r1)
  have e2 := hc.eq r2
  subst e2
  obtain ⟨ox, od, J⟩ := er_inst I he
  exact PySem.W.kia_one (PySem.W.kitx_exc (ox := ox) (od := od) T.cl T.xf.ga T.xf.gg T.xf.exC T.ac T.sp T.tk T.mr) I.kIn J hk (fun z => nomatch z) fun tk => ⟨.bl b, H, I.tok tk, rfl, q⟩
/-- e.f -/
def tXv (K : PySem.W.Frag) (f : Str) (te : TE) : TE := fun σ H Q => te σ H fun x H1 => ∃ (a C dx : Addr) (fs : List (Str × V)) (v : V), x = .ref a ∧ H1 a = some (exo a C (some dx)) ∧ H1 dx = some (exd dx fs) ∧ XfC K C ∧ PySem.W.findIn K (.ref C) f = some none ∧ fs.lookup f = some v ∧ Q v H1
theorem pe_xv {X : Cx} {e : Expr} {te : TE} {f : Str} {pos : Pos} (he : PE X e te) (hb : attributeBase e f X.env (eval e X.env) = eval e X.env := by rfl) : PE X (.Attribute e f pos) (tXv X.K f te) := by
  refine ⟨fun pins s σ H Q I h => attr_of hb (thn (he.run pins s σ H _ I h) ?_)⟩
  rintro u s1 ⟨x, H1, I1, rx, a, C, dx, fs, v, rfl, h1, h2, T, no, hl, q⟩
  cases (show u = Value.ref a from rx)
  obtain ⟨ox, od, mA, J, rel, look⟩ := er_field I1 h1 h2
  obtain ⟨w, hw, rw'⟩ := RelO.some_of (v := v) (o := mA f) (by rw [← hl]; exact rel f)
  exact PySem.HandSPX.exc_get I1.kIn J T.ga T.gg T.exC (PySem.W.findObj_own T.hdC no rfl (by rw [look, hw])) (handed_of rw') ⟨v, H1, I1.tok _, rw', q⟩
/-! a lambda of one thing that is asked for a field -/
structure LamV (y : Str) (params : Arguments) (scope : Scope) : Prop where
  sc : FnScope [y] [y] scope
  bd : ∀ (q : Str) (body : Expr) (cl : List (Str × Addr)) (pm cv ctv u : Value), bindArgs (PySem.W.kla_fn "<lambda>" q params body scope cl pm cv ctv) ⟨[u], []⟩ = pure [(y, u)]
def FnO (y : Str) (f c' : Addr) (q fld : Str) : HO := .ext fun h => ∃ (params : Arguments) (scope : Scope) (p1 p2 : Pos) (pm ctv : Value), LamV y params scope ∧ h.get? f = some (PySem.W.kla_obj "<lambda>" q params (.Attribute (.Name y p1) fld p2) scope [] pm c' ctv)
theorem fnO_ok {P : Program} {w : World} {H : Hp} {h : Heap} {y : Str} {f c' : Addr} {q fld : Str} {params : Arguments} {scope : Scope} {p1 p2 : Pos} {pm ctv : Value} (L : LamV y params scope) (e : h.get? f = some (PySem.W.kla_obj "<lambda>" q params (.Attribute (.Name y p1) fld p2) scope [] pm c' ctv)) : ObjOk P w H h f (FnO y f c' q fld) :=
  ⟨⟨params, scope, p1, p2, pm, ctv, L, e⟩, ⟨_, e⟩, fun h1 h2 ⟨params, scope, p1, p2, pm, ctv, L, e⟩ k => ⟨params, scope, p1, p2, pm, ctv, L, k _ e⟩⟩
theorem fnO_at {P : Program} {w : World} {H : Hp} {h : Heap} {y : Str} {f c' : Addr} {q fld : Str} (hok : HOk P w H h) (e : H f = some (FnO y f c' q fld)) : ∃ (params : Arguments) (scope : Scope) (p1 p2 : Pos) (pm ctv : Value), LamV y params scope ∧ h.get? f = some (PySem.W.kla_obj "<lambda>" q params (.Attribute (.Name y p1) fld p2) scope [] pm c' ctv) := by
  have z : ObjOk P w H h f (.ext fun h => ∃ (params : Arguments) (scope : Scope) (p1 p2 : Pos) (pm ctv : Value), LamV y params scope ∧ h.get? f = some (PySem.W.kla_obj "<lambda>" q params (.Attribute (.Name y p1) fld p2) scope [] pm c' ctv)) := hok f _ e
  exact z.1
theorem clo_nil {cells : List (Str × Addr)} : ∀ (l : List (Str × NameKind)) (acc : List (Str × Addr)), (∀ y ∈ l, y.2 ≠ .free) → cloFrom cells l acc = acc
  | [], acc, _ => rfl
  | (n, k) :: r, acc, h => by
    have hk : (k == NameKind.free) = false := beq_false_of_ne (h (n, k) List.mem_cons_self)
    unfold cloFrom
    rw [hk]
    exact clo_nil r acc fun y hy => h y (List.mem_cons_of_mem _ hy)
/-- the lambda is made and held -/
def tLamV (T : List (Addr × Str)) (y q fld : Str) : TE := fun _ H Q => Tabs T H ∧ ∀ (f c' : Addr) (H1 : Hp), ExtN H H1 → Tabs T H1 → H f = none → H1 f = some (FnO y f c' q fld) → H1 c' = some (CodeO c' q) → Q (.ref f) H1
theorem pe_lamV {X : Cx} {T : List (Addr × Str)} {y fld : Str} {c P : Addr} {params : Arguments} {scope : Scope} {p1 p2 pos : Pos} (TB : TabB X.base X.mg c P) (hcode : X.env.code = .ref c) (hm : (P, X.env.qual ++ "<lambda>") ∈ T) (hu : ∀ p ∈ T, p.1 = P → p.2 = X.env.qual ++ "<lambda>")
    (L : LamV y params scope) (hdef : defaultsOf params X.env = ([], []) := by rfl) : PE X (.Lambda params (.Attribute (.Name y p1) fld p2) scope pos) (tLamV T y (X.env.qual ++ "<lambda>") fld) := by
  refine ⟨fun pins s σ H Q I ⟨hT, h⟩ => PySem.W.kla_eval hdef ?_⟩
  obtain ⟨ps, hP, ht, ha⟩ := hT _ hm
  have bP : s.heap.BuiltinsAt X.mg P := TB.bm.keeps I.bk
  have hP' : s.heap.get? P = some { cls := .none, data := .fields ps } := I.hok P _ hP
  have clo : closureFor scope X.env = pure [] := (closure_ok fun z hz e => absurd e (L.sc.nofree z hz)).trans (congrArg pure (clo_nil _ _ L.sc.nofree))
  cases hc : codeAmong pos ps.toList with
  | none =>
    refine PySem.W.kla_makeFunction (mg := X.mg) (c := c) (P := P) (ps := ps) clo I.ok.glob (I.mod.glob.keeps I.bk) hcode (TB.code.keeps I.bk) hP' ht hc TB.gP bP ?_
    rintro c' ctv h' tk hx hge hlt ⟨c2, oc, vs, t, e2, hoc, hd, hv⟩ htb
    cases e2
    have nC : H c' = none := I.hok.fresh hge
    have sz : s.heap.objs.size ≤ h'.objs.size := Nat.le_trans hge (Nat.le_of_lt hlt)
    have I1 := inv_table (t' := tk) (more := #[rawInt pos.line, rawInt pos.col, .ref c']) (h' := h') I hP hx htb hge ⟨oc, vs, t, hoc, hd, hv⟩
    have stands : (h'.push (PySem.W.kla_obj "<lambda>" (X.env.qual ++ "<lambda>") params (.Attribute (.Name y p1) fld p2) scope [] ((X.mg "__name__").getD .none) c' ctv)).get? h'.objs.size = some (PySem.W.kla_obj "<lambda>" (X.env.qual ++ "<lambda>") params (.Attribute (.Name y p1) fld p2) scope [] ((X.mg "__name__").getD .none) c' ctv) := Heap.get?_push_size _ rfl
    have I2 := I1.laid (a := h'.objs.size) (o := FnO y h'.objs.size c' (X.env.qual ++ "<lambda>") fld) (h' := h'.push (PySem.W.kla_obj "<lambda>" (X.env.qual ++ "<lambda>") params (.Attribute (.Name y p1) fld p2) scope [] ((X.mg "__name__").getD .none) c' ctv)) (t' := tk) (fun b u e => Heap.get?_push_of_some _ e) (Nat.le_refl _) (fnO_ok L stands)
    have nF : H h'.objs.size = none := I.hok.fresh sz
    have n1 : h'.objs.size ≠ c' := Nat.ne_of_gt hlt
    have n2 : h'.objs.size ≠ P := (ne_of_none hP nF).symm
    have n3 : P ≠ c' := ne_of_none hP nC
    have atc : ∀ b, b ≠ h'.objs.size → b ≠ c' → b ≠ P → upd (upd (upd H P (.tbl (ps ++ #[rawInt pos.line, rawInt pos.col, .ref c']))) c' (CodeO c' (X.env.qual ++ "<lambda>"))) h'.objs.size (FnO y h'.objs.size c' (X.env.qual ++ "<lambda>") fld) b = H b := fun b z1 z2 z3 => by rw [upd_ne z1, upd_ne z2, upd_ne z3]
    have eN : ExtN H (upd (upd (upd H P (.tbl (ps ++ #[rawInt pos.line, rawInt pos.col, .ref c']))) c' (CodeO c' (X.env.qual ++ "<lambda>"))) h'.objs.size (FnO y h'.objs.size c' (X.env.qual ++ "<lambda>") fld)) := fun b o e n => by
      rw [atc b (ne_of_none e nF) (ne_of_none e nC) (fun z => n ps (Option.some.inj (e.symm.trans (by rw [z]; exact hP))))]
      exact e
    have eL : (ps ++ #[rawInt pos.line, rawInt pos.col, .ref c']).toList = ps.toList ++ [rawInt pos.line, rawInt pos.col, .ref c'] := by simp
    have newC : upd (upd (upd H P (.tbl (ps ++ #[rawInt pos.line, rawInt pos.col, .ref c']))) c' (CodeO c' (X.env.qual ++ "<lambda>"))) h'.objs.size (FnO y h'.objs.size c' (X.env.qual ++ "<lambda>") fld) c' = some (CodeO c' (X.env.qual ++ "<lambda>")) := by rw [upd_ne n1.symm, upd_same]
    refine ⟨.ref h'.objs.size, _, I2, rfl, h h'.objs.size c' _ eN (fun p hp => ?_) nF upd_same newC⟩
    by_cases hb : p.1 = P
    · rw [hu p hp hb, hb]
      refine ⟨_, by rw [upd_ne n2.symm, upd_ne n3, upd_same], by rw [eL]; exact PySem.TriplesOk_snoc _ _ _ _ ht, fun p' cv hcv => ?_⟩
      rw [eL] at hcv
      rcases among_app _ ht hcv with z | z
      · obtain ⟨c0, e1, e2⟩ := ha p' cv z
        exact ⟨c0, e1, eN _ _ e2 codeO_ne⟩
      · exact ⟨c', z, newC⟩
    · obtain ⟨ps', a1, a2, a3⟩ := hT p hp
      refine ⟨ps', by rw [atc _ (ne_of_none a1 nF) (ne_of_none a1 nC) hb]; exact a1, a2, fun p' cv hcv => ?_⟩
      obtain ⟨c0, e1, e2⟩ := a3 p' cv hcv
      exact ⟨c0, e1, eN _ _ e2 codeO_ne⟩
  | some cv =>
    obtain ⟨c', e, hco⟩ := ha pos cv hc
    subst e
    refine PySem.W.kla_makeFunctionHit (mg := X.mg) (c := c) (P := P) (ps := ps) clo I.ok.glob (I.mod.glob.keeps I.bk) hcode (TB.code.keeps I.bk) hP' ht hc bP ?_
    rintro ctv h' tk hx sz
    have I1 : L2.Inv X pins σ H { s with heap := h', toks := tk } := I.kept hx
    have stands : (h'.push (PySem.W.kla_obj "<lambda>" (X.env.qual ++ "<lambda>") params (.Attribute (.Name y p1) fld p2) scope [] ((X.mg "__name__").getD .none) c' ctv)).get? h'.objs.size = some (PySem.W.kla_obj "<lambda>" (X.env.qual ++ "<lambda>") params (.Attribute (.Name y p1) fld p2) scope [] ((X.mg "__name__").getD .none) c' ctv) := Heap.get?_push_size _ rfl
    have I2 := I1.laid (a := h'.objs.size) (o := FnO y h'.objs.size c' (X.env.qual ++ "<lambda>") fld) (h' := h'.push (PySem.W.kla_obj "<lambda>" (X.env.qual ++ "<lambda>") params (.Attribute (.Name y p1) fld p2) scope [] ((X.mg "__name__").getD .none) c' ctv)) (t' := tk) (fun b u e => Heap.get?_push_of_some _ e) (Nat.le_refl _) (fnO_ok L stands)
    have nF : H h'.objs.size = none := I.hok.fresh sz
    have kp : ∀ b o, H b = some o → upd H h'.objs.size (FnO y h'.objs.size c' (X.env.qual ++ "<lambda>") fld) b = some o := fun b o e => by rw [upd_ne (ne_of_none e nF)]; exact e
    exact ⟨.ref h'.objs.size, _, I2, rfl, h h'.objs.size c' _ (.of kp) (hT.ext kp) nF upd_same (kp _ _ hco)⟩
/-- x(e), x such a lambda that is held -/
def tLamC (K : PySem.W.Frag) (y : Str) (i : Nat) (te : TE) : TE := fun σ H Q => ∃ (f c' : Addr) (q fld : Str), σ[i]? = some (some (.ref f)) ∧ H f = some (FnO y f c' q fld) ∧ te σ H fun x H1 => H1 f = some (FnO y f c' q fld) ∧ H1 c' = some (CodeO c' q) ∧
  ∃ (a C dx : Addr) (fs : List (Str × V)) (v : V), x = .ref a ∧ H1 a = some (exo a C (some dx)) ∧ H1 dx = some (exd dx fs) ∧ XfC K C ∧ PySem.W.findIn K (.ref C) fld = some none ∧ fs.lookup fld = some v ∧ Q v H1
theorem pe_lamC {X : Cx} {y x : Str} {i k : Nat} {e : Expr} {te : TE} {p1 p2 : Pos} (hr : Room (k + 2) X.A) (hN : X.N[i]? = some x) (hv : Vis X.env.scope x) (he : PE X e te) (hd : (x == ("__debug__" : Str)) = false := by decide) (hcd : (x == ("__classdict__" : Str)) = false := by decide)
    (hy : (y == ("__debug__" : Str)) = false := by decide) (hyc : (y == ("__classdict__" : Str)) = false := by decide) (hs : starEach [e] X.env = (false, eval e X.env) :: starEach [] X.env := by rfl) (hpl : (backTo p2 (starEach [] X.env)).any (·.1) = false := by rfl) : PE X (.Call (.Name x p1) [e] [] p2) (tLamC X.K y i te) := by
  constructor
  rintro pins s σ H Q I ⟨f, c', q, fld, hσ, hF, h⟩
  refine wpAny_Call_Name_kw (thn ((pe_var (pos := p1) (i := i) hN hv hd hcd).run pins s σ H (fun v H1 => v = .ref f ∧ H1 = H) I ⟨.ref f, hσ, rfl, rfl⟩) ?_)
  rintro u s1 ⟨v, H1, I1, r1, rfl, rfl⟩
  cases (show u = Value.ref f from r1)
  have all : wpAny (model X.prog X.w) X.A (spliced (backTo p2 (starEach [e] X.env))) (fun vs s₁ => PySem.W.FnAt f s₁.heap ∧ wpAny (model X.prog X.w) X.A (call (.ref f) ([] ++ vs)) (EP X pins σ Q) X.xe s₁) X.xe s1 := by
    refine thn ((pa_cons he pa_nil hs).run p2 pins s1 σ H1 (fun vs H' => match vs with
      | [x] => H' f = some (FnO y f c' q fld) ∧ H' c' = some (CodeO c' q) ∧ ∃ (a C dx : Addr) (fs : List (Str × V)) (v : V), x = .ref a ∧ H' a = some (exo a C (some dx)) ∧ H' dx = some (exd dx fs) ∧ XfC X.K C ∧ PySem.W.findIn X.K (.ref C) fld = some none ∧ fs.lookup fld = some v ∧ Q v H'
      | _ => False) I1 h) ?_
    rintro us s2 ⟨vs, H2, I2, r, z⟩
    match vs, z, r with
    | [x'], ⟨hf, hc, a, C, dx, fs, v, ex, h1, h2, T, no, hl, q2⟩, r =>
      obtain ⟨u, eu, ru⟩ := vals1 r
      subst eu
      obtain ⟨params, scope, l1, l2, pm, ctv, L, of1⟩ := fnO_at I2.hok hf
      refine ⟨⟨_, _, _, _, of1⟩, ?_⟩
      have rec_ : s2.heap.CodeRec (.ref c') q := by
        obtain ⟨⟨oc, vs, t, z1, z2, z3⟩, _⟩ := I2.hok c' _ hc
        exact ⟨c', oc, vs, t, rfl, z1, z2, z3⟩
      have e0 := I2.env0
      have KX : X.K.In s2.heap := I2.kIn
      have rc : codeAny (model X.prog X.w) X.A (.call (.ref f) ⟨[u], []⟩) (CR CX0 X.stack X.prog X.w H2 s2 Q C8.E0) s2 := by
        refine PySem.W.kla_callFunE hr.depth of1 rfl L.sc.co L.sc.gen rfl rec_ ?_
        rw [L.bd]
        refine wpAny_pure ?_
        refine wpAny_newFunctionEnv_cells L.sc.kind (fun ⟨n, w⟩ hy => ?_) fun env he s3 new => ?_
        · rcases L.sc.par n (List.of_mem_zip (show (n, w) ∈ List.zip [y] [u] from hy)).1 with z | z
          · exact .inl z
          · exact .inr ⟨z, PySem.W.cellsFrom_some _ _ _ (.inl z)⟩
        subst he
        have J : L2.Inv (cxOf CX0 X.prog X.w X.K X.mg X.base [y] q scope f (.ref c') X.A X.stack s2 H2 C8.E0) [] (L2.start [y] [x']) H2 s3 := inv_start (ps := [y]) (us := [u]) L.sc hr.hd e0 rfl r new
        refine ⟨I2.nolimit.keeps new.toInCall.keep, PySem.W.kla_codeExpr ?_⟩
        refine wpAny_mono ((pe_xv (f := fld) (pos := l2) (pe_var (pos := l1) (i := 0) rfl ((L.sc.par y (List.mem_singleton.mpr rfl)).elim .inl fun z => .inr (.inl z)) hy hyc)).run [] s3 _ H2 Q J ?_) ?_ fun _ _ z => z
        · exact ⟨x', rfl, a, C, dx, fs, v, ex, h1, h2, T, no, hl, q2⟩
        · rintro v s4 ⟨w, H3, J3, rv, z⟩
          exact ⟨w, H3, J3.os, J3.bare, J3.base, J3.hok, rv, z⟩
      refine wpAny_call (codeAny_mono rc ?_)
      rintro (e | fl) s3 z
      · exact z.elim
      · cases fl with
        | ret u => exact I2.after z
        | next => exact z.elim
        | brk => exact z.elim
        | cont => exact z.elim
  obtain ⟨params, scope, l1, l2, pm, ctv, L, of0⟩ := fnO_at I1.hok hF
  exact PySem.W.callWith_F (first := []) ⟨_, _, _, _, of0⟩ all hs hpl
end L3

set_option Elab.async false
set_option linter.all false
set_option maxRecDepth 100000
set_option maxHeartbeats 4000000
namespace My
open PySem PySem.Spec PyProof.Rows L2 L3
def topS (i : Nat) : Stmt := PySem.Challenge.pw_lastopen_k01_errors_made.main.body.getD i (.Pass ⟨0, 0, 0, 0⟩)
/-- built-ins that the module does not shade -/
structure Gc (mg : Str → Option Value) : Prop where
  len : mg "len" = none
  list : mg "list" = none
  int : mg "int" = none
  all : mg "all" = none
  any : mg "any" = none
  isinstance : mg "isinstance" = none
  range : mg "range" = none
  repr : mg "repr" = none
  ValueError : mg "ValueError" = none
theorem szM {n : Nat} (h : n ≤ 16000000) : n ≤ sizeLine := Nat.le_trans h (by decide)
theorem gv_nilD {K : PySem.W.Frag} {σ : Sl} {M : Hp} : Gv (tLst tNil) σ M (Dd K (.list [])) := gl_nil.gv fun M vs p h m => by subst h; exact .lst (.inl (.inl upd_same)) .nil
end My

set_option Elab.async false
set_option linter.all false
set_option maxRecDepth 100000
set_option maxHeartbeats 4000000
namespace My
open PySem PySem.Spec PyProof.Rows L2 L3
open L3.Strm
section
variable {K : PySem.W.Frag} {σ : Sl} {M : Hp} {ta tb te : TE} {i j : Int}
theorem gv_mul (ha : Gv ta σ M (It' i)) (hb : Gv tb σ M (It' j)) (hc : CMul i j) : Gv (tOp (rI CMul fun i j => .int (i * j)) ta tb) σ M (It' (i * j)) := gv_op ha hb fun M' u w px py => rv_pure (fun H mh Q q => ⟨i, j, px, py, hc, q⟩) rfl
theorem gv_mod (ha : Gv ta σ M (It' i)) (hb : Gv tb σ M (It' j)) (hc : 0 < j) : Gv (tOp (rI (fun _ j => 0 < j) fun i j => .int (i % j)) ta tb) σ M (It' (i % j)) := gv_op ha hb fun M' u w px py => rv_pure (fun H mh Q q => ⟨i, j, px, py, hc, q⟩) rfl
theorem gv_fdiv (ha : Gv ta σ M (It' i)) (hb : Gv tb σ M (It' j)) (hc : CDiv i j) : Gv (tOp (rI CDiv fun i j => .int (i / j)) ta tb) σ M (It' (i / j)) := gv_op ha hb fun M' u w px py => rv_pure (fun H mh Q q => ⟨i, j, px, py, hc, q⟩) rfl
theorem gv_pow (ha : Gv ta σ M (It' i)) (hb : Gv tb σ M (It' j)) (hc : CPow i j) : Gv (tOp (rI CPow fun i j => .int (i ^ j.toNat)) ta tb) σ M (It' (i ^ j.toNat)) := gv_op ha hb fun M' u w px py => rv_pure (fun H mh Q q => ⟨i, j, px, py, hc, q⟩) rfl
theorem gv_lt (ha : Gv ta σ M (It' i)) (hb : Gv tb σ M (It' j)) : Gv (tOp (rI0 fun i j => .bl (decide (i < j))) ta tb) σ M (Bl (decide (i < j))) := gv_op ha hb fun M' u w px py => rv_pure (fun H mh Q q => ⟨i, j, px, py, q⟩) rfl
theorem gv_gt {g : Int → Int → V} (ha : Gv ta σ M (It' i)) (hb : Gv tb σ M (It' j)) : Gv (tOp (rI0 g) ta tb) σ M (fun _ v => v = g i j) := gv_op ha hb fun M' u w px py => rv_pure (fun H mh Q q => ⟨i, j, px, py, q⟩) rfl
theorem gv_int1 (ha : Gv ta σ M (It' i)) : Gv (tCB (fun xs H Q => (∃ i, xs = [V.int i] ∧ Q (.int i) H) ∨ ∃ k, xs = [V.bl k] ∧ Q (.int (if k then 1 else 0)) H) (tCons ta tNil)) σ M (It' i) := gv_cb1 ha fun M' v hv H mh Q q => .inl ⟨i, by rw [hv], q _ M' H (.refl mh) rfl⟩
/-- an int of a mixed list -/
theorem gv_ixI {ds : List PyData} {z : Int} (ha : Gv ta σ M (SqR K (Dd K) ds)) (hb : Gv tb σ M (It' i)) (hx : atI ds i = some (.int z)) : Gv (tOp (rIxX K) ta tb) σ M (It' z) := gv_is (gv_ix (K := K) (R := Dd K) ha hb hx) fun M v h => by cases h; rfl
end
theorem depthI (cs : List Int) : (PyData.list (cs.map .int)).depth ≤ 60 := by
  have : ∀ cs : List Int, PyData.depthAll (cs.map .int) = 0 := fun cs => by
    induction cs with
    | nil => simp [PyData.depthAll]
    | cons c r ih => simp [PyData.depthAll, PyData.depth, ih]
  simp [PyData.depth, this]
theorem nilI (cs : List Int) : PyData.eqv (.list (cs.map .int)) (.list []) = decide (cs = []) := by
  cases cs <;> simp [PyData.eqv, PyData.eqvAll]
section
variable {P : Program} {w : World} {K : PySem.W.Frag} {mg : Str → Option Value} {base : Heap}
abbrev s__law_draw : Stmt := topS 24
theorem sc__law_draw : FnScope ["_law_stream", "_law_many", "_law_mixed", "_law_digit"] ["_law_stream", "_law_many"] (defScope s__law_draw) := ⟨rfl, rfl, rfl, by decide +kernel, rfl, by decide +kernel, by decide +kernel⟩
def sp__law_draw (K : PySem.W.Frag) : Sp := spS1 It' (fun n => 0 < n ∧ n < 1073741824) (fun _ => 1) fun n => Ex It' fun i => 0 ≤ i ∧ i < n
theorem ok__law_draw {f : Addr} {fd : FuncData} (F : Fun K "_law_draw" "_law_draw" s__law_draw f fd) (T : Gc mg) : FnOk P w K mg base CX0 1 f fd ["_law_stream", "_law_many"] (sp__law_draw K) := by
  refine F.ok sc__law_draw (fun vs H Q E h => ?_) (fun cdv A outer s H vs Q E hr h => ?_)
  · obtain ⟨S, x, M, v, k, rfl, _⟩ := h
    rfl
  · obtain ⟨S, many, M, v, k, rfl, mh, at_, r1, ⟨hm1, hm2⟩, q⟩ := h
    cases r1
    have hu := hr.units
    refine ⟨_, (pss_cons (ps_asg (pe_op op_addA (pe_ix ix_X (pv 0) pe_int (fun _ _ => rfl)) pe_int) (pg_sub (pv 0) pe_int set_list))
      (pss_cons (ps_if (PW.pt (pw_and (pt_cmpR (op_eqP hu) (pe_ix ix_X (pv 0) pe_int (fun _ _ => rfl)) pe_int (nomark _)) (pw_and1 (pt_cmpR (op_neP hu) (pe_ix ix_X (pv 0) pe_int (fun _ _ => rfl)) (pe_lst pa_nil) (nomark _))))) (pss_cons (ps_asg (pe_bm PySem.F.plainAttrs_list PySem.F.slot_list_pop PySem.F.type_list_pop mt_popAt (pe_ix ix_X (pv 0) pe_int (fun _ _ => rfl)) (pa_cons pe_int pa_nil)) (pg_sub (pv 0) pe_int set_list))
      (pss_one (ps_if (pt_cmpR op_lt (pe_ix ix_X (pv 0) pe_int (fun _ _ => rfl)) (pe_op op_pow pe_int pe_int) (nomark _)) (pss_cons (ps_asg (pe_op op_mod (pe_callTy call_int1 (by rfl) T.int boot_int (pa_cons (pe_op op_addA (pe_op op_addA (pe_op op_mul (pe_ix ix_X (pv 0) pe_int (fun _ _ => rfl)) pe_int) (pe_ix ix_X (pv 0) pe_int (fun _ _ => rfl))) pe_int) pa_nil)) pe_int) (pg_sub (pv 0) pe_int set_list))
      (pss_one (ps_asg pe_int (pg_sub (pv 0) pe_int set_list)))) pss_nil))) pss_nil)
      (pss_cons (ps_if (pt_cmpR op_gt (pe_ix ix_X (pv 0) pe_int (fun _ _ => rfl)) pe_int (nomark _)) (pss_cons (ps_set (i := 3) sc__law_draw.nd rfl (by first | exact .inl rfl | exact .inr rfl) (pe_op op_mod (pe_callTy call_int1 (by rfl) T.int boot_int (pa_cons (pe_ix ix_X (pv 0) pe_int (fun _ _ => rfl)) pa_nil)) (pv 1)))
      (pss_cons (ps_asg (pe_op op_fdiv (pe_ix ix_X (pv 0) pe_int (fun _ _ => rfl)) (pv 1)) (pg_sub (pv 0) pe_int set_list))
      (pss_one (ps_ret (pv 3))))) pss_nil)
      (pss_cons (ps_set (i := 2) sc__law_draw.nd rfl (by first | exact .inl rfl | exact .inr rfl) (pe_op op_mod (pe_op op_pow (pe_op op_addA (pe_op op_addA (pe_ix ix_X (pv 0) pe_int (fun _ _ => rfl)) (pe_op op_mul pe_int (pe_ix ix_X (pv 0) pe_int (fun _ _ => rfl)))) pe_int) pe_int) pe_int))
      (pss_one (ps_ret (pe_op op_mod (pe_op op_mod (pe_op op_pow (pe_op op_addA (pe_op op_addA (pe_op op_mul (pv 2) pe_int) (pe_op op_mul (pe_op op_mul pe_int (pe_ix ix_X (pv 0) pe_int (fun _ _ => rfl))) (pe_ix ix_X (pv 0) pe_int (fun _ _ => rfl)))) pe_int) pe_int) pe_int) (pv 1)))))))), ?_⟩
    obtain ⟨hne, cells, x, n, m, h1, h2, hx, hn, hk, hm0, hm⟩ := at_
    have hk : n + ((k + 1 : Nat) : Int) ≤ 10000000 := hk
    have st0 : StAt S H cells x n m := ⟨hne, h1, h2⟩
    -- stream[2] = stream[2] + 1
    refine z_sub (j := 2) (jn := 2) (z := n + 1) rfl mh st0 rfl (gv_addIn (K := K) (gv_ixI (K := K) (i := 2) (gv_var rfl st0.sq) (gv_c rfl) rfl) (gv_c rfl)) fun M1 H1 g1 ha1 hb1 => ?_
    have st1 : StAt S H1 cells x (n + 1) m := ⟨hne, ha1, hb1⟩
    have hp18 : ((10 : Int) ^ (18 : Int).toNat) = 1000000000000000000 := by decide
    refine q_cut (fun σ' H2 => ∃ M2 cells x m, σ' = [some (.ref S.a), some (.int many), none, none] ∧ Gr M (S.cut H) M2 (S.cut H2) ∧ StAt S H2 cells x (n + 1) m ∧ 0 ≤ x ∧ 0 ≤ m ∧ m < 2147483647) (fun nx hnx => ?_) ?_
    · refine s_if0 (b := decide (x = 0) && !decide (cells = [])) (full_same g1.mh) (gt_and (gt_test (gv_is (gv_eqT (K := K) (neg := false) py_int inj_int (gv_ixI (K := K) (i := 1) (gv_var rfl st1.sq) (gv_c rfl) rfl) (gv_c rfl) (by simp [PyData.depth])) fun M v h => by simpa using h)) fun _ =>
          gt_test (gv_is (gv_eq (K := K) (neg := true) (d := .list (cells.map .int)) (e := .list []) (gv_ix (K := K) (R := Dd K) (i := 0) (gv_var rfl st1.sq) (gv_c rfl) rfl) gv_nilD (depthI cells)) fun M v h => ?_)) (fun hb H2 hh2 => ?_) (fun hb H2 hh2 => ?_)
      · rw [show v = _ from h, nilI]; simp
      · -- a cell is taken
        obtain ⟨ex, hc⟩ : x = 0 ∧ cells ≠ [] := by simpa using hb
        have st2 := st1.same hh2
        have g2 : Gr M (S.cut H) M1 (S.cut H2) := g1.trans (.idle g1.mh fun y u e => by rw [cut_on (on_of e)]; exact hh2 y u (of_cut e))
        obtain ⟨cell, rest, rfl⟩ : ∃ c r, cells = c :: r := by cases cells with | nil => exact absurd rfl hc | cons c r => exact ⟨c, r, rfl⟩
        refine ⟨.ref S.a, rfl, .inl ⟨S.a, _, 0, .ref S.b, rfl, rfl, .inl (.inl st2.a), rfl, .inl ⟨rfl, _, .inl (.inl st2.b)⟩, S.b, _, 0, 0, .int cell, rfl, rfl, st2.b, by decide, by decide, ?_, rfl, .ref S.a, rfl, S.a, _, 1, 1, rfl, rfl, (by rw [upd_ne hne]; exact st2.a), rfl, ?_⟩⟩
        · simp [seqIndex?]
        · have st3 : StAt S (upd (upd H2 S.b (.lst (((cell :: rest).map V.int).eraseIdx 0))) S.a (.lst ([V.ref S.b, .int x, .int (n + 1), .int m].set 1 (.int cell)))) rest cell (n + 1) m := ⟨hne, upd_same, by rw [upd_ne (Ne.symm hne), upd_same]; rfl⟩
          have g3 : Gr M (S.cut H) M1 (S.cut (upd (upd H2 S.b (.lst (((cell :: rest).map V.int).eraseIdx 0))) S.a (.lst ([V.ref S.b, .int x, .int (n + 1), .int m].set 1 (.int cell))))) := by rw [cut_updo (.inl rfl), cut_updo (.inr rfl)]; exact g2
          revert st3 g3
          generalize upd (upd H2 S.b (.lst (((cell :: rest).map V.int).eraseIdx 0))) S.a (.lst ([V.ref S.b, .int x, .int (n + 1), .int m].set 1 (.int cell))) = H3
          intro st3 g3
          refine s_if0 (b := decide (cell < 1000000000000000000)) (full_same g3.mh) (gt_test (gv_is (gv_lt (gv_ixI (K := K) (i := 1) (gv_var rfl st3.sq) (gv_c rfl) rfl) (gv_pow (i := 10) (j := 18) (gv_c rfl) (gv_c rfl) ⟨by decide, by decide, by decide⟩)) fun M v h => by rw [hp18] at h; exact h)) (fun hb4 H4 hh4 => ?_) (fun hb4 H4 hh4 => ?_)
          · have st4 := st3.same hh4
            have g4 : Gr M (S.cut H) M1 (S.cut H4) := g3.trans (.idle g3.mh fun y u e => by rw [cut_on (on_of e)]; exact hh4 y u (of_cut e))
            refine z_sub (j := 3) (jn := 3) (z := (m * 31 + cell + 7) % 2147483647) rfl g4.mh st4 rfl (gv_mod (gv_int1 (gv_addIn (K := K) (gv_addIn (K := K) (gv_mul (gv_ixI (K := K) (i := 3) (gv_var rfl st4.sq) (gv_c rfl) rfl) (gv_c rfl) (.inr ⟨by decide, by decide⟩)) (gv_ixI (K := K) (i := 1) (gv_var rfl st4.sq) (gv_c rfl) rfl)) (gv_c rfl))) (gv_c rfl) (by decide)) fun M5 H5 g5 ha5 hb5 => ?_
            have st5 : StAt S H5 rest cell (n + 1) ((m * 31 + cell + 7) % 2147483647) := ⟨hne, ha5, hb5⟩
            refine z_subE (j := 1) (jn := 1) (z := 0) rfl g5.mh st5 rfl (gv_c rfl) fun M6 H6 g6 ha6 hb6 => ?_
            exact hnx _ _ ⟨M6, rest, 0, _, rfl, (g4.trans g5).trans g6, ⟨hne, ha6, hb6⟩, Int.le_refl _, Int.emod_nonneg _ (by decide), Int.emod_lt_of_pos _ (by decide)⟩
          · have hc : (1000000000000000000 : Int) ≤ cell := by simpa using hb4
            exact hnx _ _ ⟨M1, rest, cell, m, rfl, g3.trans (.idle g3.mh fun y u e => by rw [cut_on (on_of e)]; exact hh4 y u (of_cut e)), st3.same hh4, by omega, hm0, hm⟩
      · exact hnx _ _ ⟨M1, cells, x, m, rfl, g1.trans (.idle g1.mh fun y u e => by rw [cut_on (on_of e)]; exact hh2 y u (of_cut e)), st1.same hh2, hx, hm0, hm⟩
    · rintro σ' H2 ⟨M2, cells, x, m, rfl, g2, st2, hx, hm0, hm⟩
      have hk' : n + 1 + (k : Int) ≤ 10000000 := by omega
      refine q_if0 (b := decide (0 < x)) (full_same g2.mh) (gt_test (gv_is (gv_gt (gv_ixI (K := K) (i := 1) (gv_var rfl st2.sq) (gv_c rfl) rfl) (gv_c rfl)) fun M v h => h)) (fun hb3 H3 hh3 => ?_) (fun hb3 H3 hh3 => ?_)
      · have st3 := st2.same hh3
        have g3 : Gr M (S.cut H) M2 (S.cut H3) := g2.trans (.idle g2.mh fun y u e => by rw [cut_on (on_of e)]; exact hh3 y u (of_cut e))
        refine q_asg (M := S.full M2 H3) (P := It' (x % many)) (full_same g3.mh) (gv_mod (gv_int1 (gv_ixI (K := K) (i := 1) (gv_var rfl st3.sq) (gv_c rfl) rfl)) (gv_var rfl rfl) hm1) fun v4 M4 H4 g4 r4 => ?_
        cases r4
        have st4 := st3.same g4.hh
        have G4 := g3.trans (unfull g3.mh g4)
        refine z_sub (j := 1) (jn := 1) (z := x / many) rfl G4.mh st4 rfl (gv_fdiv (gv_ixI (K := K) (i := 1) (gv_var rfl st4.sq) (gv_c rfl) rfl) (gv_var rfl rfl) ⟨hm1, hm2⟩) fun M5 H5 g5 ha5 hb5 => ?_
        refine ⟨.int (x % many), rfl, q _ M5 H5 (G4.trans g5) ⟨hne, cells, x / many, n + 1, m, ha5, hb5, Int.ediv_nonneg hx (by omega), by omega, hk', hm0, hm⟩ ⟨x % many, ⟨Int.emod_nonneg _ (by omega), Int.emod_lt_of_pos _ hm1⟩, rfl⟩⟩
      · have st3 := st2.same hh3
        have g3 : Gr M (S.cut H) M2 (S.cut H3) := g2.trans (.idle g2.mh fun y u e => by rw [cut_on (on_of e)]; exact hh3 y u (of_cut e))
        refine q_asg (M := S.full M2 H3) (P := It' ((m + 104729 * (n + 1) + 17) ^ (5 : Int).toNat % 2147483629)) (full_same g3.mh) (gv_mod (gv_pow (gv_addIn (K := K) (gv_addIn (K := K) (gv_ixI (K := K) (i := 3) (gv_var rfl st3.sq) (gv_c rfl) rfl) (gv_mul (gv_c rfl) (gv_ixI (K := K) (i := 2) (gv_var rfl st3.sq) (gv_c rfl) rfl) (.inl ⟨by decide, by decide⟩))) (gv_c rfl)) (gv_c rfl) ⟨by decide, by decide, by omega⟩) (gv_c rfl) (by decide)) fun v4 M4 H4 g4 r4 => ?_
        have st4 := st3.same g4.hh
        have G4 := g3.trans (unfull g3.mh g4)
        have hz0 := Int.emod_nonneg ((m + 104729 * (n + 1) + 17) ^ (5 : Int).toNat) (show (2147483629 : Int) ≠ 0 by decide)
        have hz1 := Int.emod_lt_of_pos ((m + 104729 * (n + 1) + 17) ^ (5 : Int).toNat) (show (0 : Int) < 2147483629 by decide)
        revert r4 hz0 hz1
        generalize (m + 104729 * (n + 1) + 17) ^ (5 : Int).toNat % 2147483629 = z
        intro r4 hz0 hz1
        have hnn : (n + 1) * (n + 1) ≤ 10000000 * 10000000 := Int.mul_le_mul (by omega) (by omega) (by omega) (by omega)
        have hnn0 : 0 ≤ (n + 1) * (n + 1) := Int.mul_nonneg (by omega) (by omega)
        have hass : 40503 * (n + 1) * (n + 1) = 40503 * ((n + 1) * (n + 1)) := Int.mul_assoc _ _ _
        refine s_ret (M := S.full (S.cut M4) H4) (P := It' ((z * 48271 + 40503 * (n + 1) * (n + 1) + 13) ^ (3 : Int).toNat % 1000000007 % many)) (full_same G4.mh) (gv_mod (gv_mod (gv_pow (gv_addIn (K := K) (gv_addIn (K := K) (gv_mul (gv_var rfl r4) (gv_c rfl) (.inr ⟨by decide, by decide⟩)) (gv_mul (gv_mul (gv_c rfl) (gv_ixI (K := K) (i := 2) (gv_var rfl st4.sq) (gv_c rfl) rfl) (.inl ⟨by decide, by decide⟩)) (gv_ixI (K := K) (i := 2) (gv_var rfl st4.sq) (gv_c rfl) rfl) (.inr ⟨by omega, by omega⟩))) (gv_c rfl)) (gv_c rfl) ⟨by decide, by decide, by omega⟩) (gv_c rfl) (by decide)) (gv_var rfl rfl) hm1) fun v5 M5 H5 g5 r5 => ?_
        have st5 := st4.same g5.hh
        exact q _ _ H5 (G4.trans (unfull G4.mh g5)) ⟨hne, cells, x, n + 1, m, st5.a, st5.b, hx, by omega, hk', hm0, hm⟩ ⟨_, ⟨Int.emod_nonneg _ (by omega), Int.emod_lt_of_pos _ hm1⟩, r5⟩
end
end My

set_option Elab.async false
set_option linter.all false
set_option maxRecDepth 100000
set_option maxHeartbeats 4000000
namespace My
open PySem PySem.Spec PyProof.Rows L2 L3
open L3.Strm
theorem rv_ix {K : PySem.W.Frag} {α : Type} {R : Rl α} [Mon R] {xs : List α} {i : Int} {x : α} {M : Hp} {u w : V} (hu : SqR K R xs M u) (hw : It' i M w) (hx : atI xs i = some x) : RV (rIxX K u w) M (R x) :=
  fun H mh Q q => gv_ix (K := K) (σ := []) (M := M) (ta := tC u) (tb := tC w) (gv_c hu) (gv_c hw) hx H mh Q q
theorem rv_ixS {K : PySem.W.Frag} {x : Str} {i : Int} {c : Nat} {M : Hp} {u w : V} (hu : Tx x M u) (hw : It' i M w) (hz : x.length ≤ sizeLine) (hx : atI x.cps.toList i = some c) : RV (rIxX K u w) M (Tx ⟨#[c]⟩) :=
  fun H mh Q q => gv_ixS (K := K) (σ := []) (M := M) (ta := tC u) (tb := tC w) (gv_c hu) (gv_c hw) hz hx H mh Q q
theorem atI_in {α : Type} {xs : List α} {i : Int} (h0 : 0 ≤ i) (h1 : i < xs.length) : ∃ x ∈ xs, atI xs i = some x := by
  have hi : i.toNat < xs.length := by omega
  refine ⟨xs[i.toNat], List.getElem_mem _, ?_⟩
  have := atI_nat (xs := xs) (j := i.toNat) (List.getElem?_eq_getElem hi)
  rw [Int.toNat_of_nonneg h0] at this
  exact this
section
variable {P : Program} {w : World} {K : PySem.W.Frag} {mg : Str → Option Value} {base : Heap}
abbrev s__law_pick : Stmt := topS 25
theorem sc__law_pick : FnScope ["_law_stream", "_law_things"] ["_law_stream", "_law_things"] (defScope s__law_pick) := ⟨rfl, rfl, rfl, by decide +kernel, rfl, by decide +kernel, by decide +kernel⟩
end
end My

set_option Elab.async false
set_option linter.all false
set_option maxRecDepth 100000
set_option maxHeartbeats 4000000
namespace L3
open PySem PySem.Spec PyProof.Rows L2 SeqAt
/-! data at any depth, among which {'a': None} may stand; repr of it -/
mutual
inductive Dz (K : PySem.W.Frag) (M : Hp) : V → PyData → Prop
  | non : Dz K M .non .none
  | bl (b : Bool) : Dz K M (.bl b) (.bool b)
  | int (i : Int) : Dz K M (.int i) (.int i)
  | str (x : Str) : Dz K M (.str x) (.str x)
  | dct {a : Addr} {k : Str} : M a = some (.dK [(Sum.inr k, .non)]) → Dz K M (.ref a) (.dict [(.str k, .none)])
  | lst {a : Addr} {xs : List V} {ds : List PyData} : SqL K M a xs → DzAll K M xs ds → Dz K M (.ref a) (.list ds)
  | tup {a : Addr} {xs : List V} {ds : List PyData} : SqT K M a xs → DzAll K M xs ds → Dz K M (.ref a) (.tuple ds)
inductive DzAll (K : PySem.W.Frag) (M : Hp) : List V → List PyData → Prop
  | nil : DzAll K M [] []
  | cons {v : V} {vs : List V} {d : PyData} {ds : List PyData} : Dz K M v d → DzAll K M vs ds → DzAll K M (v :: vs) (d :: ds)
end
mutual
theorem dz_mono {K : PySem.W.Frag} {M M' : Hp} (e : Same M M') : ∀ {v : V} {d : PyData}, Dz K M v d → Dz K M' v d
  | _, _, .non => .non
  | _, _, .bl b => .bl b
  | _, _, .int i => .int i
  | _, _, .str x => .str x
  | _, _, .dct h => .dct (e _ _ h)
  | _, _, .lst hs ha => .lst (sl_mono e hs) (dza_mono e ha)
  | _, _, .tup hs ha => .tup (st_mono e hs) (dza_mono e ha)
theorem dza_mono {K : PySem.W.Frag} {M M' : Hp} (e : Same M M') : ∀ {vs : List V} {ds : List PyData}, DzAll K M vs ds → DzAll K M' vs ds
  | _, _, .nil => .nil
  | _, _, .cons h t => .cons (dz_mono e h) (dza_mono e t)
end
abbrev DzR (K : PySem.W.Frag) : Rl PyData := fun d M v => Dz K M v d
instance {K : PySem.W.Frag} : Mon (DzR K) := ⟨fun e h => dz_mono e h⟩
instance {K : PySem.W.Frag} {d : PyData} : Mono (DzR K d) := ⟨fun e h => dz_mono e h⟩
theorem pd_dza {K : PySem.W.Frag} {M : Hp} {vs : List V} {ds : List PyData} (h : Pd (DzR K) M ds vs) : DzAll K M vs ds := by
  induction h with
  | nil => exact .nil
  | cons q _ ih => exact .cons q ih
/-- the table of modules is a dict of the written part -/
def smB (K : PySem.W.Frag) : Bool := match K.lookup sysModules with
  | some o => match o.data with
    | .dict _ _ => true
    | _ => false
  | none => false
section
variable {X : Cx}
theorem sm_list {pins : List (Addr × Obj)} {s : Shared} {σ : L2.St} {H : Hp} {a : Addr} {o : Obj} {vs : Array Value} {n : Nat} (I : L2.Inv X pins σ H s) (sm : smB X.K = true) (h : s.heap.get? a = some o) (hd : o.data = .seq vs n) : a ≠ sysModules := fun e => by
  subst e
  unfold smB at sm
  cases q : X.K.lookup sysModules with
  | none => rw [q] at sm; cases sm
  | some u =>
    rw [q] at sm
    have := I.kIn _ _ q
    rw [h] at this
    cases this
    obtain ⟨oc, od, dt, osl⟩ := o
    cases (show dt = _ from hd)
    cases sm
mutual
theorem dz_reads {pins : List (Addr × Obj)} {s : Shared} {σ : L2.St} {H : Hp} (I : L2.Inv X pins σ H s) (sm : smB X.K = true) : ∀ {v : V} {d : PyData} {u : Value}, Dz X.K H v d → L2.RelV v u → ∃ as, Reads s.heap u d as ∧ sysModules ∉ as
  | _, _, u, .non, r => by cases r; exact ⟨_, .none, by simp⟩
  | _, _, u, .bl b, r => by cases r; exact ⟨_, .bool b, by simp⟩
  | _, _, u, .int i, r => by obtain ⟨t, rfl⟩ := r; exact ⟨_, .int i t, by simp⟩
  | _, _, u, .str x, r => by obtain ⟨t, rfl⟩ := r; exact ⟨_, .str x t, by simp⟩
  | _, _, u, .dct (a := a) (k := k) ha, r => by
    cases (show _ = Value.ref a from r)
    obtain ⟨_, hn, vs, rk, o2, es, ep, ho2, hc2, hd2, _, pp, _⟩ := dk_of I.hok ha
    cases rk with
    | @cons _ w _ ws h1 rk =>
      cases rk
      obtain ⟨wk, wv⟩ := w
      obtain ⟨e1, e2⟩ := h1
      cases (show Sum.inr k = wk from e1)
      cases (show wv = Value.none from e2)
      generalize ee : es.toList = es' at pp
      cases pp with
      | @cons e _ es2 _ k1 k2 pp =>
        cases pp
        rcases keyIs_shape (show L2.keyIs (Sum.inr k) e.key = true from k1) with ⟨i, t, z, _⟩ | ⟨x, t, z1, z2⟩
        · cases z
        · cases z1
          have hk : ReadsAll s.heap (es.toList.map (·.key)) [PyData.str k] ([] ++ []) := by
            rw [ee]
            exact ReadsAll.cons (by show Reads s.heap e.key _ _; rw [z2]; exact Reads.str k t) ReadsAll.nil
          have hv : ReadsAll s.heap (es.toList.map (·.val)) [PyData.none] ([] ++ []) := by
            rw [ee]
            exact ReadsAll.cons (by show Reads s.heap e.val _ _; rw [k2]; exact Reads.none) ReadsAll.nil
          refine ⟨_, Reads.dict (kvs := [(.str k, .none)]) ho2 hc2.1 hd2 hk hv, fun z => ?_⟩
          have : sysModules = a := by simpa using z
          rw [← this] at hn
          simp at hn
  | _, _, u, .lst (a := a) hs ha, r => by
    cases (show _ = Value.ref a from r)
    obtain ⟨its, rv, ⟨o, n, ho, hc, _, hd⟩, _⟩ := I.list hs
    obtain ⟨as, rd, hn⟩ := dza_reads I sm ha rv
    refine ⟨_, Reads.list ho hc hd (by simpa using rd), fun z => ?_⟩
    rcases List.mem_cons.mp z with z | z
    · exact sm_list I sm ho hd z.symm
    · exact hn z
  | _, _, u, .tup (a := a) hs ha, r => by
    cases (show _ = Value.ref a from r)
    obtain ⟨its, rv, ⟨o, ho, hc, n, hd⟩, _⟩ := I.tuple hs
    obtain ⟨as, rd, hn⟩ := dza_reads I sm ha rv
    exact ⟨_, Reads.tuple ho hc hd (by simpa using rd), hn⟩
theorem dza_reads {pins : List (Addr × Obj)} {s : Shared} {σ : L2.St} {H : Hp} (I : L2.Inv X pins σ H s) (sm : smB X.K = true) : ∀ {vs : List V} {ds : List PyData} {us : List Value}, DzAll X.K H vs ds → Vals vs us → ∃ as, ReadsAll s.heap us ds as ∧ sysModules ∉ as
  | _, _, _, .nil, r => by cases r; exact ⟨_, .nil, by simp⟩
  | _, _, _, .cons h t, r => by
    cases r with
    | cons r1 rv =>
      obtain ⟨as, rd, hn⟩ := dz_reads I sm h r1
      obtain ⟨bs, rds, hm⟩ := dza_reads I sm t rv
      exact ⟨_, .cons rd rds, fun z => (List.mem_append.mp z).elim hn hm⟩
end
/-- small enough to be shown -/
def GoodZ (d : PyData) : Prop := d.showable = true ∧ d.depth ≤ 10 ∧ d.leavesShort 40 = true ∧ d.weight ≤ 1000
theorem GoodZ.len {d : PyData} (g : GoodZ d) : d.shown.length ≤ sizeLine := by
  have := PyData.shown_le 40 (by decide) d g.2.2.1
  have h2 := g.2.2.2
  refine Nat.le_trans this ?_
  show 42 * d.weight + 40 ≤ sizeLine
  rw [sizeLine_eq]
  omega
def rReprZ (K : PySem.W.Frag) : List V → Hp → VK → Prop := fun xs H Q => ∃ v d, xs = [v] ∧ Dz K H v d ∧ d.showable = true ∧ d.depth ≤ 64 ∧ d.shown.length ≤ sizeLine ∧ Q (.str d.shown) H
theorem call_reprZ (sm : smB X.K = true) (hgu : X.A.guards = some []) (hu : X.A.units + 70 < cLine) : CallR X (.builtin "repr") (rReprZ X.K) := by
  rintro pins s σ H _ us Q I r ⟨v, d, rfl, hd, hs, hdp, hz, q⟩
  have ⟨u, eu, ru⟩ := vals1 r
  subst eu
  obtain ⟨as, rd, hn⟩ := dz_reads I sm hd ru
  have hsm : d.hasDict = true → sysModules ∉ as := fun _ => hn
  have fin : ∀ h' u' tk, (∀ b o, s.heap.get? b = some o → h'.get? b = some o) → EP X pins σ Q (.str d.shown u') { s with heap := h', toks := tk } :=
    fun h' u' tk k => ⟨.str d.shown, H, I.kept k, ⟨_, rfl⟩, q⟩
  cases hd with
  | non =>
    cases ru
    simp only [PyData.shown] at fin
    exact PySem.P.repr_of_none (fin s.heap _ _ fun _ _ e => e)
  | bl b =>
    cases ru
    simp only [PyData.shown] at fin
    exact PySem.P.repr_of_bool (fin s.heap _ _ fun _ _ e => e)
  | int i =>
    obtain ⟨t, rfl⟩ := ru
    simp only [PyData.shown] at fin
    exact PySem.P.repr_of_int (by simpa [PyData.showable] using hs) (fin s.heap _ _ fun _ _ e => e)
  | str x =>
    obtain ⟨t, rfl⟩ := ru
    simp only [PyData.shown] at fin hz
    exact PySem.P.repr_of_str (fin s.heap _ _ fun _ _ e => e) hz
  | dct ha =>
    cases ru
    exact repr_of_reads' rd hs hsm hgu (by omega) (fun _ _ e => e) fin hz
  | lst hl ha =>
    cases ru
    exact repr_of_reads' rd hs hsm hgu (by omega) (fun _ _ e => e) fin hz
  | tup hl ha =>
    cases ru
    exact repr_of_reads' rd hs hsm hgu (by omega) (fun _ _ e => e) fin hz
theorem gv_reprZ {K : PySem.W.Frag} {σ : Sl} {M : Hp} {te : TE} {d : PyData} (h : Gv te σ M (DzR K d)) (g : GoodZ d) : Gv (tCB (rReprZ K) (tCons te tNil)) σ M (Tx d.shown) :=
  gv_cb1 h fun M' v hv H mh Q q => ⟨v, d, rfl, dz_mono mh hv, g.1, by have := g.2.1; omega, g.len, q _ M' H (.refl mh) rfl⟩
end
end L3

set_option Elab.async false
set_option linter.all false
set_option maxRecDepth 100000
set_option maxHeartbeats 4000000
namespace My
open PySem PySem.Spec PyProof.Rows L2 L3
open L3.Strm
section
variable {α : Type} {R : Rl α} [Mon R] {S : Strm} {σ : Sl} {M : Hp} {t : TE} {ta : TA} {c1 c2 c n : Nat} {good : α → Prop}
theorem ga_rl0 : GvA tNil σ M fun M vs => Pd R M ([] : List α) vs := fun H mh Q q => q [] M H (.refl mh) .nil
theorem ga_rl {x : α} {xs : List α} (h : Gv t σ M (R x)) (hr : ∀ M1, Same M M1 → GvA ta σ M1 fun M vs => Pd R M xs vs) : GvA (tCons t ta) σ M fun M vs => Pd R M (x :: xs) vs := fun H mh Q q =>
  h H mh _ fun v M1 H1 g1 p => hr M1 g1.mm H1 g1.mh _ fun vs M2 H2 g2 ps => q (v :: vs) M2 H2 (g1.trans g2) (.cons (Mon.mono g2.mm p) ps)
theorem gv_lstG {xs : List α} (h : GvA ta σ M fun M vs => Pd R M xs vs) (hz : xs.length ≤ 1000) : Gv (tLst ta) σ M (LiR R xs) := (gl_lst h fun M vs p => by rw [← p.length]; exact Nat.le_trans hz (by decide)).gv fun M vs p h m => ⟨p, vs, rfl, upd_same, Pd.mono (same_new m) h⟩
def GvAS {α : Type} (S : Strm) (c : Nat) (ta : TA) (σ : Sl) (M : Hp) (R : Rl α) (good : α → Prop) (n : Nat) : Prop := ∀ H k, Same M (S.cut H) → S.At (k + c) H → ∀ Q : List V → Hp → Prop,
  (∀ xs vs M' H', Gr M (S.cut H) M' (S.cut H') → S.At k H' → xs.length = n → (∀ x ∈ xs, good x) → Pd R M' xs vs → Q vs H') → ta σ H Q
theorem gas0 : GvAS S 0 tNil σ M R good 0 := fun H k mh a Q q => q [] [] M H (.refl mh) a rfl (fun x hx => by cases hx) .nil
theorem gas_cons (h : GvS S c1 t σ M (Ex R good)) (hr : ∀ M1, Same M M1 → GvAS S c2 ta σ M1 R good n) : GvAS S (c1 + c2) (tCons t ta) σ M R good (n + 1) := fun H k mh a Q q =>
  h H (k + c2) mh (a.le (by omega)) _ fun v M1 H1 g1 a1 ⟨x, gx, p⟩ => hr M1 g1.mm H1 k g1.mh a1 _ fun xs vs M2 H2 g2 a2 hl hg ps => q (x :: xs) (v :: vs) M2 H2 (g1.trans g2) a2 (by rw [List.length_cons, hl]) (fun y hy => by
    rcases List.mem_cons.mp hy with rfl | hy
    · exact gx
    · exact hg y hy) (.cons (Mon.mono g2.mm p) ps)
theorem gs_lst (h : GvAS S c ta σ M R good n) (hz : n ≤ 1000) : GvLS S c (tLst ta) σ M fun M ws => ∃ xs : List α, xs.length = n ∧ (∀ x ∈ xs, good x) ∧ Pd R M xs ws := fun H k mh a Q q =>
  h H k mh a _ fun xs vs M1 H1 g1 a1 hl hg pd => ⟨by rw [← pd.length, hl]; exact Nat.le_trans hz (by decide), fun p np => by
    have n1 := a1.fresh np
    exact q p vs M1 _ (g1.trans (by rw [cut_upd n1]; exact .own g1.mh (a1.cutn np))) (a1.upd n1) (g1.hh.free (a1.cutn np)) (g1.mh.free (a1.cutn np)) (by rw [cut_upd n1, upd_same]) ⟨xs, hl, hg, pd⟩⟩
end
section
variable {K : PySem.W.Frag} {S : Strm} {σ : Sl} {M : Hp} {te : TE} {i : Nat} {n : Int}
theorem gs_draw (hi : σ[i]? = some (some (.ref S.a))) (h : Gv te σ M (It' n)) (h0 : 0 < n) (h1 : n < 1073741824) : GvS S 1 (tCall (sp__law_draw K) [] E0 (tCons (tVar i) (tCons te tNil))) σ M (Ex It' fun z => 0 ≤ z ∧ z < n) :=
  gs_call1 (S := S) (R1 := It') (pre := fun n => 0 < n ∧ n < 1073741824) (cs := fun _ => 1) (R := fun n => Ex It' fun i => 0 ≤ i ∧ i < n) (x := n) hi h ⟨h0, h1⟩
end
/-- the things of the law are small -/
theorem gz_text {x : Str} (h : x.length ≤ 100) (hc : ∀ c ∈ x.cps.toList, c < 16 ^ 8) : GoodZ (.str x) :=
  ⟨rfl, by simp [PyData.depth], by rw [PyData.leavesShort]; exact List.all_eq_true.mpr fun c hx => decide_eq_true (hc c hx), by rw [PyData.weight]; have : x.cps.size ≤ 100 := h; omega⟩
theorem gz_pair {a b : PyData} (ha : GoodZ a ∧ a.depth ≤ 5 ∧ a.weight ≤ 400) (hb : GoodZ b ∧ b.depth ≤ 5 ∧ b.weight ≤ 400) : GoodZ (.list [a, b]) := by
  obtain ⟨⟨a1, a2, a3, a4⟩, a5, a6⟩ := ha
  obtain ⟨⟨b1, b2, b3, b4⟩, b5, b6⟩ := hb
  refine ⟨?_, ?_, ?_, ?_⟩
  · simp only [PyData.showable, PyData.showableAll, a1, b1, Bool.and_true]
  · simp only [PyData.depth, PyData.depthAll]; omega
  · simp only [PyData.leavesShort, PyData.leavesShortAll, a3, b3, Bool.and_true]
  · simp only [PyData.weight, PyData.weightAll]; omega
/-- what the law takes: small things -/
def Thing (d : PyData) : Prop := GoodZ d ∧ d.depth ≤ 5 ∧ d.weight ≤ 400
theorem th_text {x : Str} (h : x.length ≤ 100) (hc : ∀ c ∈ x.cps.toList, c < 16 ^ 8) : Thing (.str x) := ⟨gz_text h hc, by simp [PyData.depth], by rw [PyData.weight]; have : x.cps.size ≤ 100 := h; omega⟩
def thingB (d : PyData) : Bool := d.showable && decide (d.depth ≤ 5) && d.leavesShort 40 && decide (d.weight ≤ 400)
theorem th_of {d : PyData} (h : thingB d = true) : Thing d := by
  simp only [thingB, Bool.and_eq_true, decide_eq_true_eq] at h
  obtain ⟨⟨⟨h1, h2⟩, h3⟩, h4⟩ := h
  exact ⟨⟨h1, by omega, h3, by omega⟩, h2, h4⟩
def ints0 : List PyData := [.int 0, .int (-1), .int 9, .int (10 ^ 29), .bool true]
def conts0 : List PyData := [.none, .tuple [.int 1, .str "a"], .list [.str "x", .tuple []], .dict [(.str "a", .none)]]
theorem th_ints : ∀ d ∈ ints0, Thing d := fun d hd => th_of (List.all_eq_true.mp (show ints0.all thingB = true by decide +kernel) d hd)
theorem th_conts : ∀ d ∈ conts0, Thing d := fun d hd => th_of (List.all_eq_true.mp (show conts0.all thingB = true by decide +kernel) d hd)
section
variable {P : Program} {w : World} {K : PySem.W.Frag} {mg : Str → Option Value} {base : Heap}
abbrev s__law_same : Stmt := topS 26
theorem sc__law_same : FnScope ["_law_found", "_law_due"] ["_law_found", "_law_due"] (defScope s__law_same) := ⟨rfl, rfl, rfl, by decide +kernel, rfl, by decide +kernel, by decide +kernel⟩
def sp__law_same (K : PySem.W.Frag) : Sp := sp2 (DzR K) (DzR K) (fun d e => GoodZ d ∧ GoodZ e) fun d e => Bl (decide (d.shown = e.shown))
theorem ok__law_same {f : Addr} {fd : FuncData} (F : Fun K "_law_same" "_law_same" s__law_same f fd) (T : Gc mg) (sm : smB K = true) : FnG P w K mg base CX0 1 f fd ["_law_found", "_law_due"] (sp__law_same K) := by
  refine fun_okG F sc__law_same (fun vs H Q E h => ?_) (fun cdv A outer s H vs Q E hgu hr h => ?_)
  · obtain ⟨x, y, M, v, w, rfl, _⟩ := h
    rfl
  · obtain ⟨d, e, M, v, w, rfl, mh, r1, r2, ⟨g1, g2⟩, q⟩ := h
    have hu := hr.units
    have hgu : (A.deeper (envOfC "_law_same" (defScope s__law_same) s.heap.objs.size f cdv)).guards = some [] := hgu
    have hu7 : (A.deeper (envOfC "_law_same" (defScope s__law_same) s.heap.objs.size f cdv)).units + 70 < cLine := by have := hr.un; omega
    refine ⟨_, (pss_one (ps_ret (pe_cmpR (op_eqP hu) (pe_callB (call_reprZ sm hgu hu7) (by rfl) T.repr boot_repr (pa_cons (pv 0) pa_nil)) (pe_callB (call_reprZ sm hgu hu7) (by rfl) T.repr boot_repr (pa_cons (pv 1) pa_nil)) (nomark _)))), ?_⟩
    exact s_ret mh (gv_is (gv_eqT (K := K) (neg := false) py_str inj_str (gv_reprZ (K := K) (gv_var rfl r1) g1) (gv_reprZ (K := K) (gv_var rfl r2) g2) (by simp [PyData.depth])) fun M v h => by simpa using h) q
def sp_pickG (K : PySem.W.Frag) {α : Type} (R : Rl α) : Sp := spS1 (SqR K R) (fun xs => 0 < xs.length ∧ xs.length ≤ 1000000) (fun _ => 1) fun xs => Ex R fun x => x ∈ xs
theorem ok_pickG {α : Type} {R : Rl α} [Mon R] {f : Addr} {fd : FuncData} (F : Fun K "_law_pick" "_law_pick" s__law_pick f fd) (T : Gc mg) (c__law_draw : Cal P w K mg base 1 "_law_draw" ["_law_stream", "_law_many"] (sp__law_draw K)) : FnOk P w K mg base CX0 2 f fd ["_law_stream", "_law_things"] (sp_pickG K R) := by
  refine F.ok sc__law_pick (fun vs H Q E h => ?_) (fun cdv A outer s H vs Q E hr h => ?_)
  · obtain ⟨S, x, M, v, k, rfl, _⟩ := h
    rfl
  · obtain ⟨S, xs, M, v, k, rfl, mh, at_, r1, ⟨h1, h2⟩, q⟩ := h
    have hu := hr.units
    refine ⟨_, (pss_one (ps_ret (pe_ix ix_X (pv 1) (pe_f c__law_draw (hr.mono (by decide)) (pa_cons (pv 0) (pa_cons (pe_callB call_lenA (by rfl) T.len boot_len (pa_cons (pv 1) pa_nil)) pa_nil))) (fun _ _ => rfl)))), ?_⟩
    refine z_ret (S := S) (c := 0 + 1) mh at_ (gs_op (P := SqR K R xs) (P1 := Ex It' fun i => 0 ≤ i ∧ i < (xs.length : Int)) (gv_var rfl r1).s (gs_draw (K := K) rfl (gv_lenA (K := K) (R := R) (gv_var rfl r1)) (by omega) (by omega)) fun M' u w pu ⟨i, hi, pw⟩ => ?_) q
    obtain ⟨x, hx, ha⟩ := atI_in hi.1 hi.2
    exact fun H mh Q q => rv_ix pu pw ha H mh Q fun v M' H' g r => q v M' H' g ⟨x, hx, r⟩
def sp_pickS (K : PySem.W.Frag) : Sp := spS1 Tx (fun x => 0 < x.length ∧ x.length ≤ 1000000) (fun _ => 1) fun x => Ex Tx fun y => ∃ c ∈ x.cps.toList, y = ⟨#[c]⟩
theorem ok_pickS {f : Addr} {fd : FuncData} (F : Fun K "_law_pick" "_law_pick" s__law_pick f fd) (T : Gc mg) (c__law_draw : Cal P w K mg base 1 "_law_draw" ["_law_stream", "_law_many"] (sp__law_draw K)) : FnOk P w K mg base CX0 2 f fd ["_law_stream", "_law_things"] (sp_pickS K) := by
  refine F.ok sc__law_pick (fun vs H Q E h => ?_) (fun cdv A outer s H vs Q E hr h => ?_)
  · obtain ⟨S, x, M, v, k, rfl, _⟩ := h
    rfl
  · obtain ⟨S, x, M, v, k, rfl, mh, at_, r1, ⟨h1, h2⟩, q⟩ := h
    have hu := hr.units
    refine ⟨_, (pss_one (ps_ret (pe_ix ix_X (pv 1) (pe_f c__law_draw (hr.mono (by decide)) (pa_cons (pv 0) (pa_cons (pe_callB call_lenA (by rfl) T.len boot_len (pa_cons (pv 1) pa_nil)) pa_nil))) (fun _ _ => rfl)))), ?_⟩
    refine z_ret (S := S) (c := 0 + 1) mh at_ (gs_op (P := Tx x) (P1 := Ex It' fun i => 0 ≤ i ∧ i < (x.cps.toList.length : Int)) (gv_var rfl r1).s (gs_draw (K := K) (n := (x.cps.toList.length : Int)) rfl (gv_is (gv_lenS (K := K) (gv_var rfl r1) (szM (by omega))) fun M v h => by rw [show v = _ from h]; rfl) (by have : x.cps.toList.length = x.length := rfl; omega) (by have : x.cps.toList.length = x.length := rfl; omega)) fun M' u w pu ⟨i, hi, pw⟩ => ?_) q
    obtain ⟨c, hx, ha⟩ := atI_in hi.1 hi.2
    exact fun H mh Q q => rv_ixS pu pw (szM (by omega)) ha H mh Q fun v M' H' g r => q v M' H' g ⟨_, ⟨c, hx, rfl⟩, r⟩
end
end My

set_option Elab.async false
set_option linter.all false
set_option maxRecDepth 100000
set_option maxHeartbeats 4000000
namespace My
open PySem PySem.Spec PyProof.Rows L2 L3
open L3.Strm
def sgn (c : Nat) : Str := ⟨#[c]⟩
theorem join_sgn (cs : List Nat) : Txt.join "" (cs.map sgn) = ⟨cs.toArray⟩ := by
  have h := SX.join_S [] (cs.map fun c => [c])
  rw [List.map_map] at h
  have e : ∀ cs : List Nat, TL.joinL [] (cs.map fun c => [c]) = cs := fun cs => by
    induction cs with
    | nil => rfl
    | cons c r ih =>
      cases r with
      | nil => rfl
      | cons d r => show [c] ++ ([] ++ TL.joinL [] ((d :: r).map fun c => [c])) = c :: d :: r; rw [ih]; rfl
  rw [e] at h
  exact h
theorem sgn_sum (cs : List Nat) : ((cs.map sgn).map (·.length)).sum = cs.length := by
  induction cs with
  | nil => rfl
  | cons c r ih => simp only [List.map_cons, List.sum_cons, ih, List.length_cons]; show 1 + r.length = _; omega
theorem pick_sgns {α : Type} {xs : List α} {ys : List Str} {x : Str} (h : Paired (fun _ y => ∃ c ∈ x.cps.toList, y = (⟨#[c]⟩ : Str)) xs ys) : ∃ cs : List Nat, ys = cs.map sgn ∧ cs.length = xs.length ∧ ∀ c ∈ cs, c ∈ x.cps.toList := by
  induction h with
  | nil => exact ⟨[], rfl, rfl, fun c h => nomatch h⟩
  | cons q _ ih =>
    obtain ⟨c, hc, e⟩ := q
    obtain ⟨cs, h1, h2, h3⟩ := ih
    refine ⟨c :: cs, by rw [e, h1]; rfl, by simp [h2], fun d hd => ?_⟩
    rcases List.mem_cons.mp hd with rfl | hd
    · exact hc
    · exact h3 d hd
section
variable {K : PySem.W.Frag} {S : Strm} {σ : Sl} {M : Hp} {te : TE} {i : Nat}
theorem gv_minus {i : Int} (h : Gv te σ M (It' i)) : Gv (tUn (rU fun i => .int (-i)) te) σ M (It' (-i)) := fun H mh Q q => h H mh _ fun v M1 H1 g1 e => ⟨i, e, q _ M1 H1 g1 rfl⟩
/-- {'a': None} -/
theorem gv_dA : Gv (tDisp [(tC (.str "a"), tC .non)]) σ M (DzR K (.dict [(.str "a", .none)])) := fun H mh Q q p np => by
  have g0 := Gr.own (o := .dK []) mh np
  have m0 : M p = none := mh.free np
  refine ⟨upd_same, [(Sum.inr "a", .non)], rfl, by show 1 ≤ 15; decide, ?_⟩
  have e : upd (upd H p (.dK [])) p (.dK (L2.mergeK [] [(Sum.inr "a", V.non)])) = upd H p (.dK [(Sum.inr "a", .non)]) := by
    funext b
    by_cases hb : b = p
    · rw [hb, upd_same, upd_same]; rfl
    · rw [upd_ne hb, upd_ne hb, upd_ne hb]
  rw [e]
  exact q (.ref p) _ _ (.new mh np) (.dct upd_same)
theorem gv_tupZ {t1 t2 : TE} {d e : PyData} (h1 : Gv t1 σ M (DzR K d)) (h2 : Gv t2 σ M (DzR K e)) : Gv (tTup (tCons t1 (tCons t2 tNil))) σ M (DzR K (.tuple [d, e])) := fun H mh Q q =>
  h1 H mh _ fun v M1 H1 g1 p1 => h2.le g1.mm H1 g1.mh _ fun w M2 H2 g2 p2 => ⟨by show 2 ≤ sizeLine; decide, fun p np => q _ _ _ ((g1.trans g2).trans (.new g2.mh np)) (.tup (.inl (.inl upd_same)) (.cons (dz_mono (g2.mm.trans (same_new (g2.mh.free np))) p1) (.cons (dz_mono (same_new (g2.mh.free np)) p2) .nil)))⟩
theorem gv_tup0 : Gv (tTup tNil) σ M (DzR K (.tuple [])) := fun H mh Q q => ⟨by show 0 ≤ sizeLine; decide, fun p np => q _ _ _ (.new mh np) (.tup (.inl (.inl upd_same)) .nil)⟩
theorem li_dz {ds : List PyData} {M : Hp} {v : V} (h : LiR (DzR K) ds M v) : Dz K M v (.list ds) := let ⟨p, vs, e, hp, pd⟩ := h; e ▸ .lst (.inl (.inl hp)) (pd_dza pd)
theorem exT {te : TE} {d : PyData} (h : Gv te σ M (DzR K d)) (t : Thing d) : GvS S 0 te σ M (Ex (DzR K) Thing) := (gv_is h fun M v r => ⟨d, t, r⟩).s
end
section
variable {P : Program} {w : World} {K : PySem.W.Frag} {mg : Str → Option Value} {base : Heap}
abbrev s__law_thing : Stmt := topS 27
theorem sc__law_thing : FnScope ["_law_stream", "_law_way", "_law_k"] ["_law_stream"] (defScope s__law_thing) := ⟨rfl, rfl, rfl, by decide +kernel, rfl, by decide +kernel, by decide +kernel⟩
def sp__law_thing (K : PySem.W.Frag) : Sp := fun vs H Q _ => ∃ (S : Strm) (M : Hp) (k : Nat), vs = [.ref S.a] ∧ Same M (S.cut H) ∧ S.At (k + 6) H ∧ ∀ u M' H', Gr M (S.cut H) M' (S.cut H') → S.At k H' → Ex (DzR K) Thing M' u → Q u H'
theorem sgn_codes : ∀ c ∈ ("abz Z0-" : Str).cps.toList, c < 16 ^ 8 := by decide +kernel
theorem ok__law_thing {f : Addr} {fd : FuncData} (F : Fun K "_law_thing" "_law_thing" s__law_thing f fd) (T : Gc mg) (c__law_draw : Cal P w K mg base 1 "_law_draw" ["_law_stream", "_law_many"] (sp__law_draw K))
    (cG__law_pick : Cal P w K mg base 2 "_law_pick" ["_law_stream", "_law_things"] (sp_pickG K (DzR K))) (cS__law_pick : Cal P w K mg base 2 "_law_pick" ["_law_stream", "_law_things"] (sp_pickS K)) : FnOk P w K mg base CX0 3 f fd ["_law_stream"] (sp__law_thing K) := by
  refine F.ok sc__law_thing (fun vs H Q E h => ?_) (fun cdv A outer s H vs Q E hr h => ?_)
  · obtain ⟨S, M, k, rfl, _⟩ := h
    rfl
  · obtain ⟨S, M, k, rfl, mh, at_, q⟩ := h
    have hu := hr.units
    refine ⟨_, (pss_cons (ps_set (i := 1) sc__law_thing.nd rfl (by first | exact .inl rfl | exact .inr rfl) (pe_f c__law_draw (hr.mono (by decide)) (pa_cons (pv 0) (pa_cons pe_int pa_nil))))
      (pss_cons (ps_if (pt_cmpR (op_eqP hu) (pv 1) pe_int (nomark _)) (pss_one (ps_ret (pe_f cG__law_pick (hr.mono (by decide)) (pa_cons (pv 0) (pa_cons (pe_lst (pa_cons pe_int (pa_cons (pe_un un_neg pe_int) (pa_cons pe_int (pa_cons (pe_op op_pow pe_int pe_int) (pa_cons pe_bl pa_nil)))))) pa_nil))))) pss_nil)
      (pss_one (ps_ret (pe_ix ix_X (pe_lst (pa_cons (pe_join pe_str (pe_lc (own := [("_law_k", 2)]) (g := (gName 2)) (tt := tYes) (te := (tCall (sp_pickS K) [] E0 (tCons (tVar 0) (tCons (tC (.str "abz Z0-")) tNil)))) (by rfl) sc__law_thing.nd (pi_range1 (by rfl) T.range (pa_cons pe_int pa_nil)) (blkOk_by (by rfl)) (fun _ _ _ _ _ => (pg_name (i := 2) sc__law_thing.nd rfl (by first | exact .inl rfl | exact .inr rfl))) (fun _ _ _ _ _ => pts_nil) (fun _ _ _ _ _ => (pe_f cS__law_pick (hr.mono (by decide)) (pa_cons (pv 0) (pa_cons pe_str pa_nil)))))) (pa_cons pe_non (pa_cons (pe_tup (pa_cons pe_int (pa_cons pe_str pa_nil))) (pa_cons (pe_lst (pa_cons pe_str (pa_cons (pe_tup pa_nil) pa_nil))) (pa_cons (pe_disp (pps_cons pe_str pe_non pps_nil) (by rfl) (by rfl) (by intro z; cases z) (by decide)) pa_nil)))))) (pe_op op_sub (pv 1) pe_int) (fun _ _ => rfl)))))), ?_⟩
    refine z_asg (S := S) (k := k + 5) (c := 1) (P := Ex It' fun z => 0 ≤ z ∧ z < 6) mh (at_.le (by omega)) (gs_draw (K := K) rfl (gv_c rfl) (by decide) (by decide)) fun v1 M1 H1 g1 a1 ⟨z, hz, r1⟩ => ?_
    cases r1
    refine z_if (S := S) (k := k + 5) (c := 0) (B := (· = decide (z = 0))) g1.mh a1 (gt_test (gv_is (gv_eqT (K := K) (neg := false) (x := z) (y := 0) py_int inj_int (gv_var rfl rfl) (gv_c rfl) (by simp [PyData.depth])) fun M v h => by simpa using h)).s (fun _ M2 H2 g2 a2 => ?_) fun hz0 M2 H2 g2 a2 => ?_
    · refine z_ret (S := S) (k := k) (c := 1) (P := Ex (DzR K) Thing) g2.mh (a2.le (by omega)) ((gs_call1 (S := S) (R1 := SqR K (DzR K)) (pre := fun xs : List PyData => 0 < xs.length ∧ xs.length ≤ 1000000) (cs := fun _ => 1) (R := fun xs => Ex (DzR K) fun x => x ∈ xs) (x := ints0) rfl ?_ ⟨by decide, by decide⟩).is fun M v ⟨d, hd, r⟩ => ⟨d, th_ints d hd, r⟩) fun u M3 H3 g3 a3 r => q u M3 H3 ((g1.trans g2).trans g3) a3 r
      refine gv_is (gv_lstG (R := DzR K) (ga_rl (x := PyData.int 0) (gv_c (.int 0)) fun _ _ => ga_rl (x := PyData.int (-1)) ?_ fun _ _ => ga_rl (x := PyData.int 9) (gv_c (.int 9)) fun _ _ => ga_rl (x := PyData.int (10 ^ 29)) ?_ fun _ _ => ga_rl (x := PyData.bool true) (gv_c (.bl true)) fun _ _ => ga_rl0) (by show 5 ≤ 1000; decide)) fun M v h => h.lst.sq
      · exact gv_is (gv_minus (gv_c rfl)) fun M v h => by rw [show v = _ from h]; exact .int _
      · exact gv_is (gv_pow (i := 10) (j := 29) (gv_c rfl) (gv_c rfl) ⟨by decide, by decide, by decide⟩) fun M v h => by rw [show v = _ from h]; exact .int _
    · have hz1 : z ≠ 0 := by simpa using hz0
      refine z_ret (S := S) (k := k) (c := 5 + 0) (P := Ex (DzR K) Thing) g2.mh a2 (gs_op (P := Ex (LiR (DzR K)) fun xs => xs.length = 5 ∧ ∀ x ∈ xs, Thing x) (P1 := It' (z - 1)) ((gs_lst (R := DzR K) (good := Thing) (c := 5) (n := 5) (gas_cons (c1 := 5) (c2 := 0) ?_ fun _ _ => gas_cons (c1 := 0) (c2 := 0) (exT (gv_c .non) (th_conts _ (by simp [conts0]))) fun _ _ => gas_cons (c1 := 0) (c2 := 0) (exT (gv_tupZ (gv_c (.int 1)) (gv_c (.str "a"))) (th_conts _ (by simp [conts0]))) fun _ _ => gas_cons (c1 := 0) (c2 := 0) (exT (gv_is (gv_lstG (R := DzR K) (ga_rl (x := PyData.str "x") (gv_c (.str "x")) fun _ _ => ga_rl (x := PyData.tuple []) gv_tup0 fun _ _ => ga_rl0) (by show 2 ≤ 1000; decide)) fun M v h => li_dz h) (th_conts _ (by simp [conts0]))) fun _ _ => gas_cons (c1 := 0) (c2 := 0) (exT gv_dA (th_conts _ (by simp [conts0]))) fun _ _ => gas0) (by decide)).gv fun M vs p h m => ?_) ?_ fun M' u w pu pw => ?_) fun u M3 H3 g3 a3 r => q u M3 H3 ((g1.trans g2).trans g3) a3 r
      · refine (gs_join (K := K) (c := 0 + 5 * 1) (good := fun ys => ∃ cs : List Nat, ys = cs.map sgn ∧ cs.length = 5 ∧ ∀ c ∈ cs, c ∈ ("abz Z0-" : Str).cps.toList) ((gls_m1 (R := fun i : Nat => It' (i : Nat)) (T := Tx) (n := 5) (c1 := 0) (c2 := 1) (G := (· = List.range 5)) (good := fun _ y => ∃ c ∈ ("abz Z0-" : Str).cps.toList, y = (⟨#[c]⟩ : Str)) (gi_rng1 (n := 5) (gv_c rfl) (by decide)).s (fun xs e => by rw [e]; decide) (by decide) fun xs _ i _ M2 v2 sm ri => ?_).is ?_) ?_).is ?_
        · exact gs_call1 (S := S) (R1 := Tx) (pre := fun x : Str => 0 < x.length ∧ x.length ≤ 1000000) (cs := fun _ => 1) (R := fun x => Ex Tx fun y => ∃ c ∈ x.cps.toList, y = ⟨#[c]⟩) (x := ("abz Z0-" : Str)) rfl (gv_c rfl) ⟨by decide, by decide⟩
        · rintro M2 ws ⟨xs, ys, rfl, hp, hpd⟩
          obtain ⟨cs, h1, h2, h3⟩ := pick_sgns hp
          exact ⟨ys, ⟨cs, h1, h2, h3⟩, hpd⟩
        · rintro ys ⟨cs, rfl, h1, _⟩
          rw [sgn_sum, List.length_map, h1]
          decide
        · rintro M2 v ⟨ys, ⟨cs, rfl, h1, h2⟩, r⟩
          rw [join_sgn] at r
          exact ⟨.str ⟨cs.toArray⟩, th_text (by show cs.toArray.size ≤ 100; simp [h1]) (fun c hc => sgn_codes c (h2 c (by simpa using hc))), by rw [show v = _ from r]; exact .str _⟩
      · obtain ⟨xs, h1, h2, pd⟩ := h
        exact ⟨xs, ⟨h1, h2⟩, p, vs, rfl, upd_same, Pd.mono (same_new m) pd⟩
      · exact (gv_gt (g := fun i j => .int (i - j)) (i := z) (j := 1) (gv_var rfl rfl) (gv_c rfl)).s
      · obtain ⟨xs, ⟨h1, h2⟩, r⟩ := pu
        obtain ⟨x, hx, ha⟩ := atI_in (xs := xs) (i := z - 1) (by omega) (by omega)
        exact fun H mh Q q => rv_ix r.lst.sq pw ha H mh Q fun v M' H' g r => q v M' H' g ⟨x, h2 x hx, r⟩
end
end My

set_option Elab.async false
set_option linter.all false
set_option maxRecDepth 100000
set_option maxHeartbeats 4000000
namespace My
open PySem PySem.Spec PyProof.Rows L2 L3
/-! the classes of the package -/
def ers : List Str := ["BadNames", "TooMany", "BadSetting", "NoSign", "BadClause", "NoClause", "Clash", "BadCount", "BadLevel", "Blind", "UnlikeSigns", "NoHelper", "BadLiteral", "BadCode", "NotTree", "Dead", "IsSet", "NothingToUndo", "NotDrawn", "NotDead", "BadLine"]
def ers0 : List Str := "OpenError" :: ers
/-- what the written part says of them -/
structure Ers (K : PySem.W.Frag) (mg : Str → Option Value) (E : Str → Addr) : Prop where
  gl : ∀ x, x ∈ ers0 → mg x = some (.ref (E x))
  cc : ∀ x, x ∈ ers0 → ErC K (E x)
  ki : ∀ x, x ∈ ers0 → ∀ y, y ∈ ers → PySem.W.kitOne K (.ref (E x)) (.ref (E y)) = some (decide (x = y))
  ko : ∀ x, x ∈ ers0 → PySem.W.kitOne K (.ref (E x)) (.ref (E "OpenError")) = some true
  kv : ∀ x, x ∈ ers0 → PySem.W.kitOne K (.ref (E x)) (.type "ValueError") = some true
/-- an error of the class x -/
def ErR (E : Str → Addr) : Rl Str := fun x M v => ∃ a, v = .ref a ∧ ErAt M a (E x)
theorem erAt_mono {M M' : Hp} (e : Same M M') {a C : Addr} (h : ErAt M a C) : ErAt M' a C := h.imp (e _ _) fun ⟨dx, fs, h1, h2⟩ => ⟨dx, fs, e _ _ h1, e _ _ h2⟩
instance {E : Str → Addr} : Mon (ErR E) := ⟨fun e ⟨a, h1, h2⟩ => ⟨a, h1, erAt_mono e h2⟩⟩
instance {E : Str → Addr} {x : Str} : Mono (ErR E x) := ⟨fun e ⟨a, h1, h2⟩ => ⟨a, h1, erAt_mono e h2⟩⟩
section
variable {K : PySem.W.Frag} {E : Str → Addr} {σ : Sl} {M : Hp} {te : TE} {x : Str}
theorem gv_isV {c : V} {u : Value} {b : Bool} (h : Gv te σ M (ErR E x)) (cc : ErC K (E x)) (hc : ClsV c u) (hk : PySem.W.kitOne K (.ref (E x)) u = some b) : Gv (tCB (rIsV K) (tCons te (tCons (tC c) tNil))) σ M (Bl b) := fun H mh Q q =>
  h H mh _ fun v M1 H1 g1 ⟨a, e, r⟩ => ⟨a, E x, c, u, b, by rw [e], erAt_mono g1.mh r, hc, cc, hk, q _ M1 H1 g1 rfl⟩
/-- isinstance(e, y) for several classes y -/
def taB (K : PySem.W.Frag) (E : Str → Addr) : List Str → TA
  | [] => tNil
  | y :: r => tCons (tCB (rIsV K) (tCons (tVar 0) (tCons (tC (.ref (E y))) tNil))) (taB K E r)
def bits (x : Str) (ys : List Str) : List V := ys.map fun y => V.bl (decide (x = y))
theorem ga_bits {mg : Str → Option Value} (ER : Ers K mg E) (hx : x ∈ ers0) {v : V} (hi : σ[0]? = some (some v)) : ∀ (ys : List Str) (M : Hp), (∀ y ∈ ys, y ∈ ers) → ErR E x M v → GvA (taB K E ys) σ M fun _ ws => ws = bits x ys
  | [], M, _, _ => fun H mh Q q => q [] M H (.refl mh) rfl
  | y :: r, M, hy, hv => fun H mh Q q =>
    gv_isV (gv_var hi hv) (ER.cc x hx) (.own (E y)) (ER.ki x hx y (hy y List.mem_cons_self)) H mh _ fun v1 M1 H1 g1 e1 => ga_bits ER hx hi r M1 (fun z hz => hy z (List.mem_cons_of_mem _ hz)) (Mon.mono g1.mm hv) H1 g1.mh _ fun ws M2 H2 g2 e2 => q (v1 :: ws) M2 H2 (g1.trans g2) (by rw [show v1 = _ from e1, e2]; rfl)
theorem gl_bits {mg : Str → Option Value} (ER : Ers K mg E) (hx : x ∈ ers0) {v : V} (hi : σ[0]? = some (some v)) (ys : List Str) (hy : ∀ y ∈ ys, y ∈ ers) (hz : ys.length ≤ 1000) (hv : ErR E x M v) : GvL (tLst (taB K E ys)) σ M fun _ ws => ws = bits x ys :=
  gl_lst (ga_bits ER hx hi ys M hy hv) fun M vs e => by rw [e, bits, List.length_map]; exact Nat.le_trans hz (by decide)
end
section
variable {P : Program} {w : World} {K : PySem.W.Frag} {mg : Str → Option Value} {base : Heap}
abbrev s__law_classes : Stmt := topS 28
theorem sc__law_classes : FnScope ["_law_e", "_law_found"] ["_law_e"] (defScope s__law_classes) := ⟨rfl, rfl, rfl, by decide +kernel, rfl, by decide +kernel, by decide +kernel⟩
def sp__law_classes (K : PySem.W.Frag) (E : Str → Addr) : Sp := sl1 (ErR E) (fun x => x ∈ ers0) fun x _ ws => ws = bits x ers
theorem ok__law_classes {E : Str → Addr} {f : Addr} {fd : FuncData} (F : Fun K "_law_classes" "_law_classes" s__law_classes f fd) (T : Gc mg) (ER : Ers K mg E) : FnOk P w K mg base CX0 1 f fd ["_law_e"] (sp__law_classes K E) := by
  refine F.ok sc__law_classes (fun vs H Q E h => ?_) (fun cdv A outer s H vs Q E' hr h => ?_)
  · obtain ⟨x, M, v, rfl, _⟩ := h
    rfl
  · obtain ⟨x, M, v, rfl, mh, r1, hx, q⟩ := h
    have hu := hr.units
    refine ⟨_, (pss_cons (ps_set (i := 1) sc__law_classes.nd rfl (by first | exact .inl rfl | exact .inr rfl) (pe_lst pa_nil))
      (pss_cons (ps_expr (pe_bm PySem.F.plainAttrs_list PySem.F.slot_list_extend PySem.F.type_list_extend mt_extend (pv 1) (pa_cons (pe_lst (pa_cons (pe_callB call_isV (by rfl) T.isinstance boot_isinstance (pa_cons (pv 0) (pa_cons (pe_glob (v := .ref (E "BadNames")) (by rfl) (ER.gl "BadNames" (by decide +kernel)) rfl) pa_nil))) (pa_cons (pe_callB call_isV (by rfl) T.isinstance boot_isinstance (pa_cons (pv 0) (pa_cons (pe_glob (v := .ref (E "TooMany")) (by rfl) (ER.gl "TooMany" (by decide +kernel)) rfl) pa_nil))) (pa_cons (pe_callB call_isV (by rfl) T.isinstance boot_isinstance (pa_cons (pv 0) (pa_cons (pe_glob (v := .ref (E "BadSetting")) (by rfl) (ER.gl "BadSetting" (by decide +kernel)) rfl) pa_nil))) (pa_cons (pe_callB call_isV (by rfl) T.isinstance boot_isinstance (pa_cons (pv 0) (pa_cons (pe_glob (v := .ref (E "NoSign")) (by rfl) (ER.gl "NoSign" (by decide +kernel)) rfl) pa_nil))) pa_nil))))) pa_nil)))
      (pss_cons (ps_expr (pe_bm PySem.F.plainAttrs_list PySem.F.slot_list_extend PySem.F.type_list_extend mt_extend (pv 1) (pa_cons (pe_lst (pa_cons (pe_callB call_isV (by rfl) T.isinstance boot_isinstance (pa_cons (pv 0) (pa_cons (pe_glob (v := .ref (E "BadClause")) (by rfl) (ER.gl "BadClause" (by decide +kernel)) rfl) pa_nil))) (pa_cons (pe_callB call_isV (by rfl) T.isinstance boot_isinstance (pa_cons (pv 0) (pa_cons (pe_glob (v := .ref (E "NoClause")) (by rfl) (ER.gl "NoClause" (by decide +kernel)) rfl) pa_nil))) (pa_cons (pe_callB call_isV (by rfl) T.isinstance boot_isinstance (pa_cons (pv 0) (pa_cons (pe_glob (v := .ref (E "Clash")) (by rfl) (ER.gl "Clash" (by decide +kernel)) rfl) pa_nil))) (pa_cons (pe_callB call_isV (by rfl) T.isinstance boot_isinstance (pa_cons (pv 0) (pa_cons (pe_glob (v := .ref (E "BadCount")) (by rfl) (ER.gl "BadCount" (by decide +kernel)) rfl) pa_nil))) pa_nil))))) pa_nil)))
      (pss_cons (ps_expr (pe_bm PySem.F.plainAttrs_list PySem.F.slot_list_extend PySem.F.type_list_extend mt_extend (pv 1) (pa_cons (pe_lst (pa_cons (pe_callB call_isV (by rfl) T.isinstance boot_isinstance (pa_cons (pv 0) (pa_cons (pe_glob (v := .ref (E "BadLevel")) (by rfl) (ER.gl "BadLevel" (by decide +kernel)) rfl) pa_nil))) (pa_cons (pe_callB call_isV (by rfl) T.isinstance boot_isinstance (pa_cons (pv 0) (pa_cons (pe_glob (v := .ref (E "Blind")) (by rfl) (ER.gl "Blind" (by decide +kernel)) rfl) pa_nil))) (pa_cons (pe_callB call_isV (by rfl) T.isinstance boot_isinstance (pa_cons (pv 0) (pa_cons (pe_glob (v := .ref (E "UnlikeSigns")) (by rfl) (ER.gl "UnlikeSigns" (by decide +kernel)) rfl) pa_nil))) (pa_cons (pe_callB call_isV (by rfl) T.isinstance boot_isinstance (pa_cons (pv 0) (pa_cons (pe_glob (v := .ref (E "NoHelper")) (by rfl) (ER.gl "NoHelper" (by decide +kernel)) rfl) pa_nil))) pa_nil))))) pa_nil)))
      (pss_cons (ps_expr (pe_bm PySem.F.plainAttrs_list PySem.F.slot_list_extend PySem.F.type_list_extend mt_extend (pv 1) (pa_cons (pe_lst (pa_cons (pe_callB call_isV (by rfl) T.isinstance boot_isinstance (pa_cons (pv 0) (pa_cons (pe_glob (v := .ref (E "BadLiteral")) (by rfl) (ER.gl "BadLiteral" (by decide +kernel)) rfl) pa_nil))) (pa_cons (pe_callB call_isV (by rfl) T.isinstance boot_isinstance (pa_cons (pv 0) (pa_cons (pe_glob (v := .ref (E "BadCode")) (by rfl) (ER.gl "BadCode" (by decide +kernel)) rfl) pa_nil))) (pa_cons (pe_callB call_isV (by rfl) T.isinstance boot_isinstance (pa_cons (pv 0) (pa_cons (pe_glob (v := .ref (E "NotTree")) (by rfl) (ER.gl "NotTree" (by decide +kernel)) rfl) pa_nil))) (pa_cons (pe_callB call_isV (by rfl) T.isinstance boot_isinstance (pa_cons (pv 0) (pa_cons (pe_glob (v := .ref (E "Dead")) (by rfl) (ER.gl "Dead" (by decide +kernel)) rfl) pa_nil))) pa_nil))))) pa_nil)))
      (pss_cons (ps_expr (pe_bm PySem.F.plainAttrs_list PySem.F.slot_list_extend PySem.F.type_list_extend mt_extend (pv 1) (pa_cons (pe_lst (pa_cons (pe_callB call_isV (by rfl) T.isinstance boot_isinstance (pa_cons (pv 0) (pa_cons (pe_glob (v := .ref (E "IsSet")) (by rfl) (ER.gl "IsSet" (by decide +kernel)) rfl) pa_nil))) (pa_cons (pe_callB call_isV (by rfl) T.isinstance boot_isinstance (pa_cons (pv 0) (pa_cons (pe_glob (v := .ref (E "NothingToUndo")) (by rfl) (ER.gl "NothingToUndo" (by decide +kernel)) rfl) pa_nil))) (pa_cons (pe_callB call_isV (by rfl) T.isinstance boot_isinstance (pa_cons (pv 0) (pa_cons (pe_glob (v := .ref (E "NotDrawn")) (by rfl) (ER.gl "NotDrawn" (by decide +kernel)) rfl) pa_nil))) (pa_cons (pe_callB call_isV (by rfl) T.isinstance boot_isinstance (pa_cons (pv 0) (pa_cons (pe_glob (v := .ref (E "NotDead")) (by rfl) (ER.gl "NotDead" (by decide +kernel)) rfl) pa_nil))) pa_nil))))) pa_nil)))
      (pss_cons (ps_expr (pe_bm PySem.F.plainAttrs_list PySem.F.slot_list_extend PySem.F.type_list_extend mt_extend (pv 1) (pa_cons (pe_lst (pa_cons (pe_callB call_isV (by rfl) T.isinstance boot_isinstance (pa_cons (pv 0) (pa_cons (pe_glob (v := .ref (E "BadLine")) (by rfl) (ER.gl "BadLine" (by decide +kernel)) rfl) pa_nil))) pa_nil)) pa_nil)))
      (pss_one (ps_ret (pv 1)))))))))), ?_⟩
    refine q_asgL mh gl_nil fun p vs M1 H1 g1 h0 m0 hp e => ?_
    subst e
    have mem : ∀ ys : List Str, ys.all (fun y => decide (y ∈ ers)) = true → ∀ y ∈ ys, y ∈ ers := fun ys h y hy => of_decide_eq_true (List.all_eq_true.mp h y hy)
    have go : ∀ {vs : List V} {M1 H1 : Hp} {D : Ends} (ys : List Str), Gr M H M1 H1 → M1 p = none → H1 p = some (.lst vs) → vs.length + ys.length ≤ 100 → ys.all (fun y => decide (y ∈ ers)) = true →
        (∀ M2 H2, Gr M H M2 H2 → M2 p = none → H2 p = some (.lst (vs ++ bits x ys)) → D.nx [some v, some (.ref p)] H2) → tDrop (tBM K "list" rExtend (tVar 1) (tCons (tLst (taB K E ys)) tNil)) D [some v, some (.ref p)] H1 := fun {vs M1 H1 D} ys g m hp hz ha k =>
      s_ext g.mh rfl hp (gl_bits ER hx rfl ys (mem ys ha) (by omega) (Mon.mono g.mm r1)) (fun M' ws e => by rw [e, bits, List.length_map]; exact Nat.le_trans hz (by decide)) fun ws M2 H2 g2 e => by
        subst e
        have m2 := g2.keep m hp
        refine k M2 _ ((g.trans g2).mut h0 m2) m2 upd_same
    refine go ["BadNames", "TooMany", "BadSetting", "NoSign"] g1 m0 hp (by decide) (by decide +kernel) fun M2 H2 g2 m2 h2 => ?_
    refine go ["BadClause", "NoClause", "Clash", "BadCount"] g2 m2 h2 (by simp [bits]) (by decide +kernel) fun M3 H3 g3 m3 h3 => ?_
    refine go ["BadLevel", "Blind", "UnlikeSigns", "NoHelper"] g3 m3 h3 (by simp [bits]) (by decide +kernel) fun M4 H4 g4 m4 h4 => ?_
    refine go ["BadLiteral", "BadCode", "NotTree", "Dead"] g4 m4 h4 (by simp [bits]) (by decide +kernel) fun M5 H5 g5 m5 h5 => ?_
    refine go ["IsSet", "NothingToUndo", "NotDrawn", "NotDead"] g5 m5 h5 (by simp [bits]) (by decide +kernel) fun M6 H6 g6 m6 h6 => ?_
    refine go ["BadLine"] g6 m6 h6 (by simp [bits]) (by decide +kernel) fun M7 H7 g7 m7 h7 => ?_
    exact ⟨.ref p, rfl, q p _ M7 H7 g7 h0 m7 h7 rfl⟩
abbrev s__law_is_alone : Stmt := topS 29
theorem sc__law_is_alone : FnScope ["_law_e", "_law_place", "_law_found"] ["_law_e", "_law_place"] (defScope s__law_is_alone) := ⟨rfl, rfl, rfl, by decide +kernel, rfl, by decide +kernel, by decide +kernel⟩
def sp__law_is_alone (K : PySem.W.Frag) (E : Str → Addr) : Sp := sp2 (ErR E) It' (fun x i => ∃ n, i = ((n : Nat) : Int) ∧ ers[n]? = some x) fun x i => Bl true
theorem place_one : ∀ n x, ers[n]? = some x → x ∈ ers ∧ (ers.map fun y => decide (x = y)).count true = 1 ∧ (ers.map fun y => decide (x = y))[n]? = some true ∧ n < 21 := by
  have key : ((List.range 21).all fun n => match ers[n]? with
    | some x => decide (x ∈ ers) && decide ((ers.map fun y => decide (x = y)).count true = 1) && decide ((ers.map fun y => decide (x = y))[n]? = some true)
    | none => false) = true := by decide +kernel
  intro n x h
  have hn : n < 21 := (List.getElem?_eq_some_iff.mp h).1
  have := List.all_eq_true.mp key n (List.mem_range.mpr hn)
  rw [h] at this
  simp only [Bool.and_eq_true, decide_eq_true_eq] at this
  exact ⟨this.1.1, this.1.2, this.2, hn⟩
theorem bits_pd {M : Hp} (x : Str) : ∀ ys : List Str, Pd Bl M (ys.map fun y => decide (x = y)) (bits x ys)
  | [] => .nil
  | y :: r => .cons rfl (bits_pd x r)
theorem ok__law_is_alone {E : Str → Addr} {f : Addr} {fd : FuncData} (F : Fun K "_law_is_alone" "_law_is_alone" s__law_is_alone f fd) (T : Gc mg) (ER : Ers K mg E) (c__law_classes : Cal P w K mg base 1 "_law_classes" ["_law_e"] (sp__law_classes K E)) : FnOk P w K mg base CX0 2 f fd ["_law_e", "_law_place"] (sp__law_is_alone K E) := by
  refine F.ok sc__law_is_alone (fun vs H Q E h => ?_) (fun cdv A outer s H vs Q E' hr h => ?_)
  · obtain ⟨x, i, M, v, w, rfl, _⟩ := h
    rfl
  · obtain ⟨x, i, M, v, w, rfl, mh, r1, r2, ⟨n, ei, hn⟩, q⟩ := h
    have hu := hr.units
    obtain ⟨hx, h1, h2, h3⟩ := place_one n x hn
    have hx' : x ∈ ers0 := List.mem_cons_of_mem ("OpenError" : Str) hx
    refine ⟨_, (pss_cons (ps_set (i := 2) sc__law_is_alone.nd rfl (by first | exact .inl rfl | exact .inr rfl) (pe_f c__law_classes (hr.mono (by decide)) (pa_cons (pv 0) pa_nil)))
      (pss_one (ps_ret (pe_and (pe_callB call_isV (by rfl) T.isinstance boot_isinstance (pa_cons (pv 0) (pa_cons (pe_glob (v := .ref (E "OpenError")) (by rfl) (ER.gl "OpenError" (by decide +kernel)) rfl) pa_nil))) (pe_and (pe_callB call_isV (by rfl) T.isinstance boot_isinstance (pa_cons (pv 0) (pa_cons (pe_bltn (v := .ty "ValueError") (u := .type "ValueError") (by rfl) T.ValueError (by decide +kernel) rfl) pa_nil))) (pe_and (pe_cmpR (op_eqP hu) (pe_bm PySem.F.plainAttrs_list PySem.F.slot_list_count PySem.F.type_list_count (mt_cntD hu) (pv 2) (pa_cons pe_bl pa_nil)) pe_int (nomark _)) (pe_one (pe_ix ix_X (pv 2) (pv 1) (fun _ _ => rfl))))))))), ?_⟩
    refine q_asg mh ((gl_call1 (R1 := ErR E) (pre := fun x => x ∈ ers0) (R := fun x _ ws => ws = bits x ers) (gv_var rfl r1) hx').gv (P := LiR Bl (ers.map fun y => decide (x = y))) fun M vs p e m => ⟨p, vs, rfl, upd_same, by rw [e]; exact bits_pd x ers⟩) fun v2 M1 H1 g1 r3 => ?_
    refine s_ret g1.mh (gv_is (gv_andV (gv_isV (K := K) (gv_var rfl (Mon.mono g1.mm r1)) (ER.cc x hx') (.own _) (ER.ko x hx')) fun _ => gv_andV (gv_isV (K := K) (gv_var rfl (Mon.mono g1.mm r1)) (ER.cc x hx') (.ty _) (ER.kv x hx')) fun _ => gv_andV (b := true) (gv_is (gv_eqT (K := K) (neg := false) (x := (((ers.map fun y => decide (x = y)).count true : Nat) : Int)) (y := 1) py_int inj_int (gv_cntD (K := K) (R := Bl) py_bl inj_bl (gv_var rfl r3) (gv_c rfl) (by simp [PyData.depth])) (gv_c rfl) (by simp [PyData.depth])) fun M v h => by rw [show v = _ from h, h1]; try rfl) fun _ => gv_ix (K := K) (R := Bl) (x := true) (gv_is (gv_var rfl r3) fun _ _ h => h.lst.sq) (gv_var rfl (by rw [show w = _ from r2]; try rfl)) (by rw [ei]; exact atI_nat h2)) fun M v h => by rw [show v = _ from h]; try rfl) fun u M2 H2 g2 r => q u M2 H2 (g1.trans g2) r
end
end My

set_option Elab.async false
set_option linter.all false
set_option maxRecDepth 100000
set_option maxHeartbeats 8000000
namespace My
open PySem PySem.Spec PyProof.Rows L2 L3 LamX
/-! errors with one field, made by place and by name, with a lambda each -/
def rows : List (Nat × Str × Str) := [(0, "BadNames", "index"), (1, "TooMany", "n"), (2, "BadSetting", "index"), (3, "NoSign", "name"), (4, "BadClause", "index"), (5, "NoClause", "index"), (6, "Clash", "name"), (7, "BadCount", "n"), (8, "BadLevel", "level"), (11, "NoHelper", "name"), (12, "BadLiteral", "literal"), (13, "BadCode", "index"), (14, "NotTree", "index"), (16, "IsSet", "name"), (18, "NotDrawn", "literal"), (20, "BadLine", "index")]
def gv1 : List V → List V → List V := fun vs zs => vs ++ zs
def qOnes : Str := "_law_ones.<locals>.<lambda>"
theorem rows_at : ∀ r ∈ rows, ers[r.1]? = some r.2.1 := fun r hr => of_decide_eq_true (List.all_eq_true.mp (show rows.all (fun r => decide (ers[r.1]? = some r.2.1)) = true by decide +kernel) r hr)
/-- one row of them; p: the list in which they stand -/
def Rw (E : Str → Addr) (one : V) (p : Addr) (r : Nat × Str × Str) (H : Hp) (v : V) : Prop := ∃ t l fn c' a1 d1 a2 d2 : Addr, v = .ref t ∧ l ≠ p ∧ H t = some (.tup [.int (r.1 : Nat), .ref l, .ref fn]) ∧ H l = some (.lst [.ref a1, .ref a2]) ∧ H fn = some (FnO "_law_e" fn c' qOnes r.2.2) ∧ H c' = some (CodeO c' qOnes) ∧
  (H a1 = some (exo a1 (E r.2.1) (some d1)) ∧ H d1 = some (exd d1 [(r.2.2, one)])) ∧ H a2 = some (exo a2 (E r.2.1) (some d2)) ∧ H d2 = some (exd d2 [(r.2.2, one)])
section
variable {E : Str → Addr} {one : V} {p : Addr} {r : Nat × Str × Str} {H H' : Hp} {v : V} {vs : List V}
theorem ext_ne {o : HO} {b : Addr} (hp : H p = some (.lst vs)) (h : H b = some o) (n : ∀ xs, o ≠ .lst xs) : b ≠ p := fun z => by
  rw [z, hp] at h
  exact n _ (Option.some.inj h).symm
theorem Rw.ext (h : Rw E one p r H v) (hp : H p = some (.lst vs)) (k : ∀ b o, b ≠ p → H b = some o → (∀ ps, o ≠ .tbl ps) → H' b = some o) : Rw E one p r H' v := by
  obtain ⟨t, l, fn, c', a1, d1, a2, d2, e, nl, h1, h2, h3, h4, ⟨h5, h6⟩, h7, h8⟩ := h
  have kx : ∀ (b : Addr) (φ : Heap → Prop), H b = some (.ext φ) → H' b = some (.ext φ) := fun b φ e => k b _ (ext_ne hp e fun xs z => by cases z) e fun ps z => by cases z
  exact ⟨t, l, fn, c', a1, d1, a2, d2, e, nl, k t _ (ext_ne hp h1 fun xs z => by cases z) h1 (fun ps z => by cases z), k l _ nl h2 (fun ps z => by cases z), kx _ _ h3, kx _ _ h4, ⟨kx _ _ h5, kx _ _ h6⟩, kx _ _ h7, kx _ _ h8⟩
end
section
variable {K : PySem.W.Frag} {C : Addr} {σ : Sl} {H : Hp} {Q : VK} {one : V} {f : Str}
theorem made_same {a dx : Addr} (na : H a = none) (ndx : (upd H a (exo a C none)) dx = none) (nda : dx ≠ a) : Same H (upd (upd (upd H a (exo a C none)) dx (exd dx [(f, one)])) a (exo a C (some dx))) := fun b o e => by
  have n1 : H dx = none := by rw [upd_ne nda] at ndx; exact ndx
  rw [upd_ne (ne_of_none e na), upd_ne (ne_of_none e n1), upd_ne (ne_of_none e na)]
  exact e
theorem er_P (hi : σ[0]? = some (some one)) (go : ∀ a dx H', Same H H' → H a = none → H' a = some (exo a C (some dx)) → H' dx = some (exd dx [(f, one)]) → Q (.ref a) H') : tExP C 1 (spSup K C f) (tCons (tVar 0) tNil) σ H Q :=
  ⟨one, hi, rfl, fun a na => ⟨a, one, rfl, upd_same, fun dx ndx nda => ⟨rfl, go a dx _ (made_same na ndx nda) na upd_same (by rw [upd_ne nda]; exact upd_same)⟩⟩⟩
theorem er_K (hi : σ[0]? = some (some one)) (go : ∀ a dx H', Same H H' → H a = none → H' a = some (exo a C (some dx)) → H' dx = some (exd dx [(f, one)]) → Q (.ref a) H') : tExK C [f].length (spSup K C f) gv1 (tCons (tVar 0) tNil) σ H Q :=
  ⟨one, hi, rfl, fun a na => ⟨a, one, rfl, upd_same, fun dx ndx nda => ⟨rfl, go a dx _ (made_same na ndx nda) na upd_same (by rw [upd_ne nda]; exact upd_same)⟩⟩⟩
end
theorem tabs_upd {T : List (Addr × Str)} {H : Hp} {p : Addr} {vs ws : List V} (L : Tabs T H) (h : H p = some (.lst vs)) : Tabs T (upd H p (.lst ws)) := fun t ht => by
  obtain ⟨ps, h1, h2⟩ := L t ht
  exact ⟨ps, by rw [upd_ne (fun z => by rw [z, h] at h1; cases h1)]; exact h1, h2.1, fun pos cv e => let ⟨c, e1, e2⟩ := h2.2 pos cv e; ⟨c, e1, by rw [upd_ne (by rintro rfl; rw [h] at e2; cases e2)]; exact e2⟩⟩
abbrev GoE (C : Addr) (one : V) (f : Str) (te : TE) (σ : Sl) : Prop := ∀ (H : Hp) (Q : VK), (∀ a dx H', Same H H' → H a = none → H' a = some (exo a C (some dx)) → H' dx = some (exd dx [(f, one)]) → Q (.ref a) H') → te σ H Q
theorem one_step0 {K : PySem.W.Frag} {T : List (Addr × Str)} {E : Str → Addr} {one : V} {p : Addr} {vs : List V} {H : Hp} {D : Ends} {tP tK tL : TE} (r : Nat × Str × Str) (hP : GoE (E r.2.1) one r.2.2 tP [some one, some (.ref p)]) (hK : GoE (E r.2.1) one r.2.2 tK [some one, some (.ref p)])
    (hL : ∀ H Q, tLamV T "_law_e" qOnes r.2.2 [some one, some (.ref p)] H Q → tL [some one, some (.ref p)] H Q) (hp : H p = some (.lst vs)) (hz : vs.length < sizeLine) (hT : Tabs T H)
    (go : ∀ v H2, (∀ b o, b ≠ p → H b = some o → (∀ ps, o ≠ .tbl ps) → H2 b = some o) → H2 p = some (.lst (vs ++ [v])) → Tabs T H2 → Rw E one p r H2 v → D.nx [some one, some (.ref p)] H2) :
    tDrop (tBM K "list" rAppend (tVar 1) (tCons (tTup (tCons (tC (.int (r.1 : Nat))) (tCons (tLst (tCons tP (tCons tK tNil))) (tCons tL tNil)))) tNil)) D [some one, some (.ref p)] H := by
  refine ⟨.ref p, rfl, .inl ⟨rfl, _, .inl (.inl hp)⟩, ?_⟩
  refine hP _ _ fun a1 d1 H1 s1 na1 x1 y1 => ?_
  refine hK _ _ fun a2 d2 H2 s2 na2 x2 y2 => ?_
  refine ⟨by show 2 ≤ sizeLine; decide, fun l nl => ?_⟩
  have s3 : Same H2 (upd H2 l (.lst [.ref a1, .ref a2])) := same_new nl
  refine hL _ _ ⟨hT.ext ((s1.trans s2).trans s3), fun fn c' H4 e4 t4 nf hf hc => ?_⟩
  refine ⟨by show 3 ≤ sizeLine; decide, fun t nt => ?_⟩
  have s5 : Same H4 (upd H4 t (.tup [.int (r.1 : Nat), .ref l, .ref fn])) := same_new nt
  have k4 : ∀ {b o}, H2 b = some o → (∀ ps, o ≠ HO.tbl ps) → (upd H4 t (.tup [.int (r.1 : Nat), .ref l, .ref fn])) b = some o := fun e n => s5 _ _ (e4 _ _ (s3 _ _ e) n)
  have hp4 : (upd H4 t (.tup [.int (r.1 : Nat), .ref l, .ref fn])) p = some (.lst vs) := k4 (s2 _ _ (s1 _ _ hp)) fun ps z => by cases z
  have nlp : l ≠ p := fun z => by rw [z, s2 _ _ (s1 _ _ hp)] at nl; cases nl
  have row : Rw E one p r (upd H4 t (.tup [.int (r.1 : Nat), .ref l, .ref fn])) (.ref t) := by
    have nx : ∀ {φ : Heap → Prop} (ps : Array Value), HO.ext φ ≠ .tbl ps := fun ps z => by cases z
    exact ⟨t, l, fn, c', a1, d1, a2, d2, rfl, nlp, upd_same, s5 _ _ (e4 _ _ upd_same fun ps z => by cases z), s5 _ _ hf, s5 _ _ hc, ⟨k4 (s2 _ _ x1) nx, k4 (s2 _ _ y1) nx⟩, k4 x2 nx, k4 y2 nx⟩
  refine ⟨p, vs, .ref t, rfl, rfl, hp4, hz, go (.ref t) _ (fun b o nb e n => ?_) upd_same (tabs_upd (t4.ext s5) hp4) ?_⟩
  · rw [upd_ne nb]; exact k4 (s2 _ _ (s1 _ _ e)) n
  · exact row.ext hp4 fun b o nb e n => by rw [upd_ne nb]; exact e
theorem one_step {K : PySem.W.Frag} {T : List (Addr × Str)} {E : Str → Addr} {one : V} {p : Addr} {vs : List V} {H : Hp} {D : Ends} (r : Nat × Str × Str) (hp : H p = some (.lst vs)) (hz : vs.length < sizeLine) (hT : Tabs T H)
    (go : ∀ v H2, (∀ b o, b ≠ p → H b = some o → (∀ ps, o ≠ .tbl ps) → H2 b = some o) → H2 p = some (.lst (vs ++ [v])) → Tabs T H2 → Rw E one p r H2 v → D.nx [some one, some (.ref p)] H2) :
    tDrop (tBM K "list" rAppend (tVar 1) (tCons (tTup (tCons (tC (.int (r.1 : Nat))) (tCons (tLst (tCons (tExP (E r.2.1) 1 (spSup K (E r.2.1) r.2.2) (tCons (tVar 0) tNil)) (tCons (tExK (E r.2.1) [r.2.2].length (spSup K (E r.2.1) r.2.2) gv1 (tCons (tVar 0) tNil)) tNil))) (tCons (tLamV T "_law_e" qOnes r.2.2) tNil)))) tNil)) D [some one, some (.ref p)] H :=
  one_step0 r (fun H Q q => er_P rfl q) (fun H Q q => er_K rfl q) (fun H Q q => q) hp hz hT go
end My

set_option Elab.async false
set_option linter.all false
set_option maxRecDepth 100000
set_option maxHeartbeats 8000000
namespace My
open PySem PySem.Spec PyProof.Rows L2 L3 LamX
/-- the errors made so far -/
structure On (T : List (Addr × Str)) (E : Str → Addr) (one : V) (p : Addr) (H0 : Hp) (done : List (Nat × Str × Str)) (vs : List V) (H : Hp) : Prop where
  at_ : H p = some (.lst vs)
  kp : ∀ b o, H0 b = some o → (∀ ps, o ≠ .tbl ps) → H b = some o
  tb : Tabs T H
  rw_ : Paired (fun r v => Rw E one p r H v) done vs
theorem On.put {T : List (Addr × Str)} {E : Str → Addr} {one : V} {p : Addr} {H0 H H2 : Hp} {done : List (Nat × Str × Str)} {vs : List V} {r : Nat × Str × Str} {v : V} (o : On T E one p H0 done vs H) (h0 : H0 p = none) (k : ∀ b o, b ≠ p → H b = some o → (∀ ps, o ≠ .tbl ps) → H2 b = some o) (hp : H2 p = some (.lst (vs ++ [v]))) (t : Tabs T H2) (h : Rw E one p r H2 v) :
    On T E one p H0 (done ++ [r]) (vs ++ [v]) H2 :=
  ⟨hp, fun b u e n => k b u (fun z => by rw [z, h0] at e; cases e) (o.kp b u e n) n, t, pd_app (Paired.mapP o.rw_ fun _ _ q => q.ext o.at_ k) (.cons h .nil)⟩
/-- all of them -/
def OnesR (E : Str → Addr) (one : V) (H : Hp) (v : V) : Prop := ∃ p vs, v = .ref p ∧ H p = some (.lst vs) ∧ Paired (fun r v => Rw E one p r H v) rows vs
def bareRows : List (Int × Str) := [(10, "UnlikeSigns"), (15, "Dead"), (17, "NothingToUndo"), (19, "NotDead")]
theorem bare_at : ∀ r ∈ bareRows, ∃ n, r.1 = ((n : Nat) : Int) ∧ ers[n]? = some r.2 := fun r hr => ⟨r.1.toNat, of_decide_eq_true (List.all_eq_true.mp (show bareRows.all (fun r => decide (r.1 = ((r.1.toNat : Nat) : Int))) = true by decide +kernel) r hr), of_decide_eq_true (List.all_eq_true.mp (show bareRows.all (fun r => decide (ers[r.1.toNat]? = some r.2)) = true by decide +kernel) r hr)⟩
section
variable {P : Program} {w : World} {K : PySem.W.Frag} {mg : Str → Option Value} {base : Heap}
abbrev s__law_ones : Stmt := topS 30
theorem sc__law_ones : FnScope ["_law_one", "_law_found"] ["_law_one"] (defScope s__law_ones) := ⟨rfl, rfl, rfl, by decide +kernel, rfl, by decide +kernel, by decide +kernel⟩
def sp__law_ones (E : Str → Addr) (P2 : Addr) : Sp := fun vs H Q _ => ∃ one T, vs = [one] ∧ Tabs T H ∧ (P2, qOnes) ∈ T ∧ (∀ t ∈ T, t.1 = P2 → t.2 = qOnes) ∧ ∀ v H', ExtN H H' → Tabs T H' → OnesR E one H' v → Q v H'
theorem ok__law_ones {E : Str → Addr} {f cd P2 : Addr} {fd : FuncData} (F : FunC K "_law_ones" "_law_ones" s__law_ones fd f cd) (TB : TabB base mg cd P2) (R1 : ∀ x f, (x, f) ∈ rows.map (·.2) → ErM P w K mg base 1 x (E x) ["self", f] [f] (spSup K (E x) f) gv1) : FnG P w K mg base CX0 3 f fd ["_law_one"] (sp__law_ones E P2) := by
  refine fun_okGC F sc__law_ones (fun vs H Q E h => ?_) (fun A outer s H vs Q E' hgu hr h => ?_)
  · obtain ⟨one, T, rfl, _⟩ := h
    rfl
  · obtain ⟨one, T, rfl, hT, hmT, huT, q⟩ := h
    have hu := hr.units
    refine ⟨_, (pss_cons (ps_set (i := 1) sc__law_ones.nd rfl (by first | exact .inl rfl | exact .inr rfl) (pe_lst pa_nil))
      (pss_cons (ps_expr (pe_bm PySem.F.plainAttrs_list PySem.F.slot_list_append PySem.F.type_list_append mt_append (pv 1) (pa_cons (pe_tup (pa_cons pe_int (pa_cons (pe_lst (pa_cons (pe_exP (R1 "BadNames" "index" (by decide +kernel)) (hr.mono (by decide)) rfl (by decide) (pa_cons (pv 0) pa_nil)) (pa_cons (pe_exK (R1 "BadNames" "index" (by decide +kernel)) (hr.mono (by decide)) (pk_cons (pv 0) pk_nil)) pa_nil))) (pa_cons (pe_lamV TB rfl hmT huT ⟨⟨rfl, rfl, rfl, by decide +kernel, rfl, by decide +kernel, by decide +kernel⟩, fun _ _ _ _ _ _ _ => rfl⟩) pa_nil)))) pa_nil)))
      (pss_cons (ps_expr (pe_bm PySem.F.plainAttrs_list PySem.F.slot_list_append PySem.F.type_list_append mt_append (pv 1) (pa_cons (pe_tup (pa_cons pe_int (pa_cons (pe_lst (pa_cons (pe_exP (R1 "TooMany" "n" (by decide +kernel)) (hr.mono (by decide)) rfl (by decide) (pa_cons (pv 0) pa_nil)) (pa_cons (pe_exK (R1 "TooMany" "n" (by decide +kernel)) (hr.mono (by decide)) (pk_cons (pv 0) pk_nil)) pa_nil))) (pa_cons (pe_lamV TB rfl hmT huT ⟨⟨rfl, rfl, rfl, by decide +kernel, rfl, by decide +kernel, by decide +kernel⟩, fun _ _ _ _ _ _ _ => rfl⟩) pa_nil)))) pa_nil)))
      (pss_cons (ps_expr (pe_bm PySem.F.plainAttrs_list PySem.F.slot_list_append PySem.F.type_list_append mt_append (pv 1) (pa_cons (pe_tup (pa_cons pe_int (pa_cons (pe_lst (pa_cons (pe_exP (R1 "BadSetting" "index" (by decide +kernel)) (hr.mono (by decide)) rfl (by decide) (pa_cons (pv 0) pa_nil)) (pa_cons (pe_exK (R1 "BadSetting" "index" (by decide +kernel)) (hr.mono (by decide)) (pk_cons (pv 0) pk_nil)) pa_nil))) (pa_cons (pe_lamV TB rfl hmT huT ⟨⟨rfl, rfl, rfl, by decide +kernel, rfl, by decide +kernel, by decide +kernel⟩, fun _ _ _ _ _ _ _ => rfl⟩) pa_nil)))) pa_nil)))
      (pss_cons (ps_expr (pe_bm PySem.F.plainAttrs_list PySem.F.slot_list_append PySem.F.type_list_append mt_append (pv 1) (pa_cons (pe_tup (pa_cons pe_int (pa_cons (pe_lst (pa_cons (pe_exP (R1 "NoSign" "name" (by decide +kernel)) (hr.mono (by decide)) rfl (by decide) (pa_cons (pv 0) pa_nil)) (pa_cons (pe_exK (R1 "NoSign" "name" (by decide +kernel)) (hr.mono (by decide)) (pk_cons (pv 0) pk_nil)) pa_nil))) (pa_cons (pe_lamV TB rfl hmT huT ⟨⟨rfl, rfl, rfl, by decide +kernel, rfl, by decide +kernel, by decide +kernel⟩, fun _ _ _ _ _ _ _ => rfl⟩) pa_nil)))) pa_nil)))
      (pss_cons (ps_expr (pe_bm PySem.F.plainAttrs_list PySem.F.slot_list_append PySem.F.type_list_append mt_append (pv 1) (pa_cons (pe_tup (pa_cons pe_int (pa_cons (pe_lst (pa_cons (pe_exP (R1 "BadClause" "index" (by decide +kernel)) (hr.mono (by decide)) rfl (by decide) (pa_cons (pv 0) pa_nil)) (pa_cons (pe_exK (R1 "BadClause" "index" (by decide +kernel)) (hr.mono (by decide)) (pk_cons (pv 0) pk_nil)) pa_nil))) (pa_cons (pe_lamV TB rfl hmT huT ⟨⟨rfl, rfl, rfl, by decide +kernel, rfl, by decide +kernel, by decide +kernel⟩, fun _ _ _ _ _ _ _ => rfl⟩) pa_nil)))) pa_nil)))
      (pss_cons (ps_expr (pe_bm PySem.F.plainAttrs_list PySem.F.slot_list_append PySem.F.type_list_append mt_append (pv 1) (pa_cons (pe_tup (pa_cons pe_int (pa_cons (pe_lst (pa_cons (pe_exP (R1 "NoClause" "index" (by decide +kernel)) (hr.mono (by decide)) rfl (by decide) (pa_cons (pv 0) pa_nil)) (pa_cons (pe_exK (R1 "NoClause" "index" (by decide +kernel)) (hr.mono (by decide)) (pk_cons (pv 0) pk_nil)) pa_nil))) (pa_cons (pe_lamV TB rfl hmT huT ⟨⟨rfl, rfl, rfl, by decide +kernel, rfl, by decide +kernel, by decide +kernel⟩, fun _ _ _ _ _ _ _ => rfl⟩) pa_nil)))) pa_nil)))
      (pss_cons (ps_expr (pe_bm PySem.F.plainAttrs_list PySem.F.slot_list_append PySem.F.type_list_append mt_append (pv 1) (pa_cons (pe_tup (pa_cons pe_int (pa_cons (pe_lst (pa_cons (pe_exP (R1 "Clash" "name" (by decide +kernel)) (hr.mono (by decide)) rfl (by decide) (pa_cons (pv 0) pa_nil)) (pa_cons (pe_exK (R1 "Clash" "name" (by decide +kernel)) (hr.mono (by decide)) (pk_cons (pv 0) pk_nil)) pa_nil))) (pa_cons (pe_lamV TB rfl hmT huT ⟨⟨rfl, rfl, rfl, by decide +kernel, rfl, by decide +kernel, by decide +kernel⟩, fun _ _ _ _ _ _ _ => rfl⟩) pa_nil)))) pa_nil)))
      (pss_cons (ps_expr (pe_bm PySem.F.plainAttrs_list PySem.F.slot_list_append PySem.F.type_list_append mt_append (pv 1) (pa_cons (pe_tup (pa_cons pe_int (pa_cons (pe_lst (pa_cons (pe_exP (R1 "BadCount" "n" (by decide +kernel)) (hr.mono (by decide)) rfl (by decide) (pa_cons (pv 0) pa_nil)) (pa_cons (pe_exK (R1 "BadCount" "n" (by decide +kernel)) (hr.mono (by decide)) (pk_cons (pv 0) pk_nil)) pa_nil))) (pa_cons (pe_lamV TB rfl hmT huT ⟨⟨rfl, rfl, rfl, by decide +kernel, rfl, by decide +kernel, by decide +kernel⟩, fun _ _ _ _ _ _ _ => rfl⟩) pa_nil)))) pa_nil)))
      (pss_cons (ps_expr (pe_bm PySem.F.plainAttrs_list PySem.F.slot_list_append PySem.F.type_list_append mt_append (pv 1) (pa_cons (pe_tup (pa_cons pe_int (pa_cons (pe_lst (pa_cons (pe_exP (R1 "BadLevel" "level" (by decide +kernel)) (hr.mono (by decide)) rfl (by decide) (pa_cons (pv 0) pa_nil)) (pa_cons (pe_exK (R1 "BadLevel" "level" (by decide +kernel)) (hr.mono (by decide)) (pk_cons (pv 0) pk_nil)) pa_nil))) (pa_cons (pe_lamV TB rfl hmT huT ⟨⟨rfl, rfl, rfl, by decide +kernel, rfl, by decide +kernel, by decide +kernel⟩, fun _ _ _ _ _ _ _ => rfl⟩) pa_nil)))) pa_nil)))
      (pss_cons (ps_expr (pe_bm PySem.F.plainAttrs_list PySem.F.slot_list_append PySem.F.type_list_append mt_append (pv 1) (pa_cons (pe_tup (pa_cons pe_int (pa_cons (pe_lst (pa_cons (pe_exP (R1 "NoHelper" "name" (by decide +kernel)) (hr.mono (by decide)) rfl (by decide) (pa_cons (pv 0) pa_nil)) (pa_cons (pe_exK (R1 "NoHelper" "name" (by decide +kernel)) (hr.mono (by decide)) (pk_cons (pv 0) pk_nil)) pa_nil))) (pa_cons (pe_lamV TB rfl hmT huT ⟨⟨rfl, rfl, rfl, by decide +kernel, rfl, by decide +kernel, by decide +kernel⟩, fun _ _ _ _ _ _ _ => rfl⟩) pa_nil)))) pa_nil)))
      (pss_cons (ps_expr (pe_bm PySem.F.plainAttrs_list PySem.F.slot_list_append PySem.F.type_list_append mt_append (pv 1) (pa_cons (pe_tup (pa_cons pe_int (pa_cons (pe_lst (pa_cons (pe_exP (R1 "BadLiteral" "literal" (by decide +kernel)) (hr.mono (by decide)) rfl (by decide) (pa_cons (pv 0) pa_nil)) (pa_cons (pe_exK (R1 "BadLiteral" "literal" (by decide +kernel)) (hr.mono (by decide)) (pk_cons (pv 0) pk_nil)) pa_nil))) (pa_cons (pe_lamV TB rfl hmT huT ⟨⟨rfl, rfl, rfl, by decide +kernel, rfl, by decide +kernel, by decide +kernel⟩, fun _ _ _ _ _ _ _ => rfl⟩) pa_nil)))) pa_nil)))
      (pss_cons (ps_expr (pe_bm PySem.F.plainAttrs_list PySem.F.slot_list_append PySem.F.type_list_append mt_append (pv 1) (pa_cons (pe_tup (pa_cons pe_int (pa_cons (pe_lst (pa_cons (pe_exP (R1 "BadCode" "index" (by decide +kernel)) (hr.mono (by decide)) rfl (by decide) (pa_cons (pv 0) pa_nil)) (pa_cons (pe_exK (R1 "BadCode" "index" (by decide +kernel)) (hr.mono (by decide)) (pk_cons (pv 0) pk_nil)) pa_nil))) (pa_cons (pe_lamV TB rfl hmT huT ⟨⟨rfl, rfl, rfl, by decide +kernel, rfl, by decide +kernel, by decide +kernel⟩, fun _ _ _ _ _ _ _ => rfl⟩) pa_nil)))) pa_nil)))
      (pss_cons (ps_expr (pe_bm PySem.F.plainAttrs_list PySem.F.slot_list_append PySem.F.type_list_append mt_append (pv 1) (pa_cons (pe_tup (pa_cons pe_int (pa_cons (pe_lst (pa_cons (pe_exP (R1 "NotTree" "index" (by decide +kernel)) (hr.mono (by decide)) rfl (by decide) (pa_cons (pv 0) pa_nil)) (pa_cons (pe_exK (R1 "NotTree" "index" (by decide +kernel)) (hr.mono (by decide)) (pk_cons (pv 0) pk_nil)) pa_nil))) (pa_cons (pe_lamV TB rfl hmT huT ⟨⟨rfl, rfl, rfl, by decide +kernel, rfl, by decide +kernel, by decide +kernel⟩, fun _ _ _ _ _ _ _ => rfl⟩) pa_nil)))) pa_nil)))
      (pss_cons (ps_expr (pe_bm PySem.F.plainAttrs_list PySem.F.slot_list_append PySem.F.type_list_append mt_append (pv 1) (pa_cons (pe_tup (pa_cons pe_int (pa_cons (pe_lst (pa_cons (pe_exP (R1 "IsSet" "name" (by decide +kernel)) (hr.mono (by decide)) rfl (by decide) (pa_cons (pv 0) pa_nil)) (pa_cons (pe_exK (R1 "IsSet" "name" (by decide +kernel)) (hr.mono (by decide)) (pk_cons (pv 0) pk_nil)) pa_nil))) (pa_cons (pe_lamV TB rfl hmT huT ⟨⟨rfl, rfl, rfl, by decide +kernel, rfl, by decide +kernel, by decide +kernel⟩, fun _ _ _ _ _ _ _ => rfl⟩) pa_nil)))) pa_nil)))
      (pss_cons (ps_expr (pe_bm PySem.F.plainAttrs_list PySem.F.slot_list_append PySem.F.type_list_append mt_append (pv 1) (pa_cons (pe_tup (pa_cons pe_int (pa_cons (pe_lst (pa_cons (pe_exP (R1 "NotDrawn" "literal" (by decide +kernel)) (hr.mono (by decide)) rfl (by decide) (pa_cons (pv 0) pa_nil)) (pa_cons (pe_exK (R1 "NotDrawn" "literal" (by decide +kernel)) (hr.mono (by decide)) (pk_cons (pv 0) pk_nil)) pa_nil))) (pa_cons (pe_lamV TB rfl hmT huT ⟨⟨rfl, rfl, rfl, by decide +kernel, rfl, by decide +kernel, by decide +kernel⟩, fun _ _ _ _ _ _ _ => rfl⟩) pa_nil)))) pa_nil)))
      (pss_cons (ps_expr (pe_bm PySem.F.plainAttrs_list PySem.F.slot_list_append PySem.F.type_list_append mt_append (pv 1) (pa_cons (pe_tup (pa_cons pe_int (pa_cons (pe_lst (pa_cons (pe_exP (R1 "BadLine" "index" (by decide +kernel)) (hr.mono (by decide)) rfl (by decide) (pa_cons (pv 0) pa_nil)) (pa_cons (pe_exK (R1 "BadLine" "index" (by decide +kernel)) (hr.mono (by decide)) (pk_cons (pv 0) pk_nil)) pa_nil))) (pa_cons (pe_lamV TB rfl hmT huT ⟨⟨rfl, rfl, rfl, by decide +kernel, rfl, by decide +kernel, by decide +kernel⟩, fun _ _ _ _ _ _ _ => rfl⟩) pa_nil)))) pa_nil)))
      (pss_one (ps_ret (pv 1)))))))))))))))))))), ?_⟩
    refine q_asgL (M := fun _ => none) (fun _ _ e => nomatch e) gl_nil fun p vs0 M1 H0 g1 np _ hp e => ?_
    subst e
    have o0 : On T E one p H [] [] H0 := ⟨hp, fun b o e _ => g1.hh b o e, hT.ext g1.hh, .nil⟩
    have go : ∀ {done : List (Nat × Str × Str)} {vs : List V} {H1 : Hp} {D : Ends} (r : Nat × Str × Str), On T E one p H done vs H1 → vs.length ≤ 100 → (∀ vs2 H2, On T E one p H (done ++ [r]) vs2 H2 → vs2.length = vs.length + 1 → D.nx [some one, some (.ref p)] H2) →
        tDrop (tBM K "list" rAppend (tVar 1) (tCons (tTup (tCons (tC (.int (r.1 : Nat))) (tCons (tLst (tCons (tExP (E r.2.1) 1 (spSup K (E r.2.1) r.2.2) (tCons (tVar 0) tNil)) (tCons (tExK (E r.2.1) [r.2.2].length (spSup K (E r.2.1) r.2.2) gv1 (tCons (tVar 0) tNil)) tNil))) (tCons (tLamV T "_law_e" qOnes r.2.2) tNil)))) tNil)) D [some one, some (.ref p)] H1 := fun {done vs H1 D} r o hz k =>
      one_step r o.at_ (Nat.lt_of_le_of_lt hz (by decide)) o.tb fun v H2 k2 hp2 t2 w2 => k _ H2 (o.put np k2 hp2 t2 w2) (by simp)
    refine go (0, "BadNames", "index") o0 (by decide) fun vs1 H1 o1 l1 => ?_
    have l1 : vs1.length = 1 := l1
    refine go (1, "TooMany", "n") o1 (by omega) fun vs2 H2 o2 l2 => ?_
    refine go (2, "BadSetting", "index") o2 (by omega) fun vs3 H3 o3 l3 => ?_
    refine go (3, "NoSign", "name") o3 (by omega) fun vs4 H4 o4 l4 => ?_
    refine go (4, "BadClause", "index") o4 (by omega) fun vs5 H5 o5 l5 => ?_
    refine go (5, "NoClause", "index") o5 (by omega) fun vs6 H6 o6 l6 => ?_
    refine go (6, "Clash", "name") o6 (by omega) fun vs7 H7 o7 l7 => ?_
    refine go (7, "BadCount", "n") o7 (by omega) fun vs8 H8 o8 l8 => ?_
    refine go (8, "BadLevel", "level") o8 (by omega) fun vs9 H9 o9 l9 => ?_
    refine go (11, "NoHelper", "name") o9 (by omega) fun vs10 H10 o10 l10 => ?_
    refine go (12, "BadLiteral", "literal") o10 (by omega) fun vs11 H11 o11 l11 => ?_
    refine go (13, "BadCode", "index") o11 (by omega) fun vs12 H12 o12 l12 => ?_
    refine go (14, "NotTree", "index") o12 (by omega) fun vs13 H13 o13 l13 => ?_
    refine go (16, "IsSet", "name") o13 (by omega) fun vs14 H14 o14 l14 => ?_
    refine go (18, "NotDrawn", "literal") o14 (by omega) fun vs15 H15 o15 l15 => ?_
    refine go (20, "BadLine", "index") o15 (by omega) fun vs16 H16 o16 l16 => ?_
    exact ⟨.ref p, rfl, q (.ref p) H16 o16.kp o16.tb ⟨p, vs16, rfl, o16.at_, o16.rw_⟩⟩
abbrev s__law_bares : Stmt := topS 31
theorem sc__law_bares : FnScope [] [] (defScope s__law_bares) := ⟨rfl, rfl, rfl, by decide +kernel, rfl, by decide +kernel, by decide +kernel⟩
def sp__law_bares (K : PySem.W.Frag) (E : Str → Addr) : Sp := fun vs H Q _ => ∃ M, vs = [] ∧ Same M H ∧ ∀ u M' H', Gr M H M' H' → LiR (PrR K It' (ErR E)) bareRows M' u → Q u H'
theorem gv_ex0 {E : Str → Addr} {σ : Sl} {M : Hp} {x : Str} : Gv (tEx0 (E x)) σ M (ErR E x) := fun H mh Q q a na => q (.ref a) _ _ (.new mh na fun _ => exo_tbl) ⟨a, rfl, .inl upd_same⟩
theorem ok__law_bares {E : Str → Addr} {f : Addr} {fd : FuncData} (F : Fun K "_law_bares" "_law_bares" s__law_bares f fd) (N0 : ∀ x, x ∈ (["OpenError", "UnlikeSigns", "Dead", "NothingToUndo", "NotDead"] : List Str) → ErN K mg x (E x)) : FnOk P w K mg base CX0 1 f fd [] (sp__law_bares K E) := by
  refine F.ok sc__law_bares (fun vs H Q E h => ?_) (fun cdv A outer s H vs Q E' hr h => ?_)
  · obtain ⟨M, rfl, _⟩ := h
    rfl
  · obtain ⟨M, rfl, mh, q⟩ := h
    have hu := hr.units
    refine ⟨_, (pss_one (ps_ret (pe_lst (pa_cons (pe_tup (pa_cons pe_int (pa_cons (pe_ex0 (N0 "UnlikeSigns" (by decide +kernel))) pa_nil))) (pa_cons (pe_tup (pa_cons pe_int (pa_cons (pe_ex0 (N0 "Dead" (by decide +kernel))) pa_nil))) (pa_cons (pe_tup (pa_cons pe_int (pa_cons (pe_ex0 (N0 "NothingToUndo" (by decide +kernel))) pa_nil))) (pa_cons (pe_tup (pa_cons pe_int (pa_cons (pe_ex0 (N0 "NotDead" (by decide +kernel))) pa_nil))) pa_nil))))))), ?_⟩
    have row : ∀ {σ : Sl} {M : Hp} (i : Int) (x : Str), Gv (tTup (tCons (tC (.int i)) (tCons (tEx0 (E x)) tNil))) σ M (PrR K It' (ErR E) (i, x)) := fun i x => gv_pair (gv_c rfl) gv_ex0
    exact s_ret mh (gv_lstG (R := PrR K It' (ErR E)) (ga_rl (x := ((10 : Int), ("UnlikeSigns" : Str))) (row _ _) fun _ _ => ga_rl (x := ((15 : Int), ("Dead" : Str))) (row _ _) fun _ _ => ga_rl (x := ((17 : Int), ("NothingToUndo" : Str))) (row _ _) fun _ _ => ga_rl (x := ((19 : Int), ("NotDead" : Str))) (row _ _) fun _ _ => ga_rl0) (by show 4 ≤ 1000; decide)) fun v M' H' g r => q v M' H' g r
end
end My

set_option Elab.async false
set_option linter.all false
set_option maxRecDepth 100000
set_option maxHeartbeats 8000000
namespace My
open PySem PySem.Spec PyProof.Rows L2 L3 LamX
open L3.Strm
section
variable {S : Strm} {Pt : Addr} {q : Str} {M H : Hp} {k j c : Nat} {σ : Sl} {te : TE} {P : Pr} {D : Ends} {tz tb : TS} {tt : L2.TT}
theorem _root_.L3.LS.plain {M' H' : Hp} (L : LS S Pt q M H k) (g : Gr M H M' H') : LS S Pt q M' H' k := L.step (lift L.mh L.at_ g) (L.at_.same g.hh)
/-- a list of ours is known from now on -/
theorem _root_.L3.LS.freeze {p : Addr} {vs : List V} (L : LS S Pt q M H k) (hp : S.cut H p = some (.lst vs)) : LS S Pt q (upd M p (.lst vs)) H k := by
  obtain ⟨ps, hP, ok, h3⟩ := L.tb
  have n : Pt ≠ p := fun z => by rw [z, of_cut hp] at hP; cases hP
  refine ⟨same_lent L.mh hp, L.at_, L.tb, by rw [upd_ne n]; exact L.mp, fun a qs e => ?_⟩
  by_cases z : a = p
  · subst z; rw [upd_same] at e; cases e
  · rw [upd_ne z] at e; exact L.nt a qs e
/-- a new list -/
theorem _root_.L3.LS.new {p : Addr} {o : HO} (L : LS S Pt q M H k) (np : H p = none) : LS S Pt q M (upd H p o) k ∧ M p = none ∧ S.cut (upd H p o) p = some o := by
  have no := L.at_.fresh np
  have nc := L.at_.cutn np
  exact ⟨L.step (by rw [cut_upd no]; exact .own L.mh nc) (L.at_.upd no), L.mh.free nc, by rw [cut_upd no, upd_same]⟩
theorem l_for {α : Type} {R : Rl α} {wi : TI} {g : TG} {U : α → Hp → Sl → Sl → Prop} {xs : List α} (cost : Nat → Nat) (J : Hp → Nat → Sl → Prop) (L : LS S Pt q M H (cost 0)) (hsrc : GvI wi σ M xs R) (htg : TgOk g R U) (hJ : ∀ M M' i σ, Same M M' → J M i σ → J M' i σ) (h0 : J M 0 σ)
    (hs : ∀ i x σ' M' H' σ2 (nx : Sl → Hp → Prop), (∀ M2 H2 σ3, Same M' M2 → J M2 (i + 1) σ3 → LS S Pt q M2 H2 (cost (i + 1)) → nx σ3 H2) → xs[i]? = some x → Same M M' → J M' i σ' → LS S Pt q M' H' (cost i) → U x M' σ' σ2 → tb { D with nx := nx, ct := nx, bk := tz D } σ2 H')
    (hd : ∀ σ' M' H', Same M M' → J M' xs.length σ' → LS S Pt q M' H' (cost xs.length) → tz D σ' H') : tSeq (tFor wi g tb) tz D σ H := by
  refine z_for (S := S) (k := cost 0) (c := 0) (G := (· = xs)) L.mh L.at_ hsrc.s htg (fun ys M1 i σ' M' H' => Same M1 M' ∧ J M' i σ' ∧ LS S Pt q M' H' (cost i)) (fun ys M1 H1 e g a => ?_) (fun ys M1 i σ' M' H' ⟨s, _, l⟩ => ⟨s, l.mh, l.at_.le (Nat.zero_le _)⟩) ?_ ?_
  · exact ⟨Same.refl _, hJ _ _ _ _ g.mm h0, L.step g a⟩
  · rintro ys M1 i x σ' M' H' M2 H2 σ2 rfl sM hx ⟨s1, j1, l1⟩ g hU
    exact hs i x σ' M2 H2 σ2 _ (fun M3 H3 σ3 s3 j3 l3 => ⟨M3, (s1.trans g.mm).trans s3, j3, l3⟩) hx ((sM.trans s1).trans g.mm) (hJ _ _ _ _ g.mm j1) (l1.plain g) hU
  · rintro ys M1 σ' M' H' rfl sM ⟨s1, j1, l1⟩
    exact hd σ' M' H' (sM.trans s1) j1 l1
end
theorem s_ifN {S : Strm} {Pt : Addr} {q : Str} {M H : Hp} {k : Nat} {σ : Sl} {D : Ends} {tb : TS} {tt : L2.TT} (L : LS S Pt q M H k) (h : GvT tt σ M false) (go : ∀ H', LS S Pt q M H' k → D.nx σ H') : tIfS tt tb tNext D σ H := s_if0 (L.mh.trans cut_same) h (fun e => nomatch e) fun _ H' hh => go H' (L.idle hh)
/-! what is known when the table has grown -/
def noTab (H : Hp) : Hp := fun a => match H a with
  | some (.tbl _) => none
  | o => o
theorem noTab_some {H : Hp} {a : Addr} {o : HO} (e : H a = some o) (n : ∀ ps, o ≠ .tbl ps) : noTab H a = some o := by
  unfold noTab
  rw [e]
  cases o with
  | tbl ps => exact absurd rfl (n ps)
  | _ => rfl
theorem noTab_of {H : Hp} {a : Addr} {o : HO} (e : noTab H a = some o) : H a = some o ∧ ∀ ps, o ≠ .tbl ps := by
  unfold noTab at e
  cases h : H a with
  | none => rw [h] at e; cases e
  | some u =>
    rw [h] at e
    cases u with
    | tbl ps => cases e
    | _ => cases e; exact ⟨rfl, fun ps z => by cases z⟩
theorem LS.whole {S : Strm} {Pt : Addr} {q : Str} {M H H' : Hp} {k : Nat} (L : LS S Pt q M H k) (eN : ExtN H H') (t : Tabs [(Pt, q)] H') : LS S Pt q (noTab (S.cut H')) H' k ∧ Same M (noTab (S.cut H')) := by
  have tb := t _ (List.mem_singleton.mpr rfl)
  refine ⟨⟨fun x o e => (noTab_of e).1, L.at_.ext eN, tb, ?_, fun a ps e => (noTab_of e).2 ps rfl⟩, fun x o e => ?_⟩
  · obtain ⟨ps, hP, _⟩ := tb
    cases e : noTab (S.cut H') Pt with
    | none => rfl
    | some o =>
      have z := noTab_of e
      rw [of_cut z.1] at hP
      exact absurd (Option.some.inj hP) (z.2 ps)
  · have h1 := L.mh x o e
    have n : ∀ ps, o ≠ .tbl ps := fun ps z => L.nt x ps (z ▸ e)
    exact noTab_some (by rw [cut_on (on_of h1)]; exact eN x o (of_cut h1) n) n
/-- a list that can't be the stream -/
theorem not_off {S : Strm} {H : Hp} {k : Nat} {a : Addr} {vs : List V} {b : Addr} (h : S.At k H) (e : H a = some (.lst (.ref b :: vs))) (n : vs.length ≠ 3) : ¬ S.off a := by
  obtain ⟨c, x, m, y, h1, h2, _⟩ := h.ex
  rintro (rfl | rfl)
  · rw [h1] at e
    have z := Option.some.inj e
    injection z with z
    injection z with z1 z2
    exact n (by rw [← z2]; rfl)
  · rw [h2] at e
    have z := Option.some.inj e
    injection z with z
    cases c with
    | nil => cases z
    | cons i c => injection z with z1 z2; cases z1
/-- an error with one field -/
def Er1 (E : Str → Addr) (one : V) : Rl (Str × Str) := fun x M v => ∃ a d, v = .ref a ∧ M a = some (exo a (E x.1) (some d)) ∧ M d = some (exd d [(x.2, one)])
instance {E : Str → Addr} {one : V} : Mon (Er1 E one) := ⟨fun e ⟨a, d, h1, h2, h3⟩ => ⟨a, d, h1, e _ _ h2, e _ _ h3⟩⟩
theorem er1_er {E : Str → Addr} {one : V} {x : Str × Str} {M : Hp} {v : V} (h : Er1 E one x M v) : ErR E x.1 M v := let ⟨a, d, e, h1, h2⟩ := h; ⟨a, e, .inr ⟨d, _, h1, h2⟩⟩
/-- a held lambda -/
def FnR : Rl Str := fun f M v => ∃ fn c', v = .ref fn ∧ M fn = some (FnO "_law_e" fn c' qOnes f) ∧ M c' = some (CodeO c' qOnes)
instance : Mon FnR := ⟨fun e ⟨fn, c', h1, h2, h3⟩ => ⟨fn, c', h1, e _ _ h2, e _ _ h3⟩⟩
/-- a row of them, known -/
def RwM (E : Str → Addr) (one : V) : Rl (Nat × Str × Str) := fun r M v => ∃ t vl vf, v = .ref t ∧ M t = some (.tup [.int (r.1 : Nat), vl, vf]) ∧ LiR (Er1 E one) [r.2, r.2] M vl ∧ FnR r.2.2 M vf
instance {E : Str → Addr} {one : V} : Mon (RwM E one) := ⟨fun e ⟨t, vl, vf, h1, h2, h3, h4⟩ => ⟨t, vl, vf, h1, e _ _ h2, Mon.mono e h3, Mon.mono e h4⟩⟩
theorem ones_known {S : Strm} {E : Str → Addr} {one : V} {H : Hp} {v : V} {k : Nat} (a : S.At k H) (h : OnesR E one H v) : LiR (RwM E one) rows (noTab (S.cut H)) v := by
  obtain ⟨p, vs, e, hp, pr⟩ := h
  have on : ∀ {b o}, H b = some o → (∀ xs, o ≠ .lst xs) → (∀ ps, o ≠ .tbl ps) → noTab (S.cut H) b = some o := fun {b o} e n1 n2 => noTab_some (by
    rw [cut_on (fun z => by obtain ⟨ws, hw⟩ := a.at_ z; rw [hw] at e; exact n1 ws (Option.some.inj e).symm)]
    exact e) n2
  have onx : ∀ {b : Addr} {φ : Heap → Prop}, H b = some (.ext φ) → noTab (S.cut H) b = some (.ext φ) := fun e => on e (fun xs z => by cases z) (fun ps z => by cases z)
  have onl : ∀ {b c : Addr} {ws : List V}, H b = some (.lst (.ref c :: ws)) → ws.length ≠ 3 → noTab (S.cut H) b = some (.lst (.ref c :: ws)) := fun e n => noTab_some (by rw [cut_on (not_off a e n)]; exact e) fun ps z => by cases z
  refine ⟨p, vs, e, ?_, Paired.mapP pr fun r u q => ?_⟩
  · have hl := pr.length
    match vs, hp, pr, hl with
    | u :: us, hp, .cons q _, hl =>
      obtain ⟨t, _, _, _, _, _, _, _, e, _⟩ := q
      subst e
      exact onl hp (by rw [List.length_cons] at hl; have : rows.length = 16 := rfl; omega)
  · obtain ⟨t, l, fn, c', a1, d1, a2, d2, e, _, h1, h2, h3, h4, ⟨h5, h6⟩, h7, h8⟩ := q
    exact ⟨t, .ref l, .ref fn, e, on h1 (fun xs z => by cases z) (fun ps z => by cases z), ⟨l, _, rfl, onl h2 (by simp), .cons ⟨a1, d1, rfl, onx h5, onx h6⟩ (.cons ⟨a2, d2, rfl, onx h7, onx h8⟩ .nil)⟩, fn, c', rfl, onx h3, onx h4⟩
/-- place, errors, lambda -/
theorem tg_row {K : PySem.W.Frag} {E : Str → Addr} {one : V} : TgOk (gTup K 3 (gCons (gName 6) (gCons (gName 7) (gCons (gName 8) gNil)))) (RwM E one) fun r M σ σ' => ∃ vl vf, LiR (Er1 E one) [r.2, r.2] M vl ∧ FnR r.2.2 M vf ∧ σ' = ((σ.set 6 (some (.int (r.1 : Nat)))).set 7 (some vl)).set 8 (some vf) := by
  rintro r M v H σ Q ⟨t, vl, vf, rfl, h1, h2, h3⟩ mh q
  exact ⟨t, _, rfl, .inl (.inl (mh _ _ h1)), rfl, _, _, rfl, _, _, rfl, _, _, rfl, rfl, q _ ⟨vl, vf, h2, h3, rfl⟩⟩
section
variable {K : PySem.W.Frag} {E : Str → Addr} {σ : Sl} {M : Hp} {te : TE} {one : V} {d : PyData}
theorem gv_lamC {x : Str × Str} {i : Nat} {vf : V} (hi : σ[i]? = some (some vf)) (hf : FnR x.2 M vf) (cc : ErC K (E x.1)) (no : PySem.W.findIn K (.ref (E x.1)) x.2 = some none) (hd : Dz K M one d) (h : Gv te σ M (Er1 E one x)) : Gv (tLamC K "_law_e" i te) σ M (DzR K d) := fun H mh Q q => by
  obtain ⟨fn, c', e, h1, h2⟩ := hf
  subst e
  refine ⟨fn, c', qOnes, x.2, hi, mh _ _ h1, h H mh _ fun v M1 H1 g1 ⟨a, dx, e, x1, x2⟩ => ?_⟩
  exact ⟨g1.hh _ _ (mh _ _ h1), g1.hh _ _ (mh _ _ h2), a, E x.1, dx, _, one, e, g1.mh _ _ x1, g1.mh _ _ x2, cc.xf, no, by simp [List.lookup], q one M1 H1 g1 (dz_mono g1.mm hd)⟩
end
end My

set_option Elab.async false
set_option linter.all false
set_option maxRecDepth 100000
set_option maxHeartbeats 8000000
namespace My
open PySem PySem.Spec PyProof.Rows L2 L3 LamX
open L3.Strm
/-! the error with two fields; things of the law, two at a time -/
def gv2 : List V → List V → List V := fun vs zs => match zs with
  | [l, s] => vs ++ [s, l]
  | _ => vs ++ zs
section
variable {K : PySem.W.Frag} {E : Str → Addr} {σ : Sl} {M H : Hp} {t1 t2 te : TE} {one other : V} {a dx C : Addr} {fs : List (Str × V)}
theorem gr_er (mh : Same M H) (na : H a = none) (ndx : (upd H a (exo a C none)) dx = none) (nda : dx ≠ a) : Gr M H (upd (upd M dx (exd dx fs)) a (exo a C (some dx))) (upd (upd (upd H a (exo a C none)) dx (exd dx fs)) a (exo a C (some dx))) := by
  have n1 : H dx = none := by rw [upd_ne nda] at ndx; exact ndx
  have e : upd (upd (upd H a (exo a C none)) dx (exd dx fs)) a (exo a C (some dx)) = upd (upd H dx (exd dx fs)) a (exo a C (some dx)) := by
    funext b
    by_cases h1 : b = a
    · rw [h1, upd_same, upd_same]
    · rw [upd_ne h1, upd_ne h1]
      by_cases h2 : b = dx
      · rw [h2, upd_same, upd_same]
      · rw [upd_ne h2, upd_ne h2, upd_ne h1]
  rw [e]
  have g1 : Gr M H (upd M dx (exd dx fs)) (upd H dx (exd dx fs)) := .new mh n1 fun ps z => by
    have z' : HO.ext _ = HO.tbl ps := z
    cases z'
  exact g1.trans (.new g1.mh (by rw [upd_ne nda.symm]; exact na) fun ps => exo_tbl)
/-- the error with a setting and a literal -/
def Bd (E : Str → Addr) (one other : V) : Rl Unit := fun _ M v => ∃ a d, v = .ref a ∧ M a = some (exo a (E "Blind") (some d)) ∧ M d = some (exd d [("literal", other), ("setting", one)])
instance {E : Str → Addr} {one other : V} : Mon (Bd E one other) := ⟨fun e ⟨a, d, h1, h2, h3⟩ => ⟨a, d, h1, e _ _ h2, e _ _ h3⟩⟩
theorem bd_er {x : Unit} {v : V} (h : Bd E one other x M v) : ErR E "Blind" M v := let ⟨a, d, e, h1, h2⟩ := h; ⟨a, e, .inr ⟨d, _, h1, h2⟩⟩
theorem gv_bdP {i j : Nat} (hi : σ[i]? = some (some one)) (hj : σ[j]? = some (some other)) : Gv (tExP (E "Blind") 2 (spSup2 K (E "Blind") "setting" "literal") (tCons (tVar i) (tCons (tVar j) tNil))) σ M (Bd E one other ()) := fun H mh Q q =>
  ⟨one, hi, other, hj, rfl, fun a na => ⟨a, one, other, rfl, upd_same, fun dx ndx nda => ⟨rfl, q (.ref a) _ _ (gr_er mh na ndx nda) ⟨a, dx, rfl, upd_same, by rw [upd_ne nda]; exact upd_same⟩⟩⟩⟩
theorem gv_bdK {i j : Nat} {ks : List Str} (hk : ks.length = 2) (hi : σ[i]? = some (some one)) (hj : σ[j]? = some (some other)) : Gv (tExK (E "Blind") ks.length (spSup2 K (E "Blind") "setting" "literal") gv2 (tCons (tVar j) (tCons (tVar i) tNil))) σ M (Bd E one other ()) := fun H mh Q q =>
  ⟨other, hj, one, hi, hk.symm, fun a na => ⟨a, one, other, rfl, upd_same, fun dx ndx nda => ⟨rfl, q (.ref a) _ _ (gr_er mh na ndx nda) ⟨a, dx, rfl, upd_same, by rw [upd_ne nda]; exact upd_same⟩⟩⟩⟩
theorem gv_xvB {f : Str} {w : V} {d : PyData} (h : Gv te σ M (Bd E one other ())) (cc : ErC K (E "Blind")) (no : PySem.W.findIn K (.ref (E "Blind")) f = some none) (hl : ([("literal", other), ("setting", one)] : List (Str × V)).lookup f = some w) (hd : Dz K M w d) : Gv (tXv K f te) σ M (DzR K d) := fun H mh Q q =>
  h H mh _ fun v M1 H1 g1 ⟨a, dx, e, h1, h2⟩ => ⟨a, E "Blind", dx, _, w, e, g1.mh _ _ h1, g1.mh _ _ h2, cc.xf, no, hl, q w M1 H1 g1 (dz_mono g1.mm hd)⟩
end
section
variable {K : PySem.W.Frag} {S : Strm} {σ : Sl} {M : Hp} {t1 t2 : TE} {i c1 c2 : Nat}
theorem gs_thing (hi : σ[i]? = some (some (.ref S.a))) : GvS S 6 (tCall (sp__law_thing K) [] E0 (tCons (tVar i) tNil)) σ M (Ex (DzR K) Thing) := fun H k mh a Q q => ⟨.ref S.a, hi, S, M, k, rfl, mh, a, fun u M' H' g a' r => q u M' H' g a' r⟩
end
section
variable {K : PySem.W.Frag} {S : Strm} {σ : Sl} {M : Hp} {t1 t2 : TE} {c1 c2 : Nat} {α β : Type} {R : Rl α} {T : Rl β}
theorem gs_pair2 [Mon R] [Mon T] {g1 : α → Prop} {g2 : β → Prop} (h1 : GvS S c1 t1 σ M (Ex R g1)) (h2 : GvS S c2 t2 σ M (Ex T g2)) : GvS S (c1 + c2) (tTup (tCons t1 (tCons t2 tNil))) σ M (Ex (PrR K R T) fun p => g1 p.1 ∧ g2 p.2) := fun H k mh a Q q =>
  h1 H (k + c2) mh (a.le (by omega)) _ fun u M1 H1 g1 a1 ⟨x, gx, p1⟩ => h2.le g1.mm H1 k g1.mh a1 _ fun w M2 H2 g2 a2 ⟨y, gy, p2⟩ => ⟨by show 2 ≤ sizeLine; decide, fun p np => by
    have G := g1.trans g2
    have n3 := a2.fresh np
    have c0 := a2.cutn np
    have m3 : M2 p = none := G.mh.free c0
    have sm := same_new (o := HO.tup [u, w]) m3
    have G' := G.trans (Gr.new (o := .tup [u, w]) G.mh c0)
    rw [← cut_upd n3] at G'
    exact q _ _ _ G' (a2.upd n3) ⟨(x, y), ⟨gx, gy⟩, p, u, w, rfl, .inl (.inl upd_same), Mon.mono (g2.mm.trans sm) p1, Mon.mono sm p2⟩⟩
/-- x, y = e, f where the things of e, f are drawn -/
theorem z_asgTE {α : Type} {R : Rl α} {g : TG} {U : α → Hp → Sl → Sl → Prop} {H : Hp} {k c : Nat} {te : TE} {D : Ends} {tz : TS} {good : α → Prop} (mh : Same M (S.cut H)) (a : S.At (k + c) H) (h : GvS S c te σ M (Ex R good)) (htg : TgOk g R U) (q : ∀ x σ' M' H', Gr M (S.cut H) M' (S.cut H') → S.At k H' → good x → U x M' σ σ' → tz D σ' H') : tSeq (tAsg te g) tz D σ H :=
  h H k mh a _ fun v M' H' g' a' ⟨x, gx, r⟩ => htg x M' v H' σ _ r (g'.mh.trans cut_same) fun σ' u => q x σ' M' H' g' a' gx u
end
theorem gl_is {σ : Sl} {M : Hp} {te : TE} {R R' : Hp → List V → Prop} (h : GvL te σ M R) (e : ∀ M vs, R M vs → R' M vs) : GvL te σ M R' := fun H mh Q q => h H mh Q fun p vs M' H' g h0 m0 hp r => q p vs M' H' g h0 m0 hp (e M' vs r)
theorem q_forT {K : PySem.W.Frag} {te : TE} {g : TG} {tb tz : TS} {D : Ends} {σ : Sl} {H : Hp} (h : te σ H fun v H1 => tSeq (tFor (iSq K (tC v)) g tb) tz D σ H1) : tSeq (tFor (iSq K te) g tb) tz D σ H := h
theorem s_forL {S : Strm} {Pt : Addr} {q : Str} {M H : Hp} {σ : Sl} {D : Ends} {tb : TS} {α : Type} {R : Rl α} {wi : TI} {g : TG} {U : α → Hp → Sl → Sl → Prop} {xs : List α} (cost : Nat → Nat) (J : Hp → Nat → Sl → Prop) (L : LS S Pt q M H (cost 0)) (hsrc : GvI wi σ M xs R) (htg : TgOk g R U) (hJ : ∀ M M' i σ, Same M M' → J M i σ → J M' i σ) (h0 : J M 0 σ)
    (hs : ∀ i x σ' M' H' σ2 (nx : Sl → Hp → Prop), (∀ M2 H2 σ3, Same M' M2 → J M2 (i + 1) σ3 → LS S Pt q M2 H2 (cost (i + 1)) → nx σ3 H2) → xs[i]? = some x → Same M M' → J M' i σ' → LS S Pt q M' H' (cost i) → U x M' σ' σ2 → tb { D with nx := nx, ct := nx, bk := D.nx } σ2 H')
    (hd : ∀ σ' M' H', Same M M' → J M' xs.length σ' → LS S Pt q M' H' (cost xs.length) → D.nx σ' H') : tFor wi g tb D σ H := l_for (tz := fun D => D.nx) (D := D) cost J L hsrc htg hJ h0 hs hd
section
variable {K : PySem.W.Frag} {E : Str → Addr} {σ : Sl} {M : Hp} {t1 t2 te : TE} {one other : V} {d e : PyData}
theorem gv_alone {x : Str} {i : Nat} (h1 : Gv t1 σ M (ErR E x)) (h2 : Gv t2 σ M (It' ((i : Nat) : Int))) (hi : ers[i]? = some x) : Gv (tCall (sp__law_is_alone K E) [] E0 (tCons t1 (tCons t2 tNil))) σ M (Bl true) :=
  gv_call2 (R1 := ErR E) (R2 := It') (pre := fun x i => ∃ n, i = ((n : Nat) : Int) ∧ ers[n]? = some x) (R := fun _ _ => Bl true) h1 h2 ⟨i, rfl, hi⟩
theorem gv_same1 (h1 : Gv t1 σ M (DzR K d)) (h2 : Gv t2 σ M (DzR K d)) (g : GoodZ d) : Gv (tCall (sp__law_same K) [] E0 (tCons t1 (tCons t2 tNil))) σ M (Bl true) :=
  gv_is (gv_call2 (R1 := DzR K) (R2 := DzR K) (pre := fun d e => GoodZ d ∧ GoodZ e) (R := fun d e => Bl (decide (d.shown = e.shown))) h1 h2 ⟨g, g⟩) fun M v h => by rw [show v = _ from h, decide_eq_true rfl]
theorem gv_pairZ (h1 : Gv t1 σ M (DzR K d)) (h2 : ∀ M1, Same M M1 → Gv t2 σ M1 (DzR K e)) : Gv (tLst (tCons t1 (tCons t2 tNil))) σ M (DzR K (.list [d, e])) :=
  gv_is (gv_lstG (R := DzR K) (ga_rl (x := d) h1 fun M1 s => ga_rl (x := e) (h2 M1 s) fun _ _ => ga_rl0) (by show 2 ≤ 1000; decide)) fun M v h => li_dz h
theorem gv_two {R : Rl Unit} [Mon R] (h1 : Gv t1 σ M (R ())) (h2 : ∀ M1, Same M M1 → Gv t2 σ M1 (R ())) : Gv (tTup (tCons t1 (tCons t2 tNil))) σ M (SqR K R [(), ()]) := fun H mh Q q =>
  h1 H mh _ fun v M1 H1 g1 p1 => h2 M1 g1.mm H1 g1.mh _ fun w M2 H2 g2 p2 => ⟨by show 2 ≤ sizeLine; decide, fun p np => q _ _ _ ((g1.trans g2).trans (.new g2.mh np)) (.inr ⟨p, _, rfl, .inl (.inl upd_same), .cons (Mon.mono (g2.mm.trans (same_new (g2.mh.free np))) p1) (.cons (Mon.mono (same_new (g2.mh.free np)) p2) .nil)⟩)⟩
theorem gv_bds {ks : List Str} (hk : ks.length = 2) {i j : Nat} (hi : σ[i]? = some (some one)) (hj : σ[j]? = some (some other)) : Gv (tTup (tCons (tExP (E "Blind") 2 (spSup2 K (E "Blind") "setting" "literal") (tCons (tVar i) (tCons (tVar j) tNil))) (tCons (tExK (E "Blind") ks.length (spSup2 K (E "Blind") "setting" "literal") gv2 (tCons (tVar j) (tCons (tVar i) tNil))) tNil))) σ M (SqR K (Bd E one other) [(), ()]) := gv_two (gv_bdP (K := K) hi hj) fun M1 _ => gv_bdK (K := K) hk hi hj
theorem gv_bares : Gv (tCall (sp__law_bares K E) [] E0 tNil) σ M (LiR (PrR K It' (ErR E)) bareRows) := fun H mh Q q => ⟨M, rfl, mh, q⟩
end
theorem pe_f0 {X : Cx} {k : Nat} {x : Str} {sp : Sp} {p pos : Pos} (c : Cal X.prog X.w X.K X.mg X.base k x [] sp) (hr : Room k X.A) (hg : Gl X x := by rfl) (hdb : (x == ("__debug__" : Str)) = false := by decide) : PE X (.Call (.Name x p) [] [] pos) (tCall sp [] E0 tNil) :=
  let ⟨_, _, G, m, kp, b⟩ := c
  pe_call0 G hr hg m kp b .nil pass0 hdb
section
variable {P : Program} {w : World} {K : PySem.W.Frag} {mg : Str → Option Value} {base : Heap}
abbrev s_law : Stmt := topS 32
theorem sc_law : FnScope ["_law_script", "_law_stream", "_law_turn", "_law_e", "_law_one", "_law_other", "_law_place", "_law_made", "_law_field"] ["_law_script"] (defScope s_law) := ⟨rfl, rfl, rfl, by decide +kernel, rfl, by decide +kernel, by decide +kernel⟩
def sp_law (K : PySem.W.Frag) (Pt P2 : Addr) : Sp := fun vs H Q _ => ∃ (ns : List Int) (M : Hp) (v : V), vs = [v] ∧ Same M H ∧ SqR K It' ns M v ∧ M Pt = none ∧ M P2 = none ∧ (∀ a ps, M a ≠ some (.tbl ps)) ∧ H Pt = some (.tbl #[]) ∧ H P2 = some (.tbl #[]) ∧ ∀ H', Q (.bl true) H'
theorem ok_law {E : Str → Addr} {f cd Pt P2 : Addr} {fd : FuncData} (F : FunC K "law" "law" s_law fd f cd) (T : Gc mg) (ER : Ers K mg E) (R2 : ErM P w K mg base 1 "Blind" (E "Blind") ["self", "setting", "literal"] ["literal", "setting"] (spSup2 K (E "Blind") "setting" "literal") gv2) (N0 : ∀ x, x ∈ (["OpenError", "UnlikeSigns", "Dead", "NothingToUndo", "NotDead"] : List Str) → ErN K mg x (E x))
    (no1 : ∀ x f, (x, f) ∈ rows.map (·.2) → PySem.W.findIn K (.ref (E x)) f = some none) (noB : PySem.W.findIn K (.ref (E "Blind")) "setting" = some none ∧ PySem.W.findIn K (.ref (E "Blind")) "literal" = some none)
    (c__law_thing : Cal P w K mg base 3 "_law_thing" ["_law_stream"] (sp__law_thing K)) (c__law_ones : CalG P w K mg base 3 "_law_ones" ["_law_one"] (sp__law_ones E P2)) (c__law_is_alone : Cal P w K mg base 2 "_law_is_alone" ["_law_e", "_law_place"] (sp__law_is_alone K E)) (c__law_same : CalG P w K mg base 1 "_law_same" ["_law_found", "_law_due"] (sp__law_same K))
    (c__law_bares : Cal P w K mg base 1 "_law_bares" [] (sp__law_bares K E)) (c__law_classes : Cal P w K mg base 1 "_law_classes" ["_law_e"] (sp__law_classes K E)) : FnG P w K mg base CX0 4 f fd ["_law_script"] (sp_law K Pt P2) := by
  refine fun_okGC F sc_law (fun vs H Q E h => ?_) (fun A outer s H vs Q E' hgu hr h => ?_)
  · obtain ⟨ns, M, v, rfl, _⟩ := h
    rfl
  · obtain ⟨cells, M, v, rfl, mh, r1, mp, mp2, nt, hPt, hPt2, q⟩ := h
    have hu := hr.units
    have hgu : (A.deeper (envOfC "law" (defScope s_law) s.heap.objs.size f (.ref cd))).guards = some [] := hgu
    refine ⟨_, (pss_cons (ps_set (i := 1) sc_law.nd rfl (by first | exact .inl rfl | exact .inr rfl) (pe_lst (pa_cons (pe_callTy call_lstA (by rfl) T.list boot_list (pa_cons (pv 0) pa_nil)) (pa_cons pe_int (pa_cons pe_int (pa_cons pe_int pa_nil))))))
      (pss_cons (ps_for PassesOwn.never (by rfl) (pi_range1 (by rfl) T.range (pa_cons pe_int pa_nil)) (pg_name (i := 2) sc_law.nd rfl (by first | exact .inl rfl | exact .inr rfl)) (pss_cons (ps_asg (pe_tup (pa_cons (pe_f c__law_thing (hr.mono (by decide)) (pa_cons (pv 1) pa_nil)) (pa_cons (pe_f c__law_thing (hr.mono (by decide)) (pa_cons (pv 1) pa_nil)) pa_nil))) (pg_tup (by rfl) (pgs_cons (pg_name (i := 4) sc_law.nd rfl (by first | exact .inl rfl | exact .inr rfl)) (pgs_cons (pg_name (i := 5) sc_law.nd rfl (by first | exact .inl rfl | exact .inr rfl)) pgs_nil))))
      (pss_cons (ps_for PassesOwn.never (by rfl) (pi_sq (pe_fG c__law_ones hgu (hr.mono (by decide)) (pa_cons (pv 4) pa_nil))) (pg_tup (by rfl) (pgs_cons (pg_name (i := 6) sc_law.nd rfl (by first | exact .inl rfl | exact .inr rfl)) (pgs_cons (pg_name (i := 7) sc_law.nd rfl (by first | exact .inl rfl | exact .inr rfl)) (pgs_cons (pg_name (i := 8) sc_law.nd rfl (by first | exact .inl rfl | exact .inr rfl)) pgs_nil)))) (pss_one (ps_if (pt_not (pt_val (pe_callB (cr_all rfl) (by rfl) T.all boot_all (pa_cons (pe_lc (own := [("_law_e", 3)]) (g := (gName 3)) (tt := tYes) (te := (tAndV (tCall (sp__law_is_alone K E) [] E0 (tCons (tVar 3) (tCons (tVar 6) tNil))) (tCall (sp__law_same K) [] E0 (tCons (tLamC K "_law_e" 8 (tVar 3)) (tCons (tVar 4) tNil))))) (by rfl) sc_law.nd (pi_sq (pv 7)) (blkOk_by (by rfl)) (fun _ _ _ _ _ => (pg_name (i := 3) sc_law.nd rfl (by first | exact .inl rfl | exact .inr rfl))) (fun _ _ _ _ _ => pts_nil) (fun _ _ _ _ _ => (pe_and (pe_f c__law_is_alone (hr.mono (by decide)) (pa_cons (pv 3) (pa_cons (pv 6) pa_nil))) (pe_one (pe_fG c__law_same hgu (hr.mono (by decide)) (pa_cons (pe_lamC (k := 0) (y := "_law_e") (i := 8) (hr.mono (by decide)) rfl (by first | exact .inl rfl | exact .inr (.inl rfl) | exact .inr (.inr rfl)) (pv 3)) (pa_cons (pv 4) pa_nil))))))) pa_nil)))) (pss_one (ps_ret pe_bl)) pss_nil)))
      (pss_cons (ps_for PassesOwn.never (by rfl) (pi_sq (pe_f0 c__law_bares (hr.mono (by decide)))) (pg_tup (by rfl) (pgs_cons (pg_name (i := 6) sc_law.nd rfl (by first | exact .inl rfl | exact .inr rfl)) (pgs_cons (pg_name (i := 3) sc_law.nd rfl (by first | exact .inl rfl | exact .inr rfl)) pgs_nil))) (pss_one (ps_if (pt_not (pt_val (pe_f c__law_is_alone (hr.mono (by decide)) (pa_cons (pv 3) (pa_cons (pv 6) pa_nil))))) (pss_one (ps_ret pe_bl)) pss_nil)))
      (pss_one (ps_for PassesOwn.never (by rfl) (pi_sq (pe_tup (pa_cons (pe_exP R2 (hr.mono (by decide)) rfl (by decide) (pa_cons (pv 4) (pa_cons (pv 5) pa_nil))) (pa_cons (pe_exK R2 (hr.mono (by decide)) (pk_cons (pv 5) (pk_cons (pv 4) pk_nil))) pa_nil)))) (pg_name (i := 3) sc_law.nd rfl (by first | exact .inl rfl | exact .inr rfl)) (pss_one (ps_if (PW.pt (pw_or (pt_not (pt_val (pe_f c__law_is_alone (hr.mono (by decide)) (pa_cons (pv 3) (pa_cons pe_int pa_nil))))) (pw_or1 (pt_not (pt_val (pe_fG c__law_same hgu (hr.mono (by decide)) (pa_cons (pe_lst (pa_cons (pe_xv (pv 3)) (pa_cons (pe_xv (pv 3)) pa_nil))) (pa_cons (pe_lst (pa_cons (pv 4) (pa_cons (pv 5) pa_nil))) pa_nil)))))))) (pss_one (ps_ret pe_bl)) pss_nil))))))))
      (pss_one (ps_ret (pe_and (pe_callB call_isV (by rfl) T.isinstance boot_isinstance (pa_cons (pe_ex0 (N0 "OpenError" (by decide +kernel))) (pa_cons (pe_bltn (v := .ty "ValueError") (u := .type "ValueError") (by rfl) T.ValueError (by decide +kernel) rfl) pa_nil))) (pe_one (pe_not (pe_callB (cr_any rfl) (by rfl) T.any boot_any (pa_cons (pe_f c__law_classes (hr.mono (by decide)) (pa_cons (pe_ex0 (N0 "OpenError" (by decide +kernel))) pa_nil)) pa_nil))))))))), ?_⟩
    -- the stream
    refine q_asgS (lst_in (a_L mh (gl_lstOf (K := K) (R1 := It') (gv_var rfl r1)) fun b vs M1 H1 g1 hb0 hbm hbw hpd => ⟨by show 4 ≤ sizeLine; decide, fun a na => ?_⟩))
    obtain ⟨S, rfl, rfl⟩ : ∃ S : Strm, S.a = a ∧ S.b = b := ⟨⟨a, b⟩, rfl, rfl⟩
    have hne : S.a ≠ S.b := fun e => by rw [e] at na; rw [hbw] at na; cases na
    have evs := pd_itv hpd
    have a0 : S.At 10000000 (upd H1 S.a (.lst [.ref S.b, .int 0, .int 0, .int 0])) := ⟨hne, cells, 0, 0, 0, upd_same, by rw [upd_ne (Ne.symm hne), hbw, evs], by decide, by decide, by decide, by decide, by decide⟩
    have m0 : Same M (S.cut (upd H1 S.a (.lst [.ref S.b, .int 0, .int 0, .int 0]))) := fun x o e => by
      have h1 := g1.hh _ _ (mh x o e)
      have n1 : x ≠ S.a := ne_of_none h1 na
      have n2 : x ≠ S.b := ne_of_none (mh x o e) hb0
      rw [cut_on (fun z => z.elim n1 n2), upd_ne n1]
      exact h1
    have tb0 : TabS (upd H1 S.a (.lst [.ref S.b, .int 0, .int 0, .int 0])) P2 qOnes := TabS.nil (by
      have h1 := g1.hh _ _ hPt2
      rw [upd_ne (ne_of_none h1 na)]
      exact h1)
    have L0 : LS S P2 qOnes M (upd H1 S.a (.lst [.ref S.b, .int 0, .int 0, .int 0])) 10000000 := ⟨m0, a0, tb0, mp2, nt⟩
    clear a0 m0 tb0
    have L0 := L0.le (show (3 - 0) * 12 ≤ 10000000 by decide)
    -- three turns
    refine l_for (fun i => (3 - i) * 12) (fun M i σ => ∃ u2 u3 u4 u5 u6 u7 u8, σ = [some v, some (.ref S.a), u2, u3, u4, u5, u6, u7, u8]) L0 (gi_rng1 (n := 3) (gv_c rfl) (by decide)) tg_1 (fun _ _ _ _ _ h => h) ⟨_, _, _, _, _, _, _, rfl⟩ ?_ ?_
    · rintro i x σ' M2 H2 σ2 nx hnx hx s02 ⟨u2, u3, u4, u5, u6, u7, u8, rfl⟩ L2 ⟨v2, r2, rfl⟩
      have hi : i < 3 := by
        have := (List.getElem?_eq_some_iff.mp hx).1
        simpa using this
      have L2' := L2.le (show (3 - (i + 1)) * 12 + (6 + 6) ≤ (3 - i) * 12 by omega)
      refine z_asgTE (S := S) (c := 6 + 6) L2'.mh L2'.at_ (gs_pair2 (R := DzR K) (T := DzR K) (gs_thing (K := K) rfl) (gs_thing (K := K) rfl)) tg_2 ?_
      rintro ⟨d1, d2⟩ σ3 M3 H3 g3 a3 ⟨t1, t2⟩ ⟨one, other, r4, r5, rfl⟩
      have L5 := L2'.step g3 a3
      -- errors with one field
      refine q_forT ⟨one, rfl, one, [(P2, qOnes)], rfl, fun p hp => by rw [List.mem_singleton.mp hp]; exact L5.tb, List.mem_singleton.mpr rfl, fun t ht _ => by rw [List.mem_singleton.mp ht], fun w H4 eN t4 on => ?_⟩
      obtain ⟨L6, s6⟩ := My.LS.whole L5 eN t4
      have kn := ones_known L6.at_ on
      have r4' : Dz K (noTab (S.cut H4)) one d1 := dz_mono s6 r4
      have r5' : Dz K (noTab (S.cut H4)) other d2 := dz_mono s6 r5
      generalize noTab (S.cut H4) = M4 at L6 s6 kn r4' r5'
      refine l_for (fun _ => (3 - (i + 1)) * 12) (fun M i σ => ∃ u3 u6 u7 u8, σ = [some v, some (.ref S.a), some v2, u3, some one, some other, u6, u7, u8]) L6 (gi_sq (K := K) (R := RwM E one) (xs := rows) (gv_c kn.lst.sq)) tg_row (fun _ _ _ _ _ h => h) ⟨_, _, _, _, rfl⟩ ?_ ?_
      · rintro j r σ4 M5 H5 σ5 nx1 hnx1 hrow s45 ⟨u3', u6', u7', u8', rfl⟩ L7 ⟨vl, vf, rl, rf, rfl⟩
        have hmem := List.mem_of_getElem? hrow
        have h1 := rows_at r hmem
        have hx := List.mem_cons_of_mem ("OpenError" : Str) (place_one _ _ h1).1
        refine s_ifN L7 (gt_is (gt_not (gt_B (b := true) (gv_all (K := K) (bs := [r.2, r.2].map fun _ => true) (gl_m1 (R := Er1 E one) (S := Bl) (j := 3) (xs := [r.2, r.2]) (gi_sq (K := K) (gv_var rfl rl.lst.sq)) (by show 2 ≤ sizeLine; decide) (fun _ => true) fun x hxm M6 v6 s6 r6 => ?_)))) rfl) fun H6 L8 => hnx1 M5 H6 _ (Same.refl _) ⟨_, _, _, _, rfl⟩ L8
        have ex : x = r.2 := by
          rcases List.mem_cons.mp hxm with e | e
          · exact e
          · exact List.mem_singleton.mp e
        subst ex
        have rd : Dz K M6 one d1 := dz_mono (s45.trans s6) r4'
        exact gv_andV (b := true) (c := true) (gv_alone (K := K) (gv_is (gv_var rfl r6) fun M v h => er1_er h) (gv_var rfl rfl) h1) fun _ => gv_same1 (gv_lamC (x := r.2) rfl (Mon.mono s6 rf) (ER.cc _ hx) (no1 _ _ (List.mem_map_of_mem hmem)) rd (gv_var rfl r6)) (gv_var rfl rd) t1.1
      · rintro σ4 M5 H5 s45 ⟨u3', u6', u7', u8', rfl⟩ L7
        -- errors without fields
        refine l_for (fun _ => (3 - (i + 1)) * 12) (fun M i σ => ∃ u3 u6 u7 u8, σ = [some v, some (.ref S.a), some v2, u3, some one, some other, u6, u7, u8]) L7 (gi_sq (K := K) (R := PrR K It' (ErR E)) (xs := bareRows) (gv_is gv_bares fun M v h => h.lst.sq)) tg_2 (fun _ _ _ _ _ h => h) ⟨_, _, _, _, rfl⟩ ?_ ?_
        · rintro j ⟨n, x⟩ σ5 M6 H6 σ6 nx1 hnx1 hrow s56 ⟨u3', u6', u7', u8', rfl⟩ L8 ⟨a1, a2, ra1, ra2, rfl⟩
          obtain ⟨m, em, hm⟩ := bare_at _ (List.mem_of_getElem? hrow)
          exact s_ifN L8 (gt_is (gt_not (gt_B (b := true) (gv_alone (K := K) (gv_var rfl ra2) (gv_var rfl (by rw [show a1 = _ from ra1, show n = _ from em])) hm))) rfl) fun H7 L9 => hnx1 M6 H7 _ (Same.refl _) ⟨_, _, _, _, rfl⟩ L9
        · rintro σ5 M6 H6 s56 ⟨u3', u6', u7', u8', rfl⟩ L8
          -- the error with two fields
          refine s_forL (fun _ => (3 - (i + 1)) * 12) (fun M i σ => ∃ u3 u6 u7 u8, σ = [some v, some (.ref S.a), some v2, u3, some one, some other, u6, u7, u8]) L8 (gi_sq (K := K) (R := Bd E one other) (xs := [(), ()]) (gv_bds (K := K) rfl rfl rfl)) tg_1 (fun _ _ _ _ _ h => h) ⟨_, _, _, _, rfl⟩ ?_ ?_
          · rintro j x σ6 M7 H7 σ7 nx1 hnx1 hrow s67 ⟨u3', u6', u7', u8', rfl⟩ L9 ⟨w3, rb, rfl⟩
            have rd1 : Dz K M7 one d1 := dz_mono ((s45.trans s56).trans s67) r4'
            have rd2 : Dz K M7 other d2 := dz_mono ((s45.trans s56).trans s67) r5'
            have cB := ER.cc "Blind" (by decide +kernel)
            refine s_ifN L9 (gt_is (gt_or (b := false) (c := false) (gt_is (gt_not (gt_B (b := true) (gv_alone (K := K) (x := "Blind") (i := 9) (gv_is (gv_var rfl rb) fun M v h => bd_er h) (gv_c rfl) (by decide +kernel)))) rfl) fun _ => gt_is (gt_not (gt_B (b := true) (gv_same1 (d := .list [d1, d2]) (gv_pairZ (gv_xvB (w := one) (gv_var rfl rb) cB noB.1 (by rfl) rd1) fun M8 s8 => gv_xvB (w := other) (gv_var rfl (Mon.mono s8 rb)) cB noB.2 (by rfl) (dz_mono s8 rd2)) (gv_pairZ (gv_var rfl rd1) fun M8 s8 => gv_var rfl (dz_mono s8 rd2)) (gz_pair t1 t2)))) rfl) rfl) fun H8 L10 => hnx1 M7 H8 _ (Same.refl _) ⟨_, _, _, _, rfl⟩ L10
          · rintro σ6 M7 H7 s67 ⟨u3', u6', u7', u8', rfl⟩ L9
            exact hnx M7 H7 _ ((((g3.mm.trans s6).trans s45).trans s56).trans s67) ⟨_, _, _, _, _, _, _, rfl⟩ L9
    · rintro σ' M2 H2 s02 ⟨u2, u3, u4, u5, u6, u7, u8, rfl⟩ L2
      refine s_ret (L2.mh.trans cut_same) (gv_is (gv_andV (gv_isV (K := K) (x := "OpenError") gv_ex0 (ER.cc _ (by decide +kernel)) (.ty _) (ER.kv _ (by decide +kernel))) fun _ => gv_notV (gv_any (K := K) (bs := ers.map fun y => decide (("OpenError" : Str) = y)) (gl_is (gl_call1 (R1 := ErR E) (pre := fun x => x ∈ ers0) (R := fun x _ ws => ws = bits x ers) (gv_ex0 (x := "OpenError")) (by decide +kernel)) fun M ws e => by rw [e]; exact bits_pd "OpenError" ers))) fun M v h => h) fun u M3 H3 g3 r => ?_
      have : u = .bl true := by rw [show u = _ from r]; decide +kernel
      rw [this]
      exact q H3
end
end My

set_option Elab.async false
set_option linter.all false
set_option maxRecDepth 100000
set_option maxHeartbeats 8000000
namespace My
open PySem PySem.Spec PyProof.Rows L2 L3 LamX
/-! what the written part must say of the classes, as one test -/
def ercB (K : PySem.W.Frag) (C : Addr) : Bool := (PySem.W.clsIn K C).isSome && (xfB K C && (decide (PySem.W.findIn K (.ref C) "__class__" = some (some (.builtin "object.__class__"))) && (decide (PySem.W.specialIn K (.builtin "object.__class__") "__get__" = some (some (.builtin "getset_descriptor.__get__"))) && (decide (PySem.W.takesIn K (.builtin "object.__class__") = some true) && decide (PySem.W.mroIn K C (.type "object") = some true)))))
theorem ercB_ok {K : PySem.W.Frag} {C : Addr} (h : ercB K C = true) : ErC K C := by
  simp only [ercB, Bool.and_eq_true, decide_eq_true_eq] at h
  obtain ⟨h1, h2, h3, h4, h5, h6⟩ := h
  exact ⟨h1, xfB_ok h2, h3, h4, h5, h6⟩
def bares0 : List Str := ["OpenError", "UnlikeSigns", "Dead", "NothingToUndo", "NotDead"]
def ersB (K : PySem.W.Frag) : Bool := (ers0.all fun x => (He.Fa.glo x).ok K && ercB K (He.ga K x)) && ((ers0.all fun x => ers.all fun y => decide (PySem.W.kitOne K (.ref (He.ga K x)) (.ref (He.ga K y)) = some (decide (x = y)))) && ((ers0.all fun x => decide (PySem.W.kitOne K (.ref (He.ga K x)) (.ref (He.ga K "OpenError")) = some true) && decide (PySem.W.kitOne K (.ref (He.ga K x)) (.type "ValueError") = some true)) &&
  ((rows.all fun r => decide (PySem.W.findIn K (.ref (He.ga K r.2.1)) r.2.2 = some none)) && ((bares0.all fun x => PySem.W.keepIn K (.ref (He.ga K x)) && PySem.W.excIn K (He.ga K x) PySem.HandSPX.veTail "ValueError.__new__") && (decide (PySem.W.findIn K (.ref (He.ga K "Blind")) "setting" = some none) && decide (PySem.W.findIn K (.ref (He.ga K "Blind")) "literal" = some none))))))
theorem ers_mk {K : PySem.W.Frag} {h : Heap} {mg : Str → Option Value} (X : K.In h) (G : h.Ns mainGlobals mg) (e : ersB K = true) : Ers K mg (He.ga K) ∧ (∀ x f, (x, f) ∈ rows.map (·.2) → PySem.W.findIn K (.ref (He.ga K x)) f = some none) ∧ (PySem.W.findIn K (.ref (He.ga K "Blind")) "setting" = some none ∧ PySem.W.findIn K (.ref (He.ga K "Blind")) "literal" = some none) ∧ ∀ x, x ∈ (["OpenError", "UnlikeSigns", "Dead", "NothingToUndo", "NotDead"] : List Str) → ErN K mg x (He.ga K x) := by
  simp only [ersB, Bool.and_eq_true, decide_eq_true_eq, List.all_eq_true] at e
  obtain ⟨h1, h2, h3, h4, h5, h6, h7⟩ := e
  have gl : ∀ x ∈ ers0, mg x = some (.ref (He.ga K x)) := fun x hx => He.glo_ok X G (h1 x hx).1
  refine ⟨⟨gl, fun x hx => ercB_ok (h1 x hx).2, fun x hx y hy => h2 x hx y hy, fun x hx => (h3 x hx).1, fun x hx => (h3 x hx).2⟩, fun x f hm => ?_, ⟨h6, h7⟩, fun x hx => ⟨gl x ?_, (h5 x hx).1, (h5 x hx).2⟩⟩
  · obtain ⟨r, hr, e⟩ := List.mem_map.mp hm
    have := h4 r hr
    rw [e] at this
    exact this
  · have key : ∀ x ∈ (["OpenError", "UnlikeSigns", "Dead", "NothingToUndo", "NotDead"] : List Str), x ∈ ers0 := fun x hx => of_decide_eq_true (List.all_eq_true.mp (show (["OpenError", "UnlikeSigns", "Dead", "NothingToUndo", "NotDead"] : List Str).all (fun x => decide (x ∈ ers0)) = true by decide +kernel) x hx)
    exact key x hx
section
variable {P : Program} {w : World} {K : PySem.W.Frag} {mg : Str → Option Value} {base : Heap}
abbrev z_BadNames_init : Stmt := inClass (topS 2) 0
theorem erm_BadNames (gl : mg "BadNames" = some (.ref (He.ga K "BadNames"))) (F : SupF P K "BadNames" "BadNames.__init__" "index" z_BadNames_init) : ErM P w K mg base 1 "BadNames" (He.ga K "BadNames") ["self", "index"] ["index"] (spSup K (He.ga K "BadNames") "index") gv1 := by
  obtain ⟨fd, ⟨b, g, kb⟩, f⟩ := sup_okB (Bx := fun fd => L2.Binds K fd ["self", "index"] [] ∧ ∃ g, KBn K fd ["self", "index"] 1 ["index"] g gv1) (CX := CX0) (k := 0) (x := "index") (sc := defScope z_BadNames_init) (args := defArgs z_BadNames_init) (w := w) (mg := mg) (base := base) F.S F.no (by decide) (by decide) (NdefX.nscope_by (by decide +kernel)) (by decide +kernel) ⟨_, rfl, rfl⟩ (fun env => ⟨_, rfl⟩)
    (fun kV doc pm an cdv ct cl => ⟨.all fun us hl => match us, hl with | [_, _], _ => rfl, fun us ws => us ++ ws, ⟨fun s us ws X l1 l2 => match us, ws, l1, l2 with | [_], [_], _, _ => .of_eq rfl, fun r1 r2 => r1.append r2⟩⟩)
  exact ⟨F.S.T, gl, _, fd, g, F.ini, F.ty, f, b, kb⟩
abbrev z_TooMany_init : Stmt := inClass (topS 3) 0
theorem erm_TooMany (gl : mg "TooMany" = some (.ref (He.ga K "TooMany"))) (F : SupF P K "TooMany" "TooMany.__init__" "n" z_TooMany_init) : ErM P w K mg base 1 "TooMany" (He.ga K "TooMany") ["self", "n"] ["n"] (spSup K (He.ga K "TooMany") "n") gv1 := by
  obtain ⟨fd, ⟨b, g, kb⟩, f⟩ := sup_okB (Bx := fun fd => L2.Binds K fd ["self", "n"] [] ∧ ∃ g, KBn K fd ["self", "n"] 1 ["n"] g gv1) (CX := CX0) (k := 0) (x := "n") (sc := defScope z_TooMany_init) (args := defArgs z_TooMany_init) (w := w) (mg := mg) (base := base) F.S F.no (by decide) (by decide) (NdefX.nscope_by (by decide +kernel)) (by decide +kernel) ⟨_, rfl, rfl⟩ (fun env => ⟨_, rfl⟩)
    (fun kV doc pm an cdv ct cl => ⟨.all fun us hl => match us, hl with | [_, _], _ => rfl, fun us ws => us ++ ws, ⟨fun s us ws X l1 l2 => match us, ws, l1, l2 with | [_], [_], _, _ => .of_eq rfl, fun r1 r2 => r1.append r2⟩⟩)
  exact ⟨F.S.T, gl, _, fd, g, F.ini, F.ty, f, b, kb⟩
abbrev z_BadSetting_init : Stmt := inClass (topS 4) 0
theorem erm_BadSetting (gl : mg "BadSetting" = some (.ref (He.ga K "BadSetting"))) (F : SupF P K "BadSetting" "BadSetting.__init__" "index" z_BadSetting_init) : ErM P w K mg base 1 "BadSetting" (He.ga K "BadSetting") ["self", "index"] ["index"] (spSup K (He.ga K "BadSetting") "index") gv1 := by
  obtain ⟨fd, ⟨b, g, kb⟩, f⟩ := sup_okB (Bx := fun fd => L2.Binds K fd ["self", "index"] [] ∧ ∃ g, KBn K fd ["self", "index"] 1 ["index"] g gv1) (CX := CX0) (k := 0) (x := "index") (sc := defScope z_BadSetting_init) (args := defArgs z_BadSetting_init) (w := w) (mg := mg) (base := base) F.S F.no (by decide) (by decide) (NdefX.nscope_by (by decide +kernel)) (by decide +kernel) ⟨_, rfl, rfl⟩ (fun env => ⟨_, rfl⟩)
    (fun kV doc pm an cdv ct cl => ⟨.all fun us hl => match us, hl with | [_, _], _ => rfl, fun us ws => us ++ ws, ⟨fun s us ws X l1 l2 => match us, ws, l1, l2 with | [_], [_], _, _ => .of_eq rfl, fun r1 r2 => r1.append r2⟩⟩)
  exact ⟨F.S.T, gl, _, fd, g, F.ini, F.ty, f, b, kb⟩
abbrev z_NoSign_init : Stmt := inClass (topS 5) 0
theorem erm_NoSign (gl : mg "NoSign" = some (.ref (He.ga K "NoSign"))) (F : SupF P K "NoSign" "NoSign.__init__" "name" z_NoSign_init) : ErM P w K mg base 1 "NoSign" (He.ga K "NoSign") ["self", "name"] ["name"] (spSup K (He.ga K "NoSign") "name") gv1 := by
  obtain ⟨fd, ⟨b, g, kb⟩, f⟩ := sup_okB (Bx := fun fd => L2.Binds K fd ["self", "name"] [] ∧ ∃ g, KBn K fd ["self", "name"] 1 ["name"] g gv1) (CX := CX0) (k := 0) (x := "name") (sc := defScope z_NoSign_init) (args := defArgs z_NoSign_init) (w := w) (mg := mg) (base := base) F.S F.no (by decide) (by decide) (NdefX.nscope_by (by decide +kernel)) (by decide +kernel) ⟨_, rfl, rfl⟩ (fun env => ⟨_, rfl⟩)
    (fun kV doc pm an cdv ct cl => ⟨.all fun us hl => match us, hl with | [_, _], _ => rfl, fun us ws => us ++ ws, ⟨fun s us ws X l1 l2 => match us, ws, l1, l2 with | [_], [_], _, _ => .of_eq rfl, fun r1 r2 => r1.append r2⟩⟩)
  exact ⟨F.S.T, gl, _, fd, g, F.ini, F.ty, f, b, kb⟩
abbrev z_BadClause_init : Stmt := inClass (topS 6) 0
theorem erm_BadClause (gl : mg "BadClause" = some (.ref (He.ga K "BadClause"))) (F : SupF P K "BadClause" "BadClause.__init__" "index" z_BadClause_init) : ErM P w K mg base 1 "BadClause" (He.ga K "BadClause") ["self", "index"] ["index"] (spSup K (He.ga K "BadClause") "index") gv1 := by
  obtain ⟨fd, ⟨b, g, kb⟩, f⟩ := sup_okB (Bx := fun fd => L2.Binds K fd ["self", "index"] [] ∧ ∃ g, KBn K fd ["self", "index"] 1 ["index"] g gv1) (CX := CX0) (k := 0) (x := "index") (sc := defScope z_BadClause_init) (args := defArgs z_BadClause_init) (w := w) (mg := mg) (base := base) F.S F.no (by decide) (by decide) (NdefX.nscope_by (by decide +kernel)) (by decide +kernel) ⟨_, rfl, rfl⟩ (fun env => ⟨_, rfl⟩)
    (fun kV doc pm an cdv ct cl => ⟨.all fun us hl => match us, hl with | [_, _], _ => rfl, fun us ws => us ++ ws, ⟨fun s us ws X l1 l2 => match us, ws, l1, l2 with | [_], [_], _, _ => .of_eq rfl, fun r1 r2 => r1.append r2⟩⟩)
  exact ⟨F.S.T, gl, _, fd, g, F.ini, F.ty, f, b, kb⟩
abbrev z_NoClause_init : Stmt := inClass (topS 7) 0
theorem erm_NoClause (gl : mg "NoClause" = some (.ref (He.ga K "NoClause"))) (F : SupF P K "NoClause" "NoClause.__init__" "index" z_NoClause_init) : ErM P w K mg base 1 "NoClause" (He.ga K "NoClause") ["self", "index"] ["index"] (spSup K (He.ga K "NoClause") "index") gv1 := by
  obtain ⟨fd, ⟨b, g, kb⟩, f⟩ := sup_okB (Bx := fun fd => L2.Binds K fd ["self", "index"] [] ∧ ∃ g, KBn K fd ["self", "index"] 1 ["index"] g gv1) (CX := CX0) (k := 0) (x := "index") (sc := defScope z_NoClause_init) (args := defArgs z_NoClause_init) (w := w) (mg := mg) (base := base) F.S F.no (by decide) (by decide) (NdefX.nscope_by (by decide +kernel)) (by decide +kernel) ⟨_, rfl, rfl⟩ (fun env => ⟨_, rfl⟩)
    (fun kV doc pm an cdv ct cl => ⟨.all fun us hl => match us, hl with | [_, _], _ => rfl, fun us ws => us ++ ws, ⟨fun s us ws X l1 l2 => match us, ws, l1, l2 with | [_], [_], _, _ => .of_eq rfl, fun r1 r2 => r1.append r2⟩⟩)
  exact ⟨F.S.T, gl, _, fd, g, F.ini, F.ty, f, b, kb⟩
abbrev z_Clash_init : Stmt := inClass (topS 8) 0
theorem erm_Clash (gl : mg "Clash" = some (.ref (He.ga K "Clash"))) (F : SupF P K "Clash" "Clash.__init__" "name" z_Clash_init) : ErM P w K mg base 1 "Clash" (He.ga K "Clash") ["self", "name"] ["name"] (spSup K (He.ga K "Clash") "name") gv1 := by
  obtain ⟨fd, ⟨b, g, kb⟩, f⟩ := sup_okB (Bx := fun fd => L2.Binds K fd ["self", "name"] [] ∧ ∃ g, KBn K fd ["self", "name"] 1 ["name"] g gv1) (CX := CX0) (k := 0) (x := "name") (sc := defScope z_Clash_init) (args := defArgs z_Clash_init) (w := w) (mg := mg) (base := base) F.S F.no (by decide) (by decide) (NdefX.nscope_by (by decide +kernel)) (by decide +kernel) ⟨_, rfl, rfl⟩ (fun env => ⟨_, rfl⟩)
    (fun kV doc pm an cdv ct cl => ⟨.all fun us hl => match us, hl with | [_, _], _ => rfl, fun us ws => us ++ ws, ⟨fun s us ws X l1 l2 => match us, ws, l1, l2 with | [_], [_], _, _ => .of_eq rfl, fun r1 r2 => r1.append r2⟩⟩)
  exact ⟨F.S.T, gl, _, fd, g, F.ini, F.ty, f, b, kb⟩
abbrev z_BadCount_init : Stmt := inClass (topS 9) 0
theorem erm_BadCount (gl : mg "BadCount" = some (.ref (He.ga K "BadCount"))) (F : SupF P K "BadCount" "BadCount.__init__" "n" z_BadCount_init) : ErM P w K mg base 1 "BadCount" (He.ga K "BadCount") ["self", "n"] ["n"] (spSup K (He.ga K "BadCount") "n") gv1 := by
  obtain ⟨fd, ⟨b, g, kb⟩, f⟩ := sup_okB (Bx := fun fd => L2.Binds K fd ["self", "n"] [] ∧ ∃ g, KBn K fd ["self", "n"] 1 ["n"] g gv1) (CX := CX0) (k := 0) (x := "n") (sc := defScope z_BadCount_init) (args := defArgs z_BadCount_init) (w := w) (mg := mg) (base := base) F.S F.no (by decide) (by decide) (NdefX.nscope_by (by decide +kernel)) (by decide +kernel) ⟨_, rfl, rfl⟩ (fun env => ⟨_, rfl⟩)
    (fun kV doc pm an cdv ct cl => ⟨.all fun us hl => match us, hl with | [_, _], _ => rfl, fun us ws => us ++ ws, ⟨fun s us ws X l1 l2 => match us, ws, l1, l2 with | [_], [_], _, _ => .of_eq rfl, fun r1 r2 => r1.append r2⟩⟩)
  exact ⟨F.S.T, gl, _, fd, g, F.ini, F.ty, f, b, kb⟩
abbrev z_BadLevel_init : Stmt := inClass (topS 10) 0
theorem erm_BadLevel (gl : mg "BadLevel" = some (.ref (He.ga K "BadLevel"))) (F : SupF P K "BadLevel" "BadLevel.__init__" "level" z_BadLevel_init) : ErM P w K mg base 1 "BadLevel" (He.ga K "BadLevel") ["self", "level"] ["level"] (spSup K (He.ga K "BadLevel") "level") gv1 := by
  obtain ⟨fd, ⟨b, g, kb⟩, f⟩ := sup_okB (Bx := fun fd => L2.Binds K fd ["self", "level"] [] ∧ ∃ g, KBn K fd ["self", "level"] 1 ["level"] g gv1) (CX := CX0) (k := 0) (x := "level") (sc := defScope z_BadLevel_init) (args := defArgs z_BadLevel_init) (w := w) (mg := mg) (base := base) F.S F.no (by decide) (by decide) (NdefX.nscope_by (by decide +kernel)) (by decide +kernel) ⟨_, rfl, rfl⟩ (fun env => ⟨_, rfl⟩)
    (fun kV doc pm an cdv ct cl => ⟨.all fun us hl => match us, hl with | [_, _], _ => rfl, fun us ws => us ++ ws, ⟨fun s us ws X l1 l2 => match us, ws, l1, l2 with | [_], [_], _, _ => .of_eq rfl, fun r1 r2 => r1.append r2⟩⟩)
  exact ⟨F.S.T, gl, _, fd, g, F.ini, F.ty, f, b, kb⟩
abbrev z_Blind_init : Stmt := inClass (topS 11) 0
def rev2 : List Value → List Value → List Value := fun us ws => match ws with
  | [l, s] => us ++ [s, l]
  | _ => us ++ ws
theorem rev2_rel {vs : List V} {us : List Value} {zs : List V} {ws : List Value} (r1 : Vals vs us) (r2 : Vals zs ws) : Vals (gv2 vs zs) (rev2 us ws) := by
  match zs, ws, r2 with
  | [], _, .nil => exact r1.append .nil
  | [_], _, .cons a .nil => exact r1.append (.cons a .nil)
  | [_, _], _, .cons a (.cons b .nil) => exact r1.append (.cons b (.cons a .nil))
  | _ :: _ :: _ :: _, _, .cons a (.cons b (.cons c d)) => exact r1.append (.cons a (.cons b (.cons c d)))
theorem erm_Blind (gl : mg "Blind" = some (.ref (He.ga K "Blind"))) (F : SupF P K "Blind" "Blind.__init__" "setting" z_Blind_init) (no2 : PySem.W.findIn K (.ref (He.ga K "Blind")) "literal" = some none) : ErM P w K mg base 1 "Blind" (He.ga K "Blind") ["self", "setting", "literal"] ["literal", "setting"] (spSup2 K (He.ga K "Blind") "setting" "literal") gv2 := by
  obtain ⟨fd, ⟨b, kb⟩, f⟩ := sup_ok2B (Bx := fun fd => L2.Binds K fd ["self", "setting", "literal"] [] ∧ KBn K fd ["self", "setting", "literal"] 1 ["literal", "setting"] rev2 gv2) (CX := CX0) (k := 0) (x := "setting") (y := "literal") (sc := defScope z_Blind_init) (args := defArgs z_Blind_init) (w := w) (mg := mg) (base := base) F.S F.no no2 (by decide) (by decide) (by decide) (by decide) (NdefX.nscope_by (by decide +kernel)) (by decide +kernel) ⟨_, rfl, rfl⟩ (fun env => ⟨_, rfl⟩)
    (fun kV doc pm an cdv ct cl => ⟨.all fun us hl => match us, hl with | [_, _, _], _ => rfl, ⟨fun s us ws X l1 l2 => match us, ws, l1, l2 with | [_], [_, _], _, _ => .of_eq rfl, rev2_rel⟩⟩)
  exact ⟨F.S.T, gl, _, fd, rev2, F.ini, F.ty, f, b, kb⟩
abbrev z_NoHelper_init : Stmt := inClass (topS 13) 0
theorem erm_NoHelper (gl : mg "NoHelper" = some (.ref (He.ga K "NoHelper"))) (F : SupF P K "NoHelper" "NoHelper.__init__" "name" z_NoHelper_init) : ErM P w K mg base 1 "NoHelper" (He.ga K "NoHelper") ["self", "name"] ["name"] (spSup K (He.ga K "NoHelper") "name") gv1 := by
  obtain ⟨fd, ⟨b, g, kb⟩, f⟩ := sup_okB (Bx := fun fd => L2.Binds K fd ["self", "name"] [] ∧ ∃ g, KBn K fd ["self", "name"] 1 ["name"] g gv1) (CX := CX0) (k := 0) (x := "name") (sc := defScope z_NoHelper_init) (args := defArgs z_NoHelper_init) (w := w) (mg := mg) (base := base) F.S F.no (by decide) (by decide) (NdefX.nscope_by (by decide +kernel)) (by decide +kernel) ⟨_, rfl, rfl⟩ (fun env => ⟨_, rfl⟩)
    (fun kV doc pm an cdv ct cl => ⟨.all fun us hl => match us, hl with | [_, _], _ => rfl, fun us ws => us ++ ws, ⟨fun s us ws X l1 l2 => match us, ws, l1, l2 with | [_], [_], _, _ => .of_eq rfl, fun r1 r2 => r1.append r2⟩⟩)
  exact ⟨F.S.T, gl, _, fd, g, F.ini, F.ty, f, b, kb⟩
abbrev z_BadLiteral_init : Stmt := inClass (topS 14) 0
theorem erm_BadLiteral (gl : mg "BadLiteral" = some (.ref (He.ga K "BadLiteral"))) (F : SupF P K "BadLiteral" "BadLiteral.__init__" "literal" z_BadLiteral_init) : ErM P w K mg base 1 "BadLiteral" (He.ga K "BadLiteral") ["self", "literal"] ["literal"] (spSup K (He.ga K "BadLiteral") "literal") gv1 := by
  obtain ⟨fd, ⟨b, g, kb⟩, f⟩ := sup_okB (Bx := fun fd => L2.Binds K fd ["self", "literal"] [] ∧ ∃ g, KBn K fd ["self", "literal"] 1 ["literal"] g gv1) (CX := CX0) (k := 0) (x := "literal") (sc := defScope z_BadLiteral_init) (args := defArgs z_BadLiteral_init) (w := w) (mg := mg) (base := base) F.S F.no (by decide) (by decide) (NdefX.nscope_by (by decide +kernel)) (by decide +kernel) ⟨_, rfl, rfl⟩ (fun env => ⟨_, rfl⟩)
    (fun kV doc pm an cdv ct cl => ⟨.all fun us hl => match us, hl with | [_, _], _ => rfl, fun us ws => us ++ ws, ⟨fun s us ws X l1 l2 => match us, ws, l1, l2 with | [_], [_], _, _ => .of_eq rfl, fun r1 r2 => r1.append r2⟩⟩)
  exact ⟨F.S.T, gl, _, fd, g, F.ini, F.ty, f, b, kb⟩
abbrev z_BadCode_init : Stmt := inClass (topS 15) 0
theorem erm_BadCode (gl : mg "BadCode" = some (.ref (He.ga K "BadCode"))) (F : SupF P K "BadCode" "BadCode.__init__" "index" z_BadCode_init) : ErM P w K mg base 1 "BadCode" (He.ga K "BadCode") ["self", "index"] ["index"] (spSup K (He.ga K "BadCode") "index") gv1 := by
  obtain ⟨fd, ⟨b, g, kb⟩, f⟩ := sup_okB (Bx := fun fd => L2.Binds K fd ["self", "index"] [] ∧ ∃ g, KBn K fd ["self", "index"] 1 ["index"] g gv1) (CX := CX0) (k := 0) (x := "index") (sc := defScope z_BadCode_init) (args := defArgs z_BadCode_init) (w := w) (mg := mg) (base := base) F.S F.no (by decide) (by decide) (NdefX.nscope_by (by decide +kernel)) (by decide +kernel) ⟨_, rfl, rfl⟩ (fun env => ⟨_, rfl⟩)
    (fun kV doc pm an cdv ct cl => ⟨.all fun us hl => match us, hl with | [_, _], _ => rfl, fun us ws => us ++ ws, ⟨fun s us ws X l1 l2 => match us, ws, l1, l2 with | [_], [_], _, _ => .of_eq rfl, fun r1 r2 => r1.append r2⟩⟩)
  exact ⟨F.S.T, gl, _, fd, g, F.ini, F.ty, f, b, kb⟩
abbrev z_NotTree_init : Stmt := inClass (topS 16) 0
theorem erm_NotTree (gl : mg "NotTree" = some (.ref (He.ga K "NotTree"))) (F : SupF P K "NotTree" "NotTree.__init__" "index" z_NotTree_init) : ErM P w K mg base 1 "NotTree" (He.ga K "NotTree") ["self", "index"] ["index"] (spSup K (He.ga K "NotTree") "index") gv1 := by
  obtain ⟨fd, ⟨b, g, kb⟩, f⟩ := sup_okB (Bx := fun fd => L2.Binds K fd ["self", "index"] [] ∧ ∃ g, KBn K fd ["self", "index"] 1 ["index"] g gv1) (CX := CX0) (k := 0) (x := "index") (sc := defScope z_NotTree_init) (args := defArgs z_NotTree_init) (w := w) (mg := mg) (base := base) F.S F.no (by decide) (by decide) (NdefX.nscope_by (by decide +kernel)) (by decide +kernel) ⟨_, rfl, rfl⟩ (fun env => ⟨_, rfl⟩)
    (fun kV doc pm an cdv ct cl => ⟨.all fun us hl => match us, hl with | [_, _], _ => rfl, fun us ws => us ++ ws, ⟨fun s us ws X l1 l2 => match us, ws, l1, l2 with | [_], [_], _, _ => .of_eq rfl, fun r1 r2 => r1.append r2⟩⟩)
  exact ⟨F.S.T, gl, _, fd, g, F.ini, F.ty, f, b, kb⟩
abbrev z_IsSet_init : Stmt := inClass (topS 18) 0
theorem erm_IsSet (gl : mg "IsSet" = some (.ref (He.ga K "IsSet"))) (F : SupF P K "IsSet" "IsSet.__init__" "name" z_IsSet_init) : ErM P w K mg base 1 "IsSet" (He.ga K "IsSet") ["self", "name"] ["name"] (spSup K (He.ga K "IsSet") "name") gv1 := by
  obtain ⟨fd, ⟨b, g, kb⟩, f⟩ := sup_okB (Bx := fun fd => L2.Binds K fd ["self", "name"] [] ∧ ∃ g, KBn K fd ["self", "name"] 1 ["name"] g gv1) (CX := CX0) (k := 0) (x := "name") (sc := defScope z_IsSet_init) (args := defArgs z_IsSet_init) (w := w) (mg := mg) (base := base) F.S F.no (by decide) (by decide) (NdefX.nscope_by (by decide +kernel)) (by decide +kernel) ⟨_, rfl, rfl⟩ (fun env => ⟨_, rfl⟩)
    (fun kV doc pm an cdv ct cl => ⟨.all fun us hl => match us, hl with | [_, _], _ => rfl, fun us ws => us ++ ws, ⟨fun s us ws X l1 l2 => match us, ws, l1, l2 with | [_], [_], _, _ => .of_eq rfl, fun r1 r2 => r1.append r2⟩⟩)
  exact ⟨F.S.T, gl, _, fd, g, F.ini, F.ty, f, b, kb⟩
abbrev z_NotDrawn_init : Stmt := inClass (topS 20) 0
theorem erm_NotDrawn (gl : mg "NotDrawn" = some (.ref (He.ga K "NotDrawn"))) (F : SupF P K "NotDrawn" "NotDrawn.__init__" "literal" z_NotDrawn_init) : ErM P w K mg base 1 "NotDrawn" (He.ga K "NotDrawn") ["self", "literal"] ["literal"] (spSup K (He.ga K "NotDrawn") "literal") gv1 := by
  obtain ⟨fd, ⟨b, g, kb⟩, f⟩ := sup_okB (Bx := fun fd => L2.Binds K fd ["self", "literal"] [] ∧ ∃ g, KBn K fd ["self", "literal"] 1 ["literal"] g gv1) (CX := CX0) (k := 0) (x := "literal") (sc := defScope z_NotDrawn_init) (args := defArgs z_NotDrawn_init) (w := w) (mg := mg) (base := base) F.S F.no (by decide) (by decide) (NdefX.nscope_by (by decide +kernel)) (by decide +kernel) ⟨_, rfl, rfl⟩ (fun env => ⟨_, rfl⟩)
    (fun kV doc pm an cdv ct cl => ⟨.all fun us hl => match us, hl with | [_, _], _ => rfl, fun us ws => us ++ ws, ⟨fun s us ws X l1 l2 => match us, ws, l1, l2 with | [_], [_], _, _ => .of_eq rfl, fun r1 r2 => r1.append r2⟩⟩)
  exact ⟨F.S.T, gl, _, fd, g, F.ini, F.ty, f, b, kb⟩
abbrev z_BadLine_init : Stmt := inClass (topS 22) 0
theorem erm_BadLine (gl : mg "BadLine" = some (.ref (He.ga K "BadLine"))) (F : SupF P K "BadLine" "BadLine.__init__" "index" z_BadLine_init) : ErM P w K mg base 1 "BadLine" (He.ga K "BadLine") ["self", "index"] ["index"] (spSup K (He.ga K "BadLine") "index") gv1 := by
  obtain ⟨fd, ⟨b, g, kb⟩, f⟩ := sup_okB (Bx := fun fd => L2.Binds K fd ["self", "index"] [] ∧ ∃ g, KBn K fd ["self", "index"] 1 ["index"] g gv1) (CX := CX0) (k := 0) (x := "index") (sc := defScope z_BadLine_init) (args := defArgs z_BadLine_init) (w := w) (mg := mg) (base := base) F.S F.no (by decide) (by decide) (NdefX.nscope_by (by decide +kernel)) (by decide +kernel) ⟨_, rfl, rfl⟩ (fun env => ⟨_, rfl⟩)
    (fun kV doc pm an cdv ct cl => ⟨.all fun us hl => match us, hl with | [_, _], _ => rfl, fun us ws => us ++ ws, ⟨fun s us ws X l1 l2 => match us, ws, l1, l2 with | [_], [_], _, _ => .of_eq rfl, fun r1 r2 => r1.append r2⟩⟩)
  exact ⟨F.S.T, gl, _, fd, g, F.ini, F.ty, f, b, kb⟩
theorem r1_mk (ER : Ers K mg (He.ga K))
    (h_BadNames : SupF P K "BadNames" "BadNames.__init__" "index" z_BadNames_init)
    (h_TooMany : SupF P K "TooMany" "TooMany.__init__" "n" z_TooMany_init)
    (h_BadSetting : SupF P K "BadSetting" "BadSetting.__init__" "index" z_BadSetting_init)
    (h_NoSign : SupF P K "NoSign" "NoSign.__init__" "name" z_NoSign_init)
    (h_BadClause : SupF P K "BadClause" "BadClause.__init__" "index" z_BadClause_init)
    (h_NoClause : SupF P K "NoClause" "NoClause.__init__" "index" z_NoClause_init)
    (h_Clash : SupF P K "Clash" "Clash.__init__" "name" z_Clash_init)
    (h_BadCount : SupF P K "BadCount" "BadCount.__init__" "n" z_BadCount_init)
    (h_BadLevel : SupF P K "BadLevel" "BadLevel.__init__" "level" z_BadLevel_init)
    (h_NoHelper : SupF P K "NoHelper" "NoHelper.__init__" "name" z_NoHelper_init)
    (h_BadLiteral : SupF P K "BadLiteral" "BadLiteral.__init__" "literal" z_BadLiteral_init)
    (h_BadCode : SupF P K "BadCode" "BadCode.__init__" "index" z_BadCode_init)
    (h_NotTree : SupF P K "NotTree" "NotTree.__init__" "index" z_NotTree_init)
    (h_IsSet : SupF P K "IsSet" "IsSet.__init__" "name" z_IsSet_init)
    (h_NotDrawn : SupF P K "NotDrawn" "NotDrawn.__init__" "literal" z_NotDrawn_init)
    (h_BadLine : SupF P K "BadLine" "BadLine.__init__" "index" z_BadLine_init)
    : ∀ x f, (x, f) ∈ rows.map (·.2) → ErM P w K mg base 1 x (He.ga K x) ["self", f] [f] (spSup K (He.ga K x) f) gv1 := by
  intro x f h
  simp only [rows, List.map_cons, List.map_nil, List.mem_cons, Prod.mk.injEq, List.not_mem_nil, or_false] at h
  rcases h with ⟨rfl, rfl⟩ | ⟨rfl, rfl⟩ | ⟨rfl, rfl⟩ | ⟨rfl, rfl⟩ | ⟨rfl, rfl⟩ | ⟨rfl, rfl⟩ | ⟨rfl, rfl⟩ | ⟨rfl, rfl⟩ | ⟨rfl, rfl⟩ | ⟨rfl, rfl⟩ | ⟨rfl, rfl⟩ | ⟨rfl, rfl⟩ | ⟨rfl, rfl⟩ | ⟨rfl, rfl⟩ | ⟨rfl, rfl⟩ | ⟨rfl, rfl⟩
  · exact erm_BadNames (ER.gl _ (by decide +kernel)) h_BadNames
  · exact erm_TooMany (ER.gl _ (by decide +kernel)) h_TooMany
  · exact erm_BadSetting (ER.gl _ (by decide +kernel)) h_BadSetting
  · exact erm_NoSign (ER.gl _ (by decide +kernel)) h_NoSign
  · exact erm_BadClause (ER.gl _ (by decide +kernel)) h_BadClause
  · exact erm_NoClause (ER.gl _ (by decide +kernel)) h_NoClause
  · exact erm_Clash (ER.gl _ (by decide +kernel)) h_Clash
  · exact erm_BadCount (ER.gl _ (by decide +kernel)) h_BadCount
  · exact erm_BadLevel (ER.gl _ (by decide +kernel)) h_BadLevel
  · exact erm_NoHelper (ER.gl _ (by decide +kernel)) h_NoHelper
  · exact erm_BadLiteral (ER.gl _ (by decide +kernel)) h_BadLiteral
  · exact erm_BadCode (ER.gl _ (by decide +kernel)) h_BadCode
  · exact erm_NotTree (ER.gl _ (by decide +kernel)) h_NotTree
  · exact erm_IsSet (ER.gl _ (by decide +kernel)) h_IsSet
  · exact erm_NotDrawn (ER.gl _ (by decide +kernel)) h_NotDrawn
  · exact erm_BadLine (ER.gl _ (by decide +kernel)) h_BadLine
end
end My

set_option Elab.async false
set_option linter.all false
set_option maxRecDepth 100000
set_option maxHeartbeats 4000000
namespace My
open PySem PySem.Spec PyProof.Rows L2 L3
/-- a def of the text behind the top -/
structure At1 (K : PySem.W.Frag) (x : Str) (st : Stmt) (f : Addr) : Prop where
  ns : PySem.W.nsIn K mainGlobals x = some (some (.ref f))
  fn : ∃ fd, Fun K x x st f fd
/-- one that has a text for its default -/
structure AtD (K : PySem.W.Frag) (x : Str) (st : Stmt) (z : Str) (f : Addr) : Prop where
  ns : PySem.W.nsIn K mainGlobals x = some (some (.ref f))
  fn : ∃ fd, FunD K x x (defArgs st) (defBody st) (defScope st) [.str z] [] f fd
/-- a method of a class of the text -/
structure AtM (K : PySem.W.Frag) (C : Addr) (m q : Str) (st : Stmt) (f : Addr) : Prop where
  me : Meth K C m f
  fn : ∃ fd, Fun K m q st f fd
/-- a method with the default () -/
structure AtE (K : PySem.W.Frag) (C : Addr) (m q : Str) (st : Stmt) (e : Addr) (f : Addr) : Prop where
  me : Meth K C m f
  fn : ∃ fd, FunD K m q (defArgs st) (defBody st) (defScope st) [.ref e] [] f fd
/-- a class of the text -/
structure AtC (K : PySem.W.Frag) (x : Str) (C : Addr) : Prop where
  ns : PySem.W.nsIn K mainGlobals x = some (some (.ref C))
  cl : Cls K C
  mks : PySem.W.makesIn K C = true
  kc : PySem.W.keepIn K (.ref C) = true
theorem atc {K : PySem.W.Frag} {x : Str} {C : Addr} (a : PySem.W.nsIn K mainGlobals x = some (some (.ref C))) (pg : PySem.W.plainGet K C Str.empty = true) (hd : PySem.W.hasDictIn K C = true) (po : PySem.W.plainOver K C = true) (sa : PySem.W.findIn K (.ref C) "__setattr__" = some (some (.builtin "object.__setattr__"))) (mk : PySem.W.makesIn K C = true) (kc : PySem.W.keepIn K (.ref C) = true) : AtC K x C := ⟨a, ⟨pg, hd, po, sa⟩, mk, kc⟩
abbrev s_BadNames_init : Stmt := inClass (topS 2) 0
abbrev s_TooMany_init : Stmt := inClass (topS 3) 0
abbrev s_BadSetting_init : Stmt := inClass (topS 4) 0
abbrev s_NoSign_init : Stmt := inClass (topS 5) 0
abbrev s_BadClause_init : Stmt := inClass (topS 6) 0
abbrev s_NoClause_init : Stmt := inClass (topS 7) 0
abbrev s_Clash_init : Stmt := inClass (topS 8) 0
abbrev s_BadCount_init : Stmt := inClass (topS 9) 0
abbrev s_BadLevel_init : Stmt := inClass (topS 10) 0
abbrev s_NoHelper_init : Stmt := inClass (topS 13) 0
abbrev s_BadLiteral_init : Stmt := inClass (topS 14) 0
abbrev s_BadCode_init : Stmt := inClass (topS 15) 0
abbrev s_NotTree_init : Stmt := inClass (topS 16) 0
abbrev s_IsSet_init : Stmt := inClass (topS 18) 0
abbrev s_NotDrawn_init : Stmt := inClass (topS 20) 0
abbrev s_BadLine_init : Stmt := inClass (topS 22) 0
abbrev s_Blind_init : Stmt := inClass (topS 11) 0
theorem all_mk {l : PySem.W.OpenLaw} {w : World} {K : PySem.W.Frag} {h : Heap} {mg : Str → Option Value} {fa  f0 f1 f2 f3 f4 f5 f6 f7 f8  : Addr} (X : K.In h) (G : h.Ns mainGlobals mg) (hfa : mg "law" = some (.ref fa))
    (d0 : At1 K "_law_draw" s__law_draw f0)
    (d1 : At1 K "_law_pick" s__law_pick f1)
    (d2 : At1 K "_law_same" s__law_same f2)
    (d3 : At1 K "_law_thing" s__law_thing f3)
    (d4 : At1 K "_law_classes" s__law_classes f4)
    (d5 : At1 K "_law_is_alone" s__law_is_alone f5)
    (d6 : At1 K "_law_ones" s__law_ones f6)
    (d7 : At1 K "_law_bares" s__law_bares f7)
    (d8 : At1 K "law" s_law f8)
    (sm : L3.smB K = true)
    (eb : ersB K = true)
    (gx_BadNames : (He.Fa.glo "BadNames").ok K = true)
    (sx_BadNames : SupF l.prog K "BadNames" "BadNames.__init__" "index" s_BadNames_init)
    (gx_TooMany : (He.Fa.glo "TooMany").ok K = true)
    (sx_TooMany : SupF l.prog K "TooMany" "TooMany.__init__" "n" s_TooMany_init)
    (gx_BadSetting : (He.Fa.glo "BadSetting").ok K = true)
    (sx_BadSetting : SupF l.prog K "BadSetting" "BadSetting.__init__" "index" s_BadSetting_init)
    (gx_NoSign : (He.Fa.glo "NoSign").ok K = true)
    (sx_NoSign : SupF l.prog K "NoSign" "NoSign.__init__" "name" s_NoSign_init)
    (gx_BadClause : (He.Fa.glo "BadClause").ok K = true)
    (sx_BadClause : SupF l.prog K "BadClause" "BadClause.__init__" "index" s_BadClause_init)
    (gx_NoClause : (He.Fa.glo "NoClause").ok K = true)
    (sx_NoClause : SupF l.prog K "NoClause" "NoClause.__init__" "index" s_NoClause_init)
    (gx_Clash : (He.Fa.glo "Clash").ok K = true)
    (sx_Clash : SupF l.prog K "Clash" "Clash.__init__" "name" s_Clash_init)
    (gx_BadCount : (He.Fa.glo "BadCount").ok K = true)
    (sx_BadCount : SupF l.prog K "BadCount" "BadCount.__init__" "n" s_BadCount_init)
    (gx_BadLevel : (He.Fa.glo "BadLevel").ok K = true)
    (sx_BadLevel : SupF l.prog K "BadLevel" "BadLevel.__init__" "level" s_BadLevel_init)
    (gx_NoHelper : (He.Fa.glo "NoHelper").ok K = true)
    (sx_NoHelper : SupF l.prog K "NoHelper" "NoHelper.__init__" "name" s_NoHelper_init)
    (gx_BadLiteral : (He.Fa.glo "BadLiteral").ok K = true)
    (sx_BadLiteral : SupF l.prog K "BadLiteral" "BadLiteral.__init__" "literal" s_BadLiteral_init)
    (gx_BadCode : (He.Fa.glo "BadCode").ok K = true)
    (sx_BadCode : SupF l.prog K "BadCode" "BadCode.__init__" "index" s_BadCode_init)
    (gx_NotTree : (He.Fa.glo "NotTree").ok K = true)
    (sx_NotTree : SupF l.prog K "NotTree" "NotTree.__init__" "index" s_NotTree_init)
    (gx_IsSet : (He.Fa.glo "IsSet").ok K = true)
    (sx_IsSet : SupF l.prog K "IsSet" "IsSet.__init__" "name" s_IsSet_init)
    (gx_NotDrawn : (He.Fa.glo "NotDrawn").ok K = true)
    (sx_NotDrawn : SupF l.prog K "NotDrawn" "NotDrawn.__init__" "literal" s_NotDrawn_init)
    (gx_BadLine : (He.Fa.glo "BadLine").ok K = true)
    (sx_BadLine : SupF l.prog K "BadLine" "BadLine.__init__" "index" s_BadLine_init)
    (gx_Blind : (He.Fa.glo "Blind").ok K = true)
    (sx_Blind : SupF l.prog K "Blind" "Blind.__init__" "setting" s_Blind_init)
    (sn_Blind : PySem.W.findIn K (.ref (He.ga K "Blind")) "literal" = some none)
    (z_len : PySem.W.nsIn K mainGlobals "len" = some none)
    (z_list : PySem.W.nsIn K mainGlobals "list" = some none)
    (z_int : PySem.W.nsIn K mainGlobals "int" = some none)
    (z_all : PySem.W.nsIn K mainGlobals "all" = some none)
    (z_any : PySem.W.nsIn K mainGlobals "any" = some none)
    (z_isinstance : PySem.W.nsIn K mainGlobals "isinstance" = some none)
    (z_range : PySem.W.nsIn K mainGlobals "range" = some none)
    (z_repr : PySem.W.nsIn K mainGlobals "repr" = some none)
    (z_ValueError : PySem.W.nsIn K mainGlobals "ValueError" = some none)
    : ∃ (fd : FuncData) (c c1 : Addr), (∀ (s : Shared) (v : Value), BindsTo s fd ⟨[v], []⟩ [("_law_script", v)]) ∧ (∃ (oc : Value) (od : Option Addr) (kV doc pm : Value) (an : Option Addr) (ct : Value) (osl : Array (Option Value)), K.lookup f8 = some ⟨oc, od, .func (PySem.W.fnOf "law" "law" (defArgs s_law) (defBody s_law) (defScope s_law) .none kV doc pm an (.ref c) ct), osl⟩) ∧ (∃ (oc : Value) (od : Option Addr) (kV doc pm : Value) (an : Option Addr) (ct : Value) (osl : Array (Option Value)), K.lookup f6 = some ⟨oc, od, .func (PySem.W.fnOf "_law_ones" "_law_ones" (defArgs s__law_ones) (defBody s__law_ones) (defScope s__law_ones) .none kV doc pm an (.ref c1) ct), osl⟩) ∧ ∀ (base : Heap) (Pt P1 : Addr), K.In base → base.Ns mainGlobals mg → LamX.TabB base mg c Pt → LamX.TabB base mg c1 P1 → Pt ≠ P1 → FnG l.prog w K mg base CX0 4 fa fd ["_law_script"] (sp_law K Pt P1) := by
  have T0 : Gc mg := { len := PySem.W.mg_none_of X G z_len, list := PySem.W.mg_none_of X G z_list, int := PySem.W.mg_none_of X G z_int, all := PySem.W.mg_none_of X G z_all, any := PySem.W.mg_none_of X G z_any, isinstance := PySem.W.mg_none_of X G z_isinstance, range := PySem.W.mg_none_of X G z_range, repr := PySem.W.mg_none_of X G z_repr, ValueError := PySem.W.mg_none_of X G z_ValueError }
  have g_BadNames : mg "BadNames" = some (.ref (He.ga K "BadNames")) := He.glo_ok X G gx_BadNames
  have g_TooMany : mg "TooMany" = some (.ref (He.ga K "TooMany")) := He.glo_ok X G gx_TooMany
  have g_BadSetting : mg "BadSetting" = some (.ref (He.ga K "BadSetting")) := He.glo_ok X G gx_BadSetting
  have g_NoSign : mg "NoSign" = some (.ref (He.ga K "NoSign")) := He.glo_ok X G gx_NoSign
  have g_BadClause : mg "BadClause" = some (.ref (He.ga K "BadClause")) := He.glo_ok X G gx_BadClause
  have g_NoClause : mg "NoClause" = some (.ref (He.ga K "NoClause")) := He.glo_ok X G gx_NoClause
  have g_Clash : mg "Clash" = some (.ref (He.ga K "Clash")) := He.glo_ok X G gx_Clash
  have g_BadCount : mg "BadCount" = some (.ref (He.ga K "BadCount")) := He.glo_ok X G gx_BadCount
  have g_BadLevel : mg "BadLevel" = some (.ref (He.ga K "BadLevel")) := He.glo_ok X G gx_BadLevel
  have g_NoHelper : mg "NoHelper" = some (.ref (He.ga K "NoHelper")) := He.glo_ok X G gx_NoHelper
  have g_BadLiteral : mg "BadLiteral" = some (.ref (He.ga K "BadLiteral")) := He.glo_ok X G gx_BadLiteral
  have g_BadCode : mg "BadCode" = some (.ref (He.ga K "BadCode")) := He.glo_ok X G gx_BadCode
  have g_NotTree : mg "NotTree" = some (.ref (He.ga K "NotTree")) := He.glo_ok X G gx_NotTree
  have g_IsSet : mg "IsSet" = some (.ref (He.ga K "IsSet")) := He.glo_ok X G gx_IsSet
  have g_NotDrawn : mg "NotDrawn" = some (.ref (He.ga K "NotDrawn")) := He.glo_ok X G gx_NotDrawn
  have g_BadLine : mg "BadLine" = some (.ref (He.ga K "BadLine")) := He.glo_ok X G gx_BadLine
  have g_Blind : mg "Blind" = some (.ref (He.ga K "Blind")) := He.glo_ok X G gx_Blind
  obtain ⟨n0, fd0, F0⟩ := d0
  have b0 := F0.binds (ps := ["_law_stream", "_law_many"]) fun _ _ _ _ _ _ us hl => match us, hl with | [_, _], _ => rfl
  obtain ⟨n1, fd1, F1⟩ := d1
  have b1 := F1.binds (ps := ["_law_stream", "_law_things"]) fun _ _ _ _ _ _ us hl => match us, hl with | [_, _], _ => rfl
  obtain ⟨n2, fd2, F2⟩ := d2
  have b2 := F2.binds (ps := ["_law_found", "_law_due"]) fun _ _ _ _ _ _ us hl => match us, hl with | [_, _], _ => rfl
  obtain ⟨n3, fd3, F3⟩ := d3
  have b3 := F3.binds (ps := ["_law_stream"]) fun _ _ _ _ _ _ us hl => match us, hl with | [_], _ => rfl
  obtain ⟨n4, fd4, F4⟩ := d4
  have b4 := F4.binds (ps := ["_law_e"]) fun _ _ _ _ _ _ us hl => match us, hl with | [_], _ => rfl
  obtain ⟨n5, fd5, F5⟩ := d5
  have b5 := F5.binds (ps := ["_law_e", "_law_place"]) fun _ _ _ _ _ _ us hl => match us, hl with | [_, _], _ => rfl
  obtain ⟨n6, fd6, F6⟩ := d6
  have b6 := F6.binds (ps := ["_law_one"]) fun _ _ _ _ _ _ us hl => match us, hl with | [_], _ => rfl
  obtain ⟨n7, fd7, F7⟩ := d7
  have b7 := F7.binds (ps := []) fun _ _ _ _ _ _ us hl => match us, hl with | [], _ => rfl
  obtain ⟨n8, fd8, F8⟩ := d8
  have b8 := F8.binds (ps := ["_law_script"]) fun _ _ _ _ _ _ us hl => match us, hl with | [_], _ => rfl
  have e := hfa.symm.trans (PySem.W.mg_of X G n8)
  cases e
  obtain ⟨oc, od, kV, doc, pm, an, cdv, ct, osl, efd, lk, hcc⟩ := F8.ex
  obtain ⟨cd, rfl⟩ : ∃ cd, cdv = Value.ref cd := by cases cdv with | ref cd => exact ⟨cd, rfl⟩ | _ => cases hcc
  subst efd
  have FC : FunC K "law" "law" s_law _ fa cd := ⟨oc, od, kV, doc, pm, an, ct, osl, rfl, lk, hcc⟩
  obtain ⟨oc1, od1, kV1, doc1, pm1, an1, cdv1, ct1, osl1, efd1, lk1, hcc1⟩ := F6.ex
  obtain ⟨cd1, rfl⟩ : ∃ cd, cdv1 = Value.ref cd := by cases cdv1 with | ref cd => exact ⟨cd, rfl⟩ | _ => cases hcc1
  have FC1 : FunC K "_law_ones" "_law_ones" s__law_ones fd6 f6 cd1 := ⟨oc1, od1, kV1, doc1, pm1, an1, ct1, osl1, efd1, efd1 ▸ lk1, hcc1⟩
  refine ⟨PySem.W.fnOf "law" "law" (defArgs s_law) (defBody s_law) (defScope s_law) .none kV doc pm an (.ref cd) ct, cd, cd1, fun s v => ?_, ⟨oc, od, kV, doc, pm, an, ct, osl, lk⟩, ⟨oc1, od1, kV1, doc1, pm1, an1, ct1, osl1, efd1 ▸ lk1⟩, fun base Pt P1 _ _ TB TB1 hP1 => ?_⟩
  · exact .of_eq rfl
  have c__law_draw : Cal l.prog w K mg base 1 "_law_draw" ["_law_stream", "_law_many"] (sp__law_draw K) := ⟨f0, fd0, ok__law_draw F0 T0, PySem.W.mg_of X G n0, F0.kp, b0⟩
  have cG__law_pick : Cal l.prog w K mg base 2 "_law_pick" ["_law_stream", "_law_things"] (sp_pickG K (DzR K)) := ⟨f1, fd1, ok_pickG F1 T0 c__law_draw, PySem.W.mg_of X G n1, F1.kp, b1⟩
  have cS__law_pick : Cal l.prog w K mg base 2 "_law_pick" ["_law_stream", "_law_things"] (sp_pickS K) := ⟨f1, fd1, ok_pickS F1 T0 c__law_draw, PySem.W.mg_of X G n1, F1.kp, b1⟩
  have c__law_same : CalG l.prog w K mg base 1 "_law_same" ["_law_found", "_law_due"] (sp__law_same K) := ⟨f2, fd2, ok__law_same F2 T0 sm, PySem.W.mg_of X G n2, F2.kp, b2⟩
  have c__law_thing : Cal l.prog w K mg base 3 "_law_thing" ["_law_stream"] (sp__law_thing K) := ⟨f3, fd3, ok__law_thing F3 T0 c__law_draw cG__law_pick cS__law_pick, PySem.W.mg_of X G n3, F3.kp, b3⟩
  obtain ⟨ER, no1, noB, N0⟩ := ers_mk X G eb
  have R1 := r1_mk (w := w) (base := base) ER sx_BadNames sx_TooMany sx_BadSetting sx_NoSign sx_BadClause sx_NoClause sx_Clash sx_BadCount sx_BadLevel sx_NoHelper sx_BadLiteral sx_BadCode sx_NotTree sx_IsSet sx_NotDrawn sx_BadLine
  have R2 := erm_Blind (w := w) (base := base) (ER.gl "Blind" (by decide +kernel)) sx_Blind sn_Blind
  have c__law_classes : Cal l.prog w K mg base 1 "_law_classes" ["_law_e"] (sp__law_classes K (He.ga K)) := ⟨f4, fd4, ok__law_classes F4 T0 ER, PySem.W.mg_of X G n4, F4.kp, b4⟩
  have c__law_is_alone : Cal l.prog w K mg base 2 "_law_is_alone" ["_law_e", "_law_place"] (sp__law_is_alone K (He.ga K)) := ⟨f5, fd5, ok__law_is_alone F5 T0 ER c__law_classes, PySem.W.mg_of X G n5, F5.kp, b5⟩
  have c__law_ones : CalG l.prog w K mg base 3 "_law_ones" ["_law_one"] (sp__law_ones (He.ga K) P1) := ⟨f6, fd6, ok__law_ones FC1 TB1 R1, PySem.W.mg_of X G n6, F6.kp, b6⟩
  have c__law_bares : Cal l.prog w K mg base 1 "_law_bares" [] (sp__law_bares K (He.ga K)) := ⟨f7, fd7, ok__law_bares F7 N0, PySem.W.mg_of X G n7, F7.kp, b7⟩
  exact ok_law FC T0 ER R2 N0 no1 noB c__law_thing c__law_ones c__law_is_alone c__law_same c__law_bares c__law_classes
end My

set_option Elab.async false
set_option linter.all false
set_option maxRecDepth 100000
set_option maxHeartbeats 0
namespace Hq
open PySem PySem.Spec PyProof.Rows L2 L3
section
variable {K : PySem.W.Frag}
theorem ns_of {x : Str} (c : (He.Fa.glo x).ok K = true) : PySem.W.nsIn K mainGlobals x = some (some (.ref (He.ga K x))) := He.eqO_ok c
theorem ns_none {x : Str} (c : (He.Fa.free x).ok K = true) : PySem.W.nsIn K mainGlobals x = some none := He.eqO_ok c
theorem fun_of {x qn : Str} {st : Stmt} {f : Addr} (h : ∃ fd, FunD K x qn (defArgs st) (defBody st) (defScope st) [] [] f fd) : ∃ fd, Fun K x qn st f fd := by
  obtain ⟨fd, ⟨oc, od, dV, kV, doc, pm, an, cdv, ct, osl, e, l, c, d, _⟩, kp⟩ := h
  rcases d with ⟨_, rfl⟩ | ⟨h, _⟩
  · exact ⟨fd, ⟨oc, od, kV, doc, pm, an, cdv, ct, osl, e, l, c⟩, kp⟩
  · exact absurd rfl h
theorem at1_of {x : Str} {st : Stmt} (g : (He.Fa.glo x).ok K = true) (h : ∃ fd, FunD K x x (defArgs st) (defBody st) (defScope st) [] [] (He.ga K x) fd) : My.At1 K x st (He.ga K x) := ⟨ns_of g, fun_of h⟩
/-- the default of Code -/
def e0 (K : PySem.W.Frag) : Addr := He.dflAt ("Code", some "__init__") 0 K
end
/-! ### facts -/
def ns0 : List PySem.Str := ["__name__", "OpenError", "BadNames", "TooMany", "BadSetting", "NoSign", "BadClause", "NoClause", "Clash", "BadCount", "BadLevel", "Blind", "UnlikeSigns", "NoHelper", "BadLiteral", "BadCode", "NotTree", "Dead", "IsSet", "NothingToUndo"]
def ns1 : List PySem.Str := ["NotDrawn", "NotDead", "BadLine", "_law_draw", "_law_pick", "_law_same", "_law_thing", "_law_classes", "_law_is_alone", "_law_ones", "_law_bares"]
def ns : List PySem.Str := ns0 ++ ns1
def fa0 : List He.Fa := [.glo "_law_draw", .glo "_law_pick", .glo "_law_same", .glo "_law_thing", .glo "_law_classes", .glo "_law_is_alone", .glo "_law_ones", .glo "_law_bares", .glo "law", .glo "BadNames", .glo "TooMany", .glo "BadSetting", .glo "NoSign", .glo "BadClause", .glo "NoClause", .glo "Clash", .glo "BadCount", .glo "BadLevel", .glo "NoHelper", .glo "BadLiteral"]
def fa1 : List He.Fa := [.glo "BadCode", .glo "NotTree", .glo "IsSet", .glo "NotDrawn", .glo "BadLine", .glo "Blind", .noat "Blind" "literal", .free "len", .free "list", .free "int", .free "all", .free "any", .free "isinstance", .free "range", .free "repr", .free "ValueError"]
def fa : List He.Fa := fa0 ++ fa1
def fn0 : List He.DefD := [⟨("_law_draw", none), "_law_draw", "_law_draw", L2.defArgs My.s__law_draw, L2.defBody My.s__law_draw, L2.defScope My.s__law_draw, [], []⟩, ⟨("_law_pick", none), "_law_pick", "_law_pick", L2.defArgs My.s__law_pick, L2.defBody My.s__law_pick, L2.defScope My.s__law_pick, [], []⟩, ⟨("_law_same", none), "_law_same", "_law_same", L2.defArgs My.s__law_same, L2.defBody My.s__law_same, L2.defScope My.s__law_same, [], []⟩, ⟨("_law_thing", none), "_law_thing", "_law_thing", L2.defArgs My.s__law_thing, L2.defBody My.s__law_thing, L2.defScope My.s__law_thing, [], []⟩, ⟨("_law_classes", none), "_law_classes", "_law_classes", L2.defArgs My.s__law_classes, L2.defBody My.s__law_classes, L2.defScope My.s__law_classes, [], []⟩, ⟨("_law_is_alone", none), "_law_is_alone", "_law_is_alone", L2.defArgs My.s__law_is_alone, L2.defBody My.s__law_is_alone, L2.defScope My.s__law_is_alone, [], []⟩, ⟨("_law_ones", none), "_law_ones", "_law_ones", L2.defArgs My.s__law_ones, L2.defBody My.s__law_ones, L2.defScope My.s__law_ones, [], []⟩, ⟨("_law_bares", none), "_law_bares", "_law_bares", L2.defArgs My.s__law_bares, L2.defBody My.s__law_bares, L2.defScope My.s__law_bares, [], []⟩, ⟨("law", none), "law", "law", L2.defArgs My.s_law, L2.defBody My.s_law, L2.defScope My.s_law, [], []⟩]
def fn : List He.DefD := fn0
abbrev R : PySem.W.OpenRow := PySem.W.OpenLaw.row PySem.Challenge.rw_lastopen_k01_errors_made
def fx (K : PySem.W.Frag) : Bool := (L3.smB K) && ((My.ersB K) && ((L3.supB R.prog K "BadNames" "BadNames.__init__" "index") && ((L3.supB R.prog K "TooMany" "TooMany.__init__" "n") && ((L3.supB R.prog K "BadSetting" "BadSetting.__init__" "index") && ((L3.supB R.prog K "NoSign" "NoSign.__init__" "name") && ((L3.supB R.prog K "BadClause" "BadClause.__init__" "index") && ((L3.supB R.prog K "NoClause" "NoClause.__init__" "index") && ((L3.supB R.prog K "Clash" "Clash.__init__" "name") && ((L3.supB R.prog K "BadCount" "BadCount.__init__" "n") && ((L3.supB R.prog K "BadLevel" "BadLevel.__init__" "level") && ((L3.supB R.prog K "NoHelper" "NoHelper.__init__" "name") && ((L3.supB R.prog K "BadLiteral" "BadLiteral.__init__" "literal") && ((L3.supB R.prog K "BadCode" "BadCode.__init__" "index") && ((L3.supB R.prog K "NotTree" "NotTree.__init__" "index") && ((L3.supB R.prog K "IsSet" "IsSet.__init__" "name") && ((L3.supB R.prog K "NotDrawn" "NotDrawn.__init__" "literal") && ((L3.supB R.prog K "BadLine" "BadLine.__init__" "index") && ((L3.supB R.prog K "Blind" "Blind.__init__" "setting") && (true)))))))))))))))))))
/-- what an object names, once each -/
def refs (o : Obj) : List Addr := match o.data with
  | .seq its _ => its.toList.flatMap He.refV
  | .dict es _ => es.toList.flatMap fun e => He.refV e.val
  | .func fd => He.refV fd.code ++ He.refV fd.defaults ++ fd.closure.map (·.2)
  | .cls cd => [cd.ns]
  | _ => []
def lay (g : Addr → Option Obj) : Nat → List Addr → List Addr
  | 0, l => l
  | n + 1, l => l ++ lay g n (l.flatMap fun a => match g a with
    | some o => refs o
    | none => [])
def xw (K : PySem.W.Frag) : List L3.FnC := [L3.fnC K "BadNames", L3.fnC K "TooMany", L3.fnC K "BadSetting", L3.fnC K "NoSign", L3.fnC K "BadClause", L3.fnC K "NoClause", L3.fnC K "Clash", L3.fnC K "BadCount", L3.fnC K "BadLevel", L3.fnC K "NoHelper", L3.fnC K "BadLiteral", L3.fnC K "BadCode", L3.fnC K "NotTree", L3.fnC K "IsSet", L3.fnC K "NotDrawn", L3.fnC K "BadLine", L3.fnC K "Blind"]
def xv : List L3.FnC := [L3.fnCv "BadNames.__init__" My.s_BadNames_init, L3.fnCv "TooMany.__init__" My.s_TooMany_init, L3.fnCv "BadSetting.__init__" My.s_BadSetting_init, L3.fnCv "NoSign.__init__" My.s_NoSign_init, L3.fnCv "BadClause.__init__" My.s_BadClause_init, L3.fnCv "NoClause.__init__" My.s_NoClause_init, L3.fnCv "Clash.__init__" My.s_Clash_init, L3.fnCv "BadCount.__init__" My.s_BadCount_init, L3.fnCv "BadLevel.__init__" My.s_BadLevel_init, L3.fnCv "NoHelper.__init__" My.s_NoHelper_init, L3.fnCv "BadLiteral.__init__" My.s_BadLiteral_init, L3.fnCv "BadCode.__init__" My.s_BadCode_init, L3.fnCv "NotTree.__init__" My.s_NotTree_init, L3.fnCv "IsSet.__init__" My.s_IsSet_init, L3.fnCv "NotDrawn.__init__" My.s_NotDrawn_init, L3.fnCv "BadLine.__init__" My.s_BadLine_init, L3.fnCv "Blind.__init__" My.s_Blind_init]
abbrev lawD : He.Defn := ("law", none)
abbrev d1 : He.Defn := ("_law_ones", none)
/-- the code objects and their tables: empty, not in K, apart -/
def TbD (d : He.Defn) (K : PySem.W.Frag) (h : Heap) : Prop := PySem.W.codeHdIn K (He.cT K d).1 (He.cT K d).2 = true ∧ K.lookup (He.cT K d).2 = none ∧ h.get? (He.cT K d).2 = some { cls := .none, data := .fields #[] }
def allD : List He.Defn := [lawD, d1]
def apart (K : PySem.W.Frag) : Bool := [d1].all fun d => !((He.cT K lawD).2 == (He.cT K d).2)
def Tb (K : PySem.W.Frag) (h : Heap) : Prop := (∀ d ∈ allD, TbD d K h) ∧ apart K = true
theorem tb_ok {h : Heap} {l : List Addr} (e : (He.tabsB h.get? allD (He.frT h.get? l) && apart (He.frT h.get? l)) = true) : Tb (He.frT h.get? l) h := by
  obtain ⟨e1, e2⟩ := He.ba e
  refine ⟨fun d hd => ?_, e2⟩
  obtain ⟨h3, h4⟩ := He.ba (List.all_eq_true.mp e1 d hd)
  cases q : h.get? (He.cT (He.frT h.get? l) d).2 with
  | none => rw [q] at h4; cases h4
  | some o =>
    rw [q] at h4
    have h4 : He.emptyTab o = true := h4
    exact ⟨h3, He.frT_none q h4, by rw [q, He.emptyTab_eq h4]⟩
theorem apart_ne {K : PySem.W.Frag} {d : He.Defn} (h : apart K = true) (hd : d ∈ [d1]) : (He.cT K lawD).2 ≠ (He.cT K d).2 := fun e => by
  have := List.all_eq_true.mp h d hd
  rw [e, beq_self_eq_true] at this
  cases this
def spL (K : PySem.W.Frag) (cs : List (Addr × Addr)) : Sp := match cs with
  | [a, a1] => My.sp_law K a.2 a1.2
  | _ => fun _ _ _ _ => True
abbrev Al : Type := ((Bool × Bool) × List L3.FnC) × He.AlD
def obK (g : Addr → Option Obj) (K : PySem.W.Frag) : Al := (((fx K, He.tabsB g allD K && apart K), xw K), He.obsD fa fn K)
def obX (g : Addr → Option Obj) : Al := obK g (He.frT g (lay g 5 [mainGlobals, cStatics] ++ [sysModules]))
def hk : PySem.W.Hook where
  α := Al
  obs := fun s => obX s.heap.get?
  val := fun _ => (((true, true), xv), He.valD fn)
  says := fun _ h => ∃ K : PySem.W.Frag, K.In h ∧ He.SaysD fa fn K ∧ fx K = true ∧ xw K = xv ∧ Tb K h
  of := fun _ _ e => ⟨_, He.frT_in, congrArg Prod.snd e, congrArg (fun z => z.1.1.1) e, congrArg (fun z => z.1.2) e, tb_ok (congrArg (fun z => z.1.1.2) e)⟩
  keeps := fun _ _ _ ⟨K, hK, c1, c2, c3, t, t2⟩ k => ⟨K, PySem.W.Frag.In.keeps hK k, c1, c2, c3, fun d hd => let ⟨a, b, c⟩ := t d hd; ⟨a, b, k _ _ c⟩, t2⟩
theorem top : (R.prog.main.scope.names.lookup ("super" : Str)).isSome = false := by kernel_rfl
def ob (s : PySem.W.SharedT) : Al := obX (HandSHeadRun.getT s)
theorem ob_eq (s : PySem.W.SharedT) : ob s = hk.obs s.abs := by
  have e : HandSHeadRun.getT s = s.abs.heap.get? := funext (HandSHeadRun.getT_eq s)
  unfold ob
  rw [e] <;> rfl
theorem run (w : World) : HandSHeadRun.RunEq R (PySem.W.view R.prog [32]) hk ob 40000 ns w := by
  intro os
  kernel_rfl
theorem facts {w : World} {K : PySem.W.Frag} {h : Heap} {mg : Str → Option Value} {f : Addr} (X : K.In h) (G : h.Ns mainGlobals mg) (hfa : mg ("law" : Str) = some (.ref f)) (c : He.SaysD fa fn K) (cx : fx K = true) (cw : xw K = xv) (tb : Tb K h) :
    ∃ (fd : FuncData) (cs : List (Addr × Addr)), (∀ p ∈ cs, PySem.W.codeHdIn K p.1 p.2 = true ∧ K.lookup p.2 = none ∧ h.get? p.2 = some { cls := .none, data := .fields #[] }) ∧ (∀ (s : Shared) (v : Value), BindsTo s fd ⟨[v], []⟩ [("_law_script", v)]) ∧ ∀ base : Heap, K.In base → base.Ns mainGlobals mg → (∀ p ∈ cs, LamX.TabB base mg p.1 p.2) → FnG (PySem.Challenge.rw_lastopen_k01_errors_made).prog w K mg base CX0 4 f fd ["_law_script"] (spL K cs) := by
  obtain ⟨x0, cx⟩ := He.ba cx
  obtain ⟨x1, cx⟩ := He.ba cx
  obtain ⟨x2, cx⟩ := He.ba cx
  obtain ⟨x3, cx⟩ := He.ba cx
  obtain ⟨x4, cx⟩ := He.ba cx
  obtain ⟨x5, cx⟩ := He.ba cx
  obtain ⟨x6, cx⟩ := He.ba cx
  obtain ⟨x7, cx⟩ := He.ba cx
  obtain ⟨x8, cx⟩ := He.ba cx
  obtain ⟨x9, cx⟩ := He.ba cx
  obtain ⟨x10, cx⟩ := He.ba cx
  obtain ⟨x11, cx⟩ := He.ba cx
  obtain ⟨x12, cx⟩ := He.ba cx
  obtain ⟨x13, cx⟩ := He.ba cx
  obtain ⟨x14, cx⟩ := He.ba cx
  obtain ⟨x15, cx⟩ := He.ba cx
  obtain ⟨x16, cx⟩ := He.ba cx
  obtain ⟨x17, cx⟩ := He.ba cx
  obtain ⟨x18, cx⟩ := He.ba cx
  obtain ⟨fd, cd, cd1, hb, ⟨oc, od, kV, doc, pm, an, ct, osl, lk⟩, ⟨oc1, od1, kV1, doc1, pm1, an1, ct1, osl1, lk1⟩, hF⟩ := My.all_mk (l := PySem.Challenge.rw_lastopen_k01_errors_made) X G hfa (Hq.at1_of (c.fact 0) (c.def_ 0)) (Hq.at1_of (c.fact 1) (c.def_ 1)) (Hq.at1_of (c.fact 2) (c.def_ 2)) (Hq.at1_of (c.fact 3) (c.def_ 3)) (Hq.at1_of (c.fact 4) (c.def_ 4)) (Hq.at1_of (c.fact 5) (c.def_ 5)) (Hq.at1_of (c.fact 6) (c.def_ 6)) (Hq.at1_of (c.fact 7) (c.def_ 7)) (Hq.at1_of (c.fact 8) (c.def_ 8)) x0 x1 (c.fact 9) (supB_ok x2 (congrArg (fun l : List L3.FnC => l.getD 0 none) cw) top) (c.fact 10) (supB_ok x3 (congrArg (fun l : List L3.FnC => l.getD 1 none) cw) top) (c.fact 11) (supB_ok x4 (congrArg (fun l : List L3.FnC => l.getD 2 none) cw) top) (c.fact 12) (supB_ok x5 (congrArg (fun l : List L3.FnC => l.getD 3 none) cw) top) (c.fact 13) (supB_ok x6 (congrArg (fun l : List L3.FnC => l.getD 4 none) cw) top) (c.fact 14) (supB_ok x7 (congrArg (fun l : List L3.FnC => l.getD 5 none) cw) top) (c.fact 15) (supB_ok x8 (congrArg (fun l : List L3.FnC => l.getD 6 none) cw) top) (c.fact 16) (supB_ok x9 (congrArg (fun l : List L3.FnC => l.getD 7 none) cw) top) (c.fact 17) (supB_ok x10 (congrArg (fun l : List L3.FnC => l.getD 8 none) cw) top) (c.fact 18) (supB_ok x11 (congrArg (fun l : List L3.FnC => l.getD 9 none) cw) top) (c.fact 19) (supB_ok x12 (congrArg (fun l : List L3.FnC => l.getD 10 none) cw) top) (c.fact 20) (supB_ok x13 (congrArg (fun l : List L3.FnC => l.getD 11 none) cw) top) (c.fact 21) (supB_ok x14 (congrArg (fun l : List L3.FnC => l.getD 12 none) cw) top) (c.fact 22) (supB_ok x15 (congrArg (fun l : List L3.FnC => l.getD 13 none) cw) top) (c.fact 23) (supB_ok x16 (congrArg (fun l : List L3.FnC => l.getD 14 none) cw) top) (c.fact 24) (supB_ok x17 (congrArg (fun l : List L3.FnC => l.getD 15 none) cw) top) (c.fact 25) (supB_ok x18 (congrArg (fun l : List L3.FnC => l.getD 16 none) cw) top) (He.noat_ok (c.fact 26)) (Hq.ns_none (c.fact 27)) (Hq.ns_none (c.fact 28)) (Hq.ns_none (c.fact 29)) (Hq.ns_none (c.fact 30)) (Hq.ns_none (c.fact 31)) (Hq.ns_none (c.fact 32)) (Hq.ns_none (c.fact 33)) (Hq.ns_none (c.fact 34)) (Hq.ns_none (c.fact 35))
  have ec : He.codeOf K lawD = cd := He.codeOf_eq lk rfl
  have ec1 : He.codeOf K d1 = cd1 := He.codeOf_eq lk1 rfl
  refine ⟨fd, [He.cT K lawD, He.cT K d1], fun p hp => ?_, hb, fun base B N TB => hF base _ _ B N (by have z := TB (He.cT K lawD) (by simp); rw [show (He.cT K lawD).1 = cd from ec] at z; exact z) (by have z := TB (He.cT K d1) (by simp); rw [show (He.cT K d1).1 = cd1 from ec1] at z; exact z) (apart_ne tb.2 (by simp))⟩
  obtain ⟨d, hd, rfl⟩ := List.mem_map.mp (show p ∈ allD.map (He.cT K) from hp)
  exact tb.1 d hd
end Hq
open PySem PySem.W PySem.Calls PyProof.Rows
theorem PySem.Challenge.cw_lastopen_k01_errors_made_holds : PySem.Challenge.rw_lastopen_k01_errors_made.Holds := by
  w_on; o_law
  refine HandSHeadRun.head_any (r := OpenLaw.row PySem.Challenge.rw_lastopen_k01_errors_made) (q := view (OpenLaw.row PySem.Challenge.rw_lastopen_k01_errors_made).prog [32]) (H := Hq.hk) (ob := Hq.ob) (M := 40000) (loose := Hq.ns) (d := HandSHeadRun.topDef (OpenLaw.row PySem.Challenge.rw_lastopen_k01_errors_made).prog 32) (kwd := []) Hq.ob_eq
    (by kernel_rfl) (fun s => by kernel_rfl) Hq.run (by kernel_rfl) (by kernel_rfl) (by kernel_rfl) (by rfl) (by first | assumption | decide +kernel) (by decide +kernel) ⟨rfl, rfl, rfl, rfl, rfl, by decide +kernel⟩ ?hw ?hc
  case hw => w_witness2
  case hc =>
    refine L3.walk_GTs (n := 63) (k := 4) (x := "_law_script") (sp := Hq.spL) (l := PySem.Challenge.rw_lastopen_k01_errors_made) rfl (by decide) (by kernel_rfl) ⟨rfl, by decide, by decide⟩ ?F ?S
    case S => exact fun K cs H a ns hl hb hP hs only => match cs, hP, only with
      | [za, za1], hP, only => let ⟨M, m1, m2, m3, m4⟩ := L3.start_laws (Pt := [za.2, za1.2]) (fun b hb => by obtain ⟨p, hp, e⟩ := List.mem_map.mp (show b ∈ [za, za1].map (·.2) from hb); rw [← e]; exact hP p hp) hs only; ⟨ns, M, .ref a, rfl, m1, m2, m3 _ (by simp), m3 _ (by simp), m4, hP za (by simp), hP za1 (by simp), fun _ => rfl⟩
      | [], _, _ => trivial
      | [_], _, _ => trivial
      | _ :: _ :: _ :: _, _, _ => trivial
    case F =>
      intro w mg fa h Y G hmg0
      obtain ⟨K, KX, c, cx, cw, tb⟩ := Y
      have hmg : mg ("law" : PySem.Str) = some (.ref fa) := by
        have e : (HandSHeadRun.topDef (OpenLaw.row PySem.Challenge.rw_lastopen_k01_errors_made).prog 32).name = ("law" : PySem.Str) := by kernel_rfl
        rw [← e]
        exact hmg0
      obtain ⟨fd, cs, ht, hb, hF⟩ := Hq.facts (w := w) KX G hmg c cx cw tb
      exact ⟨K, fd, cs, KX, ht, hb, hF⟩

