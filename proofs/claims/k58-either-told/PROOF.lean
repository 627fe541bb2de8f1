import PyProof.Rows.All
import Wide.All
import OpenK.AllK
import Wide.FinOn
import HandS.ForMost
import HandS.Deep
import HandS.IsInst
import HandS.Conv
import HandS.DictComp
import HandS.EndBits
import HandS.Wide
import HandS.Flow
import KE.DataEq
import HandS.TupAny
import HandS.Walk
import KE.GoesEnum
import KE.KDictSum
import HandS.Defaults
import HandS.Style
import HandS.SlotsOwn
import HandS.Star
import HandS.OwnEq
import KE.DataFind
import HandS.More
import HandS.Text
import HandS.Strs
import KE.KSuper
import KE.KExcSuper
import KE.KExcMake
import HandS.Base
import HandS.Call
import HandS.Exc
import HandS.ExcInit
import HandS.Nested
import HandS.WordsExc
import HandS.ExcField
import HandS.TryMany
import HandS.TryOnly
import HandS.Words
import HandS.HeadHook1
import HandS.HeadHook2
import HandS.Lambda
import KE.KNestM
import HandS.HotCalls
import PySem.Challenge.RW_lastopen_k58_either_told
import HandS.Codes
import PyProof.EqKinds
import PyProof.FactsAll.dict_1
import PyProof.FactsAll.subtypes_3
import PyProof.FactsAll.subtypes_4
import OpenK.KMeth
import PyProof.SliceList
import KE.KRevSl
import KE.KOpsOwn
import PyProof.DictValues
import KE.GoesMore
import HandS.DictSubView
import HandS.ExcOwn
import HandS.DictEq
import HandS.Head0
import HandS.Head1
import HandS.Head2
set_option Elab.async false
set_option linter.all false
set_option maxRecDepth 100000
set_option maxHeartbeats 1000000
namespace L3
open PySem L2

/-! the ghost part M of the heap: what never changes from here on -/
structure Gr (M H M' H' : Hp) : Prop where
  mm : Same M M'
  hh : Same H H'
  mh : Same M' H'
  nw : ∀ a o, M' a = some o → M a = some o ∨ H a = none ∨ ∃ xs, o = HO.tup xs
  nt : ∀ a ps, M' a = some (.tbl ps) → M a = some (.tbl ps)
theorem same_new {H : Hp} {p : Addr} {o : HO} (h : H p = none) : Same H (upd H p o) := fun b u e => by
  rw [upd_ne (ne_of_none e h)]; exact e
theorem same_mut {M H : Hp} {p : Addr} {o : HO} (e : Same M H) (h : M p = none) : Same M (upd H p o) := fun b u q => by
  rw [upd_ne (ne_of_none q h)]; exact e b u q
theorem Gr.refl {M H : Hp} (mh : Same M H) : Gr M H M H := ⟨Same.refl M, Same.refl H, mh, fun _ _ e => .inl e, fun _ _ e => e⟩
theorem Gr.trans {M H M1 H1 M2 H2 : Hp} (a : Gr M H M1 H1) (b : Gr M1 H1 M2 H2) : Gr M H M2 H2 :=
  ⟨a.mm.trans b.mm, a.hh.trans b.hh, b.mh, fun x o e => by
    rcases b.nw x o e with h | h | h
    · exact a.nw x o h
    · exact .inr (.inl (a.hh.free h))
    · exact .inr (.inr h), fun x ps e => a.nt x ps (b.nt x ps e)⟩
theorem upd_nt {M : Hp} {p : Addr} {o : HO} (hn : ∀ ps, o ≠ HO.tbl ps) (a : Addr) (ps : Array Value) (e : upd M p o a = some (.tbl ps)) : M a = some (.tbl ps) := by
  by_cases h : a = p
  · subst h; rw [upd_same] at e; exact absurd (Option.some.inj e) (hn ps)
  · rw [upd_ne h] at e; exact e
/-- a new object that is known from now on; one that may still change -/
theorem Gr.new {M H : Hp} {p : Addr} {o : HO} (mh : Same M H) (hp : H p = none) (hn : ∀ ps, o ≠ HO.tbl ps := by intro _ z; cases z) : Gr M H (upd M p o) (upd H p o) := by
  refine ⟨same_new (mh.free hp), same_new hp, fun b u e => ?_, fun b u e => ?_, upd_nt hn⟩
  · by_cases hb : b = p
    · subst hb; rw [upd_same] at e ⊢; exact e
    · rw [upd_ne hb] at e ⊢; exact mh b u e
  · by_cases hb : b = p
    · subst hb; exact .inr (.inl hp)
    · rw [upd_ne hb] at e; exact .inl e
theorem Gr.own {M H : Hp} {p : Addr} {o : HO} (mh : Same M H) (hp : H p = none) : Gr M H M (upd H p o) :=
  ⟨Same.refl M, same_new hp, same_mut mh (mh.free hp), fun _ _ e => .inl e, fun _ _ e => e⟩
/-- an object of ours changes -/
theorem Gr.mut {M0 H0 M H : Hp} {p : Addr} {o : HO} (g : Gr M0 H0 M H) (h0 : H0 p = none) (hm : M p = none) : Gr M0 H0 M (upd H p o) :=
  ⟨g.mm, same_mut g.hh h0, same_mut g.mh hm, g.nw, g.nt⟩
/-- an object of ours is known from now on -/
theorem Gr.freeze {M0 H0 M H : Hp} {p : Addr} {o : HO} (g : Gr M0 H0 M H) (h0 : H0 p = none) (hm : M p = none) (hp : H p = some o) (hn : ∀ ps, o ≠ HO.tbl ps := by intro _ z; cases z) : Gr M0 H0 (upd M p o) H := by
  refine ⟨g.mm.trans (same_new hm), g.hh, fun b u e => ?_, fun b u e => ?_, fun b ps e => g.nt b ps (upd_nt hn b ps e)⟩
  · by_cases hb : b = p
    · subst hb; rw [upd_same] at e; rw [hp]; exact e
    · rw [upd_ne hb] at e; exact g.mh b u e
  · by_cases hb : b = p
    · subst hb; exact .inr (.inl h0)
    · rw [upd_ne hb] at e; exact g.nw b u e
theorem Gr.keep {M H M' H' : Hp} {p : Addr} {o : HO} (g : Gr M H M' H') (hm : M p = none) (hp : H p = some o) (hn : ∀ xs, o ≠ HO.tup xs := by intro _ z; cases z) : M' p = none := by
  cases e : M' p with
  | none => rfl
  | some u =>
    rcases g.nw p u e with h | h | ⟨xs, h⟩
    · rw [hm] at h; cases h
    · rw [hp] at h; cases h
    · subst h
      have h1 := g.mh p _ e
      rw [g.hh p _ hp] at h1
      exact absurd (Option.some.inj h1) (hn xs)
/-- tuples that stand may be known at any time -/
def withT (M H : Hp) (bs : List Addr) : Hp := fun a => (M a).or (if a ∈ bs then H a else none)
theorem withT_in {M H : Hp} {bs : List Addr} {a : Addr} {o : HO} (mh : Same M H) (ha : a ∈ bs) (h : H a = some o) : withT M H bs a = some o := by
  unfold withT
  cases e : M a with
  | none => rw [if_pos ha]; exact h
  | some u => have := mh a u e; rw [h] at this; cases this; rfl
theorem Gr.tups {M H : Hp} {bs : List Addr} (mh : Same M H) (hb : ∀ b ∈ bs, ∃ xs, H b = some (.tup xs)) : Gr M H (withT M H bs) H := by
  refine ⟨fun a o e => by unfold withT; rw [e]; rfl, Same.refl H, fun a o e => ?_, fun a o e => ?_, fun a ps e => ?_⟩
  · unfold withT at e
    cases q : M a with
    | some u => rw [q] at e; cases e; exact mh a _ q
    | none =>
      rw [q] at e
      by_cases ha : a ∈ bs
      · rw [if_pos ha] at e; exact e
      · rw [if_neg ha] at e; cases e
  · unfold withT at e
    cases q : M a with
    | some u => rw [q] at e; exact .inl e
    | none =>
      rw [q] at e
      by_cases ha : a ∈ bs
      · rw [if_pos ha] at e
        obtain ⟨xs, h⟩ := hb a ha
        have e' : H a = some o := e
        rw [h] at e'
        cases e'
        exact .inr (.inr ⟨xs, rfl⟩)
      · rw [if_neg ha] at e; cases e
  · unfold withT at e
    cases q : M a with
    | some u => rw [q] at e; exact e
    | none =>
      rw [q] at e
      by_cases ha : a ∈ bs
      · rw [if_pos ha] at e
        obtain ⟨xs, h⟩ := hb a ha
        have e' : H a = some (.tbl ps) := e
        rw [h] at e'
        cases e'
      · rw [if_neg ha] at e; cases e
theorem rd_mono {H H' : Hp} {a : Addr} {u : HO} (e : Same H H') (h : Rd H a u) : Rd H' a u := by
  rcases h with h | ⟨o, h⟩
  · exact Or.inl (e a _ h)
  · exact Or.inr ⟨o, e a _ h⟩
theorem sl_mono {K : PySem.W.Frag} {H H' : Hp} {a : Addr} {xs : List V} (e : Same H H') (h : SqL K H a xs) : SqL K H' a xs := by
  rcases h with h | h
  · exact Or.inl (rd_mono e h)
  · exact Or.inr h
theorem st_mono {K : PySem.W.Frag} {H H' : Hp} {a : Addr} {xs : List V} (e : Same H H') (h : SqT K H a xs) : SqT K H' a xs := by
  rcases h with h | h
  · exact Or.inl (rd_mono e h)
  · exact Or.inr h
mutual
theorem dp_mono {K : PySem.W.Frag} {H H' : Hp} (e : Same H H') : ∀ {v : V} {d : PyData}, Dp K H v d → Dp K H' v d
  | _, _, .non => .non
  | _, _, .bl b => .bl b
  | _, _, .int i => .int i
  | _, _, .str x => .str x
  | _, _, .lst hs ha => .lst (sl_mono e hs) (dpa_mono e ha)
  | _, _, .tup hs ha => .tup (st_mono e hs) (dpa_mono e ha)
theorem dpa_mono {K : PySem.W.Frag} {H H' : Hp} (e : Same H H') : ∀ {vs : List V} {ds : List PyData}, DpAll K H vs ds → DpAll K H' vs ds
  | _, _, .nil => .nil
  | _, _, .cons h t => .cons (dp_mono e h) (dpa_mono e t)
end
end L3

set_option Elab.async false
set_option linter.all false
set_option maxRecDepth 100000
set_option maxHeartbeats 1000000
namespace L3
open PySem PySem.Spec PyProof.Rows L2

/-! defs whose text asks repr: no repr is under way around them -/
structure FnG (P : Program) (w : World) (K : PySem.W.Frag) (mg : Str → Option Value) (base : Heap) (CX : CXT) (k : Nat) (f : Addr) (fd : FuncData) (ps : List Str) (sp : Sp) : Prop where
  len (vs : List V) (H : Hp) (Q : VK) (E : XK) : sp vs H Q E → vs.length = ps.length
  run : ∀ (A : Around) (outer : List Env) (s : Shared) (H : Hp) (args : Args) (us : List Value) (vs : List V) (Q : VK) (E : XK), A.guards = some [] → Room k A →
    Env0 P w K mg base A outer s H → BindsTo s fd args (ps.zip us) → Vals vs us → sp vs H Q E → codeAny (model P w) A (.call (.ref f) args) (CR CX outer P w H s Q E) s
section
variable {P : Program} {w : World} {K : PySem.W.Frag} {mg : Str → Option Value} {base : Heap} {CX : CXT} {k : Nat} {f : Addr} {fd : FuncData} {ps : List Str} {sp : Sp}
theorem FnG.of (F : FnOk P w K mg base CX k f fd ps sp) : FnG P w K mg base CX k f fd ps sp :=
  ⟨F.len, fun A outer s H args us vs Q E _ hr he hb hv h => F.run A outer s H args us vs Q E hr he hb hv h⟩
theorem FnG.mono {j : Nat} (F : FnG P w K mg base CX j f fd ps sp) (h : j ≤ k) : FnG P w K mg base CX k f fd ps sp :=
  ⟨F.len, fun A outer s H args us vs Q E hg hr he hb hv hs => F.run A outer s H args us vs Q E hg (hr.mono h) he hb hv hs⟩
end
/-- a def of the text keeps its promise where no repr is under way: its body is walked in the new frame, and each way out of the body is a way out of the call -/
theorem fun_okG {P : Program} {w : World} {K : PySem.W.Frag} {mg : Str → Option Value} {base : Heap} {x qual : Str} {st : Stmt} {f : Addr} {fd : FuncData} {N ps : List Str} {k : Nat} {sp : Sp} (F : Fun K x qual st f fd) (S : FnScope N ps (defScope st))
    (ar : ∀ vs H Q E, sp vs H Q E → vs.length = ps.length) (hb : ∀ (cdv : Value) (A : Around) (outer : List Env) (s : Shared) (H : Hp) (vs : List V) (Q : VK) (E : XK), A.guards = some [] → Room k (A.deeper (envOfC qual (defScope st) s.heap.objs.size f cdv)) → sp vs H Q E →
      ∃ t, PSs (cxOf CX0 P w K mg base N qual (defScope st) f cdv A outer s H E).nox (defBody st) t ∧ t { nx := fun _ H' => Q .non H', rt := Q } (start N vs) H) :
    FnG P w K mg base CX0 (k + 1) f fd ps sp where
  len := ar
  run A outer s H args us vs Q E hgu hr e0 hbi rv hsp := by
    have ⟨c1, c2, c3, c4, c5, c6, cdv, c7, c8, efd, lk, hcd⟩ := F.ex
    subst efd
    have grown : ∀ b o, base.get? b = some o → s.heap.get? b = some o := fun b o e => (e0.bs b o e).1
    have inK := e0.mod.kin.keeps grown
    apply codeAny_call_function hr.depth (inK _ _ lk) rfl S.co S.gen rfl (PySem.W.codeRec_of inK hcd)
    apply hbi
    refine wpAny_newFunctionEnv_cells S.kind (fun ⟨n, v⟩ hy => ?_) fun env he s1 new => ?_
    · rcases S.par n (List.of_mem_zip hy).1 with q | q
      · exact .inl q
      · exact .inr ⟨q, PySem.W.cellsFrom_some _ _ _ (.inl q)⟩
    subst he
    have ⟨t, pt, q⟩ := hb cdv A outer s H vs Q E hgu (hr.deeper _) hsp
    have I0 := inv_start (CX := CX0) (E := E) S hr.hd e0 (ar _ _ _ _ hsp) rv new
    refine ⟨(e0.mod.nolimit.keeps grown).keeps new.toInCall.keep, codeAny_func (wpAny_mono (pt.nox.run [] s1 _ H _ I0 q) ?_ fun _ _ z => z)⟩
    rintro (_ | _ | _ | u) s2 h2
    · have ⟨_, _, J, z⟩ := h2
      exact ⟨V.non, _, J.os, J.bare, J.base, J.hok, rfl, z⟩
    · exact h2.elim fun _ h => h.elim fun _ h => h.2.elim
    · exact h2.elim fun _ h => h.elim fun _ h => h.2.elim
    · have ⟨v, _, _, J, ru, z⟩ := h2
      exact ⟨v, _, J.os, J.bare, J.base, J.hok, ru, z⟩
section
variable {X : Cx} {CX : CXT} {k : Nat} {f C : Addr} {fd : FuncData} {ps : List Str} {sp : Sp} {dvs : List V} {ds : List Value} {E : XK} {x : Str} {p pos : Pos} {e : Expr} {es : List Expr} {t : TA}
/-! repr of data -/
mutual
theorem dp_nodict {K : PySem.W.Frag} {H : Hp} : ∀ {v : V} {d : PyData}, Dp K H v d → d.hasDict = false
  | _, _, .non => by simp only [PyData.hasDict]
  | _, _, .bl b => by simp only [PyData.hasDict]
  | _, _, .int i => by simp only [PyData.hasDict]
  | _, _, .str x => by simp only [PyData.hasDict]
  | _, _, .lst _ ha => by simp only [PyData.hasDict]; exact dpa_nodict ha
  | _, _, .tup _ ha => by simp only [PyData.hasDict]; exact dpa_nodict ha
theorem dpa_nodict {K : PySem.W.Frag} {H : Hp} : ∀ {vs : List V} {ds : List PyData}, DpAll K H vs ds → PyData.hasDictAll ds = false
  | _, _, .nil => by simp only [PyData.hasDictAll]
  | _, _, .cons h t => by simp only [PyData.hasDictAll]; rw [dp_nodict h, dpa_nodict t]; rfl
end
end
end L3

set_option Elab.async false
set_option linter.all false
set_option maxRecDepth 100000
set_option maxHeartbeats 1000000
namespace L3
open PySem PySem.Spec PyProof.Rows L2

/-! the law's own end, over a promise that knows the guards. The script stands in the written part, or it is the one object that is known at the start -/
def scrO (vs : List Value) : Obj := { cls := .type "list", data := .seq vs.toArray }
def scrH (K : PySem.W.Frag) (a : Addr) (vs : List Value) (xs : List V) : Hp := fun b => if b = a ∧ K.lookup a = none then some (.frz (scrO vs) (.lst xs)) else none
section
variable {K : PySem.W.Frag} {a : Addr} {vs : List Value} {xs : List V} {h : Heap} {P : Program} {w : World}
theorem scrH_some {b : Addr} {u : HO} (e : scrH K a vs xs b = some u) : b = a ∧ K.lookup a = none ∧ u = .frz (scrO vs) (.lst xs) := by
  unfold scrH at e
  split at e
  next c => exact ⟨c.1, c.2, (Option.some.inj e).symm⟩
  next => cases e
theorem scrH_sq (KX : K.In h) (ho : h.get? a = some (scrO vs)) (rv : Vals xs vs) (hz : xs.length ≤ sizeLine) : SqL K (scrH K a vs xs) a xs := by
  cases e : K.lookup a with
  | none => exact .inl (.inr ⟨_, if_pos ⟨rfl, e⟩⟩)
  | some o =>
    cases ho.symm.trans (KX a o e)
    exact .inr ⟨_, vs.toArray, _, e, rfl, rfl, rfl, (by rw [List.size_toArray, ← rv.length]; exact hz), rv⟩
theorem scrH_ok (ho : h.get? a = some (scrO vs)) (rv : Vals xs vs) (hz : xs.length ≤ sizeLine) : HOk P w (scrH K a vs xs) h := fun b u e => by
  have ⟨h1, _, h3⟩ := scrH_some e
  subst h1 h3
  exact ⟨ho, hz, vs, _, rv, ho⟩
/-- what is hidden of the heap is the script alone: no dict, nothing of the written part -/
theorem scrH_in (KX : K.In h) : K.In (hidT h (scrH K a vs xs)) := fun b o e => hidT_get (KX b o e) (by
  cases q : scrH K a vs xs b with
  | none => rfl
  | some u =>
    have z := scrH_some q
    rw [z.1, z.2.1] at e
    cases e)
theorem scrH_ns (ho : h.get? a = some (scrO vs)) {b : Addr} {m : Str → Option Value} (n : h.Ns b m) : (hidT h (scrH K a vs xs)).Ns b m := by
  obtain ⟨o, es, ep, e, d, r⟩ := n
  refine ⟨o, es, ep, hidT_get e ?_, d, r⟩
  cases q : scrH K a vs xs b with
  | none => rfl
  | some u =>
    rw [(scrH_some q).1, ho] at e
    cases e
    cases (show Data.seq vs.toArray _ = Data.dict es ep from d)
end
end L3

set_option Elab.async false
set_option linter.all false
set_option maxRecDepth 100000
set_option maxHeartbeats 1000000
namespace L3
open PySem PySem.Spec PyProof.Rows L2
abbrev Sl := L2.St

/-! operators by data -/
mutual
theorem dp_plain {K : PySem.W.Frag} {H : Hp} : ∀ {v : V} {d : PyData}, Dp K H v d → d.plain = true
  | _, _, .non => by simp only [PyData.plain]
  | _, _, .bl b => by simp only [PyData.plain]
  | _, _, .int i => by simp only [PyData.plain]
  | _, _, .str x => by simp only [PyData.plain]
  | _, _, .lst _ ha => by simp only [PyData.plain]; exact dpa_plain ha
  | _, _, .tup _ ha => by simp only [PyData.plain]; exact dpa_plain ha
theorem dpa_plain {K : PySem.W.Frag} {H : Hp} : ∀ {vs : List V} {ds : List PyData}, DpAll K H vs ds → PyData.plainAll ds = true
  | _, _, .nil => by simp only [PyData.plainAll]
  | _, _, .cons h t => by simp only [PyData.plainAll]; rw [dp_plain h, dpa_plain t]; rfl
end
/-- a list or a tuple of ds -/
def Sq (K : PySem.W.Frag) (ds : List PyData) (H : Hp) (v : V) : Prop := Dp K H v (.list ds) ∨ Dp K H v (.tuple ds)
theorem Sq.mono {K : PySem.W.Frag} {ds : List PyData} {H H' : Hp} {v : V} (e : Same H H') (h : Sq K ds H v) : Sq K ds H' v := h.imp (dp_mono e) (dp_mono e)
def rEqP (K : PySem.W.Frag) (neg : Bool) : R2 := fun x y H Q => ∃ d e, Dp K H x d ∧ Dp K H y e ∧ d.depth ≤ 60 ∧ Q (.bl (xor neg (PyData.eqv d e))) H
def rInP (K : PySem.W.Frag) (neg : Bool) : R2 := fun x y H Q => ∃ d ds, Dp K H x d ∧ Sq K ds H y ∧ d.depth ≤ 60 ∧ Q (.bl (xor neg (ds.any fun z => PyData.eqv z d))) H
section
variable {X : Cx}
theorem op_eqP (hu : X.A.units + 64 < cLine) : OpR X (compareOp .Eq) (rEqP X.K false) := by
  intro pins s σ H x y v u Q I rx ry ⟨d, e, hd, he, hz, q⟩
  obtain ⟨as, r1⟩ := Dp.reads I d x v hd rx
  obtain ⟨bs, r2⟩ := Dp.reads I e y u he ry
  exact SeqAt.eq_plain r1 r2 (dp_plain hd) (dp_plain he) (by omega) ⟨.bl _, H, I, rfl, by simpa using q⟩
theorem op_neP (hu : X.A.units + 64 < cLine) : OpR X (compareOp .NotEq) (rEqP X.K true) := by
  intro pins s σ H x y v u Q I rx ry ⟨d, e, hd, he, hz, q⟩
  obtain ⟨as, r1⟩ := Dp.reads I d x v hd rx
  obtain ⟨bs, r2⟩ := Dp.reads I e y u he ry
  exact SeqAt.ne_plain r1 r2 (dp_plain hd) (dp_plain he) (by omega) ⟨.bl _, H, I, rfl, by simpa using q⟩
theorem op_inP (hu : X.A.units + 64 < cLine) : OpR X (compareOp .In) (rInP X.K false) := by
  intro pins s σ H x y v u Q I rx ry ⟨d, ds, hd, hs, hz, q⟩
  obtain ⟨as, r1⟩ := Dp.reads I d x v hd rx
  rcases hs with hs | hs
  · obtain ⟨bs, r2⟩ := Dp.reads I _ y u hs ry
    exact SeqAt.in_list_data r2 r1 (by simpa only [PyData.plain] using dp_plain hs) (dp_plain hd) (by omega) ⟨.bl _, H, I, rfl, by simpa using q⟩
  · obtain ⟨bs, r2⟩ := Dp.reads I _ y u hs ry
    exact SeqAt.in_tuple_data r2 r1 (by simpa only [PyData.plain] using dp_plain hs) (dp_plain hd) (by omega) ⟨.bl _, H, I, rfl, by simpa using q⟩
theorem op_notInP (hu : X.A.units + 64 < cLine) : OpR X (compareOp .NotIn) (rInP X.K true) := by
  intro pins s σ H x y v u Q I rx ry ⟨d, ds, hd, hs, hz, q⟩
  obtain ⟨as, r1⟩ := Dp.reads I d x v hd rx
  rcases hs with hs | hs
  · obtain ⟨bs, r2⟩ := Dp.reads I _ y u hs ry
    exact SeqAt.notIn_list_data r2 r1 (by simpa only [PyData.plain] using dp_plain hs) (dp_plain hd) (by omega) ⟨.bl _, H, I, rfl, by simpa using q⟩
  · obtain ⟨bs, r2⟩ := Dp.reads I _ y u hs ry
    exact SeqAt.notIn_tuple_data r2 r1 (by simpa only [PyData.plain] using dp_plain hs) (dp_plain hd) (by omega) ⟨.bl _, H, I, rfl, by simpa using q⟩
/-- two readings of one expression, of one thing walked -/
theorem PE.or {e : Expr} {t u : TE} (h : PE X e t) (h' : PE X e u) : PE X e (fun σ H Q => t σ H Q ∨ u σ H Q) :=
  ⟨fun pins s σ H Q I q => q.elim (h.run pins s σ H Q I) (h'.run pins s σ H Q I)⟩
theorem PI.or {tg e : Expr} {t u : TI} (h : PI X tg e t) (h' : PI X tg e u) : PI X tg e (fun σ H R => t σ H R ∨ u σ H R) :=
  ⟨fun pins s σ H Q I q => q.elim (h.run pins s σ H Q I) (h'.run pins s σ H Q I)⟩
end

/-! what an expression is worth, over the known part M -/
abbrev Pr := Hp → V → Prop
abbrev Dd (K : PySem.W.Frag) (d : PyData) : Pr := fun M v => Dp K M v d
def Gv (te : TE) (σ : Sl) (M : Hp) (P : Pr) : Prop := ∀ H, Same M H → ∀ Q : VK, (∀ v M' H', Gr M H M' H' → P M' v → Q v H') → te σ H Q
def GvT (tt : TT) (σ : Sl) (M : Hp) (b : Bool) : Prop := ∀ H, Same M H → ∀ Q : Bool → Hp → Prop, (∀ M' H', Gr M H M' H' → Q b H') → tt σ H Q
/-- a new list, ours -/
def GvL (te : TE) (σ : Sl) (M : Hp) (P : Hp → List V → Prop) : Prop := ∀ H, Same M H → ∀ Q : VK, (∀ p vs M' H', Gr M H M' H' → H p = none → M' p = none → H' p = some (.lst vs) → P M' vs → Q (.ref p) H') → te σ H Q
def GvA (ta : TA) (σ : Sl) (M : Hp) (P : Hp → List V → Prop) : Prop := ∀ H, Same M H → ∀ Q : List V → Hp → Prop, (∀ vs M' H', Gr M H M' H' → P M' vs → Q vs H') → ta σ H Q
class Mono (P : Pr) : Prop where
  mono : ∀ {M M' : Hp} {v : V}, Same M M' → P M v → P M' v
instance {K : PySem.W.Frag} {d : PyData} : Mono (Dd K d) := ⟨fun e h => dp_mono e h⟩
instance {K : PySem.W.Frag} {ds : List PyData} : Mono (Sq K ds) := ⟨fun e h => h.mono e⟩
section
variable {K : PySem.W.Frag} {σ : Sl} {M M1 : Hp} {ta tb te : TE} {tt tu : TT} {P P1 : Pr} {b c : Bool} {v : V}
def jn (M1 M' : Hp) : Hp := fun a => (M1 a).or (M' a)
theorem jn_some {M1 M' : Hp} {a : Addr} {o : HO} (q : M1 a = some o) : jn M1 M' a = some o := by unfold jn; rw [q]; rfl
theorem jn_none {M1 M' : Hp} {a : Addr} (q : M1 a = none) : jn M1 M' a = M' a := by unfold jn; rw [q]; rfl
theorem Gr.join {M H M' H' M1 : Hp} (g : Gr M H M' H') (e : Same M M1) (h1 : Same M1 H) : Gr M1 H (jn M1 M') H' ∧ Same M' (jn M1 M') := by
  have k1 := h1.trans g.hh
  refine ⟨⟨fun a o q => jn_some q, g.hh, fun a o q => ?_, fun a o q => ?_, fun a ps q => ?_⟩, fun a o q => ?_⟩
  · cases z : M1 a with
    | some u => rw [jn_some z] at q; cases q; exact k1 a _ z
    | none => rw [jn_none z] at q; exact g.mh a o q
  · cases z : M1 a with
    | some u => rw [jn_some z] at q; exact .inl q
    | none =>
      rw [jn_none z] at q
      rcases g.nw a o q with y | y
      · rw [e a o y] at z; cases z
      · exact .inr y
  · cases z : M1 a with
    | some u => rw [jn_some z] at q; exact q
    | none =>
      rw [jn_none z] at q
      have y := e a _ (g.nt a ps q)
      rw [z] at y
      cases y
  · cases z : M1 a with
    | some u =>
      have y := k1 a _ z
      rw [g.mh a o q] at y
      cases y
      exact jn_some z
    | none => rw [jn_none z]; exact q
theorem Gv.le [Mono P] (h : Gv te σ M P) (e : Same M M1) : Gv te σ M1 P := fun H mh Q q =>
  h H (e.trans mh) Q fun v M' H' g p => q v _ H' (g.join e mh).1 (Mono.mono (g.join e mh).2 p)
theorem GvT.le (h : GvT tt σ M b) (e : Same M M1) : GvT tt σ M1 b := fun H mh Q q =>
  h H (e.trans mh) Q fun M' H' g => q _ H' (g.join e mh).1
/-- a reading over values -/
def RV (r : Hp → VK → Prop) (M : Hp) (P : Pr) : Prop := ∀ H, Same M H → ∀ Q : VK, (∀ v M' H', Gr M H M' H' → P M' v → Q v H') → r H Q
theorem gv_var {i : Nat} (h : σ[i]? = some (some v)) (p : P M v) : Gv (tVar i) σ M P := fun H mh Q q => ⟨v, h, q v M H (.refl mh) p⟩
theorem gv_c (p : P M v) : Gv (tC v) σ M P := fun H mh Q q => q v M H (.refl mh) p
theorem gv_op {r : R2} {R : Pr} [Mono P] [Mono P1] (ha : Gv ta σ M P) (hb : Gv tb σ M P1) (hr : ∀ M' x y, P M' x → P1 M' y → RV (r x y) M' R) : Gv (tOp r ta tb) σ M R := fun H mh Q q =>
  ha H mh _ fun x M1 H1 g1 p1 => (hb.le g1.mm) H1 g1.mh _ fun y M2 H2 g2 p2 => hr M2 x y (Mono.mono g2.mm p1) p2 H2 g2.mh Q fun v M' H' g p => q v M' H' ((g1.trans g2).trans g) p
theorem gv_is {P' : Pr} (h : Gv te σ M P) (e : ∀ M v, P M v → P' M v) : Gv te σ M P' := fun H mh Q q => h H mh Q fun v M' H' g p => q v M' H' g (e M' v p)
/-- tests -/
theorem gt_test {te : TE} (h : Gv te σ M (fun _ v => v = .bl b)) : GvT (tTest te) σ M b := fun H mh Q q => h H mh _ fun v M' H' g p => ⟨b, p, q M' H' g⟩
theorem gt_B {te : TE} (h : Gv te σ M (fun _ v => v = .bl b)) : GvT (tB te) σ M b := fun H mh Q q => h H mh _ fun v M' H' g p => ⟨b, p, q M' H' g⟩
theorem gt_and (h : GvT tt σ M b) (h2 : b = true → GvT tu σ M c) : GvT (tAnd tt tu) σ M (b && c) := fun H mh Q q => h H mh _ fun M1 H1 g1 => by
  cases b with
  | true => exact (h2 rfl).le g1.mm H1 g1.mh Q fun M' H' g => q M' H' (g1.trans g)
  | false => exact q M1 H1 g1
theorem gt_or (h : GvT tt σ M b) (h2 : b = false → GvT tu σ M c) : GvT (tOr tt tu) σ M (b || c) := fun H mh Q q => h H mh _ fun M1 H1 g1 => by
  cases b with
  | true => exact q M1 H1 g1
  | false => exact (h2 rfl).le g1.mm H1 g1.mh Q fun M' H' g => q M' H' (g1.trans g)
theorem gt_not (h : GvT tt σ M b) : GvT (tNot tt) σ M (!b) := fun H mh Q q => h H mh _ q
theorem gt_is (h : GvT tt σ M b) (e : b = c) : GvT tt σ M c := e ▸ h
abbrev Bl (b : Bool) : Pr := fun _ v => v = .bl b
abbrev It' (i : Int) : Pr := fun _ v => v = .int i
abbrev Tx (x : Str) : Pr := fun _ v => v = .str x
instance {b : Bool} : Mono (Bl b) := ⟨fun _ h => h⟩
instance {i : Int} : Mono (It' i) := ⟨fun _ h => h⟩
instance {x : Str} : Mono (Tx x) := ⟨fun _ h => h⟩
theorem gv_andV {ta tb : TE} (h : Gv ta σ M (Bl b)) (h2 : b = true → Gv tb σ M (Bl c)) : Gv (tAndV ta tb) σ M (Bl (b && c)) := fun H mh Q q => h H mh _ fun v M1 H1 g1 p => ⟨b, p, by
  cases b with
  | true => exact (h2 rfl).le g1.mm H1 g1.mh Q fun v M' H' g p => q v M' H' (g1.trans g) p
  | false => exact q _ M1 H1 g1 rfl⟩
theorem gv_orV {ta tb : TE} (h : Gv ta σ M (Bl b)) (h2 : b = false → Gv tb σ M (Bl c)) : Gv (tOrV ta tb) σ M (Bl (b || c)) := fun H mh Q q => h H mh _ fun v M1 H1 g1 p => ⟨b, p, by
  cases b with
  | true => exact q _ M1 H1 g1 rfl
  | false => exact (h2 rfl).le g1.mm H1 g1.mh Q fun v M' H' g p => q v M' H' (g1.trans g) p⟩
theorem gv_if [Mono P] (h : GvT tt σ M b) (h1 : b = true → Gv ta σ M P) (h2 : b = false → Gv tb σ M P) : Gv (tIf tt ta tb) σ M P := fun H mh Q q => h H mh _ fun M1 H1 g1 => by
  cases b with
  | true => exact (h1 rfl).le g1.mm H1 g1.mh Q fun v M' H' g p => q v M' H' (g1.trans g) p
  | false => exact (h2 rfl).le g1.mm H1 g1.mh Q fun v M' H' g p => q v M' H' (g1.trans g) p
/-- operators -/
theorem rv_pure {r : Hp → VK → Prop} (h : ∀ H, Same M H → ∀ Q : VK, Q v H → r H Q) (p : P M v) : RV r M P := fun H mh Q q => h H mh Q (q v M H (.refl mh) p)
theorem gv_eq {neg : Bool} {d e : PyData} (ha : Gv ta σ M (Dd K d)) (hb : Gv tb σ M (Dd K e)) (hz : d.depth ≤ 60) : Gv (tOp (rEqP K neg) ta tb) σ M (Bl (xor neg (PyData.eqv d e))) :=
  gv_op ha hb fun M' x y px py => rv_pure (fun H mh Q q => ⟨d, e, dp_mono mh px, dp_mono mh py, hz, q⟩) rfl
theorem gv_isN {ta : TE} [Mono P] (h : Gv ta σ M P) (e : ∀ M v, P M v → decide (v = .non) = b) : Gv (tIsN ta) σ M (Bl b) := fun H mh Q q => h H mh _ fun v M1 H1 g1 p => q _ M1 H1 g1 (by rw [e M1 v p])
theorem gv_notN {ta : TE} [Mono P] (h : Gv ta σ M P) (e : ∀ M v, P M v → decide (v = .non) = b) : Gv (tNotN ta) σ M (Bl (!b)) := fun H mh Q q => h H mh _ fun v M1 H1 g1 p => q _ M1 H1 g1 (by rw [e M1 v p])
/-- arguments -/
theorem ga_nil : GvA tNil σ M (fun _ vs => vs = []) := fun H mh Q q => q [] M H (.refl mh) rfl
/-- displays -/
theorem gv_tup {ta : TA} {R : Hp → List V → Prop} {P : Pr} (h : GvA ta σ M R) (hz : ∀ M vs, R M vs → vs.length ≤ sizeLine) (hp : ∀ M vs p, R M vs → M p = none → P (upd M p (.tup vs)) (.ref p)) : Gv (tTup ta) σ M P := fun H mh Q q =>
  h H mh _ fun vs M1 H1 g1 p1 => ⟨hz M1 vs p1, fun p np => q _ _ _ (g1.trans (.new g1.mh np)) (hp M1 vs p p1 (g1.mh.free np))⟩
theorem gl_lst {ta : TA} {R : Hp → List V → Prop} (h : GvA ta σ M R) (hz : ∀ M vs, R M vs → vs.length ≤ sizeLine) : GvL (tLst ta) σ M R := fun H mh Q q =>
  h H mh _ fun vs M1 H1 g1 p1 => ⟨hz M1 vs p1, fun p np => q p vs M1 _ (g1.trans (.own g1.mh np)) (g1.hh.free np) (g1.mh.free np) upd_same p1⟩
/-- our new list, known from now on -/
theorem GvL.gv {R : Hp → List V → Prop} (h : GvL te σ M R) (hp : ∀ M vs p, R M vs → M p = none → P (upd M p (.lst vs)) (.ref p)) : Gv te σ M P := fun H mh Q q =>
  h H mh Q fun p vs M' H' g h0 m0 hv r => q _ _ H' (g.freeze h0 m0 hv) (hp M' vs p r m0)
theorem GvL.le {R : Hp → List V → Prop} (hR : ∀ M M' vs, Same M M' → R M vs → R M' vs) (h : GvL te σ M R) (e : Same M M1) : GvL te σ M1 R := fun H mh Q q =>
  h H (e.trans mh) Q fun p vs M' H' g h0 m0 hv r => q p vs _ H' (g.join e mh).1 h0 (by rw [jn_none (mh.free h0)]; exact m0) hv (hR _ _ _ (g.join e mh).2 r)
end
end L3

set_option Elab.async false
set_option linter.all false
set_option maxRecDepth 100000
set_option maxHeartbeats 1000000
namespace L3
open PySem PySem.Spec PyProof.Rows L2
/-! walking a value: one rule for each kind of value, joined by «or» -/
abbrev RI := V → Hp → (It → Hp → Prop) → Prop
def PIv (X : Cx) (tg : Expr) (r : RI) : Prop :=
  ∀ {pins : List (Addr × Obj)} {s : Shared} {σ : Sl} {H : Hp} {R : It → Hp → Prop} {x : V} {u : Value}, Inv X pins σ H s → RelV x u → r x H R → wpAny (model X.prog X.w) X.A (pyIter u) (PIE X pins σ tg R) X.xe s
section
variable {X : Cx} {tg : Expr} {r r' : RI}
theorem PIv.or (h : PIv X tg r) (h' : PIv X tg r') : PIv X tg fun x H R => r x H R ∨ r' x H R := fun I rx q => q.elim (h I rx) (h' I rx)
theorem PIv.pi {l : Expr} {te : TE} (h : PIv X tg r) (hl : PE X l te) : PI X tg l fun σ H R => te σ H fun x H1 => r x H1 R where
  run pins s σ H R I q := thn (hl.run pins s σ H _ I q) fun u s1 ⟨_, _, I1, rx, q1⟩ => h I1 rx q1
theorem fps_new {pins : List (Addr × Obj)} {s : Shared} {σ : Sl} {H : Hp} {fp : List Addr} (I : Inv X pins σ H s) (h : ∀ b ∈ fp, s.heap.objs.size ≤ b) : ∀ b ∈ fp, FpOk X pins H b :=
  fun b hb => I.fpOk (h b hb) (I.hok.fresh (h b hb))
/-- a value whose iterator is one new object -/
theorem walk_new {pins : List (Addr × Obj)} {s : Shared} {σ : Sl} {H : Hp} {R : It → Hp → Prop} {u : Value} {o : Obj} {G : Heap → Prop} {J : It} {tn : Addr → Nat → Heap → Prop} (B : Begins u o G) (I : Inv X pins σ H s) (g : G s.heap)
    (T : ∀ it, Turn X.prog X.w X.K tg J [it] it (tn it)) (h0 : ∀ it h, h.get? it = some o → tn it 0 h) (q : R J H) : wpAny (model X.prog X.w) X.A (pyIter u) (PIE X pins σ tg R) X.xe s :=
  B.iter _ _ _ _ s _ g ⟨s.heap.objs.size, _, _, J, H, rfl, I.kept (t' := s.toks) (fun _ _ z => Heap.get?_push_of_some _ z), T _, h0 _ _ (Heap.get?_push_size _ B.free), fps_new I (by intro b hb; rw [List.mem_singleton.mp hb]; exact Nat.le_refl _), q⟩
def wLst (K : PySem.W.Frag) : RI := fun x H R => ∃ a xs, x = .ref a ∧ SqL K H a xs ∧ R (Itl K a) H
def wTup (K : PySem.W.Frag) : RI := fun x H R => ∃ a xs, x = .ref a ∧ SqT K H a xs ∧ R (Itt K a) H
theorem pv_lst : PIv X tg (wLst X.K) := fun I rx ⟨a, xs, ea, hs, q⟩ => by
  subst ea; cases rx
  let ⟨its, _, pl, _⟩ := I.list hs
  exact walk_new (begins_list a its.toArray) I pl.isList (turn_list a) (fun it h e => ⟨_, e, rfl, rfl⟩) q
theorem pv_tup : PIv X tg (wTup X.K) := fun I rx ⟨a, xs, ea, hs, q⟩ => by
  subst ea; cases rx
  let ⟨its, _, pl, _⟩ := I.tuple hs
  exact walk_new (begins_tuple a its.toArray) I pl (turn_tuple a) (fun it h e => ⟨_, e, rfl, rfl⟩) q
/-- a list or a tuple walked -/
def iSq (K : PySem.W.Frag) (te : TE) : TI := fun σ H R => te σ H fun x H1 => ∃ a, x = .ref a ∧ ((∃ xs, SqL K H1 a xs ∧ R (Itl K a) H1) ∨ ∃ xs, SqT K H1 a xs ∧ R (Itt K a) H1)
theorem pi_sq {l : Expr} {te : TE} (hl : PE X l te) : PI X tg l (iSq X.K te) :=
  PIv.pi (r := fun x H1 R => ∃ a, x = .ref a ∧ ((∃ xs, SqL X.K H1 a xs ∧ R (Itl X.K a) H1) ∨ ∃ xs, SqT X.K H1 a xs ∧ R (Itt X.K a) H1))
    (fun I rx ⟨a, ea, q⟩ => (pv_lst.or pv_tup) I rx (q.imp (fun ⟨xs, z⟩ => ⟨a, xs, ea, z⟩) fun ⟨xs, z⟩ => ⟨a, xs, ea, z⟩)) hl
end

/-! enumerate over anything whose items stand still -/
structure Still (P : Program) (w : World) (K : PySem.W.Frag) (a : Addr) (o : Obj) (rd : Hp → List V → Prop) (pt : Addr → Nat → Heap → Prop) (fx : List Value → Heap → Prop) : Prop where
  got : ∀ {X : Cx} {pins : List (Addr × Obj)} {σ : Sl} {H : Hp} {s : Shared} {xs : List V}, X.K = K → Inv X pins σ H s → rd H xs → ∃ its, Vals xs its ∧ fx its s.heap
  one : ∀ {X : Cx} {pins : List (Addr × Obj)} {σ : Sl} {H : Hp} {s : Shared} {xs ys : List V}, X.K = K → Inv X pins σ H s → rd H xs → rd H ys → xs = ys
  dr : ∀ {A : Around} {it : Addr} (its : List Value), A.handled = none → a ≠ it → Draws P w A it [it, a] its.toArray.size (fun i v => its.toArray[i]? = some v) (fun i h => pt it i h ∧ fx its h)
  live : ∀ {it : Addr} {i : Nat} {h : Heap}, pt it i h → ∃ ob, h.get? it = some ob ∧ ∀ v, ob.data ≠ .cell v
  mv : ∀ {it : Addr} {i : Nat} {h h' : Heap}, pt it i h → (∀ ob, h.get? it = some ob → h'.get? it = some ob) → pt it i h'
  lt : ∀ {its : List Value} {h : Heap}, fx its h → a < h.objs.size
  bg : ∀ its : List Value, Begins (.ref a) o (fx its)
  st : ∀ {it : Addr} {h : Heap}, h.get? it = some o → pt it 0 h
theorem still_lst {P : Program} {w : World} {K : PySem.W.Frag} (a : Addr) : Still P w K a { cls := .type "list_iterator", data := .fields #[.ref a, .int 0 0] } (fun H xs => SqL K H a xs) (fun it i h => h.IsListIter it a i) (fun its h => h.IsList a its.toArray) where
  got hk I h := by subst hk; let ⟨its, r, p, _⟩ := I.list h; exact ⟨its, r, p.isList⟩
  one hk I h h' := by subst hk; exact I.list_inj h h'
  dr its hh hn := Draws.list hh _ _ hn _
  live h := let ⟨ob, e, _, d⟩ := h; ⟨ob, e, fun v z => by rw [d] at z; exact nomatch z⟩
  mv h k := let ⟨ob, e, z⟩ := h; ⟨ob, k ob e, z⟩
  lt h := let ⟨_, e, _⟩ := h; Heap.lt_size e
  bg its := begins_list a its.toArray
  st h := ⟨_, h, rfl, rfl⟩
theorem still_tup {P : Program} {w : World} {K : PySem.W.Frag} (a : Addr) : Still P w K a { cls := .type "tuple_iterator", data := .fields #[.ref a, .int 0 0] } (fun H xs => SqT K H a xs) (fun it i h => h.IsTupleIter it a i) (fun its h => h.IsTuple a its.toArray) where
  got hk I h := by subst hk; let ⟨its, r, p, _⟩ := I.tuple h; exact ⟨its, r, p⟩
  one hk I h h' := by subst hk; exact I.tuple_inj h h'
  dr its hh hn := Draws.tuple hh _ _ hn _
  live h := let ⟨ob, e, _, d⟩ := h; ⟨ob, e, fun v z => by rw [d] at z; exact nomatch z⟩
  mv h k := let ⟨ob, e, z⟩ := h; ⟨ob, k ob e, z⟩
  lt h := let ⟨_, e, _⟩ := h; Heap.lt_size e
  bg its := begins_tuple a its.toArray
  st h := ⟨_, h, rfl, rfl⟩
/-- the walk: number and item as a new pair -/
def IeS (rd : Hp → List V → Prop) : It :=
  ⟨fun i H => ∃ xs, rd H xs ∧ i < xs.length, fun i H v H' => ∃ p x, v = .ref p ∧ H p = none ∧ H' = upd H p (.tup [.int (i : Nat), x]) ∧ ∀ xs, rd H xs → xs[i]? = some x, fun i H => ∃ xs, rd H xs ∧ xs.length = i⟩
theorem walk_eS {rd : Hp → List V → Prop} {xs : List V} : Walk (IeS rd) xs.length (fun H => rd H xs) (YPair (fun i => some (.int (i : Nat))) (fun i => xs[i]?)) :=
  ⟨fun _ _ hi q => ⟨xs, q, hi⟩, fun _ q => ⟨xs, q, rfl⟩, fun i _ _ _ _ q ⟨p, x, h1, h2, h3, h4⟩ => ⟨p, _, x, h1, h2, h3, rfl, h4 xs q⟩⟩
section
variable {P : Program} {w : World} {K : PySem.W.Frag} {a : Addr} {o : Obj} {rd : Hp → List V → Prop} {pt : Addr → Nat → Heap → Prop} {fx : List Value → Heap → Prop} {elts : List Expr} {kk : Nat} {tpos : Pos}
/-- where the two objects of the walk stand -/
def EnAt (pt : Addr → Nat → Heap → Prop) (e it : Addr) (i : Nat) (h : Heap) : Prop := ∃ old, IsEnum h e it (i : Nat) old ∧ pt it i h
theorem turn_eS (S : Still P w K a o rd pt fx) {e it : Addr} (n1 : e ≠ it) (n2 : e ≠ a) (n3 : a ≠ it) : Turn P w K (.Tuple elts kk tpos) (IeS rd) [e, it] e (EnAt pt e it) where
  mem := .head _
  obj := fun i h ⟨old, he, hp⟩ b hb => by
    cases hb with
    | head => exact ⟨_, he, fun v z => nomatch z⟩
    | tail _ hb => rw [List.mem_singleton.mp hb]; exact S.live hp
  keep := fun i h h' ⟨old, he, hp⟩ k => ⟨old, k e (.head _) _ he, S.mv hp (k it (.tail _ (.head _)))⟩
  self := fun A i s Q E ⟨old, he, _⟩ q => wpAny_pyIter_enum he q
  done := fun X e1 e2 e3 hc i pins s σ H E I hf ⟨old, he, hp⟩ ⟨xs, hx, hl⟩ => by
    subst e1 e2
    obtain ⟨its, rv, fx0⟩ := S.got e3 I hx
    have hi : i = its.toArray.size := by rw [List.size_toArray, ← rv.length, hl]
    subst hi
    have f := hf it (.tail _ (.head _))
    exact wpAny_pyNext_enum_endD (S.dr (A := X.A.in1) its (I.ok.hd hc) n3) he ⟨hp, fx0⟩ fun h' k => ⟨rfl, I.turned (t' := s.toks) k f.1 f.2.1 f.2.2.2.1 f.2.2.2.2.1 f.2.2.2.2.2⟩
  item := fun X e1 e2 e3 hc i pins s σ H E I hf ⟨old, he, hp⟩ ⟨xs, hx, hl⟩ => by
    subst e1 e2
    obtain ⟨its, rv, fx0⟩ := S.got e3 I hx
    have hlt : i < its.toArray.size := by rw [List.size_toArray, ← rv.length]; exact hl
    have be := Heap.lt_size he
    have bi : it < s.heap.objs.size := let ⟨_, z, _⟩ := S.live hp; Heap.lt_size z
    have out : e ∉ [it, a] := fun z => by
      cases z with
      | head => exact n1 rfl
      | tail _ z => exact n2 (List.mem_singleton.mp z)
    refine wpAny_pyNext_enum_itemD (S.dr (A := X.A.in1) its (I.ok.hd hc) n3) he ⟨hp, fx0⟩ hlt n1 out fun y h1 tk hy eo pt1 new _ kp => ⟨_, rfl, ?_⟩
    refine wpAny_letOwnedTupleGo_enum (s := { s with heap := h1, toks := tk + 1 }) eo fun h2 en sb => ?_
    obtain ⟨x, gx, rx⟩ : ∃ x, xs[i]? = some x ∧ RelV x y := by
      have z := rv.get (x := xs[i]) (List.getElem?_eq_getElem hl)
      obtain ⟨y', g, rr⟩ := z
      rw [List.getElem?_toArray, g] at hy
      exact ⟨_, List.getElem?_eq_getElem hl, Option.some.inj hy ▸ rr⟩
    have stands : h2.get? s.heap.objs.size = some { cls := .type "tuple", data := .seq #[.int i tk, y] } := (sb.2 _ (Nat.ne_of_gt be)).trans new
    have kept : ∀ b ob, b ∉ [e, it] → s.heap.get? b = some ob → h2.get? b = some ob := fun b ob hb z =>
      have m1 : b ≠ e := fun q => hb (q ▸ .head _)
      (sb.2 b m1).trans (kp b ob m1 (fun q => hb (q ▸ .tail _ (.head _))) z)
    have J := I.turnedNew (t' := tk + 1) (ob := .tup [.int (i : Nat), x]) kept hf (Nat.le_refl _) ⟨(by show 2 ≤ sizeLine; decide), [.int i tk, y], .cons ⟨_, rfl⟩ (.cons rx .nil), ⟨_, stands, rfl, _, rfl⟩⟩
    refine ⟨.ref s.heap.objs.size, _, J, rfl, ⟨_, x, rfl, I.hok.fresh (Nat.le_refl _), rfl, fun ys hy' => S.one e3 I hx hy' ▸ gx⟩, ⟨y, en, S.mv pt1.1 fun ob z => (sb.2 it (Ne.symm n1)).trans z⟩, fun b hb => ?_⟩
    have bb : b ≠ s.heap.objs.size := by
      cases hb with
      | head => exact Nat.ne_of_lt be
      | tail _ hb => rw [List.mem_singleton.mp hb]; exact Nat.ne_of_lt bi
    rw [upd_ne bb]
    exact (hf b hb).1
/-- enumerate(v): two new objects -/
theorem en_new {v : Value} {o : Obj} {G : Heap → Prop} (B : Begins v o G) : Meets (Builtin.«enumerate.__new__» ⟨[.type "enumerate", v], []⟩) fun _ R s => G s.heap ∧
    R (.ok (.ret (.ref (s.heap.push o).objs.size))) { s with heap := (s.heap.push o).push { cls := .type "enumerate", data := .fields #[.none, .bool false, .ref s.heap.objs.size, rawInt 0, .none, .none] } } := by
  refine Meets.of_wp fun prog w A R ⟨hp, gs, dn, tk, os⟩ q => ?_
  have isub := sub_enumerate
  have first {A' : Around} {E Q : Value → Shared → Prop} (z : Q (.ref hp.objs.size) ⟨hp.push o, gs, dn, tk, os⟩) : wpAny (model prog w) A' (pyIter v) Q E ⟨hp, gs, dn, tk, os⟩ := B.iter prog w A' E ⟨hp, gs, dn, tk, os⟩ Q q.1 z
  wp_walk using first
  refine wpAny_stack_any fun st => wpAny_pure ?_
  split
  next c _ _ _ _ _ => by_cases hcl : (c == Value.type "enumerate") = true <;> simp only [hcl] <;> wp_walk using first <;> exact ⟨_, rfl, q.2⟩
  next => wp_walk using first; exact ⟨_, rfl, q.2⟩
theorem en_walk {X : Cx} {pins : List (Addr × Obj)} {s : Shared} {σ : Sl} {H : Hp} {R : It → Hp → Prop} {xs : List V} (S : Still X.prog X.w X.K a o rd pt fx) (I : Inv X pins σ H s) (hx : rd H xs) (q : R (IeS rd) H) :
    wpAny (model X.prog X.w) X.A (call (.type "enumerate") [.ref a]) (fun v s1 => wpAny (model X.prog X.w) X.A (pyIter v) (PIE X pins σ (.Tuple elts kk tpos) R) X.xe s1) X.xe s := by
  obtain ⟨its, _, f0⟩ := S.got rfl I hx
  have la := S.lt f0
  have B := S.bg its
  have hN : (s.heap.push o).objs.size = s.heap.objs.size + 1 := Heap.size_push ..
  apply callType_new F.called_enumerate (by decide) (F.typeCall_enumerate_1 _) (F.newCall_enumerate_1 _) (fun ob => F.args_object_init_2 ob _) F.entry_enumerate_new (en_new B)
  refine ⟨f0, ?_⟩
  have top := Heap.get?_push_size (s.heap.push o) (o := ({ cls := .type "enumerate", data := .fields #[.none, .bool false, .ref s.heap.objs.size, rawInt 0, .none, .none] } : Obj)) rfl
  have below : ∀ b ob, (s.heap.push o).get? b = some ob → ((s.heap.push o).push { cls := .type "enumerate", data := .fields #[.none, .bool false, .ref s.heap.objs.size, rawInt 0, .none, .none] }).get? b = some ob := fun b ob z => Heap.get?_push_of_some _ z
  refine ⟨⟨_, top, rfl⟩, ?_⟩
  rw [hN] at top ⊢
  refine wpAny_pyIter_enum top ⟨_, [s.heap.objs.size + 1, s.heap.objs.size], _, IeS rd, H, rfl, I.kept (t' := s.toks) (fun b ob z => below b ob (Heap.get?_push_of_some _ z)), turn_eS S (Nat.succ_ne_self _) (Nat.ne_of_gt (Nat.lt_succ_of_lt la)) (Nat.ne_of_lt la), ⟨.none, top, S.st (below _ _ (Heap.get?_push_size _ B.free))⟩, fps_new I fun b hb => ?_, q⟩
  cases hb with
  | head => exact Nat.le_succ _
  | tail _ hb => rw [List.mem_singleton.mp hb]; exact Nat.le_refl _
end
def iEn (K : PySem.W.Frag) (ta : TA) : TI := fun σ H R => ta σ H fun vs H1 => ∃ a, vs = [.ref a] ∧ ((∃ xs, SqL K H1 a xs ∧ R (IeS fun H xs => SqL K H a xs) H1) ∨ ∃ xs, SqT K H1 a xs ∧ R (IeS fun H xs => SqT K H a xs) H1)
theorem pi_en {X : Cx} {e : Expr} {ta : TA} {p pos tpos : Pos} {elts : List Expr} {kk : Nat} (hg : Gl X "enumerate") (hm : X.mg "enumerate" = none) (ha : PA X [e] ta) (hs : starEach [e] X.env = [(false, eval e X.env)] := by rfl) :
    PI X (.Tuple elts kk tpos) (.Call (.Name "enumerate" p) [e] [] pos) (iEn X.K ta) where
  run pins s σ H R I h := by
    refine Call_ (ld_blt I hg hm boot_enumerate (PyProof.Rows.callWith_type1 (thn (ha.run pos pins s σ H _ I h) fun us s1 z => ?_) hs rfl))
    obtain ⟨vs, H1, I1, rvs, a, rfl, q⟩ := z
    obtain ⟨_, rfl, rfl⟩ := vals1 rvs
    rcases q with ⟨xs, hx, q⟩ | ⟨xs, hx, q⟩
    · exact en_walk (still_lst a) I1 hx q
    · exact en_walk (still_tup a) I1 hx q
end L3

set_option Elab.async false
set_option linter.all false
set_option maxRecDepth 100000
set_option maxHeartbeats 1000000
namespace L3
open PySem PySem.Spec PyProof.Rows L2
/-! typed relations -/
abbrev Rl (α : Type) := α → Pr
class Mon {α : Type} (R : Rl α) : Prop where
  mono : ∀ {x : α} {M M' : Hp} {v : V}, Same M M' → R x M v → R x M' v
instance {α : Type} {R : Rl α} [h : Mon R] {x : α} : Mono (R x) := ⟨fun e p => h.mono e p⟩
instance : Mon Tx := ⟨fun _ h => h⟩
instance : Mon It' := ⟨fun _ h => h⟩
instance : Mon Bl := ⟨fun _ h => h⟩
instance {K : PySem.W.Frag} : Mon (Dd K) := ⟨fun e h => dp_mono e h⟩
abbrev Pd {α : Type} (R : Rl α) (M : Hp) : List α → List V → Prop := Paired fun x v => R x M v
theorem Pd.mono {α : Type} {R : Rl α} [Mon R] {M M' : Hp} (e : Same M M') {xs : List α} {vs : List V} (h : Pd R M xs vs) : Pd R M' xs vs := Paired.mapP h fun _ _ q => Mon.mono e q
theorem pd_get {α β : Type} {F : α → β → Prop} : ∀ {xs : List α} {vs : List β} {i : Nat} {x : α}, Paired F xs vs → xs[i]? = some x → ∃ v, vs[i]? = some v ∧ F x v
  | _, _, _, _, .nil, e => by simp at e
  | _, _, 0, _, .cons h _, e => by
    have e' := Option.some.inj (show some _ = some _ from e)
    subst e'
    exact ⟨_, rfl, h⟩
  | _, _, i + 1, _, .cons _ t, e => pd_get (i := i) t (by simpa using e)
theorem pd_get' {α β : Type} {F : α → β → Prop} : ∀ {xs : List α} {vs : List β} {i : Nat} {v : β}, Paired F xs vs → vs[i]? = some v → ∃ x, xs[i]? = some x ∧ F x v
  | _, _, _, _, .nil, e => by simp at e
  | _, _, 0, _, .cons h _, e => by
    have e' := Option.some.inj (show some _ = some _ from e)
    subst e'
    exact ⟨_, rfl, h⟩
  | _, _, i + 1, _, .cons _ t, e => pd_get' (i := i) t (by simpa using e)
theorem pd_app {α β : Type} {F : α → β → Prop} : ∀ {xs ys : List α} {vs ws : List β}, Paired F xs vs → Paired F ys ws → Paired F (xs ++ ys) (vs ++ ws)
  | _, _, _, _, .nil, s => s
  | _, _, _, _, .cons r t, s => .cons r (pd_app t s)
theorem pd_take {α β : Type} {F : α → β → Prop} : ∀ {xs : List α} {vs : List β} (n : Nat), Paired F xs vs → Paired F (xs.take n) (vs.take n)
  | _, _, 0, _ => .nil
  | _, _, _ + 1, .nil => .nil
  | _, _, n + 1, .cons r t => .cons r (pd_take n t)
theorem pd_drop {α β : Type} {F : α → β → Prop} : ∀ {xs : List α} {vs : List β} (n : Nat), Paired F xs vs → Paired F (xs.drop n) (vs.drop n)
  | _, _, 0, h => h
  | _, _, _ + 1, .nil => .nil
  | _, _, n + 1, .cons _ t => pd_drop n t
def TupR (K : PySem.W.Frag) {α : Type} (R : Rl α) : Rl (List α) := fun xs M v => ∃ a vs, v = .ref a ∧ SqT K M a vs ∧ Pd R M xs vs
def LstR (K : PySem.W.Frag) {α : Type} (R : Rl α) : Rl (List α) := fun xs M v => ∃ a vs, v = .ref a ∧ SqL K M a vs ∧ Pd R M xs vs
def SqR (K : PySem.W.Frag) {α : Type} (R : Rl α) : Rl (List α) := fun xs M v => LstR K R xs M v ∨ TupR K R xs M v
section
variable {K : PySem.W.Frag} {α : Type} {R : Rl α}
instance [Mon R] : Mon (TupR K R) := ⟨fun e ⟨a, vs, h1, h2, h3⟩ => ⟨a, vs, h1, st_mono e h2, h3.mono e⟩⟩
instance [Mon R] : Mon (LstR K R) := ⟨fun e ⟨a, vs, h1, h2, h3⟩ => ⟨a, vs, h1, sl_mono e h2, h3.mono e⟩⟩
instance [Mon R] : Mon (SqR K R) := ⟨fun e h => h.imp (Mon.mono e) (Mon.mono e)⟩
theorem TupR.sq {xs : List α} {M : Hp} {v : V} (h : TupR K R xs M v) : SqR K R xs M v := .inr h
theorem LstR.sq {xs : List α} {M : Hp} {v : V} (h : LstR K R xs M v) : SqR K R xs M v := .inl h
/-- as data -/
def PyR (K : PySem.W.Frag) (R : Rl α) (e : α → PyData) : Prop := ∀ x M v, R x M v → Dp K M v (e x)
theorem py_str : PyR K Tx PyData.str := fun x M v h => by cases (show v = .str x from h); exact .str x
theorem py_int : PyR K It' PyData.int := fun x M v h => by cases (show v = .int x from h); exact .int x
theorem py_all {e : α → PyData} (h : PyR K R e) {M : Hp} : ∀ {xs : List α} {vs : List V}, Pd R M xs vs → DpAll K M vs (xs.map e)
  | _, _, .nil => .nil
  | _, _, .cons q t => .cons (h _ _ _ q) (py_all h t)
theorem py_tup {e : α → PyData} (h : PyR K R e) : PyR K (TupR K R) fun xs => .tuple (xs.map e) := fun xs M v ⟨a, vs, h1, h2, h3⟩ => by subst h1; exact .tup h2 (py_all h h3)
theorem py_lst {e : α → PyData} (h : PyR K R e) : PyR K (LstR K R) fun xs => .list (xs.map e) := fun xs M v ⟨a, vs, h1, h2, h3⟩ => by subst h1; exact .lst h2 (py_all h h3)
theorem py_sq {e : α → PyData} (h : PyR K R e) {xs : List α} {M : Hp} {v : V} (q : SqR K R xs M v) : Sq K (xs.map e) M v := q.imp (py_lst h _ _ _) (py_tup h _ _ _)
/-- e tells things apart as == does -/
def Inj (e : α → PyData) [DecidableEq α] : Prop := ∀ x y, PyData.eqv (e x) (e y) = decide (x = y)
theorem str_beq (x y : Str) : (x == y) = decide (x = y) := by
  by_cases h : x = y
  · subst h; simp
  · rw [decide_eq_false h]; exact beq_eq_false_iff_ne.mpr h
theorem inj_str : Inj PyData.str := fun x y => by simp only [PyData.eqv]; exact str_beq x y
theorem inj_int : Inj PyData.int := fun x y => by
  simp only [PyData.eqv]
  by_cases h : x = y
  · subst h; simp
  · rw [decide_eq_false h]; exact beq_eq_false_iff_ne.mpr h
theorem inj_all {e : α → PyData} [DecidableEq α] (h : Inj e) : ∀ xs ys : List α, PyData.eqvAll (xs.map e) (ys.map e) = decide (xs = ys)
  | [], [] => by simp [PyData.eqvAll]
  | [], _ :: _ => by simp [PyData.eqvAll]
  | _ :: _, [] => by simp [PyData.eqvAll]
  | x :: xs, y :: ys => by
    simp only [List.map_cons, PyData.eqvAll, h x y, inj_all h xs ys]
    by_cases h1 : x = y <;> by_cases h2 : xs = ys <;> simp [h1, h2]
theorem inj_tup {e : α → PyData} [DecidableEq α] (h : Inj e) : Inj fun xs : List α => PyData.tuple (xs.map e) := fun xs ys => by simp only [PyData.eqv]; exact inj_all h xs ys
theorem inj_lst {e : α → PyData} [DecidableEq α] (h : Inj e) : Inj fun xs : List α => PyData.list (xs.map e) := fun xs ys => by simp only [PyData.eqv]; exact inj_all h xs ys
theorem any_mem {e : α → PyData} [DecidableEq α] (h : Inj e) (x : α) : ∀ xs : List α, ((xs.map e).any fun z => PyData.eqv z (e x)) = decide (x ∈ xs)
  | [] => by simp
  | y :: ys => by
    rw [List.map_cons, List.any_cons, any_mem h x ys, h y x]
    by_cases h1 : x = y
    · subst h1; simp
    · have h2 : ¬ y = x := fun z => h1 z.symm
      simp [h1, h2]
end
section
variable {K : PySem.W.Frag} {σ : Sl} {M : Hp} {ta tb te ts : TE} {tt : TT} {α β : Type} {R : Rl α} {S : Rl β}
theorem gv_eqT {e : α → PyData} [DecidableEq α] [Mon R] {neg : Bool} {x y : α} (pe : PyR K R e) (ie : Inj e) (ha : Gv ta σ M (R x)) (hb : Gv tb σ M (R y)) (hz : (e x).depth ≤ 60) : Gv (tOp (rEqP K neg) ta tb) σ M (Bl (xor neg (decide (x = y)))) := by
  rw [← ie]
  exact gv_eq (gv_is ha fun M v h => pe _ _ _ h) (gv_is hb fun M v h => pe _ _ _ h) hz
theorem wipe1 {j : Nat} {v : V} : wipe ((wipe σ [j]).set j (some v)) [j] = wipe σ [j] := by
  show ((σ.set j none).set j (some v)).set j none = σ.set j none
  rw [List.set_set, List.set_set]
/-- a comprehension over a list or tuple -/
theorem gl_lc [Mon R] [Mon S] {j : Nat} {xs : List α} (hsrc : Gv ts σ M (SqR K R xs)) (hz : xs.length ≤ sizeLine) (t : α → Bool) (f : α → β)
    (ht : ∀ x ∈ xs, ∀ M1 v, Same M M1 → R x M1 v → GvT tt ((wipe σ [j]).set j (some v)) M1 (t x))
    (he : ∀ x ∈ xs, t x = true → ∀ M1 v, Same M M1 → R x M1 v → Gv te ((wipe σ [j]).set j (some v)) M1 (S (f x))) :
    GvL (tLc (iSq K ts) (gName j) tt te [j]) σ M fun M vs => Pd S M ((xs.filter t).map f) vs := by
  intro H mh Q q
  refine hsrc H mh _ fun v M1 H1 g1 hv => ?_
  have core : ∀ (J : It) (G : Hp → Prop) (vs : List V), Walk J vs.length G (YAt vs) → (∀ M2 H2, Same M1 M2 → Same M2 H2 → G H2) → Pd R M1 xs vs →
      ∀ D, H1 D = none → ∃ W : Nat → Nat → Hp → Prop, (∃ m, W 0 m (upd H1 D (.lst []))) ∧ ∀ i m H, W i m H →
        (J.stop i H ∧ Q (.ref D) H) ∨ (J.go i H ∧ ∃ Nx : Hp → Prop, (∀ H', Nx H' → ∃ m', m' < m ∧ W (i + 1) m' H') ∧ ∀ x H', J.yld i H x H' → gName j x (wipe σ [j]) H' fun σ2 H2 => wipe σ2 [j] = wipe σ [j] ∧ tt σ2 H2 fun b H3 =>
          if b = true then te σ2 H3 fun y H4 => ∃ acc, H4 D = some (.lst acc) ∧ acc.length < sizeLine ∧ Nx (upd H4 D (.lst (acc ++ [y]))) else Nx H3) := by
    intro J G vs w hG hp D hD
    refine lc_it w (fun i H' => ∃ M' ws, Gr M1 H1 M' H' ∧ M' D = none ∧ H' D = some (.lst ws) ∧ ws.length ≤ i ∧ Pd S M' (((xs.take i).filter t).map f) ws) ⟨M1, [], .own g1.mh hD, g1.mh.free hD, upd_same, Nat.le_refl _, .nil⟩ (fun i H' _ ⟨M', ws, g, _⟩ => hG M' H' g.mm g.mh) ?_ ?_
    · rintro i y H' H'' hi ⟨M', ws, g, m0, hw, hl, hpd⟩ ⟨rfl, hy⟩
      obtain ⟨x, hx, rx⟩ := pd_get' hp hy
      have hxm : x ∈ xs := List.mem_of_getElem? hx
      have et : xs.take (i + 1) = xs.take i ++ [x] := by rw [List.take_add_one, hx]; rfl
      have hil : i < xs.length := (List.getElem?_eq_some_iff.mp hx).1
      refine ⟨wipe1, ht x hxm M' y (g1.mm.trans g.mm) (Mon.mono g.mm rx) H'' g.mh _ fun M2 H2 g2 => ?_⟩
      cases ex : t x with
      | true =>
        refine he x hxm ex M2 y ((g1.mm.trans g.mm).trans g2.mm) (Mon.mono (g.mm.trans g2.mm) rx) H2 g2.mh _ fun z M3 H3 g3 hz3 => ?_
        have g' := (g.trans g2).trans g3
        have k3 : H3 D = some (.lst ws) := g3.hh _ _ (g2.hh _ _ hw)
        have m3 : M3 D = none := (g2.trans g3).keep m0 hw
        refine ⟨ws, k3, Nat.lt_of_lt_of_le (Nat.lt_of_le_of_lt hl hil) hz, M3, ws ++ [z], g'.mut hD m3, m3, upd_same, by rw [List.length_append]; exact Nat.succ_le_succ hl, ?_⟩
        rw [et, List.filter_append, List.map_append, List.filter_cons, ex]
        exact pd_app (hpd.mono (g2.mm.trans g3.mm)) (.cons hz3 .nil)
      | false =>
        refine ⟨M2, ws, g.trans g2, g2.keep m0 hw, g2.hh _ _ hw, Nat.le_succ_of_le hl, ?_⟩
        rw [et, List.filter_append, List.map_append, List.filter_cons, ex]
        show Pd S M2 (_ ++ []) ws
        rw [List.append_nil]
        exact hpd.mono g2.mm
    · rintro H' ⟨M', ws, g, m0, hw, hl, hpd⟩
      rw [List.take_of_length_le (by rw [hp.length]; exact Nat.le_refl _)] at hpd
      exact q D ws M' H' (g1.trans g) (g1.hh.free hD) m0 hw hpd
  rcases hv with ⟨a, vs, rfl, hs, hp⟩ | ⟨a, vs, rfl, hs, hp⟩
  · exact ⟨a, rfl, .inl ⟨vs, sl_mono g1.mh hs, core (Itl K a) (fun H => SqL K H a vs) vs walk_list (fun M2 H2 s1 s2 => sl_mono (s1.trans s2) hs) hp⟩⟩
  · exact ⟨a, rfl, .inr ⟨vs, st_mono g1.mh hs, core (Itt K a) (fun H => SqT K H a vs) vs walk_tup (fun M2 H2 s1 s2 => st_mono (s1.trans s2) hs) hp⟩⟩
end
end L3

set_option Elab.async false
set_option linter.all false
set_option maxRecDepth 100000
set_option maxHeartbeats 1000000
namespace L3
open PySem PySem.Spec PyProof.Rows L2
/-! promises of pure defs -/
section
variable {α β γ : Type}
def sp1 (R1 : Rl α) (pre : α → Prop) (R : α → Pr) : Sp := fun vs H Q _ => ∃ x M v, vs = [v] ∧ Same M H ∧ R1 x M v ∧ pre x ∧ ∀ u M' H', Gr M H M' H' → R x M' u → Q u H'
def sp2 (R1 : Rl α) (R2 : Rl β) (pre : α → β → Prop) (R : α → β → Pr) : Sp := fun vs H Q _ => ∃ x y M v w, vs = [v, w] ∧ Same M H ∧ R1 x M v ∧ R2 y M w ∧ pre x y ∧ ∀ u M' H', Gr M H M' H' → R x y M' u → Q u H'
/-- a new list comes back -/
def sl1 (R1 : Rl α) (pre : α → Prop) (R : α → Hp → List V → Prop) : Sp := fun vs H Q _ => ∃ x M v, vs = [v] ∧ Same M H ∧ R1 x M v ∧ pre x ∧
  ∀ p ws M' H', Gr M H M' H' → H p = none → M' p = none → H' p = some (.lst ws) → R x M' ws → Q (.ref p) H'
def sl2 (R1 : Rl α) (R2 : Rl β) (pre : α → β → Prop) (R : α → β → Hp → List V → Prop) : Sp := fun vs H Q _ => ∃ x y M v w, vs = [v, w] ∧ Same M H ∧ R1 x M v ∧ R2 y M w ∧ pre x y ∧
  ∀ p ws M' H', Gr M H M' H' → H p = none → M' p = none → H' p = some (.lst ws) → R x y M' ws → Q (.ref p) H'
variable {K : PySem.W.Frag} {σ : Sl} {M : Hp} {t1 t2 t3 ta te ts : TE} {R1 : Rl α} {R2 : Rl β} {R3 : Rl γ} {E : XK}
theorem gv_call1 {pre : α → Prop} {R : α → Pr} {x : α} (h1 : Gv t1 σ M (R1 x)) (hp : pre x) : Gv (tCall (sp1 R1 pre R) [] E (tCons t1 tNil)) σ M (R x) := fun H mh Q q =>
  h1 H mh _ fun v M1 H1 g1 p1 => ⟨x, M1, v, rfl, g1.mh, p1, hp, fun u M' H' g r => q u M' H' (g1.trans g) r⟩
theorem gv_call2 [Mon R1] [Mon R2] {pre : α → β → Prop} {R : α → β → Pr} {x : α} {y : β} (h1 : Gv t1 σ M (R1 x)) (h2 : Gv t2 σ M (R2 y)) (hp : pre x y) : Gv (tCall (sp2 R1 R2 pre R) [] E (tCons t1 (tCons t2 tNil))) σ M (R x y) := fun H mh Q q =>
  h1 H mh _ fun v M1 H1 g1 p1 => h2.le g1.mm H1 g1.mh _ fun w M2 H2 g2 p2 => ⟨x, y, M2, v, w, rfl, g2.mh, Mon.mono g2.mm p1, p2, hp, fun u M' H' g r => q u M' H' ((g1.trans g2).trans g) r⟩
theorem gl_call2 [Mon R1] [Mon R2] {pre : α → β → Prop} {R : α → β → Hp → List V → Prop} {x : α} {y : β} (h1 : Gv t1 σ M (R1 x)) (h2 : Gv t2 σ M (R2 y)) (hp : pre x y) : GvL (tCall (sl2 R1 R2 pre R) [] E (tCons t1 (tCons t2 tNil))) σ M (R x y) := fun H mh Q q =>
  h1 H mh _ fun v M1 H1 g1 p1 => h2.le g1.mm H1 g1.mh _ fun w M2 H2 g2 p2 => ⟨x, y, M2, v, w, rfl, g2.mh, Mon.mono g2.mm p1, p2, hp, fun p ws M' H' g h0 m0 hw r => q p ws M' H' ((g1.trans g2).trans g) ((g1.trans g2).hh.free h0) m0 hw r⟩
/-! built-ins -/
theorem gv_cb1 {r : List V → Hp → VK → Prop} {P P' : Pr} [Mono P] (h : Gv te σ M P) (hr : ∀ M' v, P M' v → RV (r [v]) M' P') : Gv (tCB r (tCons te tNil)) σ M P' := fun H mh Q q =>
  h H mh _ fun v M1 H1 g1 p1 => hr M1 v p1 H1 g1.mh Q fun u M' H' g r => q u M' H' (g1.trans g) r
theorem pd_bl {bs : List Bool} {M : Hp} : ∀ {vs : List V}, Pd Bl M bs vs → vs = bs.map V.bl := by
  induction bs with
  | nil => intro vs h; cases h; rfl
  | cons b bs ih => intro vs h; cases h with | cons q t => rw [ih t, (show _ = V.bl b from q)]; rfl
theorem pd_tx {xs : List Str} {M : Hp} : ∀ {vs : List V}, Pd Tx M xs vs → vs = xs.map V.str := by
  induction xs with
  | nil => intro vs h; cases h; rfl
  | cons b bs ih => intro vs h; cases h with | cons q t => rw [ih t, (show _ = V.str b from q)]; rfl
theorem pd_of_tx {M : Hp} : ∀ (xs : List Str), Pd Tx M xs (xs.map V.str)
  | [] => .nil
  | _ :: r => .cons rfl (pd_of_tx r)
theorem gv_all {bs : List Bool} (h : GvL te σ M fun M vs => Pd Bl M bs vs) : Gv (tCB (rAll K) (tCons te tNil)) σ M (Bl (bs.all id)) := fun H mh Q q =>
  h H mh _ fun p vs M' H' g h0 m0 hw r => ⟨p, bs, rfl, by rw [pd_bl r] at hw; exact .inl (.inl hw), q _ M' H' g rfl⟩
theorem gv_any {bs : List Bool} (h : GvL te σ M fun M vs => Pd Bl M bs vs) : Gv (tCB (rAny K) (tCons te tNil)) σ M (Bl (bs.any id)) := fun H mh Q q =>
  h H mh _ fun p vs M' H' g h0 m0 hw r => ⟨p, bs, rfl, by rw [pd_bl r] at hw; exact .inl (.inl hw), q _ M' H' g rfl⟩
def rTupOf (K : PySem.W.Frag) : List V → Hp → VK → Prop := fun xs H Q => ∃ p ys, xs = [.ref p] ∧ ((SqL K H p ys ∧ ∀ l, H l = none → Q (.ref l) (upd H l (.tup ys))) ∨ (SqT K H p ys ∧ Q (.ref p) H))
def rLstOf (K : PySem.W.Frag) : List V → Hp → VK → Prop := fun xs H Q => ∃ p ys, xs = [.ref p] ∧ (SqL K H p ys ∨ SqT K H p ys) ∧ ∀ l, H l = none → Q (.ref l) (upd H l (.lst ys))
def rLenOf (K : PySem.W.Frag) : List V → Hp → VK → Prop := fun xs H Q => ∃ p ys, xs = [.ref p] ∧ (SqL K H p ys ∨ SqT K H p ys) ∧ Q (.int ys.length) H
theorem gl_lstOf [Mon R1] {xs : List α} (h : Gv te σ M (SqR K R1 xs)) : GvL (tCB (rLstOf K) (tCons te tNil)) σ M fun M vs => Pd R1 M xs vs := fun H mh Q q =>
  h H mh _ fun v M1 H1 g1 hv => by
    rcases hv with ⟨a, vs, rfl, hs, hp⟩ | ⟨a, vs, rfl, hs, hp⟩
    · exact ⟨a, vs, rfl, .inl (sl_mono g1.mh hs), fun l nl => q l vs M1 _ (g1.trans (.own g1.mh nl)) (g1.hh.free nl) (g1.mh.free nl) upd_same hp⟩
    · exact ⟨a, vs, rfl, .inr (st_mono g1.mh hs), fun l nl => q l vs M1 _ (g1.trans (.own g1.mh nl)) (g1.hh.free nl) (g1.mh.free nl) upd_same hp⟩
/-! texts cut -/
/-! loops -/
variable {D : Ends} {tb : TS}
theorem s_for [Mon R1] {j : Nat} {xs : List α} {H : Hp} (mh : Same M H) (hsrc : Gv ts σ M (SqR K R1 xs)) (Pv : Hp → Nat → Sl → Hp → Hp → Prop)
    (h0 : ∀ M1 H1, Gr M H M1 H1 → Pv M1 0 σ M1 H1) (hk : ∀ M1 i σ' M' H', Pv M1 i σ' M' H' → Same M1 M' ∧ Same M' H')
    (hs : ∀ M1 i x v σ' M' H', Same M M1 → xs[i]? = some x → Pv M1 i σ' M' H' → R1 x M' v → tb { D with nx := fun σ2 H2 => ∃ M2, Pv M1 (i + 1) σ2 M2 H2, ct := fun σ2 H2 => ∃ M2, Pv M1 (i + 1) σ2 M2 H2, bk := D.nx } (σ'.set j (some v)) H')
    (hd : ∀ M1 σ' M' H', Same M M1 → Pv M1 xs.length σ' M' H' → D.nx σ' H') : tFor (iSq K ts) (gName j) tb D σ H := by
  refine hsrc H mh _ fun v M1 H1 g1 hv => ?_
  have core : ∀ (J : It) (G : Hp → Prop) (vs : List V), Walk J vs.length G (YAt vs) → (∀ M2 H2, Same M1 M2 → Same M2 H2 → G H2) → Pd R1 M1 xs vs →
      ∃ W : Nat → Nat → L2.St → Hp → Prop, (∃ m, W 0 m σ H1) ∧ ∀ i m σ H, W i m σ H →
        (J.stop i H ∧ D.nx σ H) ∨ (J.go i H ∧ ∃ N : L2.St → Hp → Prop, (∀ σ' H', N σ' H' → ∃ m', m' < m ∧ W (i + 1) m' σ' H') ∧ ∀ x H', J.yld i H x H' → gName j x σ H' fun σ2 H2 => tb { D with nx := N, ct := N, bk := D.nx } σ2 H2) := by
    intro J G vs w hG hp
    refine for_it w (fun i σ' H' => ∃ M', Pv M1 i σ' M' H') ⟨M1, h0 M1 H1 g1⟩ (fun i σ' H' _ ⟨M', p⟩ => hG M' H' (hk _ _ _ _ _ p).1 (hk _ _ _ _ _ p).2) ?_ ?_
    · rintro i y σ' H' H'' hi ⟨M', p⟩ ⟨rfl, hy⟩
      obtain ⟨x, hx, rx⟩ := pd_get' hp hy
      exact hs M1 i x y σ' M' _ g1.mm hx p (Mon.mono (hk _ _ _ _ _ p).1 rx)
    · rintro σ' H' ⟨M', p⟩
      rw [← hp.length] at p
      exact hd M1 σ' M' H' g1.mm p
  rcases hv with ⟨a, vs, rfl, hs', hp⟩ | ⟨a, vs, rfl, hs', hp⟩
  · exact ⟨a, rfl, .inl ⟨vs, sl_mono g1.mh hs', core (Itl K a) (fun H => SqL K H a vs) vs walk_list (fun M2 H2 s1 s2 => sl_mono (s1.trans s2) hs') hp⟩⟩
  · exact ⟨a, rfl, .inr ⟨vs, st_mono g1.mh hs', core (Itt K a) (fun H => SqT K H a vs) vs walk_tup (fun M2 H2 s1 s2 => st_mono (s1.trans s2) hs') hp⟩⟩
/-- for i, x in enumerate(xs) -/
theorem s_forE [Mon R1] {j k : Nat} {xs : List α} {H : Hp} (mh : Same M H) (hsrc : Gv ts σ M (SqR K R1 xs)) (Pv : Hp → Nat → Sl → Hp → Hp → Prop)
    (h0 : ∀ M1 H1, Gr M H M1 H1 → Pv M1 0 σ M1 H1) (hk : ∀ M1 i σ' M' H', Pv M1 i σ' M' H' → Same M1 M' ∧ Same M' H')
    (hs : ∀ M1 i x v σ' M' H' H'', Same M M1 → xs[i]? = some x → Pv M1 i σ' M' H' → Gr M' H' M' H'' → R1 x M' v →
      tb { D with nx := fun σ2 H2 => ∃ M2, Pv M1 (i + 1) σ2 M2 H2, ct := fun σ2 H2 => ∃ M2, Pv M1 (i + 1) σ2 M2 H2, bk := D.nx } ((σ'.set j (some (.int (i : Nat)))).set k (some v)) H'')
    (hd : ∀ M1 σ' M' H', Same M M1 → Pv M1 xs.length σ' M' H' → D.nx σ' H') : tFor (iEn K (tCons ts tNil)) (gTup K 2 (gCons (gName j) (gCons (gName k) gNil))) tb D σ H := by
  refine hsrc H mh _ fun v M1 H1 g1 hv => ?_
  have core : ∀ (J : It) (G : Hp → Prop) (vs : List V), Walk J vs.length G (YPair (fun i => some (.int (i : Nat))) fun i => vs[i]?) → (∀ M2 H2, Same M1 M2 → Same M2 H2 → G H2) → Pd R1 M1 xs vs →
      ∃ W : Nat → Nat → L2.St → Hp → Prop, (∃ m, W 0 m σ H1) ∧ ∀ i m σ H, W i m σ H →
        (J.stop i H ∧ D.nx σ H) ∨ (J.go i H ∧ ∃ N : L2.St → Hp → Prop, (∀ σ' H', N σ' H' → ∃ m', m' < m ∧ W (i + 1) m' σ' H') ∧ ∀ x H', J.yld i H x H' → gTup K 2 (gCons (gName j) (gCons (gName k) gNil)) x σ H' fun σ2 H2 => tb { D with nx := N, ct := N, bk := D.nx } σ2 H2) := by
    intro J G vs w hG hp
    refine for_it w (fun i σ' H' => ∃ M', Pv M1 i σ' M' H') ⟨M1, h0 M1 H1 g1⟩ (fun i σ' H' _ ⟨M', p⟩ => hG M' H' (hk _ _ _ _ _ p).1 (hk _ _ _ _ _ p).2) ?_ ?_
    · rintro i y σ' H' H'' hi ⟨M', p⟩ ⟨T, x1, x2, rfl, nT, rfl, e1, hy⟩
      cases e1
      obtain ⟨x, hx, rx⟩ := pd_get' hp hy
      have km := hk _ _ _ _ _ p
      refine ⟨T, _, rfl, .inl (.inl upd_same), rfl, _, _, rfl, _, _, rfl, rfl, ?_⟩
      exact hs M1 i x x2 σ' M' H' _ g1.mm hx p (.own km.2 nT) (Mon.mono km.1 rx)
    · rintro σ' H' ⟨M', p⟩
      rw [← hp.length] at p
      exact hd M1 σ' M' H' g1.mm p
  rcases hv with ⟨a, vs, rfl, hs', hp⟩ | ⟨a, vs, rfl, hs', hp⟩
  · exact ⟨a, rfl, .inl ⟨vs, sl_mono g1.mh hs', core (IeS fun H xs => SqL K H a xs) (fun H => SqL K H a vs) vs walk_eS (fun M2 H2 s1 s2 => sl_mono (s1.trans s2) hs') hp⟩⟩
  · exact ⟨a, rfl, .inr ⟨vs, st_mono g1.mh hs', core (IeS fun H xs => SqT K H a xs) (fun H => SqT K H a vs) vs walk_eS (fun M2 H2 s1 s2 => st_mono (s1.trans s2) hs') hp⟩⟩
end
end L3

set_option Elab.async false
set_option linter.all false
set_option maxRecDepth 100000
set_option maxHeartbeats 1000000
namespace L3
open PySem PySem.Spec PyProof.Rows L2
/-! one rule for each operator, whatever the kinds -/
def rDIn (neg : Bool) : R2 := fun x y H Q => ∃ a o, y = .ref a ∧ DGet H a x o ∧ Q (.bl (xor neg o.isSome)) H
def rSgn (neg : Bool) : R2 := fun x y H Q => ∃ (c : Nat) (z : Str), x = .str ⟨#[c]⟩ ∧ y = .str z ∧ Q (.bl (xor neg (decide (c ∈ z.cps.toList)))) H
def rInA (K : PySem.W.Frag) (neg : Bool) : R2 := fun x y H Q => rInP K neg x y H Q ∨ rDIn neg x y H Q ∨ rSgn neg x y H Q
def rAddI : R2 := rI0 fun i j => .int (i + j)
def rAddS : R2 := fun x y H Q => ∃ i j, x = .str i ∧ y = .str j ∧ i.length + j.length ≤ sizeLine ∧ Q (.str (i ++ j)) H
def rAddA (K : PySem.W.Frag) : R2 := fun x y H Q => rAddI x y H Q ∨ rAddS x y H Q ∨ rCatA K x y H Q ∨ rCat x y H Q
def rLenS : List V → Hp → VK → Prop := fun xs H Q => ∃ z, xs = [.str z] ∧ z.length ≤ sizeLine ∧ Q (.int z.length) H
def rLenD : List V → Hp → VK → Prop := fun xs H Q => ∃ a kvs, xs = [V.ref a] ∧ H a = some (.dK kvs) ∧ Q (.int kvs.length) H
def rLenA (K : PySem.W.Frag) : List V → Hp → VK → Prop := fun xs H Q => rLenOf K xs H Q ∨ rLenS xs H Q ∨ rLenD xs H Q
def rSlX (K : PySem.W.Frag) : V → Option Int → Option Int → Hp → VK → Prop := fun x lo hi H Q => rSlS x lo hi H Q ∨ rSlL K x lo hi H Q ∨ rSlA K x lo hi H Q
def rIxX (K : PySem.W.Frag) : R2 := fun x y H Q => rIxL K x y H Q ∨ rIxT K x y H Q ∨ rIxS x y H Q
section
variable {X : Cx}
theorem CallR.or {f : Value} {r r' : List V → Hp → VK → Prop} (h : CallR X f r) (h' : CallR X f r') : CallR X f (fun xs H Q => r xs H Q ∨ r' xs H Q) := fun pins s σ H xs us Q I rx q => q.elim (h pins s σ H xs us Q I rx) (h' pins s σ H xs us Q I rx)
theorem op_dIn (hu : X.A.units + 64 < cLine) : OpR X (compareOp .In) (rDIn false) := by
  intro pins s σ H x y v u Q I rx ry ⟨a, o, ey, g, q⟩
  subst ey
  cases ry
  exact d_in (by omega) I g rx fun s' I' => ⟨.bl _, H, I', rfl, by simpa using q⟩
theorem op_dNotIn (hu : X.A.units + 64 < cLine) : OpR X (compareOp .NotIn) (rDIn true) := by
  intro pins s σ H x y v u Q I rx ry ⟨a, o, ey, g, q⟩
  subst ey
  cases ry
  exact d_notIn (by omega) I g rx fun s' I' => ⟨.bl _, H, I', rfl, by simpa using q⟩
theorem op_sgn : OpR X (compareOp .In) (rSgn false) := by
  intro pins s σ H x y v u Q I rx ry ⟨c, z, e1, e2, q⟩
  exact op_in_sign pins s σ H x y v u Q I rx ry ⟨c, z, e1, e2, by simpa using q⟩
theorem op_nsgn : OpR X (compareOp .NotIn) (rSgn true) := by
  intro pins s σ H x y v u Q I rx ry ⟨c, z, e1, e2, q⟩
  exact op_notIn_sign pins s σ H x y v u Q I rx ry ⟨c, z, e1, e2, by simpa using q⟩
theorem op_inA (hu : X.A.units + 64 < cLine) : OpR X (compareOp .In) (rInA X.K false) := (op_inP hu).or ((op_dIn hu).or op_sgn)
theorem op_niA (hu : X.A.units + 64 < cLine) : OpR X (compareOp .NotIn) (rInA X.K true) := (op_notInP hu).or ((op_dNotIn hu).or op_nsgn)
theorem op_addA : OpR X (binaryOp .Add) (rAddA X.K) := OpR.or op_add (OpR.or op_add_str (OpR.or op_catA op_cat))
theorem call_lenA : CallR X (.builtin "len") (rLenA X.K) := CallR.or call_len_seq (CallR.or call_len_str call_lenD)
theorem sl_X : SlR X (rSlX X.K) := SlR.or sl_str (SlR.or sl_list sl_tupA)
theorem ix_X : IxR X (rIxX X.K) := IxR.or ix_list (IxR.or ix_tup ix_str)
theorem call_tupA : CallR X (.type "tuple") (rTupOf X.K) := call_tuple_of
theorem call_lstA : CallR X (.type "list") (rLstOf X.K) := call_list_of
end
/-! dicts whose keys are texts, each with True -/
def kvT (ks : List Str) : List (Key × V) := ks.map fun k => (Sum.inr k, V.bl true)
def DcR : Rl (List Str) := fun ks M v => ∃ a, v = .ref a ∧ Rd M a (.dK (kvT ks))
instance : Mon DcR := ⟨fun e ⟨a, h, r⟩ => ⟨a, h, rd_mono e r⟩⟩
theorem val_kvT (x : Str) : ∀ ks : List Str, (valV (kvT ks) (Sum.inr x : Key)).isSome = decide (x ∈ ks)
  | [] => rfl
  | k :: ks => by
    have ih := val_kvT x ks
    unfold valV kvT at ih ⊢
    rw [List.map_cons, List.find?_cons]
    by_cases h : k = x
    · subst h; simp
    · have h1 : ¬ (Sum.inr k : Key) = Sum.inr x := fun z => h (Sum.inr.inj z)
      have h2 : ¬ x = k := fun z => h z.symm
      simp only [h1, decide_false, List.mem_cons, h2, false_or]
      exact ih
/-- anything with texts that «in» asks -/
def CtR (K : PySem.W.Frag) : Rl (List Str) := fun xs M v => SqR K Tx xs M v ∨ DcR xs M v
instance {K : PySem.W.Frag} : Mon (CtR K) := ⟨fun e h => h.imp (Mon.mono e) (Mon.mono e)⟩
section
variable {K : PySem.W.Frag} {σ : Sl} {M : Hp} {ta tb te ts : TE} {tt : TT} {α β : Type} {R : Rl α} {S : Rl β}
theorem gv_inA {neg : Bool} {x : Str} {xs : List Str} (ha : Gv ta σ M (Tx x)) (hb : Gv tb σ M (CtR K xs)) : Gv (tOp (rInA K neg) ta tb) σ M (Bl (xor neg (decide (x ∈ xs)))) :=
  gv_op ha hb fun M' u w px py => rv_pure (fun H mh Q q => by
    rcases py with py | ⟨a, e, r⟩
    · exact .inl ⟨.str x, _, (by cases px; exact .str x), (py_sq py_str py).mono mh, (by simp [PyData.depth]), (by rw [any_mem inj_str]; exact q)⟩
    · subst e
      cases px
      exact .inr (.inl ⟨a, _, rfl, .inl ⟨_, Sum.inr x, rd_mono mh r, rfl, rfl⟩, by rw [val_kvT]; exact q⟩)) rfl
/-- .. of data -/
theorem gv_inD {e : α → PyData} [DecidableEq α] [Mon R] {neg : Bool} {x : α} {xs : List α} (pe : PyR K R e) (ie : Inj e) (ha : Gv ta σ M (R x)) (hb : Gv tb σ M (SqR K R xs)) (hz : (e x).depth ≤ 60) : Gv (tOp (rInA K neg) ta tb) σ M (Bl (xor neg (decide (x ∈ xs)))) :=
  gv_op ha hb fun M' u w px py => rv_pure (fun H mh Q q => .inl ⟨e x, _, dp_mono mh (pe _ _ _ px), (py_sq pe py).mono mh, hz, by rw [any_mem ie]; exact q⟩) rfl
theorem gv_sgn {neg : Bool} {c : Nat} {z : Str} (ha : Gv ta σ M (Tx ⟨#[c]⟩)) (hb : Gv tb σ M (Tx z)) : Gv (tOp (rInA K neg) ta tb) σ M (Bl (xor neg (decide (c ∈ z.cps.toList)))) :=
  gv_op ha hb fun M' u w px py => rv_pure (fun H mh Q q => .inr (.inr ⟨c, z, px, py, q⟩)) rfl
theorem gv_addSt {x y : Str} (ha : Gv ta σ M (Tx x)) (hb : Gv tb σ M (Tx y)) (hz : x.length + y.length ≤ sizeLine) : Gv (tOp (rAddA K) ta tb) σ M (Tx (x ++ y)) :=
  gv_op ha hb fun M' u w px py => rv_pure (fun H mh Q q => .inr (.inl ⟨x, y, px, py, hz, q⟩)) rfl
theorem gv_addIn {x y : Int} (ha : Gv ta σ M (It' x)) (hb : Gv tb σ M (It' y)) : Gv (tOp (rAddA K) ta tb) σ M (It' (x + y)) :=
  gv_op ha hb fun M' u w px py => rv_pure (fun H mh Q q => .inl ⟨x, y, px, py, q⟩) rfl
theorem gv_lenA [Mon R] {xs : List α} (h : Gv te σ M (SqR K R xs)) : Gv (tCB (rLenA K) (tCons te tNil)) σ M (It' xs.length) := gv_cb1 h fun M' v hv H mh Q q => by
  rcases hv with ⟨a, vs, rfl, hs, hp⟩ | ⟨a, vs, rfl, hs, hp⟩
  · exact .inl ⟨a, vs, rfl, .inl (sl_mono mh hs), q _ M' H (.refl mh) (by rw [hp.length])⟩
  · exact .inl ⟨a, vs, rfl, .inr (st_mono mh hs), q _ M' H (.refl mh) (by rw [hp.length])⟩
theorem gv_lenS {x : Str} (h : Gv te σ M (Tx x)) (hz : x.length ≤ sizeLine) : Gv (tCB (rLenA K) (tCons te tNil)) σ M (It' x.length) := gv_cb1 h fun M' v hv H mh Q q => .inr (.inl ⟨x, by rw [hv], hz, q _ M' H (.refl mh) rfl⟩)
theorem gv_cutS {tl th : TO} {x : Str} {lo hi : Option Int} (h : Gv te σ M (Tx x)) (hz : x.length ≤ sizeLine)
    (hl : ∀ (H : Hp) (Q : Option Int → Hp → Prop), Q lo H → tl σ H Q) (hh : ∀ (H : Hp) (Q : Option Int → Hp → Prop), Q hi H → th σ H Q) : Gv (tSl (rSlX K) te tl th) σ M (Tx (cutS x lo hi)) := fun H mh Q q =>
  h H mh _ fun v M1 H1 g1 p => hl H1 _ (hh H1 _ (.inl ⟨x, p, hz, q _ M1 H1 g1 rfl⟩))
/-- an item -/
theorem gv_ix [Mon R] {xs : List α} {i : Int} {x : α} (ha : Gv ta σ M (SqR K R xs)) (hb : Gv tb σ M (It' i)) (hx : atI xs i = some x) : Gv (tOp (rIxX K) ta tb) σ M (R x) := by
  refine gv_op ha hb fun M' u w pu pw => ?_
  cases (show w = .int i from pw)
  unfold atI at hx
  obtain ⟨j, hj, hx⟩ := Option.bind_eq_some_iff.mp hx
  rcases pu with ⟨a, vs, rfl, hs, hp⟩ | ⟨a, vs, rfl, hs, hp⟩
  all_goals
    obtain ⟨v, hv, rv⟩ := pd_get hp hx
    have ha : atI vs i = some v := by unfold atI; rw [← hp.length, hj]; exact hv
  · exact rv_pure (v := v) (fun H mh Q q => .inl ⟨a, vs, i, v, rfl, rfl, sl_mono mh hs, ha, q⟩) rv
  · exact rv_pure (v := v) (fun H mh Q q => .inr (.inl ⟨a, vs, i, v, rfl, rfl, st_mono mh hs, ha, q⟩)) rv
theorem gv_ixS {x : Str} {i : Int} {c : Nat} (ha : Gv ta σ M (Tx x)) (hb : Gv tb σ M (It' i)) (hz : x.length ≤ sizeLine) (hx : atI x.cps.toList i = some c) : Gv (tOp (rIxX K) ta tb) σ M (Tx ⟨#[c]⟩) :=
  gv_op ha hb fun M' u w pu pw => rv_pure (fun H mh Q q => .inr (.inr ⟨x, i, c, pu, pw, hz, hx, q⟩)) rfl
/-- a written tuple of two texts -/
theorem gv_tup2 {x y : Str} (h1 : Gv ta σ M (Tx x)) (h2 : Gv tb σ M (Tx y)) : Gv (tTup (tCons ta (tCons tb tNil))) σ M (TupR K Tx [x, y]) := fun H mh Q q =>
  h1 H mh _ fun v M1 H1 g1 p1 => h2.le g1.mm H1 g1.mh _ fun w M2 H2 g2 p2 => ⟨by show 2 ≤ sizeLine; decide, fun p np => q _ _ _ ((g1.trans g2).trans (.new g2.mh np)) ⟨p, _, rfl, .inl (.inl upd_same), .cons p1 (.cons p2 .nil)⟩⟩
end
end L3

set_option Elab.async false
set_option linter.all false
set_option maxRecDepth 100000
set_option maxHeartbeats 1000000
namespace L3
open PySem PySem.Spec PyProof.Rows L2
/-! calls of defs by name -/
def Cal (P : Program) (w : World) (K : PySem.W.Frag) (mg : Str → Option Value) (base : Heap) (k : Nat) (x : Str) (ps : List Str) (sp : Sp) : Prop :=
  ∃ f fd, FnOk P w K mg base CX0 k f fd ps sp ∧ mg x = some (.ref f) ∧ PySem.W.keepIn K (.ref f) = true ∧ Binds K fd ps []
theorem pe_f {X : Cx} {k : Nat} {x : Str} {ps : List Str} {sp : Sp} {e : Expr} {es : List Expr} {t : TA} {p pos : Pos} (c : Cal X.prog X.w X.K X.mg X.base k x ps sp) (hr : Room k X.A) (ha : PA X (e :: es) t) (hg : Gl X x := by rfl)
    (hdb : (x == ("__debug__" : Str)) = false := by decide) (he : starEach (e :: es) X.env = (false, eval e X.env) :: starEach es X.env := by rfl) (hpl : (backTo pos (starEach es X.env)).any (·.1) = false := by rfl) :
    PE X (.Call (.Name x p) (e :: es) [] pos) (tCall sp [] E0 t) :=
  let ⟨_, _, G, m, kp, b⟩ := c
  pe_call G hr hg m kp b .nil pass0 ha hdb he hpl
/-! small statements -/
section
variable {K : PySem.W.Frag} {σ : Sl} {M H : Hp} {te : TE} {P : Pr} {D : Ends} {tu tw tz : TS} {tt : TT} {b : Bool}
theorem s_ret (mh : Same M H) (h : Gv te σ M P) (k : ∀ v M' H', Gr M H M' H' → P M' v → D.rt v H') : tRet te D σ H := h H mh _ k
theorem s_asg {i : Nat} (mh : Same M H) (h : Gv te σ M P) (k : ∀ v M' H', Gr M H M' H' → P M' v → D.nx (σ.set i (some v)) H') : tAsg te (gName i) D σ H := h H mh _ k
theorem q_asg {i : Nat} (mh : Same M H) (h : Gv te σ M P) (k : ∀ v M' H', Gr M H M' H' → P M' v → tz D (σ.set i (some v)) H') : tSeq (tAsg te (gName i)) tz D σ H := h H mh _ k
theorem q_asgL {i : Nat} {P : Hp → List V → Prop} (mh : Same M H) (h : GvL te σ M P) (k : ∀ p vs M' H', Gr M H M' H' → H p = none → M' p = none → H' p = some (.lst vs) → P M' vs → tz D (σ.set i (some (.ref p))) H') : tSeq (tAsg te (gName i)) tz D σ H := h H mh _ k
theorem q_if (mh : Same M H) (h : GvT tt σ M b) (h1 : b = true → ∀ H', Same H H' → tu { D with nx := tz D } σ H') (h2 : b = false → ∀ H', Same H H' → tw { D with nx := tz D } σ H') : tSeq (tIfS tt tu tw) tz D σ H := h H mh _ fun M' H' g => by
  cases b with
  | true => exact h1 rfl H' g.hh
  | false => exact h2 rfl H' g.hh
theorem s_if (mh : Same M H) (h : GvT tt σ M b) (h1 : b = true → ∀ H', Same H H' → tu D σ H') (h2 : b = false → ∀ H', Same H H' → tw D σ H') : tIfS tt tu tw D σ H := h H mh _ fun M' H' g => by
  cases b with
  | true => exact h1 rfl H' g.hh
  | false => exact h2 rfl H' g.hh
theorem Gr.idle {M H H' : Hp} (mh : Same M H) (hh : Same H H') : Gr M H M H' := ⟨Same.refl M, hh, mh.trans hh, fun _ _ e => .inl e, fun _ _ e => e⟩
/-- an empty list, ours -/
theorem gl_nil : GvL (tLst tNil) σ M fun _ vs => vs = [] := gl_lst ga_nil fun _ vs h => by rw [h]; exact Nat.zero_le _
/-- xs.append(e), xs in slot i at p -/
theorem s_app {i : Nat} {p : Addr} {vs : List V} (mh : Same M H) (hi : σ[i]? = some (some (.ref p))) (hp : H p = some (.lst vs)) (hz : vs.length < sizeLine) (h : Gv te σ M P)
    (k : ∀ v M' H', Gr M H M' H' → P M' v → D.nx σ (upd H' p (.lst (vs ++ [v])))) : tDrop (tBM K "list" rAppend (tVar i) (tCons te tNil)) D σ H :=
  ⟨.ref p, hi, .inl ⟨rfl, _, .inl (.inl hp)⟩, h H mh _ fun v M' H' g r => ⟨p, vs, v, rfl, rfl, g.hh _ _ hp, hz, k v M' H' g r⟩⟩
/-- xs.extend(e), e a new list -/
theorem s_ext {i : Nat} {p : Addr} {vs : List V} {P : Hp → List V → Prop} (mh : Same M H) (hi : σ[i]? = some (some (.ref p))) (hp : H p = some (.lst vs)) (h : GvL te σ M P) (hz : ∀ M' ws, P M' ws → vs.length + ws.length ≤ sizeLine)
    (k : ∀ ws M' H', Gr M H M' H' → P M' ws → D.nx σ (upd H' p (.lst (vs ++ ws)))) : tDrop (tBM K "list" rExtend (tVar i) (tCons te tNil)) D σ H :=
  ⟨.ref p, hi, .inl ⟨rfl, _, .inl (.inl hp)⟩, h H mh _ fun b ws M' H' g h0 m0 hb r => ⟨p, b, vs, ws, rfl, rfl, g.hh _ _ hp, hb, hz M' ws r, k ws M' H' g r⟩⟩
end
/-- what we own: new since H0, not known to M -/
structure Own (H0 M H : Hp) (p : Addr) (vs : List V) : Prop where
  h0 : H0 p = none
  m : M p = none
  h : H p = some (.lst vs)
theorem Own.fr {H0 M H : Hp} {p : Addr} {vs : List V} (o : Own H0 M H p vs) (mh : Same M H) : Same (upd M p (.lst vs)) H := fun b u e => by
  by_cases hb : b = p
  · subst hb; rw [upd_same] at e; rw [o.h]; exact e
  · rw [upd_ne hb] at e; exact mh b u e
theorem Own.up {H0 M H : Hp} {p : Addr} {vs : List V} (o : Own H0 M H p vs) : Same M (upd M p (.lst vs)) := same_new o.m
theorem Own.idle {H0 M H H' : Hp} {p : Addr} {vs : List V} (o : Own H0 M H p vs) (hh : Same H H') : Own H0 M H' p vs := ⟨o.h0, o.m, hh _ _ o.h⟩
theorem Own.put {H0 M H : Hp} {p : Addr} {vs ws : List V} (o : Own H0 M H p vs) : Own H0 M (upd H p (.lst ws)) p ws := ⟨o.h0, o.m, upd_same⟩
theorem Own.lst {K : PySem.W.Frag} {α : Type} {R : Rl α} {H0 M H : Hp} {p : Addr} {vs : List V} {xs : List α} [Mon R] (o : Own H0 M H p vs) (h : Pd R M xs vs) : LstR K R xs (upd M p (.lst vs)) (.ref p) := ⟨p, vs, rfl, .inl (.inl upd_same), h.mono o.up⟩
theorem Own.step {H0 M H M' H' : Hp} {p : Addr} {vs : List V} (o : Own H0 M H p vs) (g : Gr M H M' H') : Own H0 M' H' p vs := ⟨o.h0, g.keep o.m o.h, g.hh _ _ o.h⟩
section
variable {K : PySem.W.Frag} {σ : Sl} {M : Hp} {ts : TE} {α : Type} {R1 : Rl α} {D : Ends} {tb tz : TS}
theorem q_for [Mon R1] {j : Nat} {xs : List α} {H : Hp} (mh : Same M H) (hsrc : Gv ts σ M (SqR K R1 xs)) (Pv : Hp → Nat → Sl → Hp → Hp → Prop)
    (h0 : ∀ M1 H1, Gr M H M1 H1 → Pv M1 0 σ M1 H1) (hk : ∀ M1 i σ' M' H', Pv M1 i σ' M' H' → Same M1 M' ∧ Same M' H')
    (hs : ∀ M1 i x v σ' M' H', Same M M1 → xs[i]? = some x → Pv M1 i σ' M' H' → R1 x M' v → tb { D with nx := fun σ2 H2 => ∃ M2, Pv M1 (i + 1) σ2 M2 H2, ct := fun σ2 H2 => ∃ M2, Pv M1 (i + 1) σ2 M2 H2, bk := tz D } (σ'.set j (some v)) H')
    (hd : ∀ M1 σ' M' H', Same M M1 → Pv M1 xs.length σ' M' H' → tz D σ' H') : tSeq (tFor (iSq K ts) (gName j) tb) tz D σ H := s_for (D := { D with nx := tz D }) mh hsrc Pv h0 hk hs hd
theorem q_forE [Mon R1] {j k : Nat} {xs : List α} {H : Hp} (mh : Same M H) (hsrc : Gv ts σ M (SqR K R1 xs)) (Pv : Hp → Nat → Sl → Hp → Hp → Prop)
    (h0 : ∀ M1 H1, Gr M H M1 H1 → Pv M1 0 σ M1 H1) (hk : ∀ M1 i σ' M' H', Pv M1 i σ' M' H' → Same M1 M' ∧ Same M' H')
    (hs : ∀ M1 i x v σ' M' H' H'', Same M M1 → xs[i]? = some x → Pv M1 i σ' M' H' → Gr M' H' M' H'' → R1 x M' v →
      tb { D with nx := fun σ2 H2 => ∃ M2, Pv M1 (i + 1) σ2 M2 H2, ct := fun σ2 H2 => ∃ M2, Pv M1 (i + 1) σ2 M2 H2, bk := tz D } ((σ'.set j (some (.int (i : Nat)))).set k (some v)) H'')
    (hd : ∀ M1 σ' M' H', Same M M1 → Pv M1 xs.length σ' M' H' → tz D σ' H') : tSeq (tFor (iEn K (tCons ts tNil)) (gTup K 2 (gCons (gName j) (gCons (gName k) gNil))) tb) tz D σ H := s_forE (D := { D with nx := tz D }) mh hsrc Pv h0 hk hs hd
/-- the whole of a tuple of ours: tuple(xs) -/
theorem s_retTup {i : Nat} {p : Addr} {vs : List V} {H : Hp} (mh : Same M H) (hi : σ[i]? = some (some (.ref p))) (hp : H p = some (.lst vs))
    (k : ∀ l, H l = none → D.rt (.ref l) (upd H l (.tup vs))) : tRet (tCB (rTupOf K) (tCons (tVar i) tNil)) D σ H := ⟨.ref p, hi, p, vs, rfl, .inl ⟨.inl (.inl hp), k⟩⟩
end
end L3

set_option Elab.async false
set_option linter.all false
set_option maxRecDepth 100000
set_option maxHeartbeats 1000000
namespace L3
open PySem PySem.Spec PyProof.Rows L2
/-! isinstance of data -/
def tyN : PyData → String
  | .none => "NoneType" | .bool _ => "bool" | .int _ => "int" | .str _ => "str" | .list _ => "list" | .tuple _ => "tuple" | .dict _ => "dict"
theorem ty_of {K : PySem.W.Frag} {H : Hp} {v : V} {d : PyData} (h : Dp K H v d) : TyX K H v (.type (tyN d)) := by
  cases h with
  | non => exact .base .non
  | bl b => exact .base (.bl b)
  | int i => exact .base (.int i)
  | str x => exact .base (.str x)
  | lst hs ha =>
    rcases hs with (h | ⟨o, h⟩) | ⟨o, its, n, hk, hc, _⟩
    · exact .base (.lst h)
    · exact .base (.frz h)
    · exact .kList hk hc
  | tup hs ha =>
    rcases hs with (h | ⟨o, h⟩) | ⟨o, its, n, hk, hc, _⟩
    · exact .base (.tup h)
    · exact .fTuple h
    · exact .kTuple hk hc
section
variable {K : PySem.W.Frag} {σ : Sl} {M : Hp} {ta tb te ts : TE} {α : Type} {R : Rl α}
theorem gv_isi {d : PyData} {n : String} {b : Bool} (h : Gv ta σ M (Dd K d)) (hk : kitB (tyN d) n = some b) : Gv (tCB (rIsi K) (tCons ta (tCons (tC (.ty n)) tNil))) σ M (Bl b) := fun H mh Q q =>
  h H mh _ fun v M1 H1 g1 p => ⟨v, .ty n, _, _, b, rfl, .ty n, ty_of (dp_mono g1.mh p), kit_ty hk, q _ M1 H1 g1 rfl⟩
theorem gv_isi2 {d : PyData} {n m : String} {b c : Bool} (h : Gv ta σ M (Dd K d)) (hk : kitB (tyN d) n = some b) (hm : kitB (tyN d) m = some c) : Gv (tCB (rIsiT K) (tCons ta (tCons (tTup (tCons (tC (.ty n)) (tCons (tC (.ty m)) tNil))) tNil))) σ M (Bl (b || c)) := fun H mh Q q =>
  h H mh _ fun v M1 H1 g1 p => ⟨by show 2 ≤ sizeLine; decide, fun tp ntp => by
    refine ⟨v, tp, _, _, _, b || c, rfl, upd_same, .cons (.ty n) (.cons (.ty m) .nil), ty_of (dp_mono ((g1.mh).trans (same_new ntp)) p), ?_, q _ M1 _ (g1.trans (.own g1.mh ntp)) rfl⟩
    refine kitAny_cons (kit_ty hk) (fun hb => kitAny_cons (kit_ty hm) (fun hc => ?_) fun hc => ?_) fun h => ?_
    · rw [hb, hc]; exact kitAny_nil
    · rw [hb, hc]; rfl
    · rw [h]; rfl⟩
/-- None or a number -/
def OpN : Rl (Option Nat) := fun o _ v => v = match o with | none => .non | some i => .int (i : Nat)
instance : Mon OpN := ⟨fun _ h => h⟩
/-- None or something -/
def OpR' (R : Rl α) : Rl (Option α) := fun o M v => match o with | none => v = .non | some x => R x M v
instance [Mon R] : Mon (OpR' R) := ⟨fun {o M M' v} e h => by
  cases o with
  | none => exact h
  | some x => exact Mon.mono (R := R) e h⟩
theorem pd_d {M : Hp} : ∀ {vs : List V} {ds : List PyData}, DpAll K M vs ds → Pd (Dd K) M ds vs
  | _, _, .nil => .nil
  | _, _, .cons q t => .cons q (pd_d t)
theorem dp_sqL {ds : List PyData} {M : Hp} {v : V} (h : Dp K M v (.list ds)) : SqR K (Dd K) ds M v := by
  cases h with
  | lst hs ha => exact .inl ⟨_, _, rfl, hs, pd_d ha⟩
theorem dp_sqT {ds : List PyData} {M : Hp} {v : V} (h : Dp K M v (.tuple ds)) : SqR K (Dd K) ds M v := by
  cases h with
  | tup hs ha => exact .inr ⟨_, _, rfl, hs, pd_d ha⟩
end
end L3

set_option Elab.async false
set_option linter.all false
set_option maxRecDepth 100000
set_option maxHeartbeats 1000000
namespace L3
open PySem PySem.Spec PyProof.Rows L2
/-! anything walked: the items xs, each told by R -/
def GW {α : Type} (M1 : Hp) (J : It) (xs : List α) (R : Rl α) : Prop := ∃ (G : Hp → Prop) (Y : Nat → Hp → V → Hp → Prop), Walk J xs.length G Y ∧ (∀ M2 H2, Same M1 M2 → Same M2 H2 → G H2) ∧
  ∀ i M2 H2 v H3, Same M1 M2 → Same M2 H2 → i < xs.length → Y i H2 v H3 → ∃ x M3, xs[i]? = some x ∧ Gr M2 H2 M3 H3 ∧ R x M3 v
def GvI {α : Type} (wi : TI) (σ : Sl) (M : Hp) (xs : List α) (R : Rl α) : Prop := ∀ H, Same M H → ∀ Q : It → Hp → Prop, (∀ J M1 H1, Gr M H M1 H1 → GW M1 J xs R → Q J H1) → wi σ H Q
/-- a target: how the slots change -/
def TgOk {α : Type} (g : TG) (R : Rl α) (U : α → Hp → Sl → Sl → Prop) : Prop := ∀ x M v H σ (Q : L2.St → Hp → Prop), R x M v → Same M H → (∀ σ', U x M σ σ' → Q σ' H) → g v σ H Q
abbrev U1 {α : Type} (R : Rl α) (j : Nat) : α → Hp → Sl → Sl → Prop := fun x M σ σ' => ∃ v, R x M v ∧ σ' = σ.set j (some v)
/-- a pair in a tuple -/
def PrR (K : PySem.W.Frag) {α β : Type} (R : Rl α) (S : Rl β) : Rl (α × β) := fun x M v => ∃ a u w, v = .ref a ∧ SqT K M a [u, w] ∧ R x.1 M u ∧ S x.2 M w
instance {K : PySem.W.Frag} {α β : Type} {R : Rl α} {S : Rl β} [Mon R] [Mon S] : Mon (PrR K R S) := ⟨fun e ⟨a, u, w, h1, h2, h3, h4⟩ => ⟨a, u, w, h1, st_mono e h2, Mon.mono e h3, Mon.mono e h4⟩⟩
abbrev U2 {α β : Type} (R : Rl α) (S : Rl β) (j k : Nat) : α × β → Hp → Sl → Sl → Prop := fun x M σ σ' => ∃ v w, R x.1 M v ∧ S x.2 M w ∧ σ' = (σ.set j (some v)).set k (some w)
section
variable {K : PySem.W.Frag} {σ : Sl} {M : Hp} {ta tb te ts : TE} {tt : TT} {α β : Type} {R : Rl α} {S : Rl β} {wi : TI} {g : TG}
theorem tg_1 {j : Nat} : TgOk (gName j) R (U1 R j) := fun x M v H σ Q r mh q => q _ ⟨v, r, rfl⟩
theorem tg_2 {j k : Nat} : TgOk (gTup K 2 (gCons (gName j) (gCons (gName k) gNil))) (PrR K R S) (U2 R S j k) := by
  rintro x M v H σ Q ⟨a, u, w, rfl, h2, h3, h4⟩ mh q
  exact ⟨a, _, rfl, st_mono mh h2, rfl, u, _, rfl, w, _, rfl, rfl, q _ ⟨u, w, h3, h4, rfl⟩⟩
theorem gi_sq [Mon R] {xs : List α} (h : Gv ts σ M (SqR K R xs)) : GvI (iSq K ts) σ M xs R := fun H mh Q q => h H mh _ fun v M1 H1 g1 hv => by
  rcases hv with ⟨a, vs, rfl, hs, hp⟩ | ⟨a, vs, rfl, hs, hp⟩
  · refine ⟨a, rfl, .inl ⟨vs, sl_mono g1.mh hs, q _ M1 H1 g1 ⟨_, _, (by rw [hp.length]; exact walk_list (xs := vs)), fun M2 H2 s1 s2 => sl_mono (s1.trans s2) hs, ?_⟩⟩⟩
    rintro i M2 H2 v H3 s1 s2 hi ⟨rfl, hy⟩
    obtain ⟨x, hx, rx⟩ := pd_get' hp hy
    exact ⟨x, M2, hx, .refl s2, Mon.mono s1 rx⟩
  · refine ⟨a, rfl, .inr ⟨vs, st_mono g1.mh hs, q _ M1 H1 g1 ⟨_, _, (by rw [hp.length]; exact walk_tup (xs := vs)), fun M2 H2 s1 s2 => st_mono (s1.trans s2) hs, ?_⟩⟩⟩
    rintro i M2 H2 v H3 s1 s2 hi ⟨rfl, hy⟩
    obtain ⟨x, hx, rx⟩ := pd_get' hp hy
    exact ⟨x, M2, hx, .refl s2, Mon.mono s1 rx⟩
theorem gi_str {x : Str} (h : Gv ts σ M (Tx x)) : GvI (iStr ts) σ M x.cps.toList (fun c => Tx ⟨#[c]⟩) := fun H mh Q q => h H mh _ fun v M1 H1 g1 hv => by
  refine ⟨x, hv, q _ M1 H1 g1 ⟨_, _, (by rw [Array.length_toList]; exact walk_str (z := x)), fun _ _ _ _ => trivial, ?_⟩⟩
  rintro i M2 H2 v H3 s1 s2 hi ⟨rfl, c, hc, rfl⟩
  exact ⟨c, M2, by simpa using hc, .refl s2, rfl⟩
theorem gi_rng1 {n : Nat} (h : Gv te σ M (It' (n : Int))) (hn : n ≤ 1000000000) : GvI (iRng1 (tCons te tNil)) σ M (List.range n) (fun i => It' (i : Nat)) := fun H mh Q q => h H mh _ fun v M1 H1 g1 hv => by
  cases (show v = _ from hv)
  refine ⟨(n : Int), rfl, by omega, by omega, q _ M1 H1 g1 ⟨_, _, (by rw [List.length_range, Int.toNat_natCast]; exact walk_range), fun _ _ _ _ => trivial, ?_⟩⟩
  rintro i M2 H2 v H3 s1 s2 hi ⟨rfl, rfl⟩
  rw [List.length_range] at hi
  exact ⟨i, M2, by simp [hi], .refl s2, by show V.int _ = V.int _; rw [Int.zero_add]⟩
/-- the keys of a dict that is locked -/
def DcF : Rl (List Str) := fun ks M v => ∃ a o, v = .ref a ∧ M a = some (.frz o (.dK (kvT ks)))
instance : Mon DcF := ⟨fun e ⟨a, o, h, r⟩ => ⟨a, o, h, e _ _ r⟩⟩
theorem gl_comp [Mon S] {U : α → Hp → Sl → Sl → Prop} {vs : List Nat} {xs : List α} (hsrc : GvI wi σ M xs R) (htg : TgOk g R U) (hw : ∀ x M' σ', U x M' (wipe σ vs) σ' → wipe σ' vs = wipe σ vs) (hz : xs.length ≤ sizeLine) (t : α → Bool) (f : α → β)
    (ht : ∀ x ∈ xs, ∀ M1 σ', Same M M1 → U x M1 (wipe σ vs) σ' → GvT tt σ' M1 (t x))
    (he : ∀ x ∈ xs, t x = true → ∀ M1 σ', Same M M1 → U x M1 (wipe σ vs) σ' → Gv te σ' M1 (S (f x))) :
    GvL (tLc wi g tt te vs) σ M fun M ws => Pd S M ((xs.filter t).map f) ws := by
  intro H mh Q q
  refine hsrc H mh _ fun J M1 H1 g1 ⟨G, Y, w, hG, hY⟩ D hD => ?_
  refine lc_it w (fun i H' => ∃ M' ws, Gr M1 H1 M' H' ∧ M' D = none ∧ H' D = some (.lst ws) ∧ ws.length ≤ i ∧ Pd S M' (((xs.take i).filter t).map f) ws) ⟨M1, [], .own g1.mh hD, g1.mh.free hD, upd_same, Nat.le_refl _, .nil⟩ (fun i H' _ ⟨M', ws, g, _⟩ => hG M' H' g.mm g.mh) ?_ ?_
  · rintro i y H' H'' hi ⟨M', ws, g, m0, hw', hl, hpd⟩ hy
    obtain ⟨x, M0, hx, g0, rx⟩ := hY i M' H' y H'' g.mm g.mh hi hy
    have hxm : x ∈ xs := List.mem_of_getElem? hx
    have et : xs.take (i + 1) = xs.take i ++ [x] := by rw [List.take_add_one, hx]; rfl
    have gg := g.trans g0
    have sm := g1.mm.trans gg.mm
    have k0 : H'' D = some (.lst ws) := g0.hh _ _ hw'
    have m0' : M0 D = none := g0.keep m0 hw'
    refine htg x M0 y H'' _ _ rx gg.mh fun σ2 hU => ⟨hw x M0 σ2 hU, ht x hxm M0 σ2 sm hU H'' gg.mh _ fun M2 H2 g2 => ?_⟩
    cases ex : t x with
    | true =>
      refine (he x hxm ex M0 σ2 sm hU).le g2.mm H2 g2.mh _ fun z M3 H3 g3 hz3 => ?_
      have m3 : M3 D = none := (g2.trans g3).keep m0' k0
      refine ⟨ws, g3.hh _ _ (g2.hh _ _ k0), Nat.lt_of_lt_of_le (Nat.lt_of_le_of_lt hl hi) hz, M3, ws ++ [z], ((gg.trans g2).trans g3).mut hD m3, m3, upd_same, by rw [List.length_append]; exact Nat.succ_le_succ hl, ?_⟩
      rw [et, List.filter_append, List.map_append, List.filter_cons, ex]
      exact pd_app (hpd.mono ((g0.mm.trans g2.mm).trans g3.mm)) (.cons hz3 .nil)
    | false =>
      refine ⟨M2, ws, gg.trans g2, g2.keep m0' k0, g2.hh _ _ k0, Nat.le_succ_of_le hl, ?_⟩
      rw [et, List.filter_append, List.map_append, List.filter_cons, ex]
      show Pd S M2 (_ ++ []) ws
      rw [List.append_nil]
      exact hpd.mono (g0.mm.trans g2.mm)
  · rintro H' ⟨M', ws, g, m0, hw', hl, hpd⟩
    rw [List.take_length] at hpd
    exact q D ws M' H' (g1.trans g) (g1.hh.free hD) m0 hw' hpd
/-- the plain form: a name for the target -/
theorem gl_c1 [Mon S] {j : Nat} {xs : List α} (hsrc : GvI wi σ M xs R) (hz : xs.length ≤ sizeLine) (t : α → Bool) (f : α → β)
    (ht : ∀ x ∈ xs, ∀ M1 v, Same M M1 → R x M1 v → GvT tt ((wipe σ [j]).set j (some v)) M1 (t x))
    (he : ∀ x ∈ xs, t x = true → ∀ M1 v, Same M M1 → R x M1 v → Gv te ((wipe σ [j]).set j (some v)) M1 (S (f x))) : GvL (tLc wi (gName j) tt te [j]) σ M fun M ws => Pd S M ((xs.filter t).map f) ws :=
  gl_comp hsrc tg_1 (fun x M' σ' ⟨v, _, e⟩ => by subst e; exact wipe1) hz t f (fun x hx M1 σ' sm ⟨v, r, e⟩ => by subst e; exact ht x hx M1 v sm r) (fun x hx e M1 σ' sm ⟨v, r, e'⟩ => by subst e'; exact he x hx e M1 v sm r)
theorem gt_yes : GvT tYes σ M true := fun H mh Q q => q M H (.refl mh)
/-- without a test -/
theorem gl_m1 [Mon S] {j : Nat} {xs : List α} (hsrc : GvI wi σ M xs R) (hz : xs.length ≤ sizeLine) (f : α → β)
    (he : ∀ x ∈ xs, ∀ M1 v, Same M M1 → R x M1 v → Gv te ((wipe σ [j]).set j (some v)) M1 (S (f x))) : GvL (tLc wi (gName j) tYes te [j]) σ M fun M ws => Pd S M (xs.map f) ws := by
  have h := gl_c1 (tt := tYes) (te := te) (S := S) (j := j) hsrc hz (fun _ => true) f (fun _ _ _ _ _ _ => gt_yes) (fun x hx _ M1 v sm r => he x hx M1 v sm r)
  rw [List.filter_eq_self.mpr fun _ _ => rfl] at h
  exact h
variable {D : Ends} {tz tbd : TS}
/-- for over anything -/
theorem q_forG {U : α → Hp → Sl → Sl → Prop} {xs : List α} {H : Hp} (mh : Same M H) (hsrc : GvI wi σ M xs R) (htg : TgOk g R U) (Pv : Hp → Nat → Sl → Hp → Hp → Prop)
    (h0 : ∀ M1 H1, Gr M H M1 H1 → Pv M1 0 σ M1 H1) (hk : ∀ M1 i σ' M' H', Pv M1 i σ' M' H' → Same M1 M' ∧ Same M' H')
    (hs : ∀ M1 i x σ' M' H' M2 H2 σ2, Same M M1 → xs[i]? = some x → Pv M1 i σ' M' H' → Gr M' H' M2 H2 → U x M2 σ' σ2 →
      tbd { D with nx := fun σ2 H2 => ∃ M2, Pv M1 (i + 1) σ2 M2 H2, ct := fun σ2 H2 => ∃ M2, Pv M1 (i + 1) σ2 M2 H2, bk := tz D } σ2 H2)
    (hd : ∀ M1 σ' M' H', Same M M1 → Pv M1 xs.length σ' M' H' → tz D σ' H') : tSeq (tFor wi g tbd) tz D σ H := by
  refine hsrc H mh _ fun J M1 H1 g1 ⟨G, Y, w, hG, hY⟩ => ?_
  refine for_it w (fun i σ' H' => ∃ M', Pv M1 i σ' M' H') ⟨M1, h0 M1 H1 g1⟩ (fun i σ' H' _ ⟨M', p⟩ => hG M' H' (hk _ _ _ _ _ p).1 (hk _ _ _ _ _ p).2) ?_ ?_
  · rintro i y σ' H' H'' hi ⟨M', p⟩ hy
    have km := hk _ _ _ _ _ p
    obtain ⟨x, M2, hx, g2, rx⟩ := hY i M' H' y H'' km.1 km.2 hi hy
    exact htg x M2 y H'' σ' _ rx g2.mh fun σ2 hU => hs M1 i x σ' M' H' M2 H'' σ2 g1.mm hx p g2 hU
  · rintro σ' H' ⟨M', p⟩
    exact hd M1 σ' M' H' g1.mm p
/-- i ≤ j ≤ k -/
theorem gv_chain {tc : TE} {i j k : Int} (ha : Gv ta σ M (It' i)) (hb : Gv tb σ M (It' j)) (hc : Gv tc σ M (It' k)) :
    Gv (tChain (rI0 fun i j => .bl (decide (i ≤ j))) (rI0 fun i j => .bl (decide (i ≤ j))) ta tb tc) σ M (Bl (decide (i ≤ j) && decide (j ≤ k))) := fun H mh Q q =>
  ha H mh _ fun x M1 H1 g1 p1 => hb.le g1.mm H1 g1.mh _ fun y M2 H2 g2 p2 => ⟨i, j, p1, p2, decide (i ≤ j), rfl, by
    cases hd : decide (i ≤ j) with
    | true =>
      refine (hc.le (g1.mm.trans g2.mm)) H2 g2.mh _ fun z M3 H3 g3 p3 => ⟨j, k, p2, p3, q _ M3 H3 ((g1.trans g2).trans g3) ?_⟩
      rw [hd]; rfl
    | false =>
      refine q _ M2 H2 (g1.trans g2) ?_
      rw [hd]; rfl⟩
end
end L3

set_option Elab.async false
set_option linter.all false
set_option maxRecDepth 100000
set_option maxHeartbeats 2000000
namespace L3
open PySem PySem.Spec PyProof.Rows L2
/-! tuple(x) where x is collected -/
theorem tup_by {prog : Program} {w : World} {A : Around} {E : Value → Shared → Prop} {s : Shared} {T : String} {r : Addr} {n : Nat} {P : Nat → Value → Prop} {Q : Value → Shared → Prop} (ty : s.TypeIs (.ref r) T) (nt : (Value.type T == Value.type "tuple") = false) (hn : n ≤ sizeLine)
    (col : ∀ (B : Around) (F : Value → Shared → Prop) (R : List Value → Shared → Prop), B.handled = A.handled → (∀ (h' : Heap) (tk : Nat) (acc : Array Value), (∀ b o, s.heap.get? b = some o → h'.get? b = some o) → ItemsOf P acc n → R acc.toList { s with heap := h', toks := tk }) → wpAny (model prog w) B (collect (.ref r)) R F s)
    (fin : ∀ (h' : Heap) (tk : Nat) (acc : Array Value), (∀ b o, s.heap.get? b = some o → h'.get? b = some o) → ItemsOf P acc n → Q (.ref h'.objs.size) { s with heap := h'.push { cls := .type "tuple", data := .seq acc }, toks := tk }) :
    wpAny (model prog w) A (call (.type "tuple") [.ref r]) Q E s := by
  have made : codeAny (model prog w) A.in1 (.call (.builtin "tuple.__new__") ⟨[.type "tuple", .ref r], []⟩) (wants (fun v s1 => s1.TypeIs v "tuple" ∧ Q v s1) E) s := by
    apply codeAny_of_tree
    apply wpAny_bind
    apply wpAny_of_eq (F.newCall_tuple_1 _)
    refine wpAny_pure ⟨plainId_quiet F.plain_tuple_new _, codeAny_builtin F.entry_tuple_new ?_⟩
    rw [Around.under_plainId F.plain_tuple_new _]
    have a1 := sub_tuple_self
    have a2 := init_tuple_lookup
    have a3 := madeHere_tuple
    have here {F : Value → Shared → Prop} {R : List Value → Shared → Prop} := col A.in1.in1 F R rfl
    wp_walk using wpAny_typeOf ty, here
    intro h' tk acc kp it
    have sz : acc.size ≤ sizeLine := it.1 ▸ hn
    have same : acc.toList.toArray = acc := by simp
    rw [same]
    refine wpAny_bind (wpAny_pure (wpAny_bind (wpAny_newObj_type ?_ (show sizeOk (Data.seq acc) from sz))))
    exact wpAny_pure ⟨⟨_, Heap.get?_push_size _ rfl, rfl⟩, fin h' tk acc kp it⟩
  refine callType_codes F.called_tuple (F.typeCall_tuple_1 _) F.entry_object_init made fun v s1 h => ⟨h.1, F.args_object_init_2 v _, ?_⟩
  exact object_init_meets F.called_tuple.init.lookup F.called_tuple.made (by decide) prog w A.in1 _ s1 ⟨h.1, rfl, h.2⟩
/-- the keys of a dict with tuple keys -/
def rTupD : List V → Hp → VK → Prop := fun xs H Q => ∃ d kvs, xs = [V.ref d] ∧ Rd H d (.dT kvs) ∧ ∀ p bs, H p = none → IsKeys H kvs bs → Q (.ref p) (upd H p (.tup (bs.map V.ref)))
theorem call_tupD {X : Cx} (hc : X.calm = true) : CallR X (.type "tuple") rTupD := fun pins s σ H xs us Q I r ⟨d, kvs, ex, hd, q⟩ => by
  subst ex
  obtain ⟨_, rfl, rfl⟩ := r.one
  obtain ⟨z, low, ks, pr, o, es, ep, ho, exact_, hdt, he, _⟩ := (show ObjOk X.prog X.w H s.heap d (.dT kvs) from hd.ok I.hok)
  have S := kdl_raw (prog := X.prog) (w := X.w) low exact_ hdt
  have n1 : es.size = ks.length := size_of_entries he
  have n2 := Paired.length pr
  refine tup_by (S.type s ho) S.notTuple (n := es.size) (by omega) (fun B F R hB h => PySem.W.kdu_collect S (hB.trans (I.ok.hd hc)) ho (by omega) h) fun h' tk acc kp it => ?_
  have vals : acc.toList = (ks.map (·.2.1)).map Value.ref := by
    apply List.ext_getElem
    · rw [Array.length_toList, List.length_map, List.length_map, it.1, n1]
    · intro j h1 h2
      rw [Array.length_toList] at h1
      have hj : j < ks.length := by rw [← n1, ← it.1]; exact h1
      obtain ⟨en, g, v⟩ := it.2 j acc[j] (Array.getElem?_eq_getElem h1)
      have g2 := entry_at he j
      rw [g, List.getElem?_eq_getElem hj] at g2
      rw [Array.getElem_toList, v, List.getElem_map, List.getElem_map, Option.some.inj g2]
      rfl
  have I' : Inv X pins σ H { s with heap := h', toks := tk } := I.kept kp
  refine ⟨.ref h'.objs.size, _, I'.laid (t' := tk) (o := .tup ((ks.map (·.2.1)).map V.ref)) (fun b u e => Heap.get?_push_of_some _ e) (Nat.le_refl _) ?_, rfl, q _ _ (I'.hok.fresh (Nat.le_refl _)) (isKeys_of pr)⟩
  refine ⟨by simp only [List.length_map]; omega, acc.toList, vals ▸ vals_refs _, ⟨_, Heap.get?_push_size _ rfl, rfl, 0, ?_⟩⟩
  simp
/-! the frame of a comprehension -/
abbrev InBlk (X : Cx) (scope : Scope) (J : Cx → Prop) : Prop := ∀ (s : Shared) (H : Hp) (C : Addr) (cl : List (Str × Addr)) (fp : List Addr), J (X.blk s H scope (compEnvC scope cl C X.env) fp)
section
variable {X : Cx} {pins : List (Addr × Obj)} {σ τ : Sl} {H0 H : Hp} {s0 s : Shared} {scope : Scope} {ce : Env} {fp : List Addr} {tn : Nat → Heap → Prop} {i : Nat}
theorem blk_fp (I : Inv (X.blk s0 H0 scope ce fp) [] τ H s) (h : ∀ b ∈ fp, H b = none) : ∀ b ∈ fp, FpOk (X.blk s0 H0 scope ce fp) [] H b := fun b hb =>
  have x := I.ok.exf b hb
  ⟨h b hb, x.1, I.ok.exfs b hb, .inl hb, x.2, fun p hp => (List.not_mem_nil (a := p) hp).elim⟩
/-- out of the frame -/
theorem blk_out (I0 : Inv X pins σ H0 s0) (f0 : ∀ b ∈ fp, FpOk X pins H0 b) (I : Inv (X.blk s0 H0 scope ce fp) [] τ H s) : Inv X pins σ H s :=
  I0.call' (ch := fp) I.os I.base I.hok I.bare fun b hb => have z := (f0 b hb).2; ⟨z.2.2.1, z.1, z.2.2.2.1, z.2.2.2.2⟩
/-- its variables let go -/
theorem blk_end (I0 : Inv X pins σ H0 s0) (f0 : ∀ b ∈ fp, FpOk X pins H0 b) (hC : ce.locals = s0.heap.objs.size) (I : Inv (X.blk s0 H0 scope ce fp) [] τ H s) :
    ∃ m, s.heap.Ns s0.heap.objs.size m ∧ ∀ h', Heap.SameBut s0.heap.objs.size s.heap h' → Inv X pins σ H { s with heap := h' } := by
  have fr : H s0.heap.objs.size = none := hC ▸ I.free
  have z := I0.fpOk (Nat.le_refl _) fr
  have O := blk_out I0 f0 I
  obtain ⟨m, ns, _⟩ := I.loc
  exact ⟨m, hC ▸ ns, fun h' sb => O.turned (t' := s.toks) (fun b o hb e => (sb.2 b hb).trans e) fr z.2.1 z.2.2.2.1 z.2.2.2.2.1 z.2.2.2.2.2⟩
/-- the frame between two turns: the walk stands ahead of item i -/
structure Ahead (Y : Cx) (fp : List Addr) (tn : Nat → Heap → Prop) (τ : Sl) (i : Nat) (H : Hp) (s : Shared) : Prop where
  inv : Inv Y [] τ H s
  at_ : tn i s.heap
  off : ∀ b ∈ fp, H b = none
/-- one item drawn, stored, looked at; whoever goes on from there may close the turn -/
theorem blk_turn {tg : Expr} {ifs : List Expr} {J : It} {it : Addr} {g : TG} {tt : TT} {vs : List Nat} {Body : Sl → Hp → Prop} {Nx : Hp → Prop} {E : Value → Shared → Prop} {F0 : Shared → Prop} {Fy Fn : Shared → Prop}
    (T : Turn X.prog X.w X.K tg J fp it tn) (hc : X.calm = true) (pg : PG (X.blk s0 H0 scope ce fp) tg g) (pt : PTs (X.blk s0 H0 scope ce fp) ifs tt) (a : Ahead (X.blk s0 H0 scope ce fp) fp tn (wipe σ vs) i H s) (go : J.go i H)
    (step : ∀ x H', J.yld i H x H' → g x (wipe σ vs) H' fun σ2 H2 => wipe σ2 vs = wipe σ vs ∧ tt σ2 H2 fun b H3 => if b = true then Body σ2 H3 else Nx H3)
    (yes : ∀ pl σ2 H2 s2, Inv (X.blk s0 H0 scope ce fp) pl σ2 H2 s2 → Body σ2 H2 → (∀ H' s', Inv (X.blk s0 H0 scope ce fp) pl σ2 H' s' → Ahead (X.blk s0 H0 scope ce fp) fp tn (wipe σ vs) (i + 1) H' s') → Fy s2)
    (no : ∀ H' s', Ahead (X.blk s0 H0 scope ce fp) fp tn (wipe σ vs) (i + 1) H' s' → Nx H' → Fn s') :
    wpAny (model X.prog X.w) X.A (pyNext (.ref it)) (fun r s1 => match r with
      | none => F0 s1
      | some v => wpAny (model X.prog X.w) X.A (letOwnedTupleGo tg (.ref it) v) (fun _ s2 => wpAny (model X.prog X.w) X.A (assign tg ce v) (fun _ s3 =>
          wpAny (model X.prog X.w) X.A (forIn ifs true fun c r => if r = true then do let ok ← isTrue c ce (eval c ce); pure (ForInStep.yield ok) else pure (ForInStep.yield r)) (fun ok s4 => if ok = true then Fy s4 else Fn s4) E s3) E s2) E s1) E s := by
  refine thnF (T.item (X.blk s0 H0 scope ce fp) rfl rfl rfl hc i [] s _ H _ a.inv (blk_fp a.inv a.off) a.at_ go) fun r s1 ⟨v, hr, h1⟩ => ?_
  subst hr
  refine thnF h1 fun _ s2 ⟨x, H2, I2, rx, y2, st2, off2⟩ => ?_
  have P2 := I2.pinned (blk_fp I2 off2) (T.obj _ _ st2)
  refine thnF (pg.run _ s2 _ H2 x v _ P2 rx (step x H2 y2)) fun _ s3 ⟨σ3, H3, I3, hw, q3⟩ => ?_
  have close : ∀ H' s', Inv (X.blk s0 H0 scope ce fp) ([] ++ pinsAt fp s2.heap) σ3 H' s' → Ahead (X.blk s0 H0 scope ce fp) fp tn (wipe σ vs) (i + 1) H' s' := fun H' s' I' => by
    have pin : ∀ b ∈ fp, ∀ o, s2.heap.get? b = some o → s'.heap.get? b = some o ∧ H' b = none := fun b hb o e =>
      have z := I'.pin (b, o) (List.mem_append_right _ (List.mem_append_right _ (mem_pinsAt hb e)))
      ⟨z.1, z.2.1⟩
    refine ⟨(I'.unpinned (pins := [])).weak (hw ▸ wipe_length σ3 vs) fun j v e => (wipe_some (hw ▸ e : (wipe σ3 vs)[j]? = _)).1, T.keep _ _ _ st2 fun b hb o e => (pin b hb o e).1, fun b hb => ?_⟩
    obtain ⟨o, e, _⟩ := T.obj _ _ st2 b hb
    exact (pin b hb o e).2
  refine thnF (pt.run _ s3 σ3 H3 _ I3 q3) fun ok s4 ⟨H4, I4, q4⟩ => ?_
  cases ok with
  | true => exact yes _ σ3 H4 s4 I4 q4 close
  | false => exact no H4 s4 (close H4 s4 I4) q4
/-- D[b] = r, b a tuple key -/
theorem put_T {E : Value → Shared → Prop} {D b : Addr} {kvs : List (List Key × V)} {k : List Key} {v : V} {r : Value} {Q : Unit → Shared → Prop} (hu : X.A.units + 1 < cLine) (I : Inv X pins σ H s) (hD : H D = some (.dT kvs)) (hz : kvs.length < sizeLine) (hb : H b = some (.tup (k.map kV))) (rv : RelV v r)
    (h : ∀ s', Inv X pins σ (upd H D (.dT (putK kvs k v))) s' → Q () s') : wpAny (model X.prog X.w) X.A (dictSet D (.ref b) r) Q E s := by
  have ⟨_, low, xs, rel, dd⟩ := dt_of I.hok hD
  have room : (tupleKind (mixKind X.prog X.w)).room X.A := Nat.lt_of_succ_lt hu
  apply wpAny_dictSet_heap room (key_of I.hok hb) dd (hsz := Paired.length rel ▸ Nat.le_of_lt hz)
  intro h' ⟨q, es, ep, hq, d1, d2, d3, _, d4⟩ sb
  have len : (putK kvs k v).length ≤ sizeLine := Nat.le_trans (length_putK kvs k v) hz
  have other : ∀ c ys, H c = some (.tup ys) → upd H D (.dT (putK kvs k v)) c = some (.tup ys) := fun c ys e => (upd_ne (ne_of e hD nofun)).trans e
  exact h _ (d_write I (by rw [hD]; trivial) sb ⟨q, hq⟩ ⟨len, low, _, (rel.put k hb rv).keeps other, q, es, ep, hq, d1, d2, d3, d4⟩)
end
/-! a dict comprehension whose keys are tuples -/
/-- the key c, the value z put in; then nx -/
def KeyPut (D : Addr) (tk tv : TE) (nx : Hp → Prop) : Sl → Hp → Prop := fun σ H => tk σ H fun y H1 => tv σ H1 fun z H2 => ∃ kvs k c, y = .ref c ∧ H2 c = some (.tup (List.map kV k)) ∧ H2 D = some (.dT kvs) ∧ kvs.length < sizeLine ∧ nx (upd H2 D (.dT (putK kvs k z)))
/-- what a turn is asked: the end, or an item with which the count goes down -/
def DcTurn (J : It) (g : TG) (tt : TT) (tk tv : TE) (τ : Sl) (vs : List Nat) (D : Addr) (fin : Hp → Prop) (W : Nat → Nat → Hp → Prop) (i m : Nat) (H : Hp) : Prop :=
  J.stop i H ∧ fin H ∨ J.go i H ∧ ∀ x H', J.yld i H x H' → g x τ H' fun σ2 H2 => wipe σ2 vs = τ ∧ tt σ2 H2 fun b H3 =>
    if b = true then KeyPut D tk tv (fun H4 => ∃ m', m' < m ∧ W (i + 1) m' H4) σ2 H3 else ∃ m', m' < m ∧ W (i + 1) m' H3
def tDcT (wi : TI) (g : TG) (tt : TT) (tk tv : TE) (vs : List Nat) : TE := fun σ H Q => wi σ H fun J H1 => ∀ D, H1 D = none → ∃ W : Nat → Nat → Hp → Prop,
  (∃ m, W 0 m (upd H1 D (.dT []))) ∧ ∀ i m H, W i m H → DcTurn J g tt tk tv (wipe σ vs) vs D (Q (.ref D)) W i m H
section
variable {X : Cx} {kx vx tg iter : Expr} {ifs : List Expr} {scope : Scope} {own : List (Str × Nat)} {pos : Pos} {wi : TI} {g : TG} {tt : TT} {tk tv : TE}
/-- the loop, once the frame stands -/
theorem dcT_loop {pins : List (Addr × Obj)} {σ : Sl} {H0 : Hp} {s0 s : Shared} {ce : Env} {fp : List Addr} {it D : Addr} {J : It} {tn : Nat → Heap → Prop} {Q : VK} {W : Nat → Nat → Hp → Prop} {m0 : Nat} (hu : X.A.units + 64 < cLine) (hc : X.calm = true) (T : Turn X.prog X.w X.K tg J fp it tn)
    (I0 : Inv X pins σ H0 s0) (f0 : ∀ b ∈ fp, FpOk X pins H0 b) (hC : ce.locals = s0.heap.objs.size) (pg : PG (X.blk s0 H0 scope ce fp) tg g) (pt : PTs (X.blk s0 H0 scope ce fp) ifs tt) (pk : PE (X.blk s0 H0 scope ce fp) kx tk) (pv : PE (X.blk s0 H0 scope ce fp) vx tv)
    (turn : ∀ i m H, W i m H → DcTurn J g tt tk tv (wipe σ (own.map (·.2))) (own.map (·.2)) D (Q (.ref D)) W i m H)
    (w0 : W 0 m0 H0) (a0 : Ahead (X.blk s0 H0 scope ce fp) fp tn (wipe σ (own.map (·.2))) 0 H0 s) :
    codeAny (model X.prog X.w) X.A (.compLoop (.DictComp kx vx [⟨tg, iter, ifs, 0⟩] scope pos) 0 (.ref it) (.ref D) ce) (compPost (model X.prog X.w) X.A X.xe none (EP X pins σ Q) (.ref D) s0.heap.objs.size) s := by
  refine compLoop_anyD (fun n s' => ∃ i H', W i n H' ∧ Ahead (X.blk s0 H0 scope ce fp) fp tn (wipe σ (own.map (·.2))) i H' s') (fun n s1 ⟨i, H1, w1, a1⟩ => ?_) m0 ⟨0, H0, w0, a0⟩
  rcases turn i n H1 w1 with ⟨stop, q⟩ | ⟨go, step⟩
  · refine thnF (T.done (X.blk s0 H0 scope ce fp) rfl rfl rfl hc i [] s1 _ H1 _ a1.inv (blk_fp a1.inv a1.off) a1.at_ stop) fun r s2 ⟨hr, I2⟩ => ?_
    subst hr
    obtain ⟨m, ns, out⟩ := blk_end I0 f0 hC I2
    exact ⟨m, ns, fun h' sb => ⟨.ref D, H1, out h' sb, rfl, q⟩⟩
  · have on : ∀ H' s', Ahead (X.blk s0 H0 scope ce fp) fp tn (wipe σ (own.map (·.2))) (i + 1) H' s' → (∃ m', m' < n ∧ W (i + 1) m' H') → ∃ m, m < n ∧ ∃ i H', W i m H' ∧ Ahead (X.blk s0 H0 scope ce fp) fp tn (wipe σ (own.map (·.2))) i H' s' := fun H' s' a' ⟨m', lt, w'⟩ => ⟨m', lt, i + 1, H', w', a'⟩
    refine blk_turn T hc pg pt a1 go step (fun pl σ2 H2 s2 I2 q2 close => ?_) on
    refine thnF (pk.run pl s2 σ2 H2 _ I2 q2) fun kv s3 ⟨y, H3, I3, ry, q3⟩ => thnF (pv.run pl s3 σ2 H3 _ I3 q3) fun vv s4 ⟨z, H4, I4, rz, kvs, k, c, ey, hk, hD, hz, nx⟩ => ?_
    subst ey
    obtain rfl : kv = .ref c := ry
    exact put_T (X := X.blk s0 H0 scope ce fp) (by show X.A.units + 1 < cLine; omega) I4 hD hz hk rz fun s5 I5 => on _ _ (close _ _ I5) nx
theorem pe_dcT (hu : X.A.units + 64 < cLine) (hc : X.calm = true) (hN : X.N.Nodup) (hi : PI X tg iter wi) (ok : BlkOk X.N X.env.scope scope own) (hg : InBlk X scope fun Y => PG Y tg g) (ht : InBlk X scope fun Y => PTs Y ifs tt)
    (hk : InBlk X scope fun Y => PE Y kx tk) (he : InBlk X scope fun Y => PE Y vx tv) (hs : ∀ x, foldedSetIterable iter X.env x = pure x := by intro _; rfl) :
    PE X (.DictComp kx vx [⟨tg, iter, ifs, 0⟩] scope pos) (tDcT wi g tt tk tv (own.map (·.2))) where
  run pins s σ H Q I h := by
    rw [arm_eval_DictComp]
    have cells : closureFor scope X.env = pure (cloFrom X.env.cells scope.names []) := closure_ok fun y hy e => I.ok.has _ (ok.free y hy e)
    refine wpAny_comprehension_free rfl hs cells ok.kind (fun y hy e => e ▸ ok.uniq y hy) (thn (hi.run pins s σ H _ I h) fun _ s1 h1 => thn h1 fun _ s2 ⟨it, fp, tn, J, H2, e, I2, T, st, f2, q⟩ => ?_)
    subst e
    have nD := I2.hok.fresh (Nat.le_refl s2.heap.objs.size)
    obtain ⟨W, ⟨m0, w0⟩, turn⟩ := q _ nD
    have below : ∀ b ∈ fp, b < s2.heap.objs.size := fun b hb => let ⟨_, e, _⟩ := T.obj _ _ st b hb; Heap.lt_size e
    have I3 := I2.laid (t' := s2.toks) (h' := s2.heap.push { cls := .type "dict", data := .dict #[] }) (fun b o e => Heap.get?_push_of_some _ e) (Nat.le_refl _) (dt_empty s2.heap I2.big)
    have off : ∀ b ∈ fp, upd H2 s2.heap.objs.size (.dT []) b = none := fun b hb => (upd_ne (Nat.ne_of_lt (below b hb))).trans (f2 b hb).1
    have f3 : ∀ b ∈ fp, FpOk X pins (upd H2 s2.heap.objs.size (.dT [])) b := fun b hb => ⟨off b hb, (f2 b hb).2⟩
    refine wpAny_newObj_type (newEnv_comp ?_)
    have I4 := block_start I3 ok hN fun b hb => ⟨f3 b hb, by show b < (s2.heap.push _).objs.size; rw [Heap.size_push]; exact Nat.lt_succ_of_lt (below b hb)⟩
    have st4 := T.keep _ _ _ st fun b _ o e => pushCells_keeps scope.names _ _ _ (Heap.get?_push_of_some { cls := .type "dict", data := .dict #[] } (Heap.get?_push_of_some { cls := .type "dict", data := .dict #[] } e))
    have loop := dcT_loop (kx := kx) (vx := vx) (iter := iter) (pos := pos) (Q := Q) hu hc T I3 f3 rfl (hg _ _ _ _ _) (ht _ _ _ _ _) (hk _ _ _ _ _) (he _ _ _ _ _) turn w0 ⟨I4, st4, off⟩
    exact codeAny_compStart_dict loop (T.self X.A 0 _ _ _ st4 loop)
end
end L3

set_option Elab.async false
set_option linter.all false
set_option maxRecDepth 100000
set_option maxHeartbeats 1000000
namespace L3
open PySem PySem.Spec PyProof.Rows L2
/-- a tuple of texts that stands in the heap itself; a tuple of anything -/
def TT : Rl (List Str) := fun xs M v => ∃ a, v = .ref a ∧ M a = some (.tup (xs.map V.str))
instance : Mon TT := ⟨fun e ⟨a, h, r⟩ => ⟨a, h, e _ _ r⟩⟩
theorem TT.tup {K : PySem.W.Frag} {xs : List Str} {M : Hp} {v : V} (h : TT xs M v) : TupR K Tx xs M v := let ⟨a, e, r⟩ := h; ⟨a, _, e, .inl (.inl r), pd_of_tx xs⟩
theorem TT.sq {K : PySem.W.Frag} {xs : List Str} {M : Hp} {v : V} (h : TT xs M v) : SqR K Tx xs M v := .inr h.tup
theorem py_TT {K : PySem.W.Frag} : PyR K TT fun xs => .tuple (xs.map .str) := fun xs M v h => py_tup py_str _ _ _ h.tup
theorem TT.new {M : Hp} {p : Addr} (xs : List Str) : TT xs (upd M p (.tup (xs.map V.str))) (.ref p) := ⟨p, rfl, upd_same⟩
theorem inj_TT : Inj fun xs : List Str => PyData.tuple (xs.map .str) := inj_tup inj_str
def TuR {α : Type} (R : Rl α) : Rl (List α) := fun xs M v => ∃ a vs, v = .ref a ∧ M a = some (.tup vs) ∧ Pd R M xs vs
def LiR {α : Type} (R : Rl α) : Rl (List α) := fun xs M v => ∃ a vs, v = .ref a ∧ M a = some (.lst vs) ∧ Pd R M xs vs
section
variable {K : PySem.W.Frag} {α : Type} {R : Rl α}
instance [Mon R] : Mon (TuR R) := ⟨fun e ⟨a, vs, h1, h2, h3⟩ => ⟨a, vs, h1, e _ _ h2, h3.mono e⟩⟩
instance [Mon R] : Mon (LiR R) := ⟨fun e ⟨a, vs, h1, h2, h3⟩ => ⟨a, vs, h1, e _ _ h2, h3.mono e⟩⟩
theorem TuR.tup {xs : List α} {M : Hp} {v : V} (h : TuR R xs M v) : TupR K R xs M v := let ⟨a, vs, e, r, p⟩ := h; ⟨a, vs, e, .inl (.inl r), p⟩
theorem TuR.sq {xs : List α} {M : Hp} {v : V} (h : TuR R xs M v) : SqR K R xs M v := .inr h.tup
theorem LiR.lst {xs : List α} {M : Hp} {v : V} (h : LiR R xs M v) : LstR K R xs M v := let ⟨a, vs, e, r, p⟩ := h; ⟨a, vs, e, .inl (.inl r), p⟩
theorem LiR.sq {xs : List α} {M : Hp} {v : V} (h : LiR R xs M v) : SqR K R xs M v := .inl h.lst
end
/-! tuple({x: True for x in xs}): each once -/
def onceP {α : Type} [DecidableEq α] (acc : List α) (x : α) : List α := if x ∈ acc then acc else acc ++ [x]
def once {α : Type} [DecidableEq α] (xs : List α) : List α := xs.foldl onceP []
def ent (acc : List (List Str)) : List (List Key × V) := acc.map fun c => (c.map Sum.inr, V.bl true)
theorem inr_inj : ∀ {a b : List Str}, a.map (Sum.inr : Str → Key) = b.map Sum.inr → a = b
  | [], [], _ => rfl
  | [], _ :: _, h => by simp at h
  | _ :: _, [], h => by simp at h
  | x :: a, y :: b, h => by
    simp only [List.map_cons, List.cons.injEq, Sum.inr.injEq] at h
    rw [h.1, inr_inj h.2]
theorem putK_ent (acc : List (List Str)) (c : List Str) : putK (ent acc) (c.map Sum.inr) (V.bl true) = ent (onceP acc c) := by
  unfold putK onceP
  have e : ((ent acc).any fun kv => decide (kv.1 = c.map Sum.inr)) = decide (c ∈ acc) := by
    unfold ent
    rw [List.any_map]
    induction acc with
    | nil => simp
    | cons x r ih =>
      rw [List.any_cons, ih]
      by_cases h : c = x
      · subst h; simp
      · have h1 : ¬ x.map (Sum.inr : Str → Key) = c.map Sum.inr := fun z => h (inr_inj z).symm
        simp [h, h1]
  rw [e]
  by_cases h : c ∈ acc
  · rw [decide_eq_true h, if_pos rfl, if_pos h]
    unfold ent
    rw [List.map_map]
    refine List.map_congr_left fun x _ => ?_
    show (if _ then _ else _) = _
    by_cases h2 : x.map (Sum.inr : Str → Key) = c.map Sum.inr
    · rw [if_pos h2]
    · rw [if_neg h2]
  · rw [decide_eq_false h, if_neg (by simp), if_neg h]
    unfold ent
    rw [List.map_append]
    rfl
theorem key_V (c : List Str) : (c.map (Sum.inr : Str → Key)).map kV = c.map V.str := by rw [List.map_map]; rfl
theorem onceP_len {α : Type} [DecidableEq α] (acc : List α) (x : α) : (onceP acc x).length ≤ acc.length + 1 := by
  unfold onceP; split
  · omega
  · simp
section
variable {K : PySem.W.Frag} {σ : Sl} {M : Hp} {wi : TI}
theorem gv_once {j : Nat} {xs : List (List Str)} (hj : j < σ.length) (hsrc : GvI wi σ M xs TT) (hz : xs.length ≤ sizeLine) :
    Gv (tCB rTupD (tCons (tDcT wi (gName j) tYes (tVar j) (tC (.bl true)) [j]) tNil)) σ M (TuR TT (once xs)) := by
  intro H mh Q q
  refine hsrc H mh _ fun J M1 H1 g1 ⟨G, Y, w, hG, hY⟩ D hD => ?_
  let Pv : Nat → Hp → Prop := fun i H' => ∃ M' acc, Gr M1 H1 M' H' ∧ M' D = none ∧ acc = (xs.take i).foldl onceP [] ∧ acc.length ≤ i ∧ H' D = some (.dT (ent acc))
  refine ⟨fun i m H' => m = xs.length - i ∧ i ≤ xs.length ∧ Pv i H', ⟨xs.length, by omega, Nat.zero_le _, M1, [], .own g1.mh hD, g1.mh.free hD, rfl, Nat.le_refl _, upd_same⟩, ?_⟩
  rintro i m H' ⟨rfl, hi, M', acc, g, m0, eacc, hl, hw⟩
  by_cases hlt : i < xs.length
  · refine .inr ⟨w.goes i H' hlt (hG M' H' g.mm g.mh), fun y H2 hy => ?_⟩
    obtain ⟨x, M2, hx, g2, ⟨b, rfl, rb⟩⟩ := hY i M' H' y H2 g.mm g.mh hlt (w.yields i H' y H2 hlt (hG M' H' g.mm g.mh) hy)
    have et : xs.take (i + 1) = xs.take i ++ [x] := by rw [List.take_add_one, hx]; rfl
    have hs : ((wipe σ [j]).set j (some (V.ref b)))[j]? = some (some (V.ref b)) := by rw [List.getElem?_set_self (by rw [wipe_length]; exact hj)]
    refine ⟨wipe1, .ref b, hs, ent acc, x.map Sum.inr, b, rfl, by rw [key_V]; exact g2.mh _ _ rb, g2.hh _ _ hw, by unfold ent; rw [List.length_map]; exact Nat.lt_of_le_of_lt hl (Nat.lt_of_lt_of_le hlt hz), ?_⟩
    refine ⟨xs.length - (i + 1), by omega, rfl, hlt, M2, onceP acc x, (g.trans g2).mut hD (g2.keep m0 hw), g2.keep m0 hw, by rw [et, List.foldl_append, ← eacc]; rfl, Nat.le_trans (onceP_len acc x) (Nat.succ_le_succ hl), ?_⟩
    rw [upd_same, putK_ent]
  · have e : i = xs.length := by omega
    subst e
    rw [List.take_length] at eacc
    refine .inl ⟨w.stops H' (hG M' H' g.mm g.mh), D, ent acc, rfl, .inl hw, fun p bs np hk => ?_⟩
    have hbs : ∀ b ∈ bs, ∃ ys, H' b = some (.tup ys) := by
      intro b hb
      have go : ∀ {kvs : List (List Key × V)} {bs : List Addr}, IsKeys H' kvs bs → ∀ b ∈ bs, ∃ ys, H' b = some (.tup ys) := by
        intro kvs bs h
        induction h with
        | nil => intro b hb; cases hb
        | cons q _ ih =>
          intro b hb
          rcases List.mem_cons.mp hb with rfl | hb
          · exact ⟨_, q⟩
          · exact ih b hb
      exact go hk b hb
    have gt := Gr.tups g.mh hbs
    have hpd : Pd TT (withT M' H' bs) acc (bs.map V.ref) := by
      have go : ∀ {acc : List (List Str)} {cs : List Addr}, (∀ c ∈ cs, c ∈ bs) → IsKeys H' (ent acc) cs → Pd TT (withT M' H' bs) acc (cs.map V.ref) := by
        intro acc
        induction acc with
        | nil => intro cs _ h; cases h; exact .nil
        | cons x r ih =>
          intro cs hc h
          cases h with
          | cons q t => exact .cons ⟨_, rfl, withT_in g.mh (hc _ List.mem_cons_self) (by rw [← key_V]; exact q)⟩ (ih (fun c h => hc c (List.mem_cons_of_mem _ h)) t)
      exact go (fun c h => h) hk
    have gn := Gr.new (o := .tup (bs.map V.ref)) gt.mh np
    refine q _ _ _ (((g1.trans g).trans gt).trans gn) ⟨p, _, rfl, upd_same, ?_⟩
    unfold once
    rw [← eacc]
    exact hpd.mono gn.mm
end
end L3

set_option Elab.async false
set_option linter.all false
set_option maxRecDepth 100000
set_option maxHeartbeats 1000000
namespace L3
open PySem PySem.Spec PyProof.Rows L2
/-! something of ours is lent to the known part while an expression runs -/
def del (M : Hp) (x : Addr) : Hp := fun a => if a = x then none else M a
theorem del_ne {M : Hp} {x a : Addr} (h : a ≠ x) : del M x a = M a := if_neg h
theorem del_at {M : Hp} {x : Addr} : del M x x = none := if_pos rfl
class Stb (P : Pr) : Prop where
  del : ∀ {M : Hp} {v : V} {x : Addr} {o : HO}, (∀ xs, o ≠ HO.tup xs) → M x = some o → P M v → P (del M x) v
class Stl {α : Type} (R : Rl α) : Prop where
  del : ∀ {y : α} {M : Hp} {v : V} {x : Addr} {o : HO}, (∀ xs, o ≠ HO.tup xs) → M x = some o → R y M v → R y (del M x) v
instance {α : Type} {R : Rl α} [h : Stl R] {y : α} : Stb (R y) := ⟨fun a b c => h.del a b c⟩
instance : Stl Tx := ⟨fun _ _ h => h⟩
instance : Stl It' := ⟨fun _ _ h => h⟩
instance : Stl Bl := ⟨fun _ _ h => h⟩
instance : Stl OpN := ⟨fun _ _ h => h⟩
theorem tup_ne {M : Hp} {a x : Addr} {o : HO} {xs : List V} (hn : ∀ xs, o ≠ HO.tup xs) (hx : M x = some o) (ha : M a = some (.tup xs)) : a ≠ x := fun z => by
  subst z; rw [hx] at ha; exact hn xs (Option.some.inj ha)
instance : Stl TT := ⟨fun hn hx ⟨a, e, r⟩ => ⟨a, e, by rw [del_ne (tup_ne hn hx r)]; exact r⟩⟩
theorem Pd.del {α : Type} {R : Rl α} [Stl R] {M : Hp} {x : Addr} {o : HO} (hn : ∀ xs, o ≠ HO.tup xs) (hx : M x = some o) {ys : List α} {vs : List V} (h : Pd R M ys vs) : Pd R (L3.del M x) ys vs := Paired.mapP h fun _ _ q => Stl.del hn hx q
instance {α : Type} {R : Rl α} [Stl R] : Stl (TuR R) := ⟨fun hn hx ⟨a, vs, e, r, p⟩ => ⟨a, vs, e, by rw [del_ne (tup_ne hn hx r)]; exact r, p.del hn hx⟩⟩
theorem same_lent {M H : Hp} {x : Addr} {o : HO} (mh : Same M H) (hx : H x = some o) : Same (upd M x o) H := fun b u e => by
  by_cases hb : b = x
  · subst hb; rw [upd_same] at e; rw [hx]; exact e
  · rw [upd_ne hb] at e; exact mh b u e
theorem Gr.back {M H M' H' : Hp} {x : Addr} {o : HO} (g : Gr (upd M x o) H M' H') (hm : M x = none) : Gr M H (del M' x) H' := by
  refine ⟨fun a u e => ?_, g.hh, fun a u e => ?_, fun a u e => ?_, fun a ps e => by
    by_cases ha : a = x
    · subst ha; rw [del_at] at e; cases e
    · rw [del_ne ha] at e
      have h := g.nt a ps e
      rw [upd_ne ha] at h
      exact h⟩
  · have na : a ≠ x := ne_of_none e hm
    rw [del_ne na]
    exact g.mm a u (by rw [upd_ne na]; exact e)
  · by_cases ha : a = x
    · subst ha; rw [del_at] at e; cases e
    · rw [del_ne ha] at e; exact g.mh a u e
  · by_cases ha : a = x
    · subst ha; rw [del_at] at e; cases e
    · rw [del_ne ha] at e
      rcases g.nw a u e with h | h
      · rw [upd_ne ha] at h; exact .inl h
      · exact .inr h
section
variable {K : PySem.W.Frag} {σ : Sl} {M H : Hp} {te : TE} {P : Pr} {x : Addr} {o : HO}
theorem Gv.lend [Stb P] (h : Gv te σ (upd M x o) P) (hm : M x = none) (mh : Same M H) (hx : H x = some o) (hn : ∀ xs, o ≠ HO.tup xs) {Q : VK} (q : ∀ v M' H', Gr M H M' H' → M' x = none → H' x = some o → P M' v → Q v H') : te σ H Q :=
  h H (same_lent mh hx) Q fun v M' H' g p => q v _ H' (g.back hm) del_at (g.hh _ _ hx) (Stb.del hn (g.mm x o upd_same) p)
end
/-! our instance -/
structure OwnI (H0 M H : Hp) (x C dx : Addr) (fs : List (Str × V)) : Prop where
  h0 : H0 x = none
  m : M x = none
  h : H x = some (.ins C dx fs)
theorem ins_nt {C dx : Addr} {fs : List (Str × V)} : ∀ xs, HO.ins C dx fs ≠ HO.tup xs := by intro _ z; cases z
/-- self.f = e, self in slot i -/
theorem s_fld {K : PySem.W.Frag} {σ : Sl} {M H : Hp} {te : TE} {P : Pr} {D : Ends} {i : Nat} {x C dx : Addr} {fs : List (Str × V)} {f : Str} [Stb P] (mh : Same M H) (hm : M x = none) (hx : H x = some (.ins C dx fs)) (hi : σ[i]? = some (some (.ref x))) (cl : Cls K C) (na : NoAttr K C f) (hl : fs.length < 1000)
    (h : Gv te σ (upd M x (.ins C dx fs)) P) (k : ∀ v M' H', Gr M H M' H' → M' x = none → P M' v → D.nx σ (upd H' x (.ins C dx (putF f v fs)))) : sFld K (tVar i) te f D σ H :=
  h.lend hm mh hx ins_nt fun v M' H' g m0 hx' p => ⟨.ref x, hi, x, C, dx, fs, rfl, hx', cl, na, hl, k v M' H' g m0 p⟩
theorem q_fld {K : PySem.W.Frag} {σ : Sl} {M H : Hp} {te : TE} {P : Pr} {D : Ends} {tz : TS} {i : Nat} {x C dx : Addr} {fs : List (Str × V)} {f : Str} [Stb P] (mh : Same M H) (hm : M x = none) (hx : H x = some (.ins C dx fs)) (hi : σ[i]? = some (some (.ref x))) (cl : Cls K C) (na : NoAttr K C f) (hl : fs.length < 1000)
    (h : Gv te σ (upd M x (.ins C dx fs)) P) (k : ∀ v M' H', Gr M H M' H' → M' x = none → P M' v → tz D σ (upd H' x (.ins C dx (putF f v fs)))) : tSeq (sFld K (tVar i) te f) tz D σ H :=
  s_fld (D := { D with nx := tz D }) mh hm hx hi cl na hl h k
theorem gv_self {K : PySem.W.Frag} {σ : Sl} {M : Hp} {P : Pr} {i : Nat} {x C dx : Addr} {fs : List (Str × V)} {f : Str} {u : V} (hi : σ[i]? = some (some (.ref x))) (hx : M x = some (.ins C dx fs)) (cl : Cls K C) (na : NoAttr K C f) (l : fs.lookup f = some u) (p : P M u) : Gv (tFld K (tVar i) f) σ M P :=
  fun H mh Q q => ⟨.ref x, hi, x, C, dx, fs, u, rfl, mh _ _ hx, cl, na, l, q u M H (.refl mh) p⟩
theorem putF_len {f : Str} {v : V} {fs : List (Str × V)} {n : Nat} (h : fs.length ≤ n) : (putF f v fs).length ≤ n + 1 := Nat.le_trans (length_putF f v fs) (Nat.succ_le_succ h)
theorem lt1000 {n m : Nat} (h : n ≤ m) (hm : m < 1000 := by decide) : n < 1000 := Nat.lt_of_le_of_lt h hm
/-- e.f of an instance that is known -/
theorem gv_fld {K : PySem.W.Frag} {σ : Sl} {M : Hp} {te : TE} {P P' : Pr} {f : Str} [Mono P'] (h : Gv te σ M P') (hf : ∀ M' v, P' M' v → ∃ a C dx fs u, v = .ref a ∧ M' a = some (.ins C dx fs) ∧ Cls K C ∧ NoAttr K C f ∧ fs.lookup f = some u ∧ P M' u) : Gv (tFld K te f) σ M P := fun H mh Q q =>
  h H mh _ fun v M1 H1 g1 p1 => let ⟨a, C, dx, fs, u, e, hm, cl, na, l, p⟩ := hf M1 v p1; ⟨a, C, dx, fs, u, e, g1.mh _ _ hm, cl, na, l, q _ M1 H1 g1 p⟩
section
variable {K : PySem.W.Frag} {σ : Sl} {M : Hp} {ta tb te : TE} {α : Type} {R : Rl α}
/-- tuple + tuple -/
theorem gv_addT [Mon R] {xs ys : List α} (ha : Gv ta σ M (TuR R xs)) (hb : Gv tb σ M (TuR R ys)) (hz : xs.length + ys.length ≤ sizeLine) : Gv (tOp (rAddA K) ta tb) σ M (TuR R (xs ++ ys)) := by
  refine gv_op ha hb fun M' u w ⟨a, vs, e1, r1, p1⟩ ⟨b, ws, e2, r2, p2⟩ H mh Q q => .inr (.inr (.inl ⟨a, b, vs, ws, e1, e2, .inl (.inl (mh _ _ r1)), .inl (.inl (mh _ _ r2)), by rw [← p1.length, ← p2.length]; exact hz, fun e => ?_, fun e1 e2 => ?_, fun _ _ p np => ?_⟩))
  · subst e; cases p1
    exact q _ M' H (.refl mh) ⟨b, ws, rfl, r2, p2⟩
  · subst e2; cases p2
    exact q _ M' H (.refl mh) ⟨a, vs, rfl, r1, by rw [List.append_nil]; exact p1⟩
  · exact q _ _ _ (.new mh np) ⟨p, _, rfl, upd_same, Pd.mono (R := R) (same_new (mh.free np)) (pd_app p1 p2)⟩
theorem TT.ts {xs : List Str} {M : Hp} {v : V} (h : TT xs M v) : TuR Tx xs M v := let ⟨a, e, r⟩ := h; ⟨a, _, e, r, pd_of_tx xs⟩
theorem TuR.tt {xs : List Str} {M : Hp} {v : V} (h : TuR Tx xs M v) : TT xs M v := let ⟨a, vs, e, r, p⟩ := h; ⟨a, e, by rw [← pd_tx p]; exact r⟩
theorem gv_addTT {xs ys : List Str} (ha : Gv ta σ M (TT xs)) (hb : Gv tb σ M (TT ys)) (hz : xs.length + ys.length ≤ sizeLine) : Gv (tOp (rAddA K) ta tb) σ M (TT (xs ++ ys)) :=
  gv_is (gv_addT (R := Tx) (gv_is ha fun _ _ h => h.ts) (gv_is hb fun _ _ h => h.ts) hz) fun _ _ h => h.tt
theorem gv_nilT : Gv (tTup tNil) σ M (TT []) := gv_tup ga_nil (fun _ vs h => by rw [h]; exact Nat.zero_le _) fun M' vs p h _ => by subst h; exact ⟨p, rfl, upd_same⟩
end
/-- a def with defaults, no exception leaves it -/
theorem funD_ok {P : Program} {w : World} {K : PySem.W.Frag} {mg : Str → Option Value} {base : Heap} {x qual : Str} {params : Arguments} {body : List Stmt} {scope : Scope} {dvs : List V} {kws : List (Str × V)} {f : Addr} {fd : FuncData} {N ps : List Str} {k : Nat} {sp : Sp}
    (F : FunD K x qual params body scope dvs kws f fd) (S : FnScope N ps scope) (len : ∀ vs H Q E, sp vs H Q E → vs.length = ps.length)
    (hb : ∀ (cdv : Value) (A : Around) (outer : List Env) (s : Shared) (H : Hp) (vs : List V) (Q : VK) (E : XK), Room k (A.deeper (envOfC qual scope s.heap.objs.size f cdv)) → sp vs H Q E →
      ∃ t, PSs (cxOf CX0 P w K mg base N qual scope f cdv A outer s H E).nox body t ∧ t { nx := fun _ H' => Q .non H', rt := Q } (start N vs) H) : FnOk P w K mg base CX0 (k + 1) f fd ps sp :=
  FunD.ok F S len fun cdv A outer s H vs Q E hr hs => let ⟨t, h, q⟩ := hb cdv A outer s H vs Q E hr hs; ⟨t, h.nox, q⟩
end L3

set_option Elab.async false
set_option linter.all false
set_option maxRecDepth 100000
set_option maxHeartbeats 1000000
namespace L3
open PySem PySem.Spec PyProof.Rows L2
/-! a dict of ours whose keys are texts -/
def GvK (te : TE) (σ : Sl) (M : Hp) (ks : List Str) : Prop := ∀ H, Same M H → ∀ Q : VK, (∀ p M' H', Gr M H M' H' → H p = none → M' p = none → H' p = some (.dK (kvT ks)) → Q (.ref p) H') → te σ H Q
theorem putK_kvT (acc : List Str) (x : Str) : putK (kvT acc) (Sum.inr x : Key) (V.bl true) = kvT (onceP acc x) := by
  unfold putK onceP
  have e : ((kvT acc).any fun kv => decide (kv.1 = (Sum.inr x : Key))) = decide (x ∈ acc) := by
    unfold kvT
    rw [List.any_map]
    induction acc with
    | nil => simp
    | cons y r ih =>
      rw [List.any_cons, ih]
      by_cases h : x = y
      · subst h; simp
      · have h1 : ¬ (Sum.inr y : Key) = Sum.inr x := fun z => h (Sum.inr.inj z).symm
        simp [h, h1]
  rw [e]
  by_cases h : x ∈ acc
  · rw [decide_eq_true h, if_pos rfl, if_pos h]
    unfold kvT
    rw [List.map_map]
    refine List.map_congr_left fun y _ => ?_
    show (if _ then _ else _) = _
    by_cases h2 : (Sum.inr y : Key) = Sum.inr x
    · rw [if_pos h2]
    · rw [if_neg h2]
  · rw [decide_eq_false h, if_neg (by simp), if_neg h]
    unfold kvT
    rw [List.map_append]
    rfl
theorem kvT_len (ks : List Str) : (kvT ks).length = ks.length := by unfold kvT; rw [List.length_map]
section
end
/-- what we own: a dict -/
structure OwnK (H0 M H : Hp) (p : Addr) (ks : List Str) : Prop where
  h0 : H0 p = none
  m : M p = none
  h : H p = some (.dK (kvT ks))
theorem OwnK.step {H0 M H M' H' : Hp} {p : Addr} {ks : List Str} (o : OwnK H0 M H p ks) (g : Gr M H M' H') : OwnK H0 M' H' p ks := ⟨o.h0, g.keep o.m o.h, g.hh _ _ o.h⟩
theorem OwnK.idle {H0 M H H' : Hp} {p : Addr} {ks : List Str} (o : OwnK H0 M H p ks) (hh : Same H H') : OwnK H0 M H' p ks := ⟨o.h0, o.m, hh _ _ o.h⟩
theorem OwnK.put {H0 M H : Hp} {p : Addr} {ks ls : List Str} (o : OwnK H0 M H p ks) : OwnK H0 M (upd H p (.dK (kvT ls))) p ls := ⟨o.h0, o.m, upd_same⟩
/-- another thing of ours changes -/
theorem OwnK.off {H0 M H : Hp} {p b : Addr} {ks : List Str} {u : HO} (o : OwnK H0 M H p ks) (h : p ≠ b) : OwnK H0 M (upd H b u) p ks := ⟨o.h0, o.m, by rw [upd_ne h]; exact o.h⟩
theorem Own.off {H0 M H : Hp} {p b : Addr} {vs : List V} {u : HO} (o : Own H0 M H p vs) (h : p ≠ b) : Own H0 M (upd H b u) p vs := ⟨o.h0, o.m, by rw [upd_ne h]; exact o.h⟩
theorem OwnK.ne {H0 M H : Hp} {p b : Addr} {ks : List Str} {vs : List V} (o : OwnK H0 M H p ks) (q : Own H0 M H b vs) : p ≠ b := ne_of o.h q.h (by intro z; cases z)
theorem OwnK.lent {H0 M H : Hp} {p : Addr} {ks : List Str} (o : OwnK H0 M H p ks) (mh : Same M H) : Same (upd M p (.dK (kvT ks))) H := same_lent mh o.h
theorem OwnK.ct {K : PySem.W.Frag} {M : Hp} {p : Addr} {ks : List Str} : CtR K ks (upd M p (.dK (kvT ks))) (.ref p) := .inr ⟨p, rfl, .inl upd_same⟩
theorem kt_nt {kvs : List (Key × V)} : ∀ xs, HO.dK kvs ≠ HO.tup xs := by intro _ z; cases z
theorem ls_nt {vs : List V} : ∀ xs, HO.lst vs ≠ HO.tup xs := by intro _ z; cases z
/-! a thing is locked for good behind an expression -/
section
variable {K : PySem.W.Frag} {σ : Sl} {M : Hp} {D : Ends} {tc : L2.TT} {tb tz : TS}
theorem q_while {H : Hp} (W : Nat → Sl → Hp → Hp → Prop) {m0 : Nat} (h0 : W m0 σ M H) (hs : ∀ m σ' M' H', W m σ' M' H' → ∃ b Mp, Same Mp H' ∧ GvT tc σ' Mp b ∧
      (b = true → ∀ H1, Same H' H1 → tb { D with nx := fun σ2 H2 => ∃ m' M2, m' < m ∧ W m' σ2 M2 H2, ct := fun σ2 H2 => ∃ m' M2, m' < m ∧ W m' σ2 M2 H2, bk := tz D } σ' H1) ∧ (b = false → ∀ H1, Same H' H1 → tz D σ' H1)) :
    tSeq (tWhile tc tb) tz D σ H := by
  refine ⟨fun m σ' H' => ∃ M', W m σ' M' H', ⟨m0, M, h0⟩, ?_⟩
  rintro m σ' H' ⟨M', w⟩
  obtain ⟨b, Mp, mp, hb, h1, h2⟩ := hs m σ' M' H' w
  refine hb H' mp _ fun M2 H2 g => ?_
  cases b with
  | true => exact ⟨_, fun σ2 H3 ⟨m', M3, hm, w'⟩ => ⟨m', hm, M3, w'⟩, h1 rfl H2 g.hh⟩
  | false => exact h2 rfl H2 g.hh
end
end L3

set_option Elab.async false
set_option linter.all false
set_option maxRecDepth 100000
set_option maxHeartbeats 1000000
namespace L3
open PySem PySem.Spec PyProof.Rows L2
/-! a dict of ours is lent -/
class Sdk (P : Pr) : Prop where
  del : ∀ {M : Hp} {v : V} {x : Addr} {kvs : List (Key × V)}, M x = some (.dK kvs) → P M v → P (L3.del M x) v
class Sdl {α : Type} (R : Rl α) : Prop where
  del : ∀ {y : α} {M : Hp} {v : V} {x : Addr} {kvs : List (Key × V)}, M x = some (.dK kvs) → R y M v → R y (L3.del M x) v
instance {α : Type} {R : Rl α} [h : Sdl R] {y : α} : Sdk (R y) := ⟨fun b c => h.del b c⟩
instance {α : Type} {R : Rl α} [h : Stl R] : Sdl R := ⟨fun b c => h.del kt_nt b c⟩
theorem Pd.delK {α : Type} {R : Rl α} [Sdl R] {M : Hp} {x : Addr} {kvs : List (Key × V)} (hx : M x = some (.dK kvs)) {ys : List α} {vs : List V} (h : Pd R M ys vs) : Pd R (L3.del M x) ys vs := Paired.mapP h fun _ _ q => Sdl.del hx q
instance {α : Type} {R : Rl α} [Sdl R] : Sdl (LiR R) := ⟨fun hx ⟨a, vs, e, r, p⟩ => ⟨a, vs, e, by
  rw [del_ne (fun z => by subst z; rw [hx] at r; cases r)]; exact r, p.delK hx⟩⟩
instance {α : Type} {R : Rl α} [h : Sdl R] : Sdl (OpR' R) := ⟨fun {y M v x kvs} hx r => by
  cases y with
  | none => exact r
  | some y => exact h.del hx r⟩
section
variable {K : PySem.W.Frag} {σ : Sl} {M H : Hp} {te : TE} {P : Pr} {x : Addr} {kvs : List (Key × V)} {D : Ends} {tz : TS}
theorem Gv.lendK [Sdk P] (h : Gv te σ (upd M x (.dK kvs)) P) (hm : M x = none) (mh : Same M H) (hx : H x = some (.dK kvs)) {Q : VK} (q : ∀ v M' H', Gr M H M' H' → M' x = none → H' x = some (.dK kvs) → P M' v → Q v H') : te σ H Q :=
  h H (same_lent mh hx) Q fun v M' H' g p => q v _ H' (g.back hm) del_at (g.hh _ _ hx) (Sdk.del (g.mm x _ upd_same) p)
theorem q_asgK {i : Nat} [Sdk P] (mh : Same M H) (hm : M x = none) (hx : H x = some (.dK kvs)) (h : Gv te σ (upd M x (.dK kvs)) P) (k : ∀ v M' H', Gr M H M' H' → P M' v → tz D (σ.set i (some v)) H') : tSeq (tAsg te (gName i)) tz D σ H :=
  h.lendK hm mh hx fun v M' H' g _ _ p => k v M' H' g p
theorem q_if0 {tt : L2.TT} {b : Bool} {tu : TS} (mh : Same M H) (h : GvT tt σ M b) (h1 : b = true → ∀ H', Same H H' → tu { D with nx := tz D } σ H') (h2 : b = false → ∀ H', Same H H' → tz D σ H') : tSeq (tIfS tt tu tNext) tz D σ H := q_if mh h h1 h2
theorem s_if0 {tt : L2.TT} {b : Bool} {tu : TS} (mh : Same M H) (h : GvT tt σ M b) (h1 : b = true → ∀ H', Same H H' → tu D σ H') (h2 : b = false → ∀ H', Same H H' → D.nx σ H') : tIfS tt tu tNext D σ H := s_if mh h h1 h2
/-! arguments one by one -/
variable {tr ta : TA} {QA : List V → Hp → Prop}
theorem a_V (mh : Same M H) (h : Gv te σ M P) (k : ∀ v M' H', Gr M H M' H' → P M' v → tr σ H' fun vs H2 => QA (v :: vs) H2) : tCons te tr σ H QA := h H mh _ k
theorem a_L {P : Hp → List V → Prop} (mh : Same M H) (h : GvL te σ M P) (k : ∀ p vs M' H', Gr M H M' H' → H p = none → M' p = none → H' p = some (.lst vs) → P M' vs → tr σ H' fun us H2 => QA (.ref p :: us) H2) : tCons te tr σ H QA := h H mh _ k
theorem a_K {ks : List Str} (mh : Same M H) (h : GvK te σ M ks) (k : ∀ p M' H', Gr M H M' H' → H p = none → M' p = none → H' p = some (.dK (kvT ks)) → tr σ H' fun us H2 => QA (.ref p :: us) H2) : tCons te tr σ H QA := h H mh _ k
theorem a_nil (k : QA [] H) : tNil σ H QA := k
theorem q_par2 {i j : Nat} (h : ta σ H fun vs H1 => ∃ u v, vs = [u, v] ∧ tz D ((σ.set i (some u)).set j (some v)) H1) : tSeq (tPar i j ta) tz D σ H := h
theorem s_dputT {i : Nat} {p : Addr} {so : List Str} {l : Str} {tk : TE} (mh : Same M H) (hi : σ[i]? = some (some (.ref p))) (hp : H p = some (.dK (kvT so))) (hz : so.length < sizeLine) (h : Gv tk σ M (Tx l))
    (k : ∀ M' H', Gr M H M' H' → D.nx σ (upd H' p (.dK (kvT (onceP so l))))) : sDPut (tVar i) tk (tC (.bl true)) D σ H :=
  ⟨.ref p, hi, h H mh _ fun v M' H' g r => ⟨p, _, rfl, .inl ⟨kvT so, Sum.inr l, g.hh _ _ hp, r, by rw [kvT_len]; exact hz, rfl⟩, by rw [putK_kvT]; exact k M' H' g⟩⟩
end
end L3

set_option Elab.async false
set_option linter.all false
set_option maxRecDepth 100000
set_option maxHeartbeats 1000000
namespace L3
open PySem PySem.Spec PyProof.Rows L2
/-! len(x) by an own __len__ -/
section
variable {X : Cx} {CX : CXT} {pins : List (Addr × Obj)} {σ : L2.St} {H : Hp} {s : Shared} {a C dx f : Addr} {fs : List (Str × V)} {k : Nat} {fd : FuncData} {ps : List Str} {sp : Sp} {E : XK}
theorem own_inst (I : Inv X pins σ H s) (e : H a = some (.ins C dx fs)) : ∃ ox od, PySem.W.InstAt s.heap a ox C od := let ⟨_, O, _⟩ := ins_get I.hok e; let ⟨_, J, _⟩ := O.look; ⟨_, _, J⟩
/-- the callee runs somewhat deeper -/
theorem run_deep {A : Around} {Q : VK} {us : List Value} {vs : List V} (F : FnOk X.prog X.w X.K X.mg X.base CX k f fd ps sp) (hr : Room k A) (e0 : Env0 X.prog X.w X.K X.mg X.base A X.stack s H) (hb : Binds X.K fd ps []) (hx : Passes CX X E)
    (I : Inv X pins σ H s) (r : Vals vs us) (h : sp vs H Q E) : wpAny (model X.prog X.w) A (call (.ref f) us) (EP X pins σ Q) X.xe s := by
  have hl : (us ++ []).length = ps.length := by rw [List.append_nil, ← r.length]; exact F.len _ _ _ _ h
  have hb' := hb s us I.kIn hl
  rw [List.append_nil] at hb'
  refine wpAny_call (codeAny_mono (F.run A X.stack s H ⟨us, []⟩ us vs Q E hr e0 hb' r h) fun r s' hq => ?_)
  cases r with
  | error e => exact hx pins σ H s e s' I hq
  | ok fl =>
    cases fl with
    | ret u => exact I.after hq
    | next => exact False.elim hq
    | brk => exact False.elim hq
    | cont => exact False.elim hq
def rLenO (C : Addr) (sp : Sp) : List V → Hp → VK → Prop := fun xs H Q => ∃ a dx fs, xs = [V.ref a] ∧ H a = some (.ins C dx fs) ∧ sp [.ref a] H (fun v H' => ∃ n : Nat, v = .int (n : Nat) ∧ n ≤ 1000000000 ∧ Q v H') E0
/-- a class with an own __len__ -/
structure OwnLen (P : Program) (w : World) (K : PySem.W.Frag) (mg : Str → Option Value) (base : Heap) (k : Nat) (C : Addr) (sp : Sp) : Prop where
  ok : ∃ f fd, FnOk P w K mg base CX0 k f fd ["self"] sp ∧ PySem.W.findIn K (.ref C) "__len__" = some (some (.ref f)) ∧ PySem.W.isFn K (.ref f) = true ∧ Binds K fd ["self"] []
theorem call_lenO (o : OwnLen X.prog X.w X.K X.mg X.base k C sp) (hr : Room (k + 1) X.A) : CallR X (.builtin "len") (rLenO C sp) := by
  intro pins s σ H xs us Q I r h
  obtain ⟨f, fd, F, hs, hf, hb⟩ := o.ok
  obtain ⟨a, dx, fs, rfl, ha, q⟩ := h
  obtain ⟨u, rfl, ru⟩ := r.one
  cases (show u = Value.ref a from ru)
  obtain ⟨ox, od, J⟩ := own_inst I ha
  obtain ⟨m, hF⟩ := I.fr
  refine PySem.W.len_K hF I.ok.mod.kin J hs hf (wpAny_mono (run_deep (us := [.ref a]) (vs := [.ref a]) F hr.in1 I.env0.in1 hb pass0 I (.cons rfl .nil) q) (fun w s' z => ?_) fun _ _ x => x)
  obtain ⟨z', H', I', rz, n, ei, hn, qz⟩ := z
  subst ei
  obtain ⟨t, e⟩ := (show ∃ t, w = Value.int n t from rz)
  cases e
  exact ⟨⟨by omega, by omega⟩, .int n, H', I'.tok _, ⟨_, rfl⟩, qz⟩
end
section
variable {α : Type} {σ : Sl} {M : Hp} {te : TE} {R1 : Rl α} {C : Addr}
theorem gv_lenO {pre : α → Prop} {R : α → Pr} {x : α} {n : Nat} (h : Gv te σ M (R1 x)) (hi : ∀ M v, R1 x M v → ∃ a dx fs, v = .ref a ∧ M a = some (.ins C dx fs)) (hp : pre x) (hn : n ≤ 1000000000) (hR : ∀ M v, R x M v → v = .int (n : Nat)) :
    Gv (tCB (rLenO C (sp1 R1 pre R)) (tCons te tNil)) σ M (It' n) := fun H mh Q q => h H mh _ fun v M1 H1 g1 p1 => by
  obtain ⟨a, dx, fs, rfl, ha⟩ := hi M1 v p1
  exact ⟨a, dx, fs, rfl, g1.mh _ _ ha, x, M1, _, rfl, g1.mh, p1, hp, fun u M' H' g r => ⟨n, hR _ _ r, hn, q _ M' H' (g1.trans g) (hR _ _ r)⟩⟩
end
section
variable {σ : Sl} {M H : Hp} {te : TE} {ta : TA} {P : Pr} {D : Ends} {tz : TS} {g : TG} {sp : Sp}
theorem q_asgC (h : ta σ H fun vs H1 => sp (vs ++ []) H1 (fun v H2 => g v σ H2 fun σ' H3 => tz D σ' H3) E0) : tSeq (tAsg (tCall sp [] E0 ta) g) tz D σ H := h
end
end L3

set_option Elab.async false
set_option linter.all false
set_option maxRecDepth 100000
set_option maxHeartbeats 1000000
namespace L3
open PySem PySem.Spec PyProof.Rows L2
/-! the law's stream: two lists that change behind all else -/
structure Strm where
  a : Addr
  b : Addr
namespace Strm
def off (S : Strm) (x : Addr) : Prop := x = S.a ∨ x = S.b
instance {S : Strm} {x : Addr} : Decidable (S.off x) := by unfold off; infer_instance
def cut (S : Strm) (H : Hp) : Hp := fun x => if S.off x then none else H x
/-- the stream stands, k draws are left -/
structure At (S : Strm) (k : Nat) (H : Hp) : Prop where
  ne : S.a ≠ S.b
  ex : ∃ (cells : List Int) (x n m : Int), H S.a = some (.lst [.ref S.b, .int x, .int n, .int m]) ∧ H S.b = some (.lst (cells.map V.int)) ∧ 0 ≤ x ∧ 0 ≤ n ∧ n + k ≤ 10000000 ∧ 0 ≤ m ∧ m < 2147483647
variable {S : Strm} {H H' M M' : Hp} {x p : Addr} {o : HO} {j k : Nat}
theorem cut_off (h : S.off x) : S.cut H x = none := if_pos h
theorem cut_on (h : ¬ S.off x) : S.cut H x = H x := if_neg h
theorem on_of (h : S.cut H x = some o) : ¬ S.off x := fun z => by rw [cut_off z] at h; cases h
theorem of_cut (h : S.cut H x = some o) : H x = some o := by rw [← cut_on (S := S) (H := H) (on_of h)]; exact h
theorem cut_same : Same (S.cut H) H := fun _ _ h => of_cut h
theorem cut_upd (h : ¬ S.off p) : S.cut (upd H p o) = upd (S.cut H) p o := by
  funext y
  by_cases hy : y = p
  · subst hy; rw [cut_on h, upd_same, upd_same]
  · rw [upd_ne hy]
    by_cases ho : S.off y
    · rw [cut_off ho, cut_off ho]
    · rw [cut_on ho, cut_on ho, upd_ne hy]
theorem At.le (h : S.At k H) (e : j ≤ k) : S.At j H := let ⟨c, x, n, m, h1, h2, h3, h4, h5, h6⟩ := h.ex; ⟨h.ne, c, x, n, m, h1, h2, h3, h4, by omega, h6⟩
theorem At.same (h : S.At k H) (e : Same H H') : S.At k H' := let ⟨c, x, n, m, h1, h2, h3⟩ := h.ex; ⟨h.ne, c, x, n, m, e _ _ h1, e _ _ h2, h3⟩
theorem At.upd (h : S.At k H) (hp : ¬ S.off p) : S.At k (upd H p o) := let ⟨c, x, n, m, h1, h2, h3⟩ := h.ex
  ⟨h.ne, c, x, n, m, by rw [upd_ne (fun z => hp (.inl z.symm))]; exact h1, by rw [upd_ne (fun z => hp (.inr z.symm))]; exact h2, h3⟩
theorem At.at_ (h : S.At k H) (ho : S.off x) : ∃ vs, H x = some (.lst vs) := let ⟨c, y, n, m, h1, h2, h3⟩ := h.ex; by
  rcases ho with rfl | rfl
  · exact ⟨_, h1⟩
  · exact ⟨_, h2⟩
theorem At.fresh (h : S.At k H) (hp : H p = none) : ¬ S.off p := fun z => by obtain ⟨vs, e⟩ := h.at_ z; rw [hp] at e; cases e
theorem At.cutn (h : S.At k H) (hp : H p = none) : S.cut H p = none := by rw [cut_on (h.fresh hp)]; exact hp
theorem off_none (mh : Same M (S.cut H)) (ho : S.off x) : M x = none := by
  cases e : M x with
  | none => rfl
  | some o => have := mh x o e; rw [cut_off ho] at this; cases this
theorem lift (mh : Same M (S.cut H)) (h : S.At k H) (g : Gr M H M' H') : Gr M (S.cut H) M' (S.cut H') := by
  refine ⟨g.mm, fun y u e => ?_, fun y u e => ?_, fun y u e => ?_, g.nt⟩
  · rw [cut_on (on_of e)]; exact g.hh y u (of_cut e)
  · have ny : ¬ S.off y := fun z => by
      obtain ⟨vs, hy⟩ := h.at_ z
      rw [g.keep (off_none mh z) hy] at e
      cases e
    rw [cut_on ny]; exact g.mh y u e
  · rcases g.nw y u e with z | z | z
    · exact .inl z
    · by_cases ho : S.off y
      · exact .inr (.inl (cut_off ho))
      · exact .inr (.inl (by rw [cut_on ho]; exact z))
    · exact .inr (.inr z)
end Strm
open Strm
/-- a value behind draws -/
def GvS (S : Strm) (c : Nat) (te : TE) (σ : Sl) (M : Hp) (P : Pr) : Prop := ∀ H k, Same M (S.cut H) → S.At (k + c) H → ∀ Q : VK, (∀ v M' H', Gr M (S.cut H) M' (S.cut H') → S.At k H' → P M' v → Q v H') → te σ H Q
def GvTS (S : Strm) (c : Nat) (tt : L2.TT) (σ : Sl) (M : Hp) (B : Bool → Prop) : Prop := ∀ H k, Same M (S.cut H) → S.At (k + c) H → ∀ Q : Bool → Hp → Prop, (∀ b M' H', Gr M (S.cut H) M' (S.cut H') → S.At k H' → B b → Q b H') → tt σ H Q
def GvLS (S : Strm) (c : Nat) (te : TE) (σ : Sl) (M : Hp) (P : Hp → List V → Prop) : Prop := ∀ H k, Same M (S.cut H) → S.At (k + c) H → ∀ Q : VK,
  (∀ p vs M' H', Gr M (S.cut H) M' (S.cut H') → S.At k H' → S.cut H p = none → M' p = none → S.cut H' p = some (.lst vs) → P M' vs → Q (.ref p) H') → te σ H Q
def GvIS {α : Type} (S : Strm) (c : Nat) (wi : TI) (σ : Sl) (M : Hp) (G : List α → Prop) (R : Rl α) : Prop := ∀ H k, Same M (S.cut H) → S.At (k + c) H → ∀ Q : It → Hp → Prop, (∀ J xs M1 H1, Gr M (S.cut H) M1 (S.cut H1) → S.At k H1 → G xs → GW M1 J xs R → Q J H1) → wi σ H Q
/-- some x that is good -/
def Ex {α : Type} (R : Rl α) (good : α → Prop) : Pr := fun M v => ∃ x, good x ∧ R x M v
instance {α : Type} {R : Rl α} [Mon R] {good : α → Prop} : Mono (Ex R good) := ⟨fun e ⟨x, g, r⟩ => ⟨x, g, Mon.mono e r⟩⟩
section
variable {K : PySem.W.Frag} {S : Strm} {c c1 c2 : Nat} {σ : Sl} {M M1 : Hp} {ta tb te : TE} {tt tu : L2.TT} {P P1 : Pr} {α : Type} {R : Rl α}
theorem Gv.s (h : Gv te σ M P) : GvS S 0 te σ M P := fun H k mh at_ Q q => h H (mh.trans cut_same) Q fun v M' H' g p => q v M' H' (lift mh at_ g) (at_.same g.hh) p
theorem GvT.s {b : Bool} (h : GvT tt σ M b) : GvTS S 0 tt σ M (· = b) := fun H k mh at_ Q q => h H (mh.trans cut_same) Q fun M' H' g => q b M' H' (lift mh at_ g) (at_.same g.hh) rfl
theorem GvI.s {wi : TI} {xs : List α} (h : GvI wi σ M xs R) : GvIS S 0 wi σ M (· = xs) R := fun H k mh at_ Q q => h H (mh.trans cut_same) Q fun J M' H' g w => q J xs M' H' (lift mh at_ g) (at_.same g.hh) rfl w
theorem GvL.s {P : Hp → List V → Prop} (h : GvL te σ M P) : GvLS S 0 te σ M P := fun H k mh at_ Q q => h H (mh.trans cut_same) Q fun p vs M' H' g h0 m0 hp r =>
  q p vs M' H' (lift mh at_ g) (at_.same g.hh) (Strm.At.cutn at_ h0) m0 (by rw [cut_on (Strm.At.fresh at_ h0)]; exact hp) r
theorem GvS.is {P' : Pr} (h : GvS S c te σ M P) (e : ∀ M v, P M v → P' M v) : GvS S c te σ M P' := fun H k mh at_ Q q => h H k mh at_ Q fun v M' H' g a p => q v M' H' g a (e M' v p)
theorem GvS.cost (h : GvS S c te σ M P) (e : c ≤ c1) : GvS S c1 te σ M P := fun H k mh at_ Q q => h H k mh (at_.le (by omega)) Q q
theorem GvLS.cost {P : Hp → List V → Prop} (h : GvLS S c te σ M P) (e : c ≤ c1) : GvLS S c1 te σ M P := fun H k mh at_ Q q => h H k mh (at_.le (by omega)) Q q
theorem GvTS.cost {B : Bool → Prop} (h : GvTS S c tt σ M B) (e : c ≤ c1) : GvTS S c1 tt σ M B := fun H k mh at_ Q q => h H k mh (at_.le (by omega)) Q q
theorem GvTS.is {B B' : Bool → Prop} (h : GvTS S c tt σ M B) (e : ∀ b, B b → B' b) : GvTS S c tt σ M B' := fun H k mh at_ Q q => h H k mh at_ Q fun b M' H' g a p => q b M' H' g a (e b p)
theorem GvS.le [Mono P] (h : GvS S c te σ M P) (e : Same M M1) : GvS S c te σ M1 P := fun H k mh at_ Q q =>
  h H k (e.trans mh) at_ Q fun v M' H' g a p => q v _ H' (g.join e mh).1 a (Mono.mono (g.join e mh).2 p)
theorem GvTS.le {B : Bool → Prop} (h : GvTS S c tt σ M B) (e : Same M M1) : GvTS S c tt σ M1 B := fun H k mh at_ Q q => h H k (e.trans mh) at_ Q fun b M' H' g a p => q b _ H' (g.join e mh).1 a p
theorem GvLS.gv {R : Hp → List V → Prop} (h : GvLS S c te σ M R) (hp : ∀ M vs p, R M vs → M p = none → P (upd M p (.lst vs)) (.ref p)) : GvS S c te σ M P := fun H k mh at_ Q q =>
  h H k mh at_ Q fun p vs M' H' g a h0 m0 hw r => q (.ref p) _ H' (g.freeze h0 m0 hw) a (hp M' vs p r m0)
theorem GvLS.is {R R' : Hp → List V → Prop} (h : GvLS S c te σ M R) (e : ∀ M vs, R M vs → R' M vs) : GvLS S c te σ M R' := fun H k mh at_ Q q => h H k mh at_ Q fun p vs M' H' g a h0 m0 hw r => q p vs M' H' g a h0 m0 hw (e M' vs r)
theorem gs_op {r : R2} {R : Pr} [Mono P] [Mono P1] (ha : GvS S c1 ta σ M P) (hb : GvS S c2 tb σ M P1) (hr : ∀ M' x y, P M' x → P1 M' y → RV (r x y) M' R) : GvS S (c1 + c2) (tOp r ta tb) σ M R := fun H k mh at_ Q q =>
  ha H (k + c2) mh (at_.le (by omega)) _ fun x M1 H1 g1 a1 p1 => hb.le g1.mm H1 k g1.mh a1 _ fun y M2 H2 g2 a2 p2 =>
    hr M2 x y (Mono.mono g2.mm p1) p2 H2 (g2.mh.trans cut_same) _ fun v M3 H3 g3 p3 => q v M3 H3 ((g1.trans g2).trans (lift g2.mh a2 g3)) (a2.same g3.hh) p3
theorem gts_test (h : GvS S c te σ M P) {B : Bool → Prop} (e : ∀ M v, P M v → ∃ b, v = .bl b ∧ B b) : GvTS S c (tTest te) σ M B := fun H k mh at_ Q q => h H k mh at_ _ fun v M' H' g a p => let ⟨b, e1, e2⟩ := e M' v p; ⟨b, e1, q b M' H' g a e2⟩
theorem gs_if {B : Bool → Prop} [Mono P] (h : GvTS S c1 tt σ M B) (h1 : B true → GvS S c2 ta σ M P) (h2 : B false → GvS S c2 tb σ M P) : GvS S (c1 + c2) (tIf tt ta tb) σ M P := fun H k mh at_ Q q => h H (k + c2) mh (at_.le (by omega)) _ fun b M1 H1 g1 a1 p => by
  cases b with
  | true => exact (h1 p).le g1.mm H1 k g1.mh a1 _ fun v M2 H2 g2 a2 p2 => q v M2 H2 (g1.trans g2) a2 p2
  | false => exact (h2 p).le g1.mm H1 k g1.mh a1 _ fun v M2 H2 g2 a2 p2 => q v M2 H2 (g1.trans g2) a2 p2
theorem gis_rng1 {good : Nat → Prop} (h : GvS S c te σ M (Ex (fun n : Nat => It' (n : Int)) good)) (hn : ∀ n, good n → n ≤ 1000000000) : GvIS S c (iRng1 (tCons te tNil)) σ M (fun xs => ∃ n, good n ∧ xs = List.range n) (fun i => It' (i : Nat)) := fun H k mh at_ Q q => h H k mh at_ _ fun v M1 H1 g1 a1 ⟨n, gx, hv⟩ =>
  gi_rng1 (σ := σ) (M := M1) (te := tC v) (gv_c hv) (hn n gx) H1 (g1.mh.trans cut_same) _ fun J M2 H2 g2 w => q J _ M2 H2 (g1.trans (lift g1.mh a1 g2)) (a1.same g2.hh) ⟨n, gx, rfl⟩ w
end
end L3

set_option Elab.async false
set_option linter.all false
set_option maxRecDepth 100000
set_option maxHeartbeats 1000000
namespace L3
open PySem PySem.Spec PyProof.Rows L2
open Strm
instance {α : Type} {R : Rl α} [h : Stl R] {good : α → Prop} : Stb (Ex R good) := ⟨fun a b ⟨x, g, r⟩ => ⟨x, g, h.del a b r⟩⟩
/-! statements behind draws -/
section
variable {K : PySem.W.Frag} {S : Strm} {c c1 c2 k : Nat} {σ : Sl} {M H : Hp} {ta tb te : TE} {tt tu : L2.TT} {P P1 : Pr} {α β : Type} {R : Rl α} {D : Ends} {tz tx tw : TS}
theorem z_ret (mh : Same M (S.cut H)) (a : S.At (k + c) H) (h : GvS S c te σ M P) (q : ∀ v M' H', Gr M (S.cut H) M' (S.cut H') → S.At k H' → P M' v → D.rt v H') : tRet te D σ H := h H k mh a _ q
theorem z_asg {i : Nat} (mh : Same M (S.cut H)) (a : S.At (k + c) H) (h : GvS S c te σ M P) (q : ∀ v M' H', Gr M (S.cut H) M' (S.cut H') → S.At k H' → P M' v → tz D (σ.set i (some v)) H') : tSeq (tAsg te (gName i)) tz D σ H := h H k mh a _ q
theorem z_asgL {i : Nat} {P : Hp → List V → Prop} (mh : Same M (S.cut H)) (a : S.At (k + c) H) (h : GvLS S c te σ M P)
    (q : ∀ p vs M' H', Gr M (S.cut H) M' (S.cut H') → S.At k H' → S.cut H p = none → M' p = none → S.cut H' p = some (.lst vs) → P M' vs → tz D (σ.set i (some (.ref p))) H') : tSeq (tAsg te (gName i)) tz D σ H := h H k mh a _ q
theorem z_if {B : Bool → Prop} (mh : Same M (S.cut H)) (a : S.At (k + c) H) (h : GvTS S c tt σ M B) (h1 : B true → ∀ M' H', Gr M (S.cut H) M' (S.cut H') → S.At k H' → tx { D with nx := tz D } σ H') (h2 : B false → ∀ M' H', Gr M (S.cut H) M' (S.cut H') → S.At k H' → tz D σ H') :
    tSeq (tIfS tt tx tNext) tz D σ H := h H k mh a _ fun b M' H' g a' p => by
  cases b with
  | true => exact h1 p M' H' g a'
  | false => exact h2 p M' H' g a'
theorem z_appE {i : Nat} {p : Addr} {vs : List V} (mh : Same M (S.cut H)) (a : S.At (k + c) H) (hi : σ[i]? = some (some (.ref p))) (hp : S.cut H p = some (.lst vs)) (hz : vs.length < sizeLine) (h : GvS S c te σ M P)
    (q : ∀ v M' H', Gr M (S.cut H) M' (S.cut H') → S.At k H' → P M' v → D.nx σ (upd H' p (.lst (vs ++ [v])))) : tDrop (tBM K "list" rAppend (tVar i) (tCons te tNil)) D σ H :=
  ⟨.ref p, hi, .inl ⟨rfl, _, .inl (.inl (of_cut hp))⟩, h H k mh a _ fun v M' H' g a' r => ⟨p, vs, v, rfl, rfl, of_cut (g.hh _ _ hp), hz, q v M' H' g a' r⟩⟩
/-- a list of ours changes -/
theorem cut_put {p : Addr} {o u : HO} (hp : S.cut H p = some o) : S.cut (upd H p u) = upd (S.cut H) p u := cut_upd (on_of hp)
/-- something of ours is lent -/
theorem GvS.lend {x : Addr} {o : HO} [Stb P] (h : GvS S c te σ (upd M x o) P) (hm : M x = none) (mh : Same M (S.cut H)) (a : S.At (k + c) H) (hx : S.cut H x = some o) (hn : ∀ xs, o ≠ HO.tup xs) {Q : VK}
    (q : ∀ v M' H', Gr M (S.cut H) M' (S.cut H') → S.At k H' → P M' v → Q v H') : te σ H Q :=
  h H k (same_lent mh hx) a Q fun v M' H' g a' p => q v _ H' (g.back hm) a' (Stb.del hn (g.mm x o upd_same) p)
/-- for over anything, drawing -/
theorem z_for {wi : TI} {g : TG} {tbd : TS} {U : α → Hp → Sl → Sl → Prop} {G : List α → Prop} (mh : Same M (S.cut H)) (a : S.At (k + c) H) (hsrc : GvIS S c wi σ M G R) (htg : TgOk g R U) (Pv : List α → Hp → Nat → Sl → Hp → Hp → Prop)
    (h0 : ∀ xs M1 H1, G xs → Gr M (S.cut H) M1 (S.cut H1) → S.At k H1 → Pv xs M1 0 σ M1 H1) (hk : ∀ xs M1 i σ' M' H', Pv xs M1 i σ' M' H' → Same M1 M' ∧ Same M' (S.cut H') ∧ S.At 0 H')
    (hs : ∀ xs M1 i x σ' M' H' M2 H2 σ2, G xs → Same M M1 → xs[i]? = some x → Pv xs M1 i σ' M' H' → Gr M' H' M2 H2 → U x M2 σ' σ2 →
      tbd { D with nx := fun σ2 H2 => ∃ M2, Pv xs M1 (i + 1) σ2 M2 H2, ct := fun σ2 H2 => ∃ M2, Pv xs M1 (i + 1) σ2 M2 H2, bk := tz D } σ2 H2)
    (hd : ∀ xs M1 σ' M' H', G xs → Same M M1 → Pv xs M1 xs.length σ' M' H' → tz D σ' H') : tSeq (tFor wi g tbd) tz D σ H := by
  refine hsrc H k mh a _ fun J xs M1 H1 g1 a1 gx ⟨GG, Y, w, hG, hY⟩ => ?_
  refine for_it w (fun i σ' H' => ∃ M', Pv xs M1 i σ' M' H') ⟨M1, h0 xs M1 H1 gx g1 a1⟩ (fun i σ' H' _ ⟨M', p⟩ => hG M' H' (hk _ _ _ _ _ _ p).1 ((hk _ _ _ _ _ _ p).2.1.trans cut_same)) ?_ ?_
  · rintro i y σ' H' H'' hi ⟨M', p⟩ hy
    have km := hk _ _ _ _ _ _ p
    obtain ⟨x, M2, hx, g2, rx⟩ := hY i M' H' y H'' km.1 (km.2.1.trans cut_same) hi hy
    exact htg x M2 y H'' σ' _ rx g2.mh fun σ2 hU => hs xs M1 i x σ' M' H' M2 H'' σ2 gx g1.mm hx p g2 hU
  · rintro σ' H' ⟨M', p⟩
    exact hd xs M1 σ' M' H' gx g1.mm p
/-- a comprehension without a test, drawing at each item -/
theorem gls_m1 {T : Rl β} [Mon T] {j n : Nat} {wi : TI} {G : List α → Prop} {good : α → β → Prop} (hsrc : GvIS S c1 wi σ M G R) (hn : ∀ xs, G xs → xs.length ≤ n) (hz : n ≤ sizeLine)
    (he : ∀ xs, G xs → ∀ x ∈ xs, ∀ M1 v, Same M M1 → R x M1 v → GvS S c2 te ((wipe σ [j]).set j (some v)) M1 (Ex T (good x))) :
    GvLS S (c1 + n * c2) (tLc wi (gName j) tYes te [j]) σ M fun M ws => ∃ xs ys, G xs ∧ Paired good xs ys ∧ Pd T M ys ws := by
  intro H k mh at_ Q q
  refine hsrc H (k + n * c2) mh (at_.le (by omega)) _ fun J xs M1 H1 g1 a1 gx ⟨GG, Y, w, hG, hY⟩ D hD => ?_
  have hxn := hn xs gx
  have nD := a1.fresh hD
  refine lc_it w (fun i H' => ∃ M' ys ws, Gr M1 (S.cut H1) M' (S.cut H') ∧ S.At (k + (n - i) * c2) H' ∧ M' D = none ∧ S.cut H' D = some (.lst ws) ∧ ws.length ≤ i ∧ Paired good (xs.take i) ys ∧ Pd T M' ys ws)
    ⟨M1, [], [], by rw [cut_upd nD]; exact .own g1.mh (a1.cutn hD), a1.upd nD, g1.mh.free (a1.cutn hD), by rw [cut_upd nD, upd_same], Nat.le_refl _, .nil, .nil⟩ (fun i H' _ ⟨M', ys, ws, g, _⟩ => hG M' H' g.mm (g.mh.trans cut_same)) ?_ ?_
  · rintro i y H' H'' hi ⟨M', ys, ws, g, a', m0, hw', hl, hg, hpd⟩ hy
    obtain ⟨x, M0, hx, g0, rx⟩ := hY i M' H' y H'' g.mm (g.mh.trans cut_same) hi hy
    have hxm : x ∈ xs := List.mem_of_getElem? hx
    have et : xs.take (i + 1) = xs.take i ++ [x] := by rw [List.take_add_one, hx]; rfl
    have gg := g.trans (lift g.mh a' g0)
    have ag := a'.same g0.hh
    have k0 : S.cut H'' D = some (.lst ws) := (lift g.mh a' g0).hh _ _ hw'
    have m0' : M0 D = none := (lift g.mh a' g0).keep m0 hw'
    have hni : n - i = (n - (i + 1)) + 1 := by omega
    refine ⟨wipe1, ?_⟩
    show te _ H'' _
    refine he xs gx x hxm M0 y (g1.mm.trans gg.mm) rx H'' (k + (n - (i + 1)) * c2) gg.mh (ag.le (by rw [hni, Nat.add_mul]; omega)) _ fun z M3 H3 g3 a3 ⟨b, gb, hb⟩ => ?_
    have m3 : M3 D = none := g3.keep m0' k0
    have k3 := g3.hh _ _ k0
    have n3 := on_of k3
    refine ⟨ws, of_cut k3, Nat.lt_of_lt_of_le (Nat.lt_of_le_of_lt hl hi) (Nat.le_trans hxn hz), M3, ys ++ [b], ws ++ [z], by rw [cut_upd n3]; exact (gg.trans g3).mut (a1.cutn hD) m3, a3.upd n3, m3, by rw [cut_upd n3, upd_same], by rw [List.length_append]; exact Nat.succ_le_succ hl, ?_, ?_⟩
    · rw [et]; exact pd_app hg (.cons gb .nil)
    · exact pd_app (hpd.mono ((lift g.mh a' g0).mm.trans g3.mm)) (.cons hb .nil)
  · rintro H' ⟨M', ys, ws, g, a', m0, hw', hl, hg, hpd⟩
    rw [List.take_length] at hg
    exact q D ws M' H' (g1.trans g) (a'.le (by omega)) (g1.hh.free (a1.cutn hD)) m0 hw' ⟨xs, ys, gx, hg, hpd⟩
end
/-! promises of defs that draw -/
section
variable {α β γ : Type} {S : Strm} {c : Nat} {σ : Sl} {M : Hp} {t1 t2 t3 : TE} {R1 : Rl α} {R2 : Rl β} {R3 : Rl γ} {i : Nat}
def spS1 (R1 : Rl α) (pre : α → Prop) (c : α → Nat) (R : α → Pr) : Sp := fun vs H Q _ => ∃ (S : Strm) (x : α) (M : Hp) (v : V) (k : Nat), vs = [.ref S.a, v] ∧ Same M (S.cut H) ∧ S.At (k + c x) H ∧ R1 x M v ∧ pre x ∧ ∀ u M' H', Gr M (S.cut H) M' (S.cut H') → S.At k H' → R x M' u → Q u H'
def slS1 (R1 : Rl α) (pre : α → Prop) (c : α → Nat) (R : α → Hp → List V → Prop) : Sp := fun vs H Q _ => ∃ (S : Strm) (x : α) (M : Hp) (v : V) (k : Nat), vs = [.ref S.a, v] ∧ Same M (S.cut H) ∧ S.At (k + c x) H ∧ R1 x M v ∧ pre x ∧
  ∀ p ws M' H', Gr M (S.cut H) M' (S.cut H') → S.At k H' → S.cut H p = none → M' p = none → S.cut H' p = some (.lst ws) → R x M' ws → Q (.ref p) H'
theorem gs_call1 {pre : α → Prop} {cs : α → Nat} {R : α → Pr} {x : α} (hi : σ[i]? = some (some (.ref S.a))) (h1 : Gv t1 σ M (R1 x)) (hp : pre x) : GvS S (cs x) (tCall (spS1 R1 pre cs R) [] E0 (tCons (tVar i) (tCons t1 tNil))) σ M (R x) := fun H k mh a Q q =>
  ⟨_, hi, h1 H (mh.trans cut_same) _ fun v M1 H1 g1 p1 => ⟨S, x, M1, v, k, rfl, (lift mh a g1).mh, a.same g1.hh, p1, hp, fun u M' H' g a' r => q u M' H' ((lift mh a g1).trans g) a' r⟩⟩
theorem gls_call1 {pre : α → Prop} {cs : α → Nat} {R : α → Hp → List V → Prop} {x : α} (hi : σ[i]? = some (some (.ref S.a))) (h1 : Gv t1 σ M (R1 x)) (hp : pre x) : GvLS S (cs x) (tCall (slS1 R1 pre cs R) [] E0 (tCons (tVar i) (tCons t1 tNil))) σ M (R x) := fun H k mh a Q q =>
  ⟨_, hi, h1 H (mh.trans cut_same) _ fun v M1 H1 g1 p1 => ⟨S, x, M1, v, k, rfl, (lift mh a g1).mh, a.same g1.hh, p1, hp, fun p ws M' H' g a' h0 m0 hw r => q p ws M' H' ((lift mh a g1).trans g) a' ((lift mh a g1).hh.free h0) m0 hw r⟩⟩
end
end L3

set_option Elab.async false
set_option linter.all false
set_option maxRecDepth 100000
set_option maxHeartbeats 1000000
namespace L3
open PySem PySem.Spec PyProof.Rows L2
open Strm
namespace Strm
variable {S : Strm} {H H' M M' : Hp} {x p : Addr} {o : HO} {j k : Nat}
/-- the stream lent -/
def full (S : Strm) (M H : Hp) : Hp := fun x => if S.off x then H x else M x
theorem full_off (h : S.off x) : S.full M H x = H x := if_pos h
theorem full_on (h : ¬ S.off x) : S.full M H x = M x := if_neg h
theorem full_same (mh : Same M (S.cut H)) : Same (S.full M H) H := fun y u e => by
  by_cases h : S.off y
  · rw [full_off h] at e; exact e
  · rw [full_on h] at e; exact of_cut (mh y u e)
theorem cut_updo (h : S.off p) : S.cut (upd H p o) = S.cut H := by
  funext y
  by_cases ho : S.off y
  · rw [cut_off ho, cut_off ho]
  · rw [cut_on ho, cut_on ho, upd_ne (fun z => ho (by rw [z]; exact h))]
theorem unfull (mh : Same M (S.cut H)) (g : Gr (S.full M H) H M' H') : Gr M (S.cut H) (S.cut M') (S.cut H') := by
  refine ⟨fun y u e => ?_, fun y u e => ?_, fun y u e => ?_, fun y u e => ?_, fun y ps e => by
    have h := g.nt y ps (of_cut e)
    rw [full_on (on_of e)] at h
    exact h⟩
  · have ny := on_of (mh y u e)
    rw [cut_on ny]; exact g.mm y u (by rw [full_on ny]; exact e)
  · rw [cut_on (on_of e)]; exact g.hh y u (of_cut e)
  · rw [cut_on (on_of e)]; exact g.mh y u (of_cut e)
  · have ny := on_of e
    rcases g.nw y u (of_cut e) with z | z | z
    · rw [full_on ny] at z; exact .inl z
    · exact .inr (.inl (by rw [cut_on ny]; exact z))
    · exact .inr (.inr z)
end Strm
def cellD (cells : List Int) (x n m : Int) : List PyData := [.list (cells.map .int), .int x, .int n, .int m]
structure StAt (S : Strm) (H : Hp) (cells : List Int) (x n m : Int) : Prop where
  ne : S.a ≠ S.b
  a : H S.a = some (.lst [.ref S.b, .int x, .int n, .int m])
  b : H S.b = some (.lst (cells.map V.int))
/-- one statement, then what follows it is proved once -/
theorem q_cut {t tz : TS} {D : Ends} {σ : Sl} {H : Hp} (J : Sl → Hp → Prop) (h : ∀ nx, (∀ σ H, J σ H → nx σ H) → t { D with nx := nx } σ H) (hz : ∀ σ H, J σ H → tz D σ H) : tSeq t tz D σ H := h _ hz
section
variable {K : PySem.W.Frag} {S : Strm} {c k : Nat} {σ : Sl} {M H H' : Hp} {te : TE} {D : Ends} {tz tb : TS} {cells : List Int} {x n m : Int}
theorem StAt.same (st : StAt S H cells x n m) (e : Same H H') : StAt S H' cells x n m := ⟨st.ne, e _ _ st.a, e _ _ st.b⟩
theorem pd_int {M : Hp} : ∀ (cs : List Int), Pd (Dd K) M (cs.map PyData.int) (cs.map V.int)
  | [] => .nil
  | c :: r => .cons (.int c) (pd_int r)
theorem dpa_pd {M : Hp} {ds : List PyData} {vs : List V} (h : Pd (Dd K) M ds vs) : DpAll K M vs ds := by
  induction h with
  | nil => exact .nil
  | cons q _ ih => exact .cons q ih
theorem StAt.sq (st : StAt S H cells x n m) : SqR K (Dd K) (cellD cells x n m) (S.full M H) (.ref S.a) :=
  .inl ⟨_, _, rfl, .inl (.inl (by rw [full_off (.inl rfl)]; exact st.a)), .cons (.lst (.inl (.inl (by rw [full_off (.inr rfl)]; exact st.b))) (dpa_pd (pd_int cells))) (.cons (.int x) (.cons (.int n) (.cons (.int m) .nil)))⟩
/-- stream[j] = e -/
theorem z_subE {j : Int} {jn : Nat} {z : Int} (hσ : σ[0]? = some (some (.ref S.a))) (mh : Same M (S.cut H)) (st : StAt S H cells x n m) (hj : ixN 4 j = some jn) (h : Gv te σ (S.full M H) (It' z))
    (q : ∀ M' H', Gr M (S.cut H) M' (S.cut H') → H' S.a = some (.lst ([V.ref S.b, .int x, .int n, .int m].set jn (.int z))) → H' S.b = some (.lst (cells.map V.int)) → D.nx σ H') :
    tAsg te (gSub (tVar 0) (tC (.int j)) rSetL) D σ H := h H (full_same mh) _ fun v M' H' g p => by
  have st' := st.same g.hh
  refine ⟨.ref S.a, hσ, S.a, _, j, jn, rfl, rfl, st'.a, hj, ?_⟩
  cases (show v = _ from p)
  refine q _ _ (by rw [cut_updo (.inl rfl)]; exact unfull mh g) upd_same ?_
  rw [upd_ne (Ne.symm st.ne)]
  exact st'.b
theorem z_sub {j : Int} {jn : Nat} {z : Int} (hσ : σ[0]? = some (some (.ref S.a))) (mh : Same M (S.cut H)) (st : StAt S H cells x n m) (hj : ixN 4 j = some jn) (h : Gv te σ (S.full M H) (It' z))
    (q : ∀ M' H', Gr M (S.cut H) M' (S.cut H') → H' S.a = some (.lst ([V.ref S.b, .int x, .int n, .int m].set jn (.int z))) → H' S.b = some (.lst (cells.map V.int)) → tz D σ H') :
    tSeq (tAsg te (gSub (tVar 0) (tC (.int j)) rSetL)) tz D σ H := z_subE (D := { D with nx := tz D }) hσ mh st hj h q
end
end L3

set_option Elab.async false
set_option linter.all false
set_option maxRecDepth 100000
set_option maxHeartbeats 1000000
namespace L3
open PySem PySem.Spec PyProof.Rows L2
open Strm
section
variable {σ : Sl} {M H : Hp} {te0 te : TE}
/-- [e for k in range(n)], n told while something of ours is lent -/
theorem lc_rngL {x : Addr} {o : HO} {n j : Nat} (h : Gv te0 σ (upd M x o) (It' (n : Int))) (hm : M x = none) (mh : Same M H) (hx : H x = some o) (hn : n ≤ 1000000000) (ho : ∀ xs, o ≠ HO.tup xs) {Q : VK} (Pv : Addr → Nat → Hp → Hp → Prop)
    (h0 : ∀ M1 H1 D, Gr M H M1 H1 → H1 D = none → Pv D 0 M1 (upd H1 D (.lst [])))
    (hs : ∀ D i M' H', i < n → Pv D i M' H' → te ((wipe σ [j]).set j (some (.int (i : Nat)))) H' fun z H3 => ∃ acc, H3 D = some (.lst acc) ∧ acc.length < sizeLine ∧ ∃ M3, Pv D (i + 1) M3 (upd H3 D (.lst (acc ++ [z]))))
    (hd : ∀ D M' H', Pv D n M' H' → Q (.ref D) H') : tLc (iRng1 (tCons te0 tNil)) (gName j) tYes te [j] σ H Q := by
  refine h.lend hm mh hx ho fun v M1 H1 g1 _ _ hv => ?_
  cases (show v = _ from hv)
  refine ⟨(n : Int), rfl, by omega, by omega, fun D hD => ?_⟩
  have w := walk_range (lo := 0) (n := (n : Int).toNat)
  refine lc_it w (fun i H' => ∃ M', Pv D i M' H') ⟨M1, h0 M1 H1 D g1 hD⟩ (fun _ _ _ _ => trivial) ?_ ?_
  · rintro i y H' H'' hi ⟨M', p⟩ ⟨rfl, rfl⟩
    rw [Int.toNat_natCast] at hi
    have e0 : (fun i : Nat => V.int (0 + (i : Int))) i = V.int (i : Nat) := by show V.int _ = V.int _; rw [Int.zero_add]
    rw [e0]
    exact ⟨wipe1, hs D i M' _ hi p⟩
  · rintro H' ⟨M', p⟩
    rw [Int.toNat_natCast] at p
    exact hd D M' H' p
end
end L3
namespace L3
open PySem PySem.Spec PyProof.Rows L2
open Strm
section
variable {K : PySem.W.Frag} {S : Strm} {c k : Nat} {σ : Sl} {M H : Hp} {te ta tb : TE} {P : Pr} {α β : Type} {R : Rl α} {T : Rl β} {D : Ends} {tz : TS} {g : TG} {U : α → Hp → Sl → Sl → Prop}
theorem z_asgT {x : α} (mh : Same M (S.cut H)) (a : S.At (k + c) H) (h : GvS S c te σ M (R x)) (htg : TgOk g R U) (q : ∀ σ' M' H', Gr M (S.cut H) M' (S.cut H') → S.At k H' → U x M' σ σ' → tz D σ' H') : tSeq (tAsg te g) tz D σ H :=
  h H k mh a _ fun v M' H' g' a' r => htg x M' v H' σ _ r (g'.mh.trans cut_same) fun σ' u => q σ' M' H' g' a' u
theorem gv_pair [Mon R] [Mon T] {x : α} {y : β} (h1 : Gv ta σ M (R x)) (h2 : Gv tb σ M (T y)) : Gv (tTup (tCons ta (tCons tb tNil))) σ M (PrR K R T (x, y)) := fun H mh Q q =>
  h1 H mh _ fun v M1 H1 g1 p1 => h2.le g1.mm H1 g1.mh _ fun w M2 H2 g2 p2 => ⟨by show 2 ≤ sizeLine; decide, fun p np => q _ _ _ ((g1.trans g2).trans (.new g2.mh np)) ⟨p, _, _, rfl, .inl (.inl upd_same), Mon.mono (g2.mm.trans (same_new (g2.mh.free np))) p1, Mon.mono (same_new (g2.mh.free np)) p2⟩⟩
/-- constants in a row -/
def tCs : List V → TA
  | [] => tNil
  | v :: r => tCons (tC v) (tCs r)
theorem ga_cs : ∀ vs : List V, GvA (tCs vs) σ M fun _ ws => ws = vs
  | [] => ga_nil
  | v :: r => fun H mh Q q => ga_cs r H mh _ fun ws M' H' g e => q _ M' H' g (by rw [e])
theorem gl_cs (vs : List V) (hz : vs.length ≤ 1000) : GvL (tLst (tCs vs)) σ M fun _ ws => ws = vs := gl_lst (ga_cs vs) fun _ ws e => by rw [e]; exact Nat.le_trans hz (by decide)
theorem gv_strs (xs : List Str) (hz : xs.length ≤ 1000) : Gv (tLst (tCs (xs.map V.str))) σ M (LiR Tx xs) := (gl_cs _ (by rw [List.length_map]; exact hz)).gv fun M vs p e m => by subst e; exact ⟨p, _, rfl, upd_same, pd_of_tx xs⟩
theorem pd_of_it {M : Hp} : ∀ (xs : List Int), Pd It' M xs (xs.map V.int)
  | [] => .nil
  | _ :: r => .cons rfl (pd_of_it r)
theorem gv_ints (xs : List Int) (hz : xs.length ≤ 1000) : Gv (tLst (tCs (xs.map V.int))) σ M (LiR It' xs) := (gl_cs _ (by rw [List.length_map]; exact hz)).gv fun M vs p e m => by subst e; exact ⟨p, _, rfl, upd_same, pd_of_it xs⟩
/-- sep.join(a new list of texts) -/
theorem gs_join {good : List Str → Prop} {x : Str} (h : GvLS S c te σ M fun M ws => ∃ ys, good ys ∧ Pd Tx M ys ws) (hz : ∀ ys, good ys → (ys.map (·.length)).sum + ys.length * x.length ≤ 16777216) :
    GvS S c (tM1 (fun x xs H Q => ∃ a p, ∃ ys : List Str, x = .str a ∧ xs = [.ref p] ∧ (SqL K H p (ys.map V.str) ∨ SqT K H p (ys.map V.str)) ∧ (ys.map (·.length)).sum + ys.length * a.length ≤ 16777216 ∧ Q (.str (Txt.join a ys)) H) (tC (.str x)) te) σ M (Ex (fun ys => Tx (Txt.join x ys)) good) := fun H k mh a Q q =>
  ⟨⟨x, rfl⟩, h H k mh a _ fun p vs M' H' g a' h0 m0 hw ⟨ys, gy, hp⟩ => ⟨x, p, ys, rfl, rfl, .inl (.inl (.inl (by rw [← pd_tx hp]; exact of_cut hw))), hz ys gy, q _ M' H' g a' ⟨ys, gy, rfl⟩⟩⟩
end
end L3
namespace L3
open PySem PySem.Spec PyProof.Rows L2
open Strm
section
variable {K : PySem.W.Frag} {S : Strm} {c k : Nat} {σ : Sl} {M H : Hp} {te : TE} {P : Pr} {D : Ends} {tz : TS}
/-- xs.append(e), e asks xs itself -/
theorem z_appL {i : Nat} {p : Addr} {vs : List V} [Stb P] (mh : Same M (S.cut H)) (a : S.At (k + c) H) (hi : σ[i]? = some (some (.ref p))) (hm : M p = none) (hp : S.cut H p = some (.lst vs)) (hz : vs.length < sizeLine) (h : GvS S c te σ (upd M p (.lst vs)) P)
    (q : ∀ v M' H', Gr M (S.cut H) M' (S.cut H') → S.At k H' → P M' v → D.nx σ (upd H' p (.lst (vs ++ [v])))) : tDrop (tBM K "list" rAppend (tVar i) (tCons te tNil)) D σ H :=
  ⟨.ref p, hi, .inl ⟨rfl, _, .inl (.inl (of_cut hp))⟩, h.lend hm mh a hp ls_nt fun v M' H' g a' r => ⟨p, vs, v, rfl, rfl, of_cut (g.hh _ _ hp), hz, q v M' H' g a' r⟩⟩
end
/-- a list of ours behind the stream -/
structure OwS (S : Strm) (H0 M H : Hp) (p : Addr) (vs : List V) : Prop where
  o : Own (S.cut H0) M (S.cut H) p vs
theorem OwS.put {S : Strm} {H0 M H : Hp} {p : Addr} {vs ws : List V} (o : OwS S H0 M H p vs) : OwS S H0 M (upd H p (.lst ws)) p ws := ⟨by rw [cut_put o.o.h]; exact o.o.put⟩
theorem OwS.step {S : Strm} {H0 M H M' H' : Hp} {p : Addr} {vs : List V} (o : OwS S H0 M H p vs) (g : Gr M (S.cut H) M' (S.cut H')) : OwS S H0 M' H' p vs := ⟨o.o.step g⟩
theorem OwS.mut {S : Strm} {M0 H0 M H : Hp} {p : Addr} {vs ws : List V} (o : OwS S H0 M H p vs) (g : Gr M0 (S.cut H0) M (S.cut H)) : Gr M0 (S.cut H0) M (S.cut (upd H p (.lst ws))) := by rw [cut_put o.o.h]; exact g.mut o.o.h0 o.o.m
theorem OwS.on {S : Strm} {H0 M H : Hp} {p : Addr} {vs : List V} (o : OwS S H0 M H p vs) : ¬ S.off p := on_of o.o.h
end L3
namespace L3
open PySem PySem.Spec PyProof.Rows L2
open Strm
def cutL {α : Type} (xs : List α) (lo hi : Option Int) : List α := (xs.drop (HT.sIx xs.length 0 lo)).take (HT.sIx xs.length xs.length hi - HT.sIx xs.length 0 lo)
theorem pd_cut {α : Type} {R : Rl α} {M : Hp} {xs : List α} {vs : List V} {lo hi : Option Int} (h : Pd R M xs vs) : Pd R M (cutL xs lo hi) (cutV vs lo hi) := by
  have e : cutV vs lo hi = cutL vs lo hi := rfl
  rw [e]
  unfold cutL
  rw [← h.length]
  exact pd_take _ (pd_drop _ h)
section
variable {K : PySem.W.Frag} {S : Strm} {c1 c2 : Nat} {σ : Sl} {M : Hp} {te th : TE} {α : Type} {R : Rl α}
theorem gl_cut [Mon R] {tl th : TO} {xs : List α} {lo hi : Option Int} (h : Gv te σ M (LstR K R xs)) (hl : ∀ (H : Hp) (Q : Option Int → Hp → Prop), Q lo H → tl σ H Q) (hh : ∀ (H : Hp) (Q : Option Int → Hp → Prop), Q hi H → th σ H Q) :
    GvL (tSl (rSlX K) te tl th) σ M fun M ws => Pd R M (cutL xs lo hi) ws := fun H mh Q q =>
  h H mh _ fun v M1 H1 g1 ⟨a, vs, e, hs, hp⟩ => hl H1 _ (hh H1 _ (.inr (.inl ⟨a, vs, e, sl_mono g1.mh hs, fun p np => q p _ M1 _ (g1.trans (.own g1.mh np)) (g1.hh.free np) (g1.mh.free np) upd_same (pd_cut hp)⟩)))
end
end L3
namespace L3
open PySem PySem.Spec PyProof.Rows L2
section
end
end L3

set_option Elab.async false
set_option linter.all false
set_option maxRecDepth 100000
set_option maxHeartbeats 1000000
namespace L3
open PySem PySem.Spec PyProof.Rows L2
open Strm
/-! instances made by name -/
def Mak (P : Program) (w : World) (K : PySem.W.Frag) (mg : Str → Option Value) (base : Heap) (k : Nat) (x : Str) (C : Addr) (ps : List Str) (sp : Sp) : Prop :=
  ∃ f fd, Mk K C f ∧ FnOk P w K mg base CX0 k f fd ps sp ∧ mg x = some (.ref C) ∧ Binds K fd ps []
theorem pe_mk {X : Cx} {k : Nat} {x : Str} {C : Addr} {ps : List Str} {sp : Sp} {e : Expr} {es : List Expr} {t : TA} {p pos : Pos} (c : Mak X.prog X.w X.K X.mg X.base k x C ps sp) (hr : Room (k + 1) X.A) (ha : PA X (e :: es) t) (hg : Gl X x := by rfl)
    (hdb : (x == ("__debug__" : Str)) = false := by decide) (he : starEach (e :: es) X.env = (false, eval e X.env) :: starEach es X.env := by rfl) (hpl : (backTo pos (starEach es X.env)).any (·.1) = false := by rfl) :
    PE X (.Call (.Name x p) (e :: es) [] pos) (tMake C sp [] E0 t) :=
  let ⟨_, _, M, F, m, b⟩ := c
  pe_make M F hr hg m b .nil pass0 ha hdb he hpl
theorem cut_take {α : Type} (xs : List α) (n : Nat) : cutL xs none (some (n : Int)) = xs.take n := by
  unfold cutL
  rw [HT.sIx_none, HT.sIx_nat]
  simp only [List.drop_zero, Nat.sub_zero]
  by_cases h : n ≤ xs.length
  · rw [Nat.min_eq_left h]
  · rw [Nat.min_eq_right (by omega), List.take_length, List.take_of_length_le (by omega)]
theorem cut_drop {α : Type} (xs : List α) (n : Nat) : cutL xs (some (n : Int)) none = xs.drop n := by
  unfold cutL
  rw [HT.sIx_none, HT.sIx_nat]
  by_cases h : n ≤ xs.length
  · rw [Nat.min_eq_left h, List.take_of_length_le (by rw [List.length_drop]; omega)]
  · rw [Nat.min_eq_right (by omega), List.drop_length, List.drop_of_length_le (by omega)]; simp
/-- three keys -/
theorem merge3 {a b c : Str} {u v w : V} (h1 : a ≠ b) (h2 : a ≠ c) (h3 : b ≠ c) : mergeK [] [(Sum.inr a, u), (Sum.inr b, v), (Sum.inr c, w)] = [(Sum.inr a, u), (Sum.inr b, v), (Sum.inr c, w)] := by
  have e1 : ¬ (Sum.inr a : Key) = Sum.inr b := fun z => h1 (Sum.inr.inj z)
  have e2 : ¬ (Sum.inr a : Key) = Sum.inr c := fun z => h2 (Sum.inr.inj z)
  have e3 : ¬ (Sum.inr b : Key) = Sum.inr c := fun z => h3 (Sum.inr.inj z)
  simp [mergeK, putK, e1, e2, e3]
section
variable {σ : Sl} {M : Hp} {td : TE} {P : Pr}
theorem gv_dget {R : Pr} {k : Str} (h : Gv td σ M P) (hr : ∀ M v, P M v → ∃ a kvs u, v = .ref a ∧ M a = some (.dK kvs) ∧ valV kvs (Sum.inr k : Key) = some u ∧ R M u) : Gv (tDGet td (tC (.str k))) σ M R := fun H mh Q q => h H mh _ fun v M1 H1 g1 p1 => by
  obtain ⟨a, kvs, u, rfl, ha, hu, r⟩ := hr M1 v p1
  exact ⟨a, u, rfl, .inl ⟨kvs, Sum.inr k, .inl (g1.mh _ _ ha), rfl, hu.symm⟩, q u M1 H1 g1 r⟩
end
end L3
namespace L3
open PySem PySem.Spec PyProof.Rows L2
open Strm
section
variable {K : PySem.W.Frag} {S : Strm} {c k : Nat} {σ : Sl} {M H : Hp} {te t1 t2 t3 : TE} {P : Pr} {tr : TA} {QA : List V → Hp → Prop}
theorem z_V (mh : Same M (S.cut H)) (a : S.At (k + c) H) (h : GvS S c te σ M P) (q : ∀ v M' H', Gr M (S.cut H) M' (S.cut H') → S.At k H' → P M' v → tr σ H' fun vs H2 => QA (v :: vs) H2) : tCons te tr σ H QA := h H k mh a _ q
def Dc3 (a b c : Str) (R1 R2 R3 : Pr) : Pr := fun M v => ∃ p u1 u2 u3, v = .ref p ∧ M p = some (.dK [(Sum.inr a, u1), (Sum.inr b, u2), (Sum.inr c, u3)]) ∧ R1 M u1 ∧ R2 M u2 ∧ R3 M u3
/-- a written dict with three texts for keys -/
theorem gv_disp3 {a b c : Str} {R1 R2 R3 : Pr} [Mono R1] [Mono R2] [Mono R3] (h1 : Gv t1 σ M R1) (h2 : Gv t2 σ M R2) (h3 : Gv t3 σ M R3) (n1 : a ≠ b) (n2 : a ≠ c) (n3 : b ≠ c) :
    Gv (tDisp [(tC (.str a), t1), (tC (.str b), t2), (tC (.str c), t3)]) σ M (Dc3 a b c R1 R2 R3) := fun H mh Q q p np => by
  have g0 := Gr.own (o := .dK []) mh np
  have m0 : M p = none := mh.free np
  have p0 : (upd H p (.dK [])) p = some (.dK []) := upd_same
  refine h1 _ g0.mh _ fun u1 M1 H1 g1 r1 => ?_
  refine h2.le g1.mm H1 g1.mh _ fun u2 M2 H2 g2 r2 => ?_
  refine h3.le (g1.mm.trans g2.mm) H2 g2.mh _ fun u3 M3 H3 g3 r3 => ?_
  have G := (g1.trans g2).trans g3
  have m3 : M3 p = none := G.keep m0 p0
  have e3 := same_new (o := .dK [(Sum.inr a, u1), (Sum.inr b, u2), (Sum.inr c, u3)]) m3
  refine ⟨G.hh _ _ p0, [(Sum.inr a, u1), (Sum.inr b, u2), (Sum.inr c, u3)], rfl, by show 3 ≤ 15; decide, ?_⟩
  rw [merge3 n1 n2 n3]
  exact q _ _ _ (((g0.trans G).mut np m3).freeze np m3 upd_same) ⟨p, u1, u2, u3, rfl, upd_same, Mono.mono ((g2.mm.trans g3.mm).trans e3) r1, Mono.mono (g3.mm.trans e3) r2, Mono.mono e3 r3⟩
end
end L3
namespace L3
open PySem PySem.Spec PyProof.Rows L2
/-- a, b = x, y through a real tuple -/
def Fin2 (K : PySem.W.Frag) (i j : Nat) (tz : TS) (D : Ends) (σ : Sl) : List V → Hp → Prop := fun vs H1 => vs.length ≤ sizeLine ∧ ∀ p, H1 p = none → gTup K 2 (gCons (gName i) (gCons (gName j) gNil)) (.ref p) σ (upd H1 p (.tup vs)) fun σ' H' => tz D σ' H'
theorem q_asg2 {K : PySem.W.Frag} {i j : Nat} {tz : TS} {D : Ends} {σ : Sl} {H : Hp} {ta : TA} (h : ta σ H (Fin2 K i j tz D σ)) : tSeq (tAsg (tTup ta) (gTup K 2 (gCons (gName i) (gCons (gName j) gNil)))) tz D σ H := h
theorem fin2 {K : PySem.W.Frag} {i j : Nat} {tz : TS} {D : Ends} {σ : Sl} {H1 : Hp} {u v : V} (h : ∀ p, H1 p = none → tz D ((σ.set i (some u)).set j (some v)) (upd H1 p (.tup [u, v]))) : Fin2 K i j tz D σ [u, v] H1 :=
  ⟨by show 2 ≤ sizeLine; decide, fun p np => ⟨p, _, rfl, .inl (.inl upd_same), rfl, u, _, rfl, v, _, rfl, rfl, h p np⟩⟩
end L3
namespace L3
open PySem PySem.Spec PyProof.Rows L2
end L3
namespace L3
open PySem PySem.Spec PyProof.Rows L2
end L3

set_option Elab.async false
set_option linter.all false
set_option maxRecDepth 100000
set_option maxHeartbeats 1000000
namespace L3
open PySem PySem.Spec PyProof.Rows L2
open Strm
section
variable {K : PySem.W.Frag} {S : Strm} {c k : Nat} {σ : Sl} {M H : Hp} {te t1 t2 t3 : TE} {ta tr : TA} {tt : L2.TT} {tx tz : TS} {P : Pr} {D : Ends} {α β γ : Type} {R : Rl α} {R1 : Rl α} {R2 : Rl β} {R3 : Rl γ} {QA : List V → Hp → Prop} {E : XK}
theorem q_asgS {i : Nat} (h : te σ H fun v H1 => tz D (σ.set i (some v)) H1) : tSeq (tAsg te (gName i)) tz D σ H := h
theorem lst_in {Q : VK} (h : ta σ H fun vs H1 => vs.length ≤ sizeLine ∧ ∀ p, H1 p = none → Q (.ref p) (upd H1 p (.lst vs))) : tLst ta σ H Q := h
theorem z_ifE {B : Bool → Prop} (mh : Same M (S.cut H)) (a : S.At (k + c) H) (h : GvTS S c tt σ M B) (h1 : B true → ∀ M' H', Gr M (S.cut H) M' (S.cut H') → S.At k H' → tx D σ H') (h2 : B false → ∀ M' H', Gr M (S.cut H) M' (S.cut H') → S.At k H' → D.nx σ H') :
    tIfS tt tx tNext D σ H := h H k mh a _ fun b M' H' g a' p => by
  cases b with
  | true => exact h1 p M' H' g a'
  | false => exact h2 p M' H' g a'
/-- list + list -/
theorem gl_addL [Mon R] {xs ys : List α} (h1 : Gv t1 σ M (LiR R xs)) (h2 : Gv t2 σ M (LiR R ys)) (hz : xs.length + ys.length ≤ sizeLine) : GvL (tOp (rAddA K) t1 t2) σ M fun M ws => Pd R M (xs ++ ys) ws := fun H mh Q q =>
  h1 H mh _ fun v M1 H1 g1 p1 => h2.le g1.mm H1 g1.mh _ fun w M2 H2 g2 p2 => by
    obtain ⟨a, us, e1, r1, d1⟩ := (Mon.mono g2.mm p1 : LiR R xs M2 v)
    obtain ⟨b, ws, e2, r2, d2⟩ := p2
    exact .inr (.inr (.inr ⟨a, b, us, ws, e1, e2, g2.mh _ _ r1, g2.mh _ _ r2, by rw [← d1.length, ← d2.length]; exact hz, fun p np => q p _ M2 _ ((g1.trans g2).trans (.own g2.mh np)) ((g1.trans g2).hh.free np) (g2.mh.free np) upd_same (pd_app d1 d2)⟩))
end
section
end
theorem pd_itv {M : Hp} {xs : List Int} {vs : List V} (h : Pd It' M xs vs) : vs = xs.map V.int := by
  induction h with
  | nil => rfl
  | cons q _ ih => rw [ih, show _ = V.int _ from q]; rfl
end L3

set_option Elab.async false
set_option linter.all false
set_option maxRecDepth 100000
set_option maxHeartbeats 1000000
namespace L3
open PySem PySem.Spec PyProof.Rows L2
open Strm
/-- a walk whose turns are told by one statement -/
theorem turns_of {J : It} {n : Nat} {G : Hp → Prop} {Y : Nat → Hp → V → Hp → Prop} (w : Walk J n G Y) {H1 : Hp} {fin : Hp → Prop} {B : V → Hp → (Hp → Prop) → Prop} (Pv : Nat → Hp → Prop) (h0 : Pv 0 H1) (hG : ∀ i H, i ≤ n → Pv i H → G H)
    (hs : ∀ i x H H', i < n → Pv i H → Y i H x H' → B x H' (Pv (i + 1))) (hd : ∀ H, Pv n H → fin H) :
    ∃ W : Nat → Nat → Hp → Prop, (∃ m, W 0 m H1) ∧ ∀ i m H, W i m H → (J.stop i H ∧ fin H) ∨ (J.go i H ∧ ∃ N : Hp → Prop, (∀ H', N H' → ∃ m', m' < m ∧ W (i + 1) m' H') ∧ ∀ x H', J.yld i H x H' → B x H' N) := by
  refine ⟨fun i m H => i + m = n ∧ Pv i H, ⟨n, Nat.zero_add n, h0⟩, fun i m H ⟨e, p⟩ => ?_⟩
  cases m with
  | zero =>
    have e' : i = n := e
    subst e'
    exact .inl ⟨w.stops H (hG _ H (Nat.le_refl _) p), hd H p⟩
  | succ m =>
    have hi : i < n := by omega
    have g := hG i H (Nat.le_of_lt hi) p
    exact .inr ⟨w.goes i H hi g, Pv (i + 1), fun H' p' => ⟨m, Nat.lt_succ_self m, by omega, p'⟩, fun x H' y => hs i x H H' hi p (w.yields i H x H' hi g y)⟩
section
variable {K : PySem.W.Frag} {σ : Sl} {M : Hp} {ta tb te ts : TE} {tt : L2.TT} {α β γ : Type} {R : Rl α} {R1 : Rl β} {T : Rl γ} {wi wi1 : TI} {g : TG}
theorem wipe2a {i j : Nat} {u : V} : wipe ((wipe σ [i, j]).set i (some u)) [i, j] = wipe σ [i, j] := by
  show ((((σ.set j none).set i none).set i (some u)).set j none).set i none = (σ.set j none).set i none
  rw [List.set_set]
  by_cases h : i = j
  · subst h; simp
  · rw [List.set_comm _ _ h, List.set_set, List.set_set]
theorem take_flat {α β : Type} {xs : List α} {i : Nat} {x : α} (f : α → List β) (h : xs[i]? = some x) : (xs.take (i + 1)).flatMap f = (xs.take i).flatMap f ++ f x := by
  rw [List.take_add_one, h]
  simp
/-- [e for x in xs for y in ys] -/
theorem gl_two [Mon T] {i j : Nat} {xs : List α} {ys : α → List β} {f : α → β → γ} (hsrc : GvI wi σ M xs R) (hz : (xs.flatMap ys).length ≤ sizeLine)
    (hy : ∀ x ∈ xs, ∀ M1 v, Same M M1 → R x M1 v → GvI wi1 ((wipe σ [i, j]).set i (some v)) M1 (ys x) R1)
    (he : ∀ x ∈ xs, ∀ y ∈ ys x, ∀ M1 v w, Same M M1 → R x M1 v → R1 y M1 w → Gv te ((wipe ((wipe σ [i, j]).set i (some v)) [j]).set j (some w)) M1 (T (f x y))) [Mon R] :
    GvL (tLc2 wi (gName i) tYes wi1 (gName j) tYes te [i, j] [j]) σ M fun M ws => Pd T M (xs.flatMap fun x => (ys x).map (f x)) ws := by
  intro H mh Q q
  refine hsrc H mh _ fun J M1 H1 g1 ⟨G, Y, w, hG, hY⟩ D hD => ?_
  have lens : ∀ zs : List α, (zs.flatMap fun x => (ys x).map (f x)).length = (zs.flatMap ys).length := fun zs => by
    induction zs with
    | nil => rfl
    | cons z zs ih => rw [List.flatMap_cons, List.flatMap_cons, List.length_append, List.length_append, List.length_map, ih]
  refine turns_of w (fun a H' => ∃ M' ws, Gr M1 H1 M' H' ∧ M' D = none ∧ H' D = some (.lst ws) ∧ Pd T M' ((xs.take a).flatMap fun x => (ys x).map (f x)) ws) ⟨M1, [], .own g1.mh hD, g1.mh.free hD, upd_same, .nil⟩ (fun a H' _ ⟨M', ws, g, _⟩ => hG M' H' g.mm g.mh) ?_ ?_
  · rintro a y H' H'' ha ⟨M', ws, gr, m0, hw, hpd⟩ hya
    obtain ⟨x, M0, hx, g0, rx⟩ := hY a M' H' y H'' gr.mm gr.mh ha hya
    have hxm := List.mem_of_getElem? hx
    have G0 := gr.trans g0
    have sm := g1.mm.trans G0.mm
    refine ⟨wipe2a, hy x hxm M0 y sm rx H'' G0.mh _ fun J1 M2 H2 g2 ⟨GG, YY, w2, hG2, hY2⟩ => ?_⟩
    have whole : ((xs.take a).flatMap ys).length + (ys x).length ≤ sizeLine := by
      have e : (xs.flatMap ys).length = ((xs.take (a + 1)).flatMap ys).length + ((xs.drop (a + 1)).flatMap ys).length := by rw [← List.length_append, ← List.flatMap_append, List.take_append_drop]
      rw [take_flat ys hx, List.length_append] at e
      omega
    have s02 : Gr M1 H1 M2 H2 := G0.trans g2
    have mm02 : Same M' M2 := g0.mm.trans g2.mm
    have w2D : H2 D = some (.lst ws) := g2.hh _ _ (g0.hh _ _ hw)
    have m2D : M2 D = none := (g0.trans g2).keep m0 hw
    refine turns_of w2 (fun b H3 => ∃ M3 us, Gr M1 H1 M3 H3 ∧ Same M2 M3 ∧ M3 D = none ∧ H3 D = some (.lst us) ∧ Pd T M3 (((xs.take a).flatMap fun x => (ys x).map (f x)) ++ ((ys x).take b).map (f x)) us) ⟨M2, ws, s02, Same.refl _, m2D, w2D, by simpa using hpd.mono mm02⟩ (fun b H3 _ ⟨M3, us, g3, s3, _⟩ => hG2 M3 H3 s3 g3.mh) ?_ ?_
    · rintro b z H3 H4 hb ⟨M3, us, g3, s3, m3, hw3, hp3⟩ hz4
      obtain ⟨c, M4, hc, g4, rc⟩ := hY2 b M3 H3 z H4 s3 g3.mh hb hz4
      have G4 := g3.trans g4
      have up : Same M0 M4 := g2.mm.trans (s3.trans g4.mm)
      have h4 : H4 D = some (.lst us) := g4.hh _ _ hw3
      refine ⟨wipe1, he x hxm c (List.mem_of_getElem? hc) M4 y z (sm.trans up) (Mon.mono up rx) rc H4 G4.mh _ fun u M5 H5 g5 hu => ?_⟩
      have m5 : M5 D = none := g5.keep (g4.keep m3 hw3) h4
      have len := hp3.length
      rw [List.length_append, lens, List.length_map, List.length_take] at len
      refine ⟨us, g5.hh _ _ h4, by omega, M5, us ++ [u], (G4.trans g5).mut hD m5, s3.trans (g4.mm.trans g5.mm), m5, upd_same, ?_⟩
      rw [List.take_add_one, hc]
      simp only [Option.toList_some, List.map_append, List.map_cons, List.map_nil, ← List.append_assoc]
      exact pd_app (hp3.mono (g4.mm.trans g5.mm)) (.cons hu .nil)
    · rintro H3 ⟨M3, us, g3, s3, m3, hw3, hp3⟩
      refine ⟨M3, us, g3, m3, hw3, ?_⟩
      rw [take_flat _ hx]
      rw [List.take_length] at hp3
      exact hp3
  · rintro H' ⟨M', ws, gr, m0, hw, hpd⟩
    rw [List.take_length] at hpd
    exact q D ws M' H' (g1.trans gr) (g1.hh.free hD) m0 hw hpd
end
/-! methods -/
def Met (P : Program) (w : World) (K : PySem.W.Frag) (mg : Str → Option Value) (base : Heap) (k : Nat) (C : Addr) (m : Str) (ps : List Str) (sp : Sp) : Prop := ∃ f fd, Cls K C ∧ Meth K C m f ∧ FnOk P w K mg base CX0 k f fd ps sp ∧ Binds K fd ps []
section
variable {X : Cx} {k : Nat} {C : Addr} {m : Str} {ps : List Str} {sp : Sp} {o e : Expr} {es : List Expr} {to : TE} {t : TA} {apos pos : Pos} {pl : Sem Bool}
theorem pe_m (c : Met X.prog X.w X.K X.mg X.base k C m ps sp) (hr : Room k X.A) (ho : PE X o to) (ha : PA X (e :: es) t) (hst : starEach (e :: es) X.env = (false, eval e X.env) :: starEach es X.env := by rfl) (hpl : (backTo pos (starEach es X.env)).any (·.1) = false := by rfl)
    (ht : eval (.Call (.Attribute o m apos) (e :: es) [] pos) X.env = (do let ov ← eval o X.env; standAt apos.atName; let (f, first) ← holding [ov] (getMethod ov m pl); callWith pos f first (backTo pos (starEach (e :: es) X.env)) (backToKw pos (keywordEach [] X.env))) := by rfl) :
    PE X (.Call (.Attribute o m apos) (e :: es) [] pos) (tMeth C m sp [] E0 to t) := by
  obtain ⟨f, fd, cl, hm, F, hb⟩ := c
  exact pe_meth ho cl hm F hr hb .nil pass0 ha hst hpl ht
theorem pe_m0 (c : Met X.prog X.w X.K X.mg X.base k C m ps sp) (hr : Room k X.A) (ho : PE X o to)
    (ht : eval (.Call (.Attribute o m apos) [] [] pos) X.env = (do let ov ← eval o X.env; standAt apos.atName; let (f, first) ← holding [ov] (getMethod ov m pl); callWith pos f first (backTo pos (starEach [] X.env)) (backToKw pos (keywordEach [] X.env))) := by rfl) :
    PE X (.Call (.Attribute o m apos) [] [] pos) (tMeth C m sp [] E0 to tNil) := by
  obtain ⟨f, fd, cl, hm, F, hb⟩ := c
  exact pe_meth0 ho cl hm F hr hb .nil pass0 ht
end
section
variable {σ : Sl} {M : Hp} {α β : Type} {R1 : Rl α} {R2 : Rl β} {to te : TE} {C : Addr} {m : Str}
/-- an instance of C without a variable of the method's name -/
def InsR (C : Addr) (m : Str) (P : Pr) : Prop := ∀ M v, P M v → ∃ a dx fs, v = .ref a ∧ M a = some (.ins C dx fs) ∧ fs.lookup m = none
theorem gv_met1 {pre : α → Prop} {R : α → Pr} {x : α} (hi : InsR C m (R1 x)) (h : Gv to σ M (R1 x)) (hp : pre x) : Gv (tMeth C m (sp1 R1 pre R) [] E0 to tNil) σ M (R x) := fun H mh Q q => h H mh _ fun v M1 H1 g1 p1 => by
  obtain ⟨a, dx, fs, e, ha, hl⟩ := hi M1 v p1
  exact ⟨a, dx, fs, e, g1.mh _ _ ha, hl, x, M1, v, rfl, g1.mh, p1, hp, fun u M' H' g r => q u M' H' (g1.trans g) r⟩
end
/-! dicts with tuple keys, known -/
def DtR : Rl (List (List Str)) := fun ks M v => ∃ a, v = .ref a ∧ M a = some (.dT (ent ks))
instance : Mon DtR := ⟨fun e ⟨a, h, r⟩ => ⟨a, h, e _ _ r⟩⟩
section
end
end L3

set_option Elab.async false
set_option linter.all false
set_option maxRecDepth 100000
set_option maxHeartbeats 1000000
namespace L3
open PySem PySem.Spec PyProof.Rows L2
/-! *d in a display, d a dict with texts for keys -/
section
end
/-! defs called with defaults -/
section
end
end L3

set_option Elab.async false
set_option linter.all false
set_option maxRecDepth 100000
set_option maxHeartbeats 1000000
namespace L3
open PySem PySem.Spec PyProof.Rows L2
/-! x in o, x not in o by an own __contains__; o == p, o != p by an own __eq__ -/
theorem ne_slot : Slot "object" "__ne__" "object.__ne__" := PySem.F.slot_object_ne
section
variable {X : Cx} {CX : CXT} {pins : List (Addr × Obj)} {σ : L2.St} {H : Hp} {s : Shared} {C : Addr} {k : Nat} {ps : List Str} {sp : Sp} {E : XK}
/-- a class with an own method of a special name -/
def OwnSp (P : Program) (w : World) (K : PySem.W.Frag) (mg : Str → Option Value) (base : Heap) (k : Nat) (C : Addr) (nm : Str) (ps : List Str) (sp : Sp) : Prop :=
  ∃ f fd, FnOk P w K mg base CX0 k f fd ps sp ∧ PySem.W.findIn K (.ref C) nm = some (some (.ref f)) ∧ PySem.W.isFn K (.ref f) = true ∧ Binds K fd ps []
def rInO (C : Addr) (sp : Sp) (neg : Bool) : R2 := fun x y H Q => ∃ a dx fs, y = V.ref a ∧ H a = some (.ins C dx fs) ∧ sp [.ref a, x] H (fun v H' => ∃ b, v = .bl b ∧ Q (.bl (xor neg b)) H') E0
theorem op_inO (o : OwnSp X.prog X.w X.K X.mg X.base k C "__contains__" ps sp) (hr : Room k X.A) : OpR X (compareOp .In) (rInO C sp false) := by
  intro pins s σ H x y u v Q I rx ry h
  obtain ⟨f, fd, F, hs, hf, hb⟩ := o
  obtain ⟨a, dx, fs, rfl, ha, q⟩ := h
  cases (show v = Value.ref a from ry)
  obtain ⟨ox, od, J⟩ := own_inst I ha
  obtain ⟨m, hF⟩ := I.fr
  refine PySem.W.in_K hF I.ok.mod.kin J hs hf (wpAny_mono (run_deep (us := [.ref a, u]) (vs := [.ref a, x]) F hr I.env0 hb pass0 I (.cons rfl (.cons rx .nil)) q) (fun w s' z => ?_) fun _ _ x => x)
  obtain ⟨z', H', I', rz, b, e, qz⟩ := z
  subst e
  cases (show w = Value.bool b from rz)
  exact wpAny_truthy_bool ⟨.bl b, H', I', rfl, by simpa using qz⟩
def rEqO (C : Addr) (sp : Sp) (neg : Bool) : R2 := fun x y H Q => ∃ a b dx dy fs gs, x = V.ref a ∧ y = V.ref b ∧ H a = some (.ins C dx fs) ∧ H b = some (.ins C dy gs) ∧ sp [.ref a, .ref b] H (fun v H' => ∃ c, v = .bl c ∧ Q (.bl (xor neg c)) H') E0
/-- a class that has object's != -/
structure NeObj (K : PySem.W.Frag) (C : Addr) : Prop where
  ne : PySem.W.findIn K (.ref C) "__ne__" = some (some (.builtin "object.__ne__"))
  ob : PySem.W.subIn K (.ref C) (.type "object") = some true
theorem ne_bound {M : Model} {A : Around} {F : Value → Shared → Prop} {K : PySem.W.Frag} {x : Addr} {ox : Obj} {od : Option Obj} {r : Value} {Z : Option Value → Shared → Prop} (KX : K.In s.heap) (n : NeObj K C) (J : PySem.W.InstAt s.heap x ox C od)
    (go : wpAny M A (call (.builtin "object.__ne__") [.ref x, r]) (fun v => Z (some v)) F s) : wpAny M A (callSpecialIfBound? (.ref x) "__ne__" [r]) Z F s := by
  have last : wpAny M A (do let v ← call (.builtin "object.__ne__") ([Value.ref x] ++ [r]); pure (some v)) Z F s := wpAny_bind (wpAny_mono go (fun _ _ z => wpAny_pure z) fun _ _ z => z)
  unfold callSpecialIfBound? bindSpecialIfBound?
  refine wpAny_holding (wpAny_bind (wpAny_bind (wpAny_bind (J.type.here ((PySem.W.looks_findIn KX n.ne).here ?_)))))
  simp only [ne_slot.bind]
  refine wpAny_bind (wpAny_askSetting (wpAny_ite ?_))
  split
  · exact wpAny_bind (wpAny_pure (wpAny_pure last))
  · exact wpAny_tryCatch (wpAny_bind (wpAny_pure (wpAny_pure last)))
theorem ne_check {M : Model} {A : Around} {F : Value → Shared → Prop} {K : PySem.W.Frag} {x : Addr} {ox : Obj} {od : Option Obj} {r : Value} {Z : Unit → Shared → Prop} (KX : K.In s.heap) (n : NeObj K C) (J : PySem.W.InstAt s.heap x ox C od) (z : Z () s) :
    wpAny M A (checkBuiltinCall "object.__ne__" ⟨[.ref x, r], []⟩) Z F s := by
  unfold checkBuiltinCall
  simp only [PySem.F.cmpKind_ne, PySem.F.cmpSplit_ne]
  refine wpAny_bind ?_
  unfold isInstance
  refine wpAny_bind (J.type.here ((PySem.W.looks_subIn KX n.ob).here ?_))
  have ar := PySem.F.cmpArgs_ne (.ref x) r
  show wpAny M A (match Manifest.signature? "object.__ne__" with | none => pure () | some g => Bind.checkArgs "object.__ne__" g ⟨[.ref x, r], []⟩) Z F s
  cases sg : Manifest.signature? "object.__ne__" with
  | none => exact wpAny_pure z
  | some g =>
    unfold argsOk at ar
    rw [sg] at ar
    show wpAny M A (Bind.checkArgs "object.__ne__" g ⟨[.ref x, r], []⟩) Z F s
    rw [show Bind.checkArgs "object.__ne__" g ⟨[.ref x, r], []⟩ = pure () from ar]
    exact wpAny_pure z
theorem op_neO (o : OwnSp X.prog X.w X.K X.mg X.base k C "__eq__" ps sp) (n : NeObj X.K C) (hr : Room (k + 1) X.A) : OpR X (compareOp .NotEq) (rEqO C sp true) := by
  intro pins s σ H x y u v Q I rx ry h
  obtain ⟨f, fd, F, hs, hf, hb⟩ := o
  obtain ⟨a, b, dx, dy, fs, gs, rfl, rfl, ha, hb', q⟩ := h
  cases (show u = Value.ref a from rx)
  cases (show v = Value.ref b from ry)
  obtain ⟨ox, od, J⟩ := own_inst I ha
  obtain ⟨oy, od', J'⟩ := own_inst I hb'
  obtain ⟨m, hF⟩ := I.fr
  have KX := I.ok.mod.kin.keeps hF.keep
  have body : wpAny (model X.prog X.w) X.A.in1 (Builtin.«object.__ne__» ⟨[.ref a, .ref b], []⟩) (fun fin s' => ∃ c, fin = .done (.ret (.bool c)) ∧ EP X pins σ Q (.bool c) s') X.xe s := by
    unfold Builtin.«object.__ne__»
    refine wpAny_bind (wpAny_pure ?_)
    refine wpAny_bind (wpAny_cRoomFor hr.in1.units0 ?_)
    refine wpAny_bind (PySem.W.ifBound_K KX J hs hf (wpAny_mono (run_deep (us := [.ref a, .ref b]) (vs := [.ref a, .ref b]) F hr.in1 I.env0.in1 hb pass0 I (.cons rfl (.cons rfl .nil)) q) (fun w s' z => ?_) fun _ _ x => x))
    obtain ⟨z', H', I', rz, c, e, qz⟩ := z
    subst e
    cases (show w = Value.bool c from rz)
    refine wpAny_bind (wpAny_truthy_bool (wpAny_pure ⟨!c, rfl, .bl (!c), H', I', rfl, by simpa using qz⟩))
  have one : wpAny (model X.prog X.w) X.A (tryCompare (.ref a) "__ne__" (.ref b)) (fun r s' => ∃ c, r = some (.bool c) ∧ EP X pins σ Q (.bool c) s') X.xe s := by
    unfold tryCompare
    refine wpAny_bind (ne_bound KX n J (wpAny_call (codeAny_call_builtin ne_slot.plain PySem.F.cmpEntry_ne (ne_check KX n J (wpAny_mono body (fun fin s' z => ?_) fun _ _ x => x)))))
    obtain ⟨c, rfl, qz⟩ := z
    exact wpAny_pure ⟨c, rfl, qz⟩
  show wpAny (model X.prog X.w) X.A (richCompare .NotEq (.ref a) (.ref b)) (EP X pins σ Q) X.xe s
  unfold richCompare
  simp only [oneThing_ref]
  refine wpAny_holding (wpAny_bind (wpAny_cRoomFor hr.units0 (wpAny_bind (J.type.here (wpAny_bind (J'.type.here ?_))))))
  rw [if_neg (by simp)]
  refine wpAny_bind (wpAny_pure ?_)
  simp only [Bool.false_eq_true, if_false]
  refine wpAny_bind (wpAny_mono one (fun r s' z => ?_) fun _ _ e => e)
  obtain ⟨c, rfl, qz⟩ := z
  exact wpAny_pure qz
end
end L3

set_option Elab.async false
set_option linter.all false
set_option maxRecDepth 100000
set_option maxHeartbeats 1000000
namespace L3
open PySem PySem.Spec PyProof.Rows L2
/-! lists of data: remove, index; insert -/
section
variable {K : PySem.W.Frag} {σ : Sl} {M H : Hp} {te tb : TE} {P : Pr} {D : Ends} {tz : TS} {α : Type} {R : Rl α}
/-- what isinstance asks of a class of the text -/
structure InsF (K : PySem.W.Frag) (C : Addr) : Prop where
  cl : Cls K C
  gc : PySem.W.findIn K (.ref C) "__class__" = some (some (.builtin "object.__class__"))
  sp : PySem.W.specialIn K (.builtin "object.__class__") "__get__" = some (some (.builtin "getset_descriptor.__get__"))
  tk : PySem.W.takesIn K (.builtin "object.__class__") = some true
  mr : PySem.W.mroIn K C (.type "object") = some true
/-- isinstance(x, C), x an instance of C -/
theorem gv_isC {C : Addr} (I : InsF K C) (h : Gv te σ M P) (hi : ∀ M v, P M v → ∃ a dx fs, v = .ref a ∧ M a = some (.ins C dx fs)) : Gv (tCB (rIsi K) (tCons te (tCons (tC (.ref C)) tNil))) σ M (Bl true) := fun H mh Q q =>
  h H mh _ fun v M1 H1 g1 p1 => by
    obtain ⟨a, dx, fs, rfl, ha⟩ := hi M1 v p1
    exact ⟨_, _, .ref C, .ref C, true, rfl, .own C, .base (.ins (g1.mh _ _ ha) I.cl I.gc I.sp I.tk I.mr), by unfold PySem.W.kitOne; simp, q _ M1 H1 g1 rfl⟩
end
section
variable {α β : Type} {σ : Sl} {M : Hp} {ta tb : TE} {R1 : Rl α} {R2 : Rl β} {C : Addr}
/-- x in o, o == p by own methods -/
theorem gv_inO [Mon R1] [Mon R2] {pre : α → β → Prop} {B : α → β → Bool} {x : α} {y : β} {neg : Bool} (ha : Gv ta σ M (R2 y)) (hb : Gv tb σ M (R1 x)) (hi : ∀ M v, R1 x M v → ∃ a dx fs, v = .ref a ∧ M a = some (.ins C dx fs)) (hp : pre x y) :
    Gv (tOp (rInO C (sp2 R1 R2 pre fun x y => Bl (B x y)) neg) ta tb) σ M (Bl (xor neg (B x y))) := fun H mh Q q =>
  ha H mh _ fun v M1 H1 g1 p1 => hb.le g1.mm H1 g1.mh _ fun w M2 H2 g2 p2 => by
    obtain ⟨a, dx, fs, rfl, h2⟩ := hi M2 w p2
    exact ⟨a, dx, fs, rfl, g2.mh _ _ h2, x, y, M2, _, v, rfl, g2.mh, p2, Mon.mono g2.mm p1, hp, fun u M' H' g r => ⟨_, r, q _ M' H' ((g1.trans g2).trans g) rfl⟩⟩
theorem gv_eqO [Mon R1] {pre : α → α → Prop} {B : α → α → Bool} {x y : α} {neg : Bool} (ha : Gv ta σ M (R1 x)) (hb : Gv tb σ M (R1 y)) (hi : ∀ z M v, R1 z M v → ∃ a dx fs, v = .ref a ∧ M a = some (.ins C dx fs)) (hp : pre x y) :
    Gv (tOp (rEqO C (sp2 R1 R1 pre fun x y => Bl (B x y)) neg) ta tb) σ M (Bl (xor neg (B x y))) := fun H mh Q q =>
  ha H mh _ fun v M1 H1 g1 p1 => hb.le g1.mm H1 g1.mh _ fun w M2 H2 g2 p2 => by
    have p12 : R1 x M2 v := Mon.mono g2.mm p1
    obtain ⟨a, dx, fs, rfl, h1⟩ := hi x M2 v p12
    obtain ⟨b, dy, gs, rfl, h2⟩ := hi y M2 w p2
    exact ⟨a, b, dx, dy, fs, gs, rfl, rfl, g2.mh _ _ h1, g2.mh _ _ h2, x, y, M2, _, _, rfl, g2.mh, p12, p2, hp, fun u M' H' g r => ⟨_, r, q _ M' H' ((g1.trans g2).trans g) rfl⟩⟩
end
end L3

set_option Elab.async false
set_option linter.all false
set_option maxRecDepth 100000
set_option maxHeartbeats 1000000
namespace L3
open PySem PySem.Spec PyProof.Rows L2
/-! instances made with defaults -/
def MakD (P : Program) (w : World) (K : PySem.W.Frag) (mg : Str → Option Value) (base : Heap) (k : Nat) (x : Str) (C : Addr) (ps : List Str) (dvs : List V) (sp : Sp) : Prop :=
  ∃ f fd ds, Mk K C f ∧ FnOk P w K mg base CX0 k f fd ps sp ∧ mg x = some (.ref C) ∧ Binds K fd ps ds ∧ Vals dvs ds
theorem pe_mkD {X : Cx} {k : Nat} {x : Str} {C : Addr} {ps : List Str} {dvs : List V} {sp : Sp} {e : Expr} {es : List Expr} {t : TA} {p pos : Pos} (c : MakD X.prog X.w X.K X.mg X.base k x C ps dvs sp) (hr : Room (k + 1) X.A) (ha : PA X (e :: es) t) (hg : Gl X x := by rfl)
    (hdb : (x == ("__debug__" : Str)) = false := by decide) (he : starEach (e :: es) X.env = (false, eval e X.env) :: starEach es X.env := by rfl) (hpl : (backTo pos (starEach es X.env)).any (·.1) = false := by rfl) : PE X (.Call (.Name x p) (e :: es) [] pos) (tMake C sp dvs E0 t) :=
  let ⟨_, _, _, M, F, m, b, d⟩ := c
  pe_make M F hr hg m b d pass0 ha hdb he hpl
end L3

set_option Elab.async false
set_option linter.all false
set_option maxRecDepth 100000
set_option maxHeartbeats 1000000
namespace L3
open PySem PySem.Spec PyProof.Rows L2
section
end
end L3

set_option Elab.async false
set_option linter.all false
set_option maxRecDepth 100000
set_option maxHeartbeats 1000000
namespace L3
open PySem PySem.Spec PyProof.Rows L2
/-! texts cut, lists repeated, several things of ours lent, a dict of new lists -/
section
variable {K : PySem.W.Frag} {σ : Sl} {M H : Hp} {to te ta tb ts : TE} {α : Type} {R : Rl α}
/-! several things of ours, lent at once -/
def delS (M : Hp) (bs : List Addr) : Hp := fun x => if x ∈ bs then none else M x
theorem delS_on {bs : List Addr} {a : Addr} (h : a ∉ bs) : delS M bs a = M a := if_neg h
theorem delS_off {bs : List Addr} {a : Addr} (h : a ∈ bs) : delS M bs a = none := if_pos h
end
section
end
end L3

set_option Elab.async false
set_option linter.all false
set_option maxRecDepth 100000
set_option maxHeartbeats 2000000
namespace L3
open PySem PySem.Spec PyProof.Rows PySem.Calls L2 NdefX
/-! own exceptions whose __init__ says super().__init__('..') and then self.f = x -/
/-- what the written part says of the class at C and its __init__ at fI -/
structure SupC (P : Program) (K : PySem.W.Frag) (C fI : Addr) (q : Str) (args : Arguments) (body : List Stmt) (sc : Scope) : Prop where
  T : OexC K C
  fn : ∃ oc od kV doc pm an cda ct osl cc cl cld csl ccl cdd vs ccs file tf, K.lookup fI = some ⟨oc, od, .func (PySem.W.fnX "__init__" q args body sc [("__class__", cc)] .none kV doc pm an (.ref cda) ct), osl⟩ ∧ PySem.W.codeIn K (.ref cda) q = true ∧
    K.lookup cc = some ⟨cl, cld, .cell (some (.ref C)), csl⟩ ∧ K.lookup cda = some ⟨ccl, cdd, .fields vs, ccs⟩ ∧ vs[2]? = some (.str file tf) ∧ ((P.main.file : Str) == file) = true
  sup : PySem.W.nsIn K mainGlobals "super" = some none
  opq : PySem.W.nsIn K cStatics "thirdparty.any" = some none
  hm : PySem.W.ks_superIn K C C "__init__" = some (some (.builtin "ValueError.__init__"))
  hB : PySem.W.subIn K (.ref C) (.type "ValueError") = some true
  hS : PySem.W.mroIn K C (.ref C) = some true
  top : (P.main.scope.names.lookup ("super" : Str)).isSome = false
/-- what such an __init__ does -/
def spSup (K : PySem.W.Frag) (C : Addr) (f : Str) : Sp := fun vs H Q _ => ∃ a v, vs = [.ref a, v] ∧ H a = some (exo a C none) ∧ ∀ dx, H dx = none → dx ≠ a → Q .non (upd (upd H dx (exd dx [(f, v)])) a (exo a C (some dx)))
section
end
end L3

set_option Elab.async false
set_option linter.all false
set_option maxRecDepth 100000
set_option maxHeartbeats 2000000
namespace L3
open PySem PySem.Spec PyProof.Rows L2
/-! own exceptions raised, caught, asked for their field -/
/-- an own exception class x of the module, its instances made with one thing, kept as field f -/
structure Rai (P : Program) (w : World) (K : PySem.W.Frag) (mg : Str → Option Value) (base : Heap) (k : Nat) (x : Str) (C : Addr) (f : Str) : Prop where
  T : OexC K C
  gl : mg x = some (.ref C)
  ini : ∃ (fI : Addr) (fd : FuncData) (p : Str), PySem.W.findIn K (.ref C) "__init__" = some (some (.ref fI)) ∧ PySem.W.typeIn K (.ref fI) = some (.type "function") ∧ FnOk P w K mg base CX0 k fI fd ["self", p] (spSup K C f) ∧ Binds K fd ["self", p] []
end L3

set_option Elab.async false
set_option linter.all false
set_option maxRecDepth 100000
set_option maxHeartbeats 2000000
namespace L3
open PySem PySem.Spec PyProof.Rows L2
/-! what the head must see of an own exception class, as a Boolean -/
structure SupF (P : Program) (K : PySem.W.Frag) (x q f : Str) (st : Stmt) : Prop where
  S : SupC P K (He.ga K x) (He.ma K (He.ga K x) "__init__") q (defArgs st) (defBody st) (defScope st)
  xf : XfC K (He.ga K x)
  ini : PySem.W.findIn K (.ref (He.ga K x)) "__init__" = some (some (.ref (He.ma K (He.ga K x) "__init__")))
  ty : PySem.W.typeIn K (.ref (He.ma K (He.ga K x) "__init__")) = some (.type "function")
  no : PySem.W.findIn K (.ref (He.ga K x)) f = some none
end L3

set_option Elab.async false
set_option linter.all false
set_option maxRecDepth 100000
set_option maxHeartbeats 1000000
namespace L3
open PySem PySem.Spec PyProof.Rows L2
/-! ~o by an own __invert__, o <= p by an own __le__, o op p by an own method of both's class -/
section
end
/-! dicts with tuple keys, locked -/
def DtF : Rl (List (List Str)) := fun ks M v => ∃ a o, v = .ref a ∧ M a = some (.frz o (.dT (ent ks)))
instance : Mon DtF := ⟨fun e ⟨a, o, h, r⟩ => ⟨a, o, h, e _ _ r⟩⟩
section
end
end L3

set_option Elab.async false
set_option linter.all false
set_option maxRecDepth 100000
set_option maxHeartbeats 1000000
namespace L3
open PySem PySem.Spec PyProof.Rows L2 LamX
open Strm
/-! a lambda handed to a def of the law, behind the stream -/
section
variable {S : Strm} {H H' M M' : Hp} {j k : Nat} {Pt : Addr} {q : Str} {σ : Sl} {P : Pr}
theorem Strm.At.ext (h : S.At k H) (e : ExtN H H') : S.At k H' := let ⟨c, x, n, m, h1, h2, h3⟩ := h.ex; ⟨h.ne, c, x, n, m, e _ _ h1 (fun _ z => by cases z), e _ _ h2 (fun _ z => by cases z), h3⟩
/-- the state of a law with a table of code objects -/
structure LS (S : Strm) (Pt : Addr) (q : Str) (M H : Hp) (k : Nat) : Prop where
  mh : Same M (S.cut H)
  at_ : S.At k H
  tb : TabS H Pt q
  mp : M Pt = none
  nt : ∀ a ps, M a ≠ some (.tbl ps)
theorem LS.le (L : LS S Pt q M H k) (e : j ≤ k) : LS S Pt q M H j := ⟨L.mh, L.at_.le e, L.tb, L.mp, L.nt⟩
theorem LS.step (L : LS S Pt q M H k) (g : Gr M (S.cut H) M' (S.cut H')) (a : S.At j H') : LS S Pt q M' H' j := by
  have kp : ∀ x o, H x = some o → (∀ vs, o ≠ HO.lst vs) → S.cut H x = some o ∧ H' x = some o := fun x o e n => by
    have no : ¬ S.off x := fun z => by
      obtain ⟨vs, hv⟩ := L.at_.at_ z
      rw [hv] at e
      exact n vs (Option.some.inj e).symm
    have e1 : S.cut H x = some o := by rw [cut_on no]; exact e
    exact ⟨e1, of_cut (g.hh x o e1)⟩
  obtain ⟨ps, hP, ok, h3⟩ := L.tb
  have h1 := kp Pt _ hP (fun _ z => by cases z)
  refine ⟨g.mh, a, ⟨ps, h1.2, ok, fun pos cv hc => ?_⟩, g.keep L.mp h1.1, fun x qs e => L.nt x qs (g.nt x qs e)⟩
  obtain ⟨c, e1, e2⟩ := h3 pos cv hc
  exact ⟨c, e1, (kp c _ e2 (fun _ z => by unfold CodeO at z; cases z)).2⟩
/-- a step that leaves all as it is -/
theorem LS.idle (L : LS S Pt q M H k) (hh : Same H H') : LS S Pt q M H' k := by
  have m1 : Same M (S.cut H') := fun x o e => by
    have h1 := L.mh x o e
    rw [cut_on (on_of h1)]
    exact hh _ _ (of_cut h1)
  exact ⟨m1, L.at_.same hh, L.tb.ext hh, L.mp, L.nt⟩
theorem LS.put (L : LS S Pt q M H k) {p : Addr} {o : HO} {vs : List V} (hp : S.cut H p = some (.lst vs)) (hm : M p = none) : LS S Pt q M (upd H p o) k := by
  have no : ¬ S.off p := on_of hp
  have hp' := of_cut hp
  obtain ⟨ps, hP, ok, h3⟩ := L.tb
  have n1 : Pt ≠ p := fun z => by rw [z, hp'] at hP; cases hP
  refine ⟨by rw [cut_upd no]; exact same_mut L.mh hm, L.at_.upd no, ⟨ps, by rw [upd_ne n1]; exact hP, ok, fun pos cv hc => ?_⟩, L.mp, L.nt⟩
  obtain ⟨c, e1, e2⟩ := h3 pos cv hc
  have n2 : c ≠ p := fun z => by rw [z, hp'] at e2; unfold CodeO at e2; cases e2
  exact ⟨c, e1, by rw [upd_ne n2]; exact e2⟩
end
end L3

set_option Elab.async false
set_option linter.all false
set_option maxRecDepth 100000
set_option maxHeartbeats 1000000
namespace L3
open PySem PySem.Spec PyProof.Rows L2
/-! data among which an empty dict may stand -/
/-- data, or an empty dict -/
def DdF (K : PySem.W.Frag) : Rl PyData := fun d M v => Dd K d M v ∨ (d = .dict [] ∧ ∃ a, v = .ref a ∧ M a = some (.dK []))
/-- .. or a list of such -/
def DdE (K : PySem.W.Frag) : Rl PyData := fun d M v => DdF K d M v ∨ ∃ a ds vs, d = .list ds ∧ v = .ref a ∧ SqL K M a vs ∧ Pd (DdF K) M ds vs
instance {K : PySem.W.Frag} : Mon (DdF K) := ⟨fun e h => h.elim (fun h => .inl (dp_mono e h)) fun ⟨h1, a, h2, h3⟩ => .inr ⟨h1, a, h2, e _ _ h3⟩⟩
instance {K : PySem.W.Frag} : Mon (DdE K) := ⟨fun e h => h.elim (fun h => .inl (Mon.mono e h)) fun ⟨a, ds, vs, h1, h2, h3, h4⟩ => .inr ⟨a, ds, vs, h1, h2, sl_mono e h3, h4.mono e⟩⟩
section
end
end L3

set_option Elab.async false
set_option linter.all false
set_option maxRecDepth 100000
set_option maxHeartbeats 1000000
namespace L3
open PySem PySem.Spec PyProof.Rows L2
/-! a written dict of three texts, locked at the return: it can be walked -/
section
end
section
end
end L3
namespace L3
open PySem PySem.Spec PyProof.Rows L2 LamX
open Strm
end L3

set_option Elab.async false
set_option linter.all false
set_option maxRecDepth 100000
set_option maxHeartbeats 1000000
namespace L3
open PySem PySem.Spec PyProof.Rows L2 LamX
/-! the law's own end, a table of code objects at Pt tracked from the start, empty -/
section
end
end L3

set_option Elab.async false
set_option linter.all false
set_option maxRecDepth 100000
set_option maxHeartbeats 1000000
namespace L3
open PySem PySem.Spec PyProof.Rows L2
/-! a quiet def (one that raises nothing and walks no range) called while an exception is handled -/
structure FnQ (P : Program) (w : World) (K : PySem.W.Frag) (mg : Str → Option Value) (base : Heap) (k : Nat) (f : Addr) (fd : FuncData) (ps : List Str) (sp : Sp) : Prop where
  len (vs : List V) (H : Hp) (Q : VK) (E : XK) : sp vs H Q E → vs.length = ps.length
  run : ∀ (A : Around) (outer : List Env) (s : Shared) (H : Hp) (args : Args) (us : List Value) (vs : List V) (Q : VK) (E : XK) (p : Addr × Obj), A.guards = some [] → L2H.RoomH k A → L2H.PinOk outer H s p →
    Env0 P w K mg base A outer s H → BindsTo s fd args (ps.zip us) → Vals vs us → sp vs H Q E → codeAny (model P w) A (.call (.ref f) args) (CR CX0 outer P w H s Q E) s
section
end
end L3

set_option Elab.async false
set_option linter.all false
set_option maxRecDepth 100000
set_option maxHeartbeats 4000000
namespace My
open PySem PySem.Spec PyProof.Rows L2 L3
def topS (i : Nat) : Stmt := PySem.Challenge.pw_lastopen_k58_either_told.main.body.getD i (.Pass ⟨0, 0, 0, 0⟩)
/-! the plain functions -/
def nameOf (x : Str) : Str := if cutS x none (some 1) = "-" then cutS x (some 1) none else x
def opp (x : Str) : Str := if cutS x none (some 1) = "-" then cutS x (some 1) none else "-" ++ x
def isListD : PyData → Bool
  | .list _ => true | .tuple _ => true | _ => false
def isLit (ns : List Str) : PyData → Bool
  | .str x => decide (nameOf x ∈ ns) | _ => false
def nameD : PyData → Str
  | .str x => nameOf x | _ => ""
def fwGo (ns : List Str) : List PyData → List Str → Nat → Option Nat
  | [], _, _ => none
  | d :: r, met, i => if isLit ns d = false ∨ nameD d ∈ met then some i else fwGo ns r (met ++ [nameD d]) (i + 1)
/-- the index of the first thing that is no literal, or whose name stood before -/
def firstWrong (ns : List Str) : PyData → Option Nat
  | .list ds => fwGo ns ds [] 0 | .tuple ds => fwGo ns ds [] 0 | _ => some 0
def shortD : PyData → Prop
  | .str x => x.length ≤ 1000 | _ => True
def shortL : PyData → Prop
  | .list ds => ds.length ≤ 1000000 ∧ ∀ d ∈ ds, shortD d | .tuple ds => ds.length ≤ 1000000 ∧ ∀ d ∈ ds, shortD d | _ => True
def asc (ls ns : List Str) : List Str := ns.flatMap fun n => [n, ("-" : Str) ++ n].filter fun l => decide (l ∈ ls)
/-- built-ins that the module does not shade -/
structure Bi (mg : Str → Option Value) : Prop where
  len : mg "len" = none
  tuple : mg "tuple" = none
  list : mg "list" = none
  str : mg "str" = none
  int : mg "int" = none
  all : mg "all" = none
  any : mg "any" = none
  isinstance : mg "isinstance" = none
  enumerate : mg "enumerate" = none
  range : mg "range" = none
  repr : mg "repr" = none
theorem sz1000 {n : Nat} (h : n ≤ 1000) : n ≤ sizeLine := Nat.le_trans h (by decide)
theorem szM {n : Nat} (h : n ≤ 16000000) : n ≤ sizeLine := Nat.le_trans h (by decide)
theorem szL {n : Nat} (h : n ≤ 16000000) : n < sizeLine := Nat.lt_of_le_of_lt h (by decide)
section
variable {P : Program} {w : World} {K : PySem.W.Frag} {mg : Str → Option Value} {base : Heap}
abbrev s_name_of : Stmt := topS 15
theorem sc_name_of : FnScope ["literal"] ["literal"] (defScope s_name_of) := ⟨rfl, rfl, rfl, by decide +kernel, rfl, by decide +kernel, by decide +kernel⟩
def sp_name_of (K : PySem.W.Frag) : Sp := sp1 Tx (fun x => x.length ≤ 1000) fun x => Tx (nameOf x)
theorem ok_name_of {f : Addr} {fd : FuncData} (F : Fun K "name_of" "name_of" s_name_of f fd) : FnOk P w K mg base CX0 1 f fd ["literal"] (sp_name_of K) := by
  refine F.ok sc_name_of (fun vs H Q E h => ?_) (fun cdv A outer s H vs Q E hr h => ?_)
  · obtain ⟨x, M, v, rfl, _⟩ := h
    rfl
  · obtain ⟨x, M, v, rfl, mh, r1, hp, q⟩ := h
    have hu := hr.units
    refine ⟨_, (pss_one (ps_ret (pe_ifExp (pt_cmpR (op_eqP hu) (pe_slice sl_X (pv 0) po_none (po_some pe_int)) pe_str (nomark _)) (pe_slice sl_X (pv 0) (po_some pe_int) po_none) (pv 0)))), ?_⟩
    have hv : Gv (tVar 0) (start ["literal"] [v]) M (Tx x) := gv_var rfl r1
    refine s_ret mh (gv_if (gt_test (gv_eqT py_str inj_str (gv_cutS hv (sz1000 hp) (fun _ _ h => h) (fun _ _ h => ⟨1, rfl, h⟩)) (gv_c rfl) (by simp [PyData.depth]))) (fun hb => gv_is (gv_cutS hv (sz1000 hp) (fun _ _ h => ⟨1, rfl, h⟩) fun _ _ h => h) fun M' v h => ?_) fun hb => gv_is hv fun M' v h => ?_) q
    · show Tx (nameOf x) M' v
      rw [show nameOf x = _ from if_pos (by simpa using hb)]; exact h
    · show Tx (nameOf x) M' v
      rw [show nameOf x = _ from if_neg (by simpa using hb)]; exact h
abbrev s_opposite : Stmt := topS 16
theorem sc_opposite : FnScope ["literal"] ["literal"] (defScope s_opposite) := ⟨rfl, rfl, rfl, by decide +kernel, rfl, by decide +kernel, by decide +kernel⟩
def sp_opposite (K : PySem.W.Frag) : Sp := sp1 Tx (fun x => x.length ≤ 1000) fun x => Tx (opp x)
theorem ok_opposite {f : Addr} {fd : FuncData} (F : Fun K "opposite" "opposite" s_opposite f fd) : FnOk P w K mg base CX0 1 f fd ["literal"] (sp_opposite K) := by
  refine F.ok sc_opposite (fun vs H Q E h => ?_) (fun cdv A outer s H vs Q E hr h => ?_)
  · obtain ⟨x, M, v, rfl, _⟩ := h
    rfl
  · obtain ⟨x, M, v, rfl, mh, r1, hp, q⟩ := h
    have hu := hr.units
    refine ⟨_, (pss_one (ps_ret (pe_ifExp (pt_cmpR (op_eqP hu) (pe_slice sl_X (pv 0) po_none (po_some pe_int)) pe_str (nomark _)) (pe_slice sl_X (pv 0) (po_some pe_int) po_none) (pe_op op_addA pe_str (pv 0))))), ?_⟩
    have hv : Gv (tVar 0) (start ["literal"] [v]) M (Tx x) := gv_var rfl r1
    refine s_ret mh (gv_if (gt_test (gv_eqT py_str inj_str (gv_cutS hv (sz1000 hp) (fun _ _ h => h) (fun _ _ h => ⟨1, rfl, h⟩)) (gv_c rfl) (by simp [PyData.depth]))) (fun hb => gv_is (gv_cutS hv (sz1000 hp) (fun _ _ h => ⟨1, rfl, h⟩) fun _ _ h => h) fun M' v h => ?_) fun hb => gv_is (gv_addSt (gv_c rfl) hv (szM (by show 1 + x.length ≤ _; omega))) fun M' v h => ?_) q
    · show Tx (opp x) M' v
      rw [show opp x = _ from if_pos (by simpa using hb)]; exact h
    · show Tx (opp x) M' v
      rw [show opp x = _ from if_neg (by simpa using hb)]; exact h
abbrev s_is_list : Stmt := topS 12
theorem sc_is_list : FnScope ["thing"] ["thing"] (defScope s_is_list) := ⟨rfl, rfl, rfl, by decide +kernel, rfl, by decide +kernel, by decide +kernel⟩
def sp_is_list (K : PySem.W.Frag) : Sp := sp1 (Dd K) (fun _ => True) fun d => Bl (isListD d)
theorem ok_is_list {f : Addr} {fd : FuncData} (F : Fun K "is_list" "is_list" s_is_list f fd) (T : Bi mg) : FnOk P w K mg base CX0 1 f fd ["thing"] (sp_is_list K) := by
  refine F.ok sc_is_list (fun vs H Q E h => ?_) (fun cdv A outer s H vs Q E hr h => ?_)
  · obtain ⟨x, M, v, rfl, _⟩ := h
    rfl
  · obtain ⟨d, M, v, rfl, mh, r1, hp, q⟩ := h
    refine ⟨_, (pss_one (ps_ret (pe_callB call_isiT (by rfl) T.isinstance boot_isinstance (pa_cons (pv 0) (pa_cons (pe_tup (pa_cons (pe_bltn (v := .ty "list") (u := .type "list") (by rfl) T.list (by decide +kernel) rfl) (pa_cons (pe_bltn (v := .ty "tuple") (u := .type "tuple") (by rfl) T.tuple (by decide +kernel) rfl) pa_nil))) pa_nil))))), ?_⟩
    have hv : Gv (tVar 0) (start ["thing"] [v]) M (Dd K d) := gv_var rfl r1
    cases d with
    | list _ => exact s_ret mh (gv_isi2 (b := true) (c := false) hv (by simp only [tyN]; decide +kernel) (by simp only [tyN]; decide +kernel)) q
    | tuple _ => exact s_ret mh (gv_isi2 (b := false) (c := true) hv (by simp only [tyN]; decide +kernel) (by simp only [tyN]; decide +kernel)) q
    | _ => exact s_ret mh (gv_isi2 (b := false) (c := false) hv (by simp only [tyN]; decide +kernel) (by simp only [tyN]; decide +kernel)) q
abbrev s_is_literal : Stmt := topS 17
theorem sc_is_literal : FnScope ["thing", "names"] ["thing", "names"] (defScope s_is_literal) := ⟨rfl, rfl, rfl, by decide +kernel, rfl, by decide +kernel, by decide +kernel⟩
def sp_is_literal (K : PySem.W.Frag) : Sp := sp2 (Dd K) (SqR K Tx) (fun d _ => shortD d) fun d ns => Bl (isLit ns d)
theorem ok_is_literal {f : Addr} {fd : FuncData} (F : Fun K "is_literal" "is_literal" s_is_literal f fd) (T : Bi mg) (c_name_of : Cal P w K mg base 1 "name_of" ["literal"] (sp_name_of K)) : FnOk P w K mg base CX0 2 f fd ["thing", "names"] (sp_is_literal K) := by
  refine F.ok sc_is_literal (fun vs H Q E h => ?_) (fun cdv A outer s H vs Q E hr h => ?_)
  · obtain ⟨x, y, M, v, w, rfl, _⟩ := h
    rfl
  · obtain ⟨d, ns, M, v, w, rfl, mh, r1, r2, hp, q⟩ := h
    have hu := hr.units
    refine ⟨_, (pss_one (ps_ret (pe_and (pe_callB call_isi (by rfl) T.isinstance boot_isinstance (pa_cons (pv 0) (pa_cons (pe_bltn (v := .ty "str") (u := .type "str") (by rfl) T.str (by decide +kernel) rfl) pa_nil))) (pe_one (pe_cmpR (op_inA hu) (pe_f c_name_of (hr.mono (by decide)) (pa_cons (pv 0) pa_nil)) (pv 1) (by rfl)))))), ?_⟩
    have hv : Gv (tVar 0) (start ["thing", "names"] [v, w]) M (Dd K d) := gv_var rfl r1
    cases d with
    | str x =>
      cases r1
      exact s_ret mh (gv_is (gv_andV (gv_isi (b := true) hv (by simp only [tyN]; decide +kernel)) fun _ => gv_inA (K := K) (gv_call1 (gv_var rfl rfl) hp) (gv_var rfl (.inl r2))) fun M' v h => by simpa [isLit] using h) q
    | _ => exact s_ret mh (gv_andV (c := false) (gv_isi (b := false) hv (by simp only [tyN]; decide +kernel)) fun h => nomatch h) q
end
end My

set_option Elab.async false
set_option linter.all false
set_option maxRecDepth 100000
set_option maxHeartbeats 4000000
namespace My
open PySem PySem.Spec PyProof.Rows L2 L3
section
variable {P : Program} {w : World} {K : PySem.W.Frag} {mg : Str → Option Value} {base : Heap}
abbrev s_first_wrong : Stmt := topS 18
theorem sc_first_wrong : FnScope ["things", "names", "met", "index", "thing"] ["things", "names"] (defScope s_first_wrong) := ⟨rfl, rfl, rfl, by decide +kernel, rfl, by decide +kernel, by decide +kernel⟩
def sp_first_wrong (K : PySem.W.Frag) : Sp := sp2 (Dd K) (SqR K Tx) (fun d _ => shortL d) fun d ns => OpN (firstWrong ns d)
theorem lit_shape {ns : List Str} {d : PyData} (h : isLit ns d = true) : ∃ x, d = .str x ∧ nameOf x ∈ ns := by
  cases d with
  | str x => exact ⟨x, rfl, by simpa [isLit] using h⟩
  | _ => exact absurd h (by simp [isLit])
theorem ok_first_wrong {f : Addr} {fd : FuncData} (F : Fun K "first_wrong" "first_wrong" s_first_wrong f fd) (T : Bi mg) (c_is_list : Cal P w K mg base 1 "is_list" ["thing"] (sp_is_list K)) (c_name_of : Cal P w K mg base 1 "name_of" ["literal"] (sp_name_of K))
    (c_is_literal : Cal P w K mg base 2 "is_literal" ["thing", "names"] (sp_is_literal K)) : FnOk P w K mg base CX0 3 f fd ["things", "names"] (sp_first_wrong K) := by
  refine F.ok sc_first_wrong (fun vs H Q E h => ?_) (fun cdv A outer s H vs Q E hr h => ?_)
  · obtain ⟨x, y, M, v, w, rfl, _⟩ := h
    rfl
  · obtain ⟨d, ns, M, v, w, rfl, mh, r1, r2, hp, q⟩ := h
    have hu := hr.units
    refine ⟨_, (pss_cons (ps_if (pt_not (pt_val (pe_f c_is_list (hr.mono (by decide)) (pa_cons (pv 0) pa_nil)))) (pss_one (ps_ret pe_int)) pss_nil)
      (pss_cons (ps_set (i := 2) sc_first_wrong.nd rfl (by first | exact .inl rfl | exact .inr rfl) (pe_lst pa_nil))
      (pss_cons (ps_for PassesOwn.never (by rfl) (pi_en (by rfl) T.enumerate (pa_cons (pv 0) pa_nil)) (pg_tup (by rfl) (pgs_cons (pg_name (i := 3) sc_first_wrong.nd rfl (by first | exact .inl rfl | exact .inr rfl)) (pgs_cons (pg_name (i := 4) sc_first_wrong.nd rfl (by first | exact .inl rfl | exact .inr rfl)) pgs_nil))) (pss_cons (ps_if (PW.pt (pw_or (pt_not (pt_val (pe_f c_is_literal (hr.mono (by decide)) (pa_cons (pv 4) (pa_cons (pv 1) pa_nil))))) (pw_or1 (pt_cmpR (op_inA hu) (pe_f c_name_of (hr.mono (by decide)) (pa_cons (pv 4) pa_nil)) (pv 2) (by rfl))))) (pss_one (ps_ret (pv 3))) pss_nil)
      (pss_one (ps_expr (pe_bm PySem.F.plainAttrs_list PySem.F.slot_list_append PySem.F.type_list_append mt_append (pv 2) (pa_cons (pe_f c_name_of (hr.mono (by decide)) (pa_cons (pv 4) pa_nil)) pa_nil))))))
      (pss_one (ps_ret pe_non))))), ?_⟩
    refine q_if mh (gt_not (gt_B (gv_call1 (gv_var rfl r1) trivial))) (fun hb H1 hh1 => ?_) (fun hb H1 hh1 => ?_)
    all_goals have g1 := Gr.idle mh hh1
    · refine s_ret g1.mh (P := It' 0) (gv_c rfl) fun v M' H' g r => q v M' H' (g1.trans g) ?_
      have : firstWrong ns d = some 0 := by
        cases d with
        | list _ => simp [isListD] at hb
        | tuple _ => simp [isListD] at hb
        | _ => rfl
      show v = match firstWrong ns d with | none => V.non | some i => V.int (i : Nat)
      rw [this]
      exact r
    · obtain ⟨ds, sq, efw, hlen, hsh⟩ : ∃ ds, SqR K (Dd K) ds M v ∧ firstWrong ns d = fwGo ns ds [] 0 ∧ ds.length ≤ 1000000 ∧ ∀ d ∈ ds, shortD d := by
        cases d with
        | list ds => exact ⟨ds, dp_sqL r1, rfl, hp.1, hp.2⟩
        | tuple ds => exact ⟨ds, dp_sqT r1, rfl, hp.1, hp.2⟩
        | _ => simp [isListD] at hb
      refine q_asgL g1.mh gl_nil fun p vs M2 H2 g2 h0 m0 hp2 hv => ?_
      subst hv
      have g02 := g1.trans g2
      refine q_forE (R1 := Dd K) (xs := ds) g2.mh (gv_var rfl (Mon.mono g02.mm sq))
        (fun M1' i σ' M' H' => ∃ y3 y4, Gr M H M' H' ∧ Same M1' M' ∧ Same M M' ∧ Own H M' H' p ((((ds.take i).map nameD)).map V.str) ∧ σ' = [some v, some w, some (.ref p), y3, y4] ∧ fwGo ns ds [] 0 = fwGo ns (ds.drop i) ((ds.take i).map nameD) i)
        (fun M3 H3 g3 => ⟨none, none, g02.trans g3, Same.refl _, (g02.trans g3).mm, Own.step ⟨g1.hh.free h0, m0, hp2⟩ g3, rfl, rfl⟩)
        (fun M3 i σ' M' H' ⟨_, _, g, s1, _⟩ => ⟨s1, g.mh⟩) ?_ ?_
      · rintro M3 i x v' σ' M' H' H'' sM hx ⟨y3, y4, g, s1, s2, ow, rfl, efw2⟩ gE rx
        have hxm : x ∈ ds := List.mem_of_getElem? hx
        have hil : i < ds.length := (List.getElem?_eq_some_iff.mp hx).1
        have g' := g.trans gE
        have ow' := ow.step gE
        have r2' : SqR K Tx ns M' w := Mon.mono s2 r2
        have et : ds.take (i + 1) = ds.take i ++ [x] := by rw [List.take_add_one, hx]; rfl
        have ed : ds.drop i = x :: ds.drop (i + 1) := by rw [List.drop_eq_getElem_cons hil]; congr 1; exact (List.getElem?_eq_some_iff.mp hx).2
        have up := ow'.up
        have pd := pd_of_tx (M := M') ((ds.take i).map nameD)
        refine q_if (ow'.fr g'.mh) (gt_or (c := decide (nameD x ∈ (ds.take i).map nameD)) (gt_not (gt_B (gv_call2 (R1 := Dd K) (R2 := SqR K Tx) (gv_var rfl (Mon.mono up rx)) (gv_var rfl (Mon.mono up r2')) (hsh x hxm)))) fun hl => ?_) (fun hb H4 hh4 => ?_) (fun hb H4 hh4 => ?_)
        · obtain ⟨y, rfl, _⟩ := lit_shape (d := x) (ns := ns) (by simpa using hl)
          cases rx
          exact gt_is (gt_test (gv_inA (K := K) (gv_call1 (gv_var rfl rfl) (hsh _ hxm)) (gv_var rfl (.inl (.inl (ow'.lst pd)))))) (by simp [nameD])
        · refine s_ret (P := It' (i : Nat)) (g'.mh.trans hh4) (gv_var rfl rfl) fun v5 M5 H5 g5 r5 => q v5 M5 H5 ((g'.trans (.idle g'.mh hh4)).trans g5) ?_
          show v5 = match firstWrong ns d with | none => V.non | some i => V.int (i : Nat)
          rw [efw, efw2, ed, fwGo, if_pos (by simpa using hb)]
          exact r5
        · obtain ⟨hb1, hb2⟩ : isLit ns x = true ∧ ¬ nameD x ∈ (ds.take i).map nameD := by simpa using hb
          obtain ⟨y, rfl, _⟩ := lit_shape hb1
          cases rx
          have g4 := g'.trans (.idle g'.mh hh4)
          have ow4 := ow'.idle hh4
          refine s_app (P := Tx (nameOf y)) g4.mh rfl ow4.h (szL (by simp; omega)) (gv_call1 (gv_var rfl rfl) (hsh _ hxm)) fun v5 M5 H5 g5 r5 => ?_
          cases r5
          have ow5 := ow4.step g5
          refine ⟨M5, _, _, (g4.trans g5).mut ow5.h0 ow5.m, s1.trans g5.mm, s2.trans g5.mm, ?_, rfl, ?_⟩
          · rw [et, List.map_append, List.map_append]
            exact ow5.put
          · rw [efw2, ed, fwGo, if_neg (by simpa using hb), et, List.map_append]
            rfl
      · rintro M3 σ' M' H' sM ⟨y3, y4, g, s1, s2, ow, rfl, efw2⟩
        refine s_ret g.mh (P := fun _ v => v = .non) (gv_c rfl) fun v M' H' g3 r => q v M' H' (g.trans g3) ?_
        show v = match firstWrong ns d with | none => V.non | some i => V.int (i : Nat)
        rw [efw, efw2, List.drop_length]
        exact r
end
end My

set_option Elab.async false
set_option linter.all false
set_option maxRecDepth 100000
set_option maxHeartbeats 4000000
namespace My
open PySem PySem.Spec PyProof.Rows L2 L3
section
variable {P : Program} {w : World} {K : PySem.W.Frag} {mg : Str → Option Value} {base : Heap}
def Shorts (ns : List Str) : Prop := ns.length ≤ 1000 ∧ ∀ n ∈ ns, n.length ≤ 900
abbrev s_ascending : Stmt := topS 19
theorem sc_ascending : FnScope ["literals", "names", "found", "name", "literal"] ["literals", "names"] (defScope s_ascending) := ⟨rfl, rfl, rfl, by decide +kernel, rfl, by decide +kernel, by decide +kernel⟩
def sp_ascending (K : PySem.W.Frag) : Sp := sp2 (CtR K) (SqR K Tx) (fun _ ns => Shorts ns) fun ls ns => TT (asc ls ns)
theorem asc_len (ls : List Str) : ∀ ns : List Str, (asc ls ns).length ≤ 2 * ns.length
  | [] => Nat.le_refl _
  | n :: ns => by
    have ih := asc_len ls ns
    have h2 := List.length_filter_le (fun l => decide (l ∈ ls)) [n, ("-" : Str) ++ n]
    unfold asc at ih ⊢
    rw [List.flatMap_cons, List.length_append, List.length_cons]
    simp only [List.length_cons, List.length_nil] at h2
    omega
theorem ok_ascending {f : Addr} {fd : FuncData} (F : Fun K "ascending" "ascending" s_ascending f fd) (T : Bi mg) : FnOk P w K mg base CX0 1 f fd ["literals", "names"] (sp_ascending K) := by
  refine F.ok sc_ascending (fun vs H Q E h => ?_) (fun cdv A outer s H vs Q E hr h => ?_)
  · obtain ⟨x, y, M, v, w, rfl, _⟩ := h
    rfl
  · obtain ⟨ls, ns, M, v, w, rfl, mh, r1, r2, hp, q⟩ := h
    have hu := hr.units
    refine ⟨_, (pss_cons (ps_set (i := 2) sc_ascending.nd rfl (by first | exact .inl rfl | exact .inr rfl) (pe_lst pa_nil))
      (pss_cons (ps_for PassesOwn.never (by rfl) (pi_sq (pv 1)) (pg_name (i := 3) sc_ascending.nd rfl (by first | exact .inl rfl | exact .inr rfl)) (pss_one (ps_expr (pe_bm PySem.F.plainAttrs_list PySem.F.slot_list_extend PySem.F.type_list_extend mt_extend (pv 2) (pa_cons (pe_lc (own := [("literal", 4)]) (g := (gName 4)) (tt := (tTest (tOp (rInA K false) (tVar 4) (tVar 0)))) (te := (tVar 4)) (by rfl) sc_ascending.nd (pi_sq (pe_tup (pa_cons (pv 3) (pa_cons (pe_op op_addA pe_str (pv 3)) pa_nil)))) (blkOk_by (by rfl)) (fun _ _ _ _ _ => (pg_name (i := 4) sc_ascending.nd rfl (by first | exact .inl rfl | exact .inr rfl))) (fun _ _ _ _ _ => (pts_one (pt_cmpR (op_inA hu) (pv 4) (pv 0) (by rfl)))) (fun _ _ _ _ _ => (pv 4))) pa_nil)))))
      (pss_one (ps_ret (pe_callTy call_tupA (by rfl) T.tuple boot_tuple (pa_cons (pv 2) pa_nil)))))), ?_⟩
    refine q_asgL mh gl_nil fun p vs M2 H2 g2 h0 m0 hp2 hv => ?_
    subst hv
    refine q_for (R1 := Tx) (xs := ns) g2.mh (gv_var rfl (Mon.mono g2.mm r2))
      (fun M1' i σ' M' H' => ∃ y3 y4, Gr M H M' H' ∧ Same M1' M' ∧ Same M M' ∧ Own H M' H' p ((asc ls (ns.take i)).map V.str) ∧ σ' = [some v, some w, some (.ref p), y3, y4])
      (fun M3 H3 g3 => ⟨none, none, g2.trans g3, Same.refl _, (g2.trans g3).mm, Own.step ⟨h0, m0, hp2⟩ g3, rfl⟩)
      (fun M3 i σ' M' H' ⟨_, _, g, s1, _⟩ => ⟨s1, g.mh⟩) ?_ ?_
    · rintro M3 i n v' σ' M' H' sM hx ⟨y3, y4, g, s1, s2, ow, rfl⟩ rx
      cases rx
      have hn : n.length ≤ 900 := hp.2 n (List.mem_of_getElem? hx)
      have hil : i < ns.length := (List.getElem?_eq_some_iff.mp hx).1
      have et : ns.take (i + 1) = ns.take i ++ [n] := by rw [List.take_add_one, hx]; rfl
      refine s_ext g.mh rfl ow.h (gl_lc (R := Tx) (S := Tx) (gv_is (gv_tup2 (K := K) (gv_var rfl rfl) (gv_addSt (gv_c rfl) (gv_var rfl rfl) (szM (by show 1 + n.length ≤ _; omega)))) fun _ _ h => .inr h) (by show 2 ≤ sizeLine; decide) (fun l => decide (l ∈ ls)) id
        (fun l _ M1 vl sm hl => gt_is (gt_test (gv_inA (K := K) (gv_var rfl hl) (gv_var rfl (Mon.mono (s2.trans sm) r1)))) (by simp)) (fun l _ _ M1 vl sm hl => gv_var rfl hl)) (fun M4 ws h => ?_) fun ws M4 H4 g4 h => ?_
      · have l1 := h.length
        have l2 := asc_len ls (ns.take i)
        have l3 := List.length_filter_le (fun l => decide (l ∈ ls)) [n, ("-" : Str) ++ n]
        have l4 := hp.1
        rw [List.length_map] at l1 ⊢
        rw [List.length_take] at l2
        simp only [List.length_cons, List.length_nil] at l3
        exact szM (by omega)
      · have e4 := pd_tx h
        subst e4
        have ow4 := ow.step g4
        refine ⟨M4, _, _, (g.trans g4).mut ow4.h0 ow4.m, s1.trans g4.mm, s2.trans g4.mm, ?_, rfl⟩
        have e5 : asc ls (ns.take (i + 1)) = asc ls (ns.take i) ++ ([n, ("-" : Str) ++ n].filter fun l => decide (l ∈ ls)).map id := by
          rw [et, List.map_id]; unfold asc; rw [List.flatMap_append]; simp
        rw [e5, List.map_append]
        exact ow4.put
    · rintro M3 σ' M' H' sM ⟨y3, y4, g, s1, s2, ow, rfl⟩
      rw [List.take_length] at ow
      exact s_retTup g.mh rfl ow.h fun l nl => q _ _ _ (g.trans (.new g.mh nl)) (TT.new _)
end
end My

set_option Elab.async false
set_option linter.all false
set_option maxRecDepth 100000
set_option maxHeartbeats 4000000
namespace My
open PySem PySem.Spec PyProof.Rows L2 L3
def g_LETTERS : Str := "abcdefghijklmnopqrstuvwxyz"
structure Gb (mg : Str → Option Value) : Prop extends Bi mg where
  g_LETTERS : ∃ t, mg "LETTERS" = some (.str My.g_LETTERS t)
def isNm (x : Str) : Bool := decide (1 ≤ x.length) && decide (x.length ≤ 8) && x.cps.toList.all fun c => decide (c ∈ g_LETTERS.cps.toList)
def isNmD : PyData → Bool
  | .str x => isNm x | _ => false
section
variable {P : Program} {w : World} {K : PySem.W.Frag} {mg : Str → Option Value} {base : Heap}
abbrev s_is_name : Stmt := topS 13
theorem sc_is_name : FnScope ["thing", "sign"] ["thing"] (defScope s_is_name) := ⟨rfl, rfl, rfl, by decide +kernel, rfl, by decide +kernel, by decide +kernel⟩
def sp_is_name (K : PySem.W.Frag) : Sp := sp1 (Dd K) (fun d => shortD d) fun d => Bl (isNmD d)
theorem ok_is_name {f : Addr} {fd : FuncData} (F : Fun K "is_name" "is_name" s_is_name f fd) (T : Gb mg) : FnOk P w K mg base CX0 1 f fd ["thing"] (sp_is_name K) := by
  refine F.ok sc_is_name (fun vs H Q E h => ?_) (fun cdv A outer s H vs Q E hr h => ?_)
  · obtain ⟨x, M, v, rfl, _⟩ := h
    rfl
  · obtain ⟨d, M, v, rfl, mh, r1, hp, q⟩ := h
    have hu := hr.units
    obtain ⟨tk, hL⟩ := T.g_LETTERS
    refine ⟨_, (pss_one (ps_ret (pe_and (pe_callB call_isi (by rfl) T.isinstance boot_isinstance (pa_cons (pv 0) (pa_cons (pe_bltn (v := .ty "str") (u := .type "str") (by rfl) T.str (by decide +kernel) rfl) pa_nil))) (pe_and (pe_chain op_le op_le pe_int (pe_callB call_lenA (by rfl) T.len boot_len (pa_cons (pv 0) pa_nil)) pe_int) (pe_one (pe_callB (cr_all rfl) (by rfl) T.all boot_all (pa_cons (pe_lc (own := [("sign", 1)]) (g := (gName 1)) (tt := tYes) (te := (tOp (rInA K false) (tVar 1) (tC (.str g_LETTERS)))) (by rfl) sc_is_name.nd (pi_str (pv 0)) (blkOk_by (by rfl)) (fun _ _ _ _ _ => (pg_name (i := 1) sc_is_name.nd rfl (by first | exact .inl rfl | exact .inr rfl))) (fun _ _ _ _ _ => pts_nil) (fun _ _ _ _ _ => (pe_cmpR (op_inA hu) (pv 1) (pe_glob (by rfl) hL ⟨_, rfl⟩) (by rfl)))) pa_nil))))))), ?_⟩
    have hv : Gv (tVar 0) (start ["thing", "sign"] [v]) M (Dd K d) := gv_var rfl r1
    cases d with
    | str x =>
      cases r1
      have hx : Gv (tVar 0) (start ["thing", "sign"] [.str x]) M (Tx x) := gv_var rfl rfl
      refine s_ret mh (gv_is (gv_andV (gv_isi (b := true) hv (by simp only [tyN]; decide +kernel)) fun _ => gv_andV (gv_chain (gv_c rfl) (gv_lenS (K := K) hx (sz1000 hp)) (gv_c rfl)) fun hb => gv_all (K := K)
        (gl_m1 (S := Bl) (gi_str hx) ?_ (fun c => decide (c ∈ g_LETTERS.cps.toList)) fun c _ M1 v sm r => gv_is (gv_sgn (K := K) (c := c) (gv_var rfl r) (gv_c rfl)) fun M' v h => by simpa using h)) fun M' v h => ?_) q
      · exact sz1000 (by rw [Array.length_toList]; exact hp)
      · show v = .bl (isNm x)
        rw [show v = _ from h]
        have e1 : ∀ n : Nat, decide ((1 : Int) ≤ (n : Int)) = decide (1 ≤ n) := fun n => by simp only [decide_eq_decide]; omega
        have e2 : ∀ n : Nat, decide ((n : Int) ≤ 8) = decide (n ≤ 8) := fun n => by simp only [decide_eq_decide]; omega
        simp only [isNm, List.all_map, Bool.true_and, e1, e2]
        rfl
    | _ => exact s_ret mh (gv_andV (c := false) (gv_isi (b := false) hv (by simp only [tyN]; decide +kernel)) fun h => nomatch h) q
abbrev s_checked_names : Stmt := topS 14
theorem sc_checked_names : FnScope ["things", "known", "found", "index", "thing"] ["things", "known"] (defScope s_checked_names) := ⟨rfl, rfl, rfl, by decide +kernel, rfl, by decide +kernel, by decide +kernel⟩
/-- names, no one twice, none known -/
def NamesOk (xs known : List Str) : Prop := xs.Nodup ∧ (∀ x ∈ xs, isNm x = true ∧ x ∉ known) ∧ xs.length ≤ 1000
theorem isNm_len {x : Str} (h : isNm x = true) : x.length ≤ 8 := by
  simp only [isNm, Bool.and_eq_true, decide_eq_true_eq] at h
  exact h.1.2
def sp_checked_names (K : PySem.W.Frag) : Sp := sp2 (SqR K Tx) (SqR K Tx) (fun xs known => NamesOk xs known) fun xs _ => TT xs
theorem ok_checked_names {f : Addr} {fd : FuncData} (F : Fun K "checked_names" "checked_names" s_checked_names f fd) (T : Gb mg) (c_is_name : Cal P w K mg base 1 "is_name" ["thing"] (sp_is_name K)) : FnOk P w K mg base CX0 2 f fd ["things", "known"] (sp_checked_names K) := by
  refine F.ok sc_checked_names (fun vs H Q E h => ?_) (fun cdv A outer s H vs Q E hr h => ?_)
  · obtain ⟨x, y, M, v, w, rfl, _⟩ := h
    rfl
  · obtain ⟨xs, kn, M, v, w, rfl, mh, r1, r2, hp, q⟩ := h
    have hu := hr.units
    refine ⟨_, (pss_cons (ps_set (i := 2) sc_checked_names.nd rfl (by first | exact .inl rfl | exact .inr rfl) (pe_lst pa_nil))
      (pss_cons (ps_for PassesOwn.never (by rfl) (pi_en (by rfl) T.enumerate (pa_cons (pv 0) pa_nil)) (pg_tup (by rfl) (pgs_cons (pg_name (i := 3) sc_checked_names.nd rfl (by first | exact .inl rfl | exact .inr rfl)) (pgs_cons (pg_name (i := 4) sc_checked_names.nd rfl (by first | exact .inl rfl | exact .inr rfl)) pgs_nil))) (pss_cons (ps_if (PW.pt (pw_or (pt_not (pt_val (pe_f c_is_name (hr.mono (by decide)) (pa_cons (pv 4) pa_nil)))) (pw_or (pt_cmpR (op_inA hu) (pv 4) (pv 2) (by rfl)) (pw_or1 (pt_cmpR (op_inA hu) (pv 4) (pv 1) (by rfl)))))) (pss_one ps_never) pss_nil)
      (pss_one (ps_expr (pe_bm PySem.F.plainAttrs_list PySem.F.slot_list_append PySem.F.type_list_append mt_append (pv 2) (pa_cons (pv 4) pa_nil))))))
      (pss_one (ps_ret (pe_callTy call_tupA (by rfl) T.tuple boot_tuple (pa_cons (pv 2) pa_nil)))))), ?_⟩
    obtain ⟨nd, ok, hl⟩ := hp
    refine q_asgL mh gl_nil fun p vs M2 H2 g2 h0 m0 hp2 hv => ?_
    subst hv
    refine q_forE (R1 := Tx) (xs := xs) g2.mh (gv_var rfl (Mon.mono g2.mm r1))
      (fun M1' i σ' M' H' => ∃ y3 y4, Gr M H M' H' ∧ Same M1' M' ∧ Same M M' ∧ Own H M' H' p ((xs.take i).map V.str) ∧ σ' = [some v, some w, some (.ref p), y3, y4])
      (fun M3 H3 g3 => ⟨none, none, g2.trans g3, Same.refl _, (g2.trans g3).mm, Own.step ⟨h0, m0, hp2⟩ g3, rfl⟩)
      (fun M3 i σ' M' H' ⟨_, _, g, s1, _⟩ => ⟨s1, g.mh⟩) ?_ ?_
    · rintro M3 i x v' σ' M' H' H'' sM hx ⟨y3, y4, g, s1, s2, ow, rfl⟩ gE rx
      cases rx
      have hxm : x ∈ xs := List.mem_of_getElem? hx
      have hil : i < xs.length := (List.getElem?_eq_some_iff.mp hx).1
      have et : xs.take (i + 1) = xs.take i ++ [x] := by rw [List.take_add_one, hx]; rfl
      have hnt : x ∉ xs.take i := fun hm => by
        obtain ⟨k, hk, ek⟩ := List.mem_take_iff_getElem.mp hm
        have e2 := (List.getElem?_eq_some_iff.mp hx).2
        have := (List.getElem_inj nd).mp (ek.trans e2.symm)
        omega
      have g' := g.trans gE
      have ow' := ow.step gE
      have up := ow'.up
      refine q_if (ow'.fr g'.mh) (b := false) (gt_is (gt_or (c := false) (gt_not (gt_B (gv_call1 (R1 := Dd K) (x := .str x) (gv_var rfl (.str x)) (Nat.le_trans (isNm_len (ok x hxm).1) (by decide))))) fun _ => gt_is (gt_or (c := false)
          (gt_test (gv_inA (K := K) (gv_var rfl rfl) (gv_var rfl (.inl (.inl (ow'.lst (pd_of_tx _))))))) fun _ => gt_is (gt_test (gv_inA (K := K) (gv_var rfl rfl) (gv_var rfl (.inl (Mon.mono (s2.trans up) r2))))) (by simp [(ok x hxm).2])) (by simp [hnt])) (by simp [isNmD, (ok x hxm).1]))
        (fun hb => nomatch hb) (fun _ H4 hh4 => ?_)
      have g4 := g'.trans (.idle g'.mh hh4)
      have ow4 := ow'.idle hh4
      refine s_app (P := Tx x) g4.mh rfl ow4.h (szL (by simp; omega)) (gv_var rfl rfl) fun v5 M5 H5 g5 r5 => ?_
      cases r5
      have ow5 := ow4.step g5
      refine ⟨M5, _, _, (g4.trans g5).mut ow5.h0 ow5.m, s1.trans g5.mm, s2.trans g5.mm, ?_, rfl⟩
      rw [et, List.map_append]
      exact ow5.put
    · rintro M3 σ' M' H' sM ⟨y3, y4, g, s1, s2, ow, rfl⟩
      rw [List.take_length] at ow
      exact s_retTup g.mh rfl ow.h fun l nl => q _ _ _ (g.trans (.new g.mh nl)) (TT.new _)
end
end My

set_option Elab.async false
set_option linter.all false
set_option maxRecDepth 100000
set_option maxHeartbeats 4000000
namespace My
open PySem PySem.Spec PyProof.Rows L2 L3
/-- a code: signs, helpers, clauses -/
structure CodeD where
  signs : List Str
  helpers : List Str
  clauses : List (List Str)
def CodeD.names (c : CodeD) : List Str := c.signs ++ c.helpers
def codeF (va vb vn vc : V) : List (Str × V) := putF "clause_row" vc (putF "names" vn (putF "helper_row" vb (putF "sign_row" va [])))
def CodeR (C : Addr) : Rl CodeD := fun c M v => ∃ a dx va vb vn vc, v = .ref a ∧ M a = some (.ins C dx (codeF va vb vn vc)) ∧ TT c.signs M va ∧ TT c.helpers M vb ∧ TT c.names M vn ∧ TuR TT c.clauses M vc
instance {C : Addr} : Mon (CodeR C) := ⟨fun e ⟨a, dx, va, vb, vn, vc, h1, h2, h3, h4, h5, h6⟩ => ⟨a, dx, va, vb, vn, vc, h1, e _ _ h2, Mon.mono e h3, Mon.mono e h4, Mon.mono e h5, Mon.mono e h6⟩⟩
/-- the class as the top has made it -/
structure CodeT (K : PySem.W.Frag) (mg : Str → Option Value) (C : Addr) : Prop where
  cl : Cls K C
  nS : NoAttr K C "sign_row"
  nH : NoAttr K C "helper_row"
  nN : NoAttr K C "names"
  nC : NoAttr K C "clause_row"
def mkCode (ss hs : List Str) (cs : List (List Str)) : CodeD := ⟨ss, hs, once (cs.map fun c => asc c (ss ++ hs))⟩
theorem codeF_sign (va vb vn vc : V) : (codeF va vb vn vc).lookup ("sign_row" : Str) = some va := by
  unfold codeF
  rw [lookup_putF, if_neg (by decide +kernel), lookup_putF, if_neg (by decide +kernel), lookup_putF, if_neg (by decide +kernel), lookup_putF, if_pos rfl]
theorem codeF_helper (va vb vn vc : V) : (codeF va vb vn vc).lookup ("helper_row" : Str) = some vb := by
  unfold codeF
  rw [lookup_putF, if_neg (by decide +kernel), lookup_putF, if_neg (by decide +kernel), lookup_putF, if_pos rfl]
theorem codeF_names (va vb vn vc : V) : (codeF va vb vn vc).lookup ("names" : Str) = some vn := by
  unfold codeF
  rw [lookup_putF, if_neg (by decide +kernel), lookup_putF, if_pos rfl]
theorem codeF_clause (va vb vn vc : V) : (codeF va vb vn vc).lookup ("clause_row" : Str) = some vc := by
  unfold codeF
  rw [lookup_putF, if_pos rfl]
section
variable {K : PySem.W.Frag} {mg : Str → Option Value} {σ : Sl} {M : Hp} {te : TE} {C : Addr} {c : CodeD}
theorem gv_sign (T : CodeT K mg C) (h : Gv te σ M (CodeR C c)) : Gv (tFld K te "sign_row") σ M (TT c.signs) := gv_fld h fun M' v ⟨a, dx, va, vb, vn, vc, h1, h2, h3, h4, h5, h6⟩ => ⟨a, C, dx, _, va, h1, h2, T.cl, T.nS, codeF_sign .., h3⟩
theorem gv_helper (T : CodeT K mg C) (h : Gv te σ M (CodeR C c)) : Gv (tFld K te "helper_row") σ M (TT c.helpers) := gv_fld h fun M' v ⟨a, dx, va, vb, vn, vc, h1, h2, h3, h4, h5, h6⟩ => ⟨a, C, dx, _, vb, h1, h2, T.cl, T.nH, codeF_helper .., h4⟩
theorem gv_names (T : CodeT K mg C) (h : Gv te σ M (CodeR C c)) : Gv (tFld K te "names") σ M (TT c.names) := gv_fld h fun M' v ⟨a, dx, va, vb, vn, vc, h1, h2, h3, h4, h5, h6⟩ => ⟨a, C, dx, _, vn, h1, h2, T.cl, T.nN, codeF_names .., h5⟩
theorem gv_clause (T : CodeT K mg C) (h : Gv te σ M (CodeR C c)) : Gv (tFld K te "clause_row") σ M (TuR TT c.clauses) := gv_fld h fun M' v ⟨a, dx, va, vb, vn, vc, h1, h2, h3, h4, h5, h6⟩ => ⟨a, C, dx, _, vc, h1, h2, T.cl, T.nC, codeF_clause .., h6⟩
end
section
variable {P : Program} {w : World} {K : PySem.W.Frag} {mg : Str → Option Value} {base : Heap}
def ClOk (ns c : List Str) : Prop := fwGo ns (c.map PyData.str) [] 0 = none ∧ c.length ≤ 1000000 ∧ ∀ l ∈ c, l.length ≤ 1000
theorem cl_d {ns c : List Str} {M : Hp} {v : V} (h : SqR K Tx c M v) (ok : ClOk ns c) : ∃ d, Dp K M v d ∧ shortL d ∧ firstWrong ns d = none := by
  have hs : ∀ d ∈ c.map PyData.str, shortD d := fun d hd => by
    obtain ⟨l, hl, rfl⟩ := List.mem_map.mp hd
    exact ok.2.2 l hl
  rcases h with h | h
  · exact ⟨_, py_lst py_str _ _ _ h, ⟨by rw [List.length_map]; exact ok.2.1, hs⟩, ok.1⟩
  · exact ⟨_, py_tup py_str _ _ _ h, ⟨by rw [List.length_map]; exact ok.2.1, hs⟩, ok.1⟩
abbrev s_checked_clauses : Stmt := topS 32
theorem sc_checked_clauses : FnScope ["clauses", "names", "found", "index", "thing"] ["clauses", "names"] (defScope s_checked_clauses) := ⟨rfl, rfl, rfl, by decide +kernel, rfl, by decide +kernel, by decide +kernel⟩
def sp_checked_clauses (K : PySem.W.Frag) : Sp := sl2 (SqR K (SqR K Tx)) (SqR K Tx) (fun cs ns => Shorts ns ∧ cs.length ≤ 1000000 ∧ ∀ c ∈ cs, ClOk ns c) fun cs ns M ws => Pd TT M (cs.map fun c => asc c ns) ws
theorem ok_checked_clauses {f : Addr} {fd : FuncData} (F : Fun K "checked_clauses" "checked_clauses" s_checked_clauses f fd) (T : Gb mg) (c_first_wrong : Cal P w K mg base 3 "first_wrong" ["things", "names"] (sp_first_wrong K)) (c_ascending : Cal P w K mg base 1 "ascending" ["literals", "names"] (sp_ascending K)) :
    FnOk P w K mg base CX0 4 f fd ["clauses", "names"] (sp_checked_clauses K) := by
  refine F.ok sc_checked_clauses (fun vs H Q E h => ?_) (fun cdv A outer s H vs Q E hr h => ?_)
  · obtain ⟨x, y, M, v, w, rfl, _⟩ := h
    rfl
  · obtain ⟨cs, ns, M, v, w, rfl, mh, r1, r2, ⟨hsh, hcl, hok⟩, q⟩ := h
    have hu := hr.units
    refine ⟨_, (pss_cons (ps_set (i := 2) sc_checked_clauses.nd rfl (by first | exact .inl rfl | exact .inr rfl) (pe_lst pa_nil))
      (pss_cons (ps_for PassesOwn.never (by rfl) (pi_en (by rfl) T.enumerate (pa_cons (pv 0) pa_nil)) (pg_tup (by rfl) (pgs_cons (pg_name (i := 3) sc_checked_clauses.nd rfl (by first | exact .inl rfl | exact .inr rfl)) (pgs_cons (pg_name (i := 4) sc_checked_clauses.nd rfl (by first | exact .inl rfl | exact .inr rfl)) pgs_nil))) (pss_cons (ps_if (pt_cmp (pc_notN (pe_f c_first_wrong (hr.mono (by decide)) (pa_cons (pv 4) (pa_cons (pv 1) pa_nil))))) (pss_one ps_never) pss_nil)
      (pss_one (ps_expr (pe_bm PySem.F.plainAttrs_list PySem.F.slot_list_append PySem.F.type_list_append mt_append (pv 2) (pa_cons (pe_f c_ascending (hr.mono (by decide)) (pa_cons (pv 4) (pa_cons (pv 1) pa_nil))) pa_nil))))))
      (pss_one (ps_ret (pv 2))))), ?_⟩
    refine q_asgL mh gl_nil fun p vs M2 H2 g2 h0 m0 hp2 hv => ?_
    subst hv
    refine q_forE (R1 := SqR K Tx) (xs := cs) g2.mh (gv_var rfl (Mon.mono g2.mm r1))
      (fun M1' i σ' M' H' => ∃ y3 y4 ws, Gr M H M' H' ∧ Same M1' M' ∧ Same M M' ∧ Own H M' H' p ws ∧ Pd TT M' ((cs.take i).map fun c => asc c ns) ws ∧ σ' = [some v, some w, some (.ref p), y3, y4])
      (fun M3 H3 g3 => ⟨none, none, [], g2.trans g3, Same.refl _, (g2.trans g3).mm, Own.step ⟨h0, m0, hp2⟩ g3, .nil, rfl⟩)
      (fun M3 i σ' M' H' ⟨_, _, _, g, s1, _⟩ => ⟨s1, g.mh⟩) ?_ ?_
    · rintro M3 i c v' σ' M' H' H'' sM hx ⟨y3, y4, ws, g, s1, s2, ow, hpd, rfl⟩ gE rx
      have hxm : c ∈ cs := List.mem_of_getElem? hx
      have hil : i < cs.length := (List.getElem?_eq_some_iff.mp hx).1
      have et : cs.take (i + 1) = cs.take i ++ [c] := by rw [List.take_add_one, hx]; rfl
      obtain ⟨d, hd, hshd, hfw⟩ := cl_d rx (hok c hxm)
      have g' := g.trans gE
      have ow' := ow.step gE
      have r2' : SqR K Tx ns M' w := Mon.mono s2 r2
      refine q_if g'.mh (b := false) (gt_B (gv_is (gv_notN (b := true) (gv_call2 (R1 := Dd K) (R2 := SqR K Tx) (gv_var rfl hd) (gv_var rfl r2') hshd) fun M4 v4 h4 => ?_) fun _ _ h => h)) (fun hb => nomatch hb) (fun _ H4 hh4 => ?_)
      · have h4' : v4 = match firstWrong ns d with | none => V.non | some i => V.int (i : Nat) := h4
        rw [hfw] at h4'
        rw [h4']
        rfl
      · have g4 := g'.trans (.idle g'.mh hh4)
        have ow4 := ow'.idle hh4
        have hwl : ws.length = i := by rw [← hpd.length, List.length_map, List.length_take]; omega
        refine s_app (P := TT (asc c ns)) g4.mh rfl ow4.h (szL (by omega)) (gv_call2 (R1 := CtR K) (R2 := SqR K Tx) (gv_var rfl (.inl rx)) (gv_var rfl r2') hsh) fun v5 M5 H5 g5 r5 => ?_
        have ow5 := ow4.step g5
        refine ⟨M5, _, _, ws ++ [v5], (g4.trans g5).mut ow5.h0 ow5.m, s1.trans g5.mm, s2.trans g5.mm, ow5.put, ?_, rfl⟩
        rw [et, List.map_append]
        exact pd_app (hpd.mono g5.mm) (.cons r5 .nil)
    · rintro M3 σ' M' H' sM ⟨y3, y4, ws, g, s1, s2, ow, hpd, rfl⟩
      rw [List.take_length] at hpd
      exact ⟨.ref p, rfl, q p ws M' H' g ow.h0 ow.m ow.h hpd⟩
abbrev s_Code_init : Stmt := inClass (topS 33) 0
theorem sc_Code_init : FnScope ["self", "signs", "clauses", "helpers", "clause"] ["self", "signs", "clauses", "helpers"] (defScope s_Code_init) := ⟨rfl, rfl, rfl, by decide +kernel, rfl, by decide +kernel, by decide +kernel⟩
/-- names and clauses that a code takes -/
structure CodeOk (ss hs : List Str) (cs : List (List Str)) : Prop where
  s : NamesOk ss []
  h : NamesOk hs ss
  n : cs.length ≤ 1000000
  c : ∀ c ∈ cs, ClOk (ss ++ hs) c
  k : (ss ++ hs).length ≤ 1000
def sp_Code_init (K : PySem.W.Frag) (C : Addr) : Sp := fun vs H Q _ => ∃ ss hs cs M Hb x dx v1 v2 v3, vs = [.ref x, v1, v2, v3] ∧ Gr M Hb M H ∧ Hb x = none ∧ M x = none ∧ H x = some (.ins C dx []) ∧
  SqR K Tx ss M v1 ∧ SqR K (SqR K Tx) cs M v2 ∧ SqR K Tx hs M v3 ∧ CodeOk ss hs cs ∧ ∀ M' H', Gr M Hb M' H' → CodeR C (mkCode ss hs cs) M' (.ref x) → Q .non H'
theorem ok_Code_init {f C : Addr} {fd : FuncData} {dvs : List V} (F : FunD K "__init__" "Code.__init__" (defArgs s_Code_init) (defBody s_Code_init) (defScope s_Code_init) dvs [] f fd) (T : Gb mg) (TC : CodeT K mg C) (c_checked_names : Cal P w K mg base 2 "checked_names" ["things", "known"] (sp_checked_names K)) (c_checked_clauses : Cal P w K mg base 4 "checked_clauses" ["clauses", "names"] (sp_checked_clauses K)) :
    FnOk P w K mg base CX0 5 f fd ["self", "signs", "clauses", "helpers"] (sp_Code_init K C) := by
  refine funD_ok F sc_Code_init (fun vs H Q E h => ?_) (fun cdv A outer s H vs Q E hr h => ?_)
  · obtain ⟨_, _, _, _, _, _, _, _, _, _, rfl, _⟩ := h
    rfl
  · obtain ⟨ss, hs, cs, M, Hb, x, dx, v1, v2, v3, rfl, g0, hb, hm, hx, r1, r2, r3, ok, q⟩ := h
    have hu := hr.units
    refine ⟨_, (pss_cons (ps_fld (pv 0) (pe_f c_checked_names (hr.mono (by decide)) (pa_cons (pv 1) (pa_cons (pe_tup pa_nil) pa_nil))) rfl)
      (pss_cons (ps_fld (pv 0) (pe_f c_checked_names (hr.mono (by decide)) (pa_cons (pv 3) (pa_cons (pe_fld (pv 0) rfl) pa_nil))) rfl)
      (pss_cons (ps_fld (pv 0) (pe_op op_addA (pe_fld (pv 0) rfl) (pe_fld (pv 0) rfl)) rfl)
      (pss_one (ps_fld (pv 0) (pe_callTy (call_tupD (by rfl)) (by rfl) T.tuple boot_tuple (pa_cons (pe_dcT (own := [("clause", 4)]) (g := (gName 4)) (tt := tYes) (tk := (tVar 4)) (tv := (tC (.bl true))) hu (by rfl) sc_Code_init.nd (pi_sq (pe_f c_checked_clauses (hr.mono (by decide)) (pa_cons (pv 2) (pa_cons (pe_fld (pv 0) rfl) pa_nil)))) (blkOk_by (by rfl)) (fun _ _ _ _ _ => (pg_name (i := 4) sc_Code_init.nd rfl (by first | exact .inl rfl | exact .inr rfl))) (fun _ _ _ _ _ => pts_nil) (fun _ _ _ _ _ => (pv 4)) (fun _ _ _ _ _ => pe_bl)) pa_nil)) rfl))))), ?_⟩
    -- self.sign_row = checked_names(signs, ())
    refine q_fld (P := TT ss) g0.mh hm hx rfl TC.cl TC.nS (by decide) (gv_call2 (R1 := SqR K Tx) (R2 := SqR K Tx) (x := ss) (y := []) (gv_var rfl (Mon.mono (same_new hm) r1)) (gv_is gv_nilT fun _ _ h => h.sq) ok.s) fun va M1 H1 g1 m1 ra => ?_
    have G1 := (g0.trans g1).mut (o := .ins C dx (putF "sign_row" va [])) hb m1
    -- self.helper_row = checked_names(helpers, self.sign_row)
    have z1 : (putF "sign_row" va []).length ≤ 1 := putF_len (Nat.le_refl 0)
    have e1 := same_new (o := .ins C dx (putF "sign_row" va [])) m1
    refine q_fld (P := TT hs) G1.mh m1 upd_same rfl TC.cl TC.nH (lt1000 z1) (gv_call2 (R1 := SqR K Tx) (R2 := SqR K Tx) (x := hs) (y := ss) (gv_var rfl (Mon.mono (g1.mm.trans e1) r3))
      (gv_is (gv_self (P := TT ss) rfl upd_same TC.cl TC.nS (by rw [lookup_putF, if_pos rfl]) (Mon.mono e1 ra)) fun _ _ h => h.sq) ok.h) fun vb M2 H2 g2 m2 rb => ?_
    have G2 := (G1.trans g2).mut (o := .ins C dx (putF "helper_row" vb (putF "sign_row" va []))) hb m2
    -- self.names = self.sign_row + self.helper_row
    have z2 : (putF "helper_row" vb (putF "sign_row" va [])).length ≤ 2 := putF_len z1
    have e2 := same_new (o := .ins C dx (putF "helper_row" vb (putF "sign_row" va []))) m2
    refine q_fld (P := TT (ss ++ hs)) G2.mh m2 upd_same rfl TC.cl TC.nN (lt1000 z2) (gv_addTT
      (gv_self rfl upd_same TC.cl TC.nS (by rw [lookup_putF, if_neg (by decide +kernel), lookup_putF, if_pos rfl]) (Mon.mono (g2.mm.trans e2) ra)) (gv_self rfl upd_same TC.cl TC.nH (by rw [lookup_putF, if_pos rfl]) (Mon.mono e2 rb))
      (sz1000 (by have := ok.k; rw [List.length_append] at this; exact this))) fun vn M3 H3 g3 m3 rn => ?_
    have G3 := (G2.trans g3).mut (o := .ins C dx (putF "names" vn (putF "helper_row" vb (putF "sign_row" va [])))) hb m3
    -- self.clause_row = tuple({clause: True for clause in checked_clauses(clauses, self.names)})
    have z3 : (putF "names" vn (putF "helper_row" vb (putF "sign_row" va []))).length ≤ 3 := putF_len z2
    have e3 := same_new (o := .ins C dx (putF "names" vn (putF "helper_row" vb (putF "sign_row" va [])))) m3
    have hshort : Shorts (ss ++ hs) := ⟨ok.k, fun n hn => by
      rcases List.mem_append.mp hn with h | h
      · exact Nat.le_trans (isNm_len (ok.s.2.1 n h).1) (by decide)
      · exact Nat.le_trans (isNm_len (ok.h.2.1 n h).1) (by decide)⟩
    refine s_fld (P := TuR TT (once (cs.map fun c => asc c (ss ++ hs)))) G3.mh m3 upd_same rfl TC.cl TC.nC (lt1000 z3) (gv_once (by show 4 < 5; decide) (gi_sq (K := K) ((gl_call2 (R1 := SqR K (SqR K Tx)) (R2 := SqR K Tx) (x := cs) (y := ss ++ hs)
      (gv_var rfl (Mon.mono ((g1.mm.trans g2.mm).trans (g3.mm.trans e3)) r2)) (gv_is (gv_self (P := TT (ss ++ hs)) rfl upd_same TC.cl TC.nN (by rw [lookup_putF, if_pos rfl]) (Mon.mono e3 rn)) fun _ _ h => h.sq) ⟨hshort, ok.n, ok.c⟩).gv
        fun M' vs p r m0 => .inl ⟨p, vs, rfl, .inl (.inl upd_same), Pd.mono (R := TT) (same_new m0) r⟩)) (by rw [List.length_map]; exact szM (Nat.le_trans ok.n (by decide)))) fun vc M4 H4 g4 m4 rc => ?_
    have G4 := ((G3.trans g4).mut (o := .ins C dx (codeF va vb vn vc)) hb m4).freeze hb m4 upd_same
    have e4 := same_new (o := .ins C dx (codeF va vb vn vc)) m4
    exact q _ _ G4 ⟨x, dx, va, vb, vn, vc, rfl, upd_same, Mon.mono ((g2.mm.trans g3.mm).trans (g4.mm.trans e4)) ra, Mon.mono (g3.mm.trans (g4.mm.trans e4)) rb, Mon.mono (g4.mm.trans e4) rn, Mon.mono e4 rc⟩
end
end My

set_option Elab.async false
set_option linter.all false
set_option maxRecDepth 100000
set_option maxHeartbeats 4000000
namespace My
open PySem PySem.Spec PyProof.Rows L2 L3
/-! the literals of a clause that are not denied -/
def shortT (c : List Str) : Prop := c.length ≤ 1000000 ∧ ∀ l ∈ c, l.length ≤ 1000
section
end
end My

set_option Elab.async false
set_option linter.all false
set_option maxRecDepth 100000
set_option maxHeartbeats 4000000
namespace My
open PySem PySem.Spec PyProof.Rows L2 L3
abbrev Stp := Nat × Option Str
def optV : Option Str → V
  | none => .non | some l => .str l
/-- a step: a tuple (index, literal or None) -/
def StepR : Rl Stp := fun s M v => ∃ a, v = .ref a ∧ M a = some (.tup [.int (s.1 : Nat), optV s.2])
instance : Mon StepR := ⟨fun e ⟨a, h, r⟩ => ⟨a, h, e _ _ r⟩⟩
instance : Stl StepR := ⟨fun hn hx ⟨a, e, r⟩ => ⟨a, e, by rw [L3.del_ne (tup_ne hn hx r)]; exact r⟩⟩
/-- how many literals of the clauses are not so yet -/
def mu (cs : List (List Str)) (so : List Str) : Nat := (cs.flatten.filter fun l => decide (l ∉ so)).length
theorem filter_lt {l : Str} {p q : Str → Bool} : ∀ {xs : List Str}, (∀ x, q x = true → p x = true) → l ∈ xs → p l = true → q l = false → (xs.filter q).length < (xs.filter p).length
  | [], _, h, _, _ => by cases h
  | x :: xs, hi, h, hp, hq => by
    have le : ∀ ys : List Str, (ys.filter q).length ≤ (ys.filter p).length := fun ys => by
      induction ys with
      | nil => exact Nat.le_refl _
      | cons y ys ih =>
        rw [List.filter_cons, List.filter_cons]
        by_cases hy : q y = true
        · rw [if_pos hy, if_pos (hi y hy)]; exact Nat.succ_le_succ ih
        · rw [if_neg hy]
          by_cases hy' : p y = true
          · rw [if_pos hy']; exact Nat.le_succ_of_le ih
          · rw [if_neg hy']; exact ih
    rw [List.filter_cons, List.filter_cons]
    rcases List.mem_cons.mp h with rfl | h
    · rw [if_neg (by rw [hq]; simp), if_pos hp]
      exact Nat.lt_succ_of_le (le xs)
    · have ih := filter_lt hi h hp hq
      by_cases hy : q x = true
      · rw [if_pos hy, if_pos (hi x hy)]; exact Nat.succ_lt_succ ih
      · rw [if_neg hy]
        by_cases hy' : p x = true
        · rw [if_pos hy']; exact Nat.lt_succ_of_lt ih
        · rw [if_neg hy']; exact ih
theorem mu_put {cs : List (List Str)} {c so : List Str} {l : Str} (hc : c ∈ cs) (hl : l ∈ c) (hs : l ∉ so) : mu cs (so ++ [l]) < mu cs so := by
  refine filter_lt (l := l) (fun x h => ?_) (List.mem_flatten.mpr ⟨c, hc, hl⟩) (by simpa using hs) (by simp)
  simp only [List.mem_append, decide_eq_true_eq, not_or] at h ⊢
  exact h.1
theorem onceP_new {so : List Str} {l : Str} (h : l ∉ so) : onceP so l = so ++ [l] := by unfold onceP; rw [if_neg h]
def optD : Option (List Str) → PyData
  | none => .none | some ls => .list (ls.map .str)
theorem optD_eq (o : Option (List Str)) (xs : List Str) : PyData.eqv (optD o) (.list (xs.map .str)) = decide (o = some xs) := by
  cases o with
  | none => simp [optD, PyData.eqv]
  | some ls =>
    have h := inj_lst inj_str ls xs
    simp only [optD]
    rw [h]
    simp
theorem depthS : ∀ ls : List Str, PyData.depthAll (ls.map .str) = 0
  | [] => by simp [PyData.depthAll]
  | l :: r => by simp [PyData.depthAll, PyData.depth, depthS r]
theorem depthO (o : Option (List Str)) : (optD o).depth ≤ 60 := by
  cases o with
  | none => simp [optD, PyData.depth]
  | some ls => simp [optD, PyData.depth, depthS]
section
variable {K : PySem.W.Frag} {σ : Sl} {M : Hp} {ta tb : TE}
theorem gv_nilD : Gv (tLst tNil) σ M (Dd K (.list [])) := gl_nil.gv fun M vs p h m => by subst h; exact .lst (.inl (.inl upd_same)) .nil
end
section
variable {P : Program} {w : World} {K : PySem.W.Frag} {mg : Str → Option Value} {base : Heap}
structure ChOk (cs : List (List Str)) (hs : List Str) : Prop where
  c : ∀ c ∈ cs, shortT c
  n : cs.flatten.length ≤ 1000000
  k : cs.length ≤ 1000000
  h : hs.length ≤ 1000000
theorem once_len' (hs : List Str) : (once hs).length ≤ hs.length := by
  have go : ∀ (xs acc : List Str), (xs.foldl onceP acc).length ≤ acc.length + xs.length := by
    intro xs
    induction xs with
    | nil => intro acc; exact Nat.le_refl _
    | cons x xs ih =>
      intro acc
      have h1 := ih (onceP acc x)
      have h2 := onceP_len acc x
      rw [List.foldl_cons, List.length_cons]
      omega
  have := go hs []
  simpa [once] using this
end
end My

set_option Elab.async false
set_option linter.all false
set_option maxRecDepth 100000
set_option maxHeartbeats 4000000
namespace My
open PySem PySem.Spec PyProof.Rows L2 L3
structure Gc (mg : Str → Option Value) : Prop extends Gb mg where
  bool : mg "bool" = none
structure CodeW (cd : CodeD) : Prop where
  c : ∀ x ∈ cd.clauses, shortT x
  n : cd.clauses.flatten.length ≤ 1000000
  k : cd.clauses.length ≤ 1000000
  s : Shorts cd.names
section
end
section
variable {P : Program} {w : World} {K : PySem.W.Frag} {mg : Str → Option Value} {base : Heap}
abbrev s_Code_len : Stmt := inClass (topS 33) 4
theorem sc_Code_len : FnScope ["self"] ["self"] (defScope s_Code_len) := ⟨rfl, rfl, rfl, by decide +kernel, rfl, by decide +kernel, by decide +kernel⟩
def sp_Code_len (K : PySem.W.Frag) (C : Addr) : Sp := sp1 (CodeR C) (fun _ => True) fun c => It' (c.clauses.length : Nat)
theorem ok_Code_len {f C : Addr} {fd : FuncData} (F : Fun K "__len__" "Code.__len__" s_Code_len f fd) (T : Gb mg) (TC : CodeT K mg C) : FnOk P w K mg base CX0 1 f fd ["self"] (sp_Code_len K C) := by
  refine F.ok sc_Code_len (fun vs H Q E h => ?_) (fun cdv A outer s H vs Q E hr h => ?_)
  · obtain ⟨x, M, v, rfl, _⟩ := h
    rfl
  · obtain ⟨c, M, v, rfl, mh, r1, hp, q⟩ := h
    refine ⟨_, (pss_one (ps_ret (pe_callB call_lenA (by rfl) T.len boot_len (pa_cons (pe_fld (pv 0) rfl) pa_nil)))), ?_⟩
    exact s_ret mh (gv_lenA (K := K) (R := TT) (gv_is (gv_clause TC (gv_var rfl r1)) fun _ _ h => h.sq)) q
end
end My

set_option Elab.async false
set_option linter.all false
set_option maxRecDepth 100000
set_option maxHeartbeats 4000000
namespace My
open PySem PySem.Spec PyProof.Rows L2 L3
open L3.Strm
section
variable {K : PySem.W.Frag} {σ : Sl} {M : Hp} {ta tb te : TE} {i j : Int}
theorem gv_mul (ha : Gv ta σ M (It' i)) (hb : Gv tb σ M (It' j)) (hc : CMul i j) : Gv (tOp (rI CMul fun i j => .int (i * j)) ta tb) σ M (It' (i * j)) := gv_op ha hb fun M' u w px py => rv_pure (fun H mh Q q => ⟨i, j, px, py, hc, q⟩) rfl
theorem gv_mod (ha : Gv ta σ M (It' i)) (hb : Gv tb σ M (It' j)) (hc : 0 < j) : Gv (tOp (rI (fun _ j => 0 < j) fun i j => .int (i % j)) ta tb) σ M (It' (i % j)) := gv_op ha hb fun M' u w px py => rv_pure (fun H mh Q q => ⟨i, j, px, py, hc, q⟩) rfl
theorem gv_fdiv (ha : Gv ta σ M (It' i)) (hb : Gv tb σ M (It' j)) (hc : CDiv i j) : Gv (tOp (rI CDiv fun i j => .int (i / j)) ta tb) σ M (It' (i / j)) := gv_op ha hb fun M' u w px py => rv_pure (fun H mh Q q => ⟨i, j, px, py, hc, q⟩) rfl
theorem gv_pow (ha : Gv ta σ M (It' i)) (hb : Gv tb σ M (It' j)) (hc : CPow i j) : Gv (tOp (rI CPow fun i j => .int (i ^ j.toNat)) ta tb) σ M (It' (i ^ j.toNat)) := gv_op ha hb fun M' u w px py => rv_pure (fun H mh Q q => ⟨i, j, px, py, hc, q⟩) rfl
theorem gv_lt (ha : Gv ta σ M (It' i)) (hb : Gv tb σ M (It' j)) : Gv (tOp (rI0 fun i j => .bl (decide (i < j))) ta tb) σ M (Bl (decide (i < j))) := gv_op ha hb fun M' u w px py => rv_pure (fun H mh Q q => ⟨i, j, px, py, q⟩) rfl
theorem gv_gt {g : Int → Int → V} (ha : Gv ta σ M (It' i)) (hb : Gv tb σ M (It' j)) : Gv (tOp (rI0 g) ta tb) σ M (fun _ v => v = g i j) := gv_op ha hb fun M' u w px py => rv_pure (fun H mh Q q => ⟨i, j, px, py, q⟩) rfl
theorem gv_int1 (ha : Gv ta σ M (It' i)) : Gv (tCB (fun xs H Q => (∃ i, xs = [V.int i] ∧ Q (.int i) H) ∨ ∃ k, xs = [V.bl k] ∧ Q (.int (if k then 1 else 0)) H) (tCons ta tNil)) σ M (It' i) := gv_cb1 ha fun M' v hv H mh Q q => .inl ⟨i, by rw [hv], q _ M' H (.refl mh) rfl⟩
theorem gv_int1b {b : Bool} (ha : Gv ta σ M (Bl b)) : Gv (tCB (fun xs H Q => (∃ i, xs = [V.int i] ∧ Q (.int i) H) ∨ ∃ k, xs = [V.bl k] ∧ Q (.int (if k then 1 else 0)) H) (tCons ta tNil)) σ M (It' (if b then 1 else 0)) := gv_cb1 ha fun M' v hv H mh Q q => .inr ⟨b, by rw [hv], q _ M' H (.refl mh) rfl⟩
/-- an int of a mixed list -/
theorem gv_ixI {ds : List PyData} {z : Int} (ha : Gv ta σ M (SqR K (Dd K) ds)) (hb : Gv tb σ M (It' i)) (hx : atI ds i = some (.int z)) : Gv (tOp (rIxX K) ta tb) σ M (It' z) := gv_is (gv_ix (K := K) (R := Dd K) ha hb hx) fun M v h => by cases h; rfl
end
theorem depthI (cs : List Int) : (PyData.list (cs.map .int)).depth ≤ 60 := by
  have : ∀ cs : List Int, PyData.depthAll (cs.map .int) = 0 := fun cs => by
    induction cs with
    | nil => simp [PyData.depthAll]
    | cons c r ih => simp [PyData.depthAll, PyData.depth, ih]
  simp [PyData.depth, this]
theorem nilI (cs : List Int) : PyData.eqv (.list (cs.map .int)) (.list []) = decide (cs = []) := by
  cases cs <;> simp [PyData.eqv, PyData.eqvAll]
section
variable {P : Program} {w : World} {K : PySem.W.Frag} {mg : Str → Option Value} {base : Heap}
abbrev s__law_draw : Stmt := topS 40
theorem sc__law_draw : FnScope ["_law_stream", "_law_many", "_law_mixed_here", "_law_digit"] ["_law_stream", "_law_many"] (defScope s__law_draw) := ⟨rfl, rfl, rfl, by decide +kernel, rfl, by decide +kernel, by decide +kernel⟩
def sp__law_draw (K : PySem.W.Frag) : Sp := spS1 It' (fun n => 0 < n ∧ n < 1073741824) (fun _ => 1) fun n => Ex It' fun i => 0 ≤ i ∧ i < n
theorem ok__law_draw {f : Addr} {fd : FuncData} (F : Fun K "_law_draw" "_law_draw" s__law_draw f fd) (T : Gc mg) : FnOk P w K mg base CX0 1 f fd ["_law_stream", "_law_many"] (sp__law_draw K) := by
  refine F.ok sc__law_draw (fun vs H Q E h => ?_) (fun cdv A outer s H vs Q E hr h => ?_)
  · obtain ⟨S, x, M, v, k, rfl, _⟩ := h
    rfl
  · obtain ⟨S, many, M, v, k, rfl, mh, at_, r1, ⟨hm1, hm2⟩, q⟩ := h
    cases r1
    have hu := hr.units
    refine ⟨_, (pss_cons (ps_asg (pe_op op_addA (pe_ix ix_X (pv 0) pe_int (fun _ _ => rfl)) pe_int) (pg_sub (pv 0) pe_int set_list))
      (pss_cons (ps_if (PW.pt (pw_and (pt_cmpR (op_eqP hu) (pe_ix ix_X (pv 0) pe_int (fun _ _ => rfl)) pe_int (nomark _)) (pw_and1 (pt_cmpR (op_neP hu) (pe_ix ix_X (pv 0) pe_int (fun _ _ => rfl)) (pe_lst pa_nil) (nomark _))))) (pss_cons (ps_asg (pe_bm PySem.F.plainAttrs_list PySem.F.slot_list_pop PySem.F.type_list_pop mt_popAt (pe_ix ix_X (pv 0) pe_int (fun _ _ => rfl)) (pa_cons pe_int pa_nil)) (pg_sub (pv 0) pe_int set_list))
      (pss_one (ps_if (pt_cmpR op_lt (pe_ix ix_X (pv 0) pe_int (fun _ _ => rfl)) (pe_op op_pow pe_int pe_int) (nomark _)) (pss_cons (ps_asg (pe_op op_mod (pe_callTy call_int1 (by rfl) T.int boot_int (pa_cons (pe_op op_addA (pe_op op_addA (pe_op op_mul (pe_ix ix_X (pv 0) pe_int (fun _ _ => rfl)) pe_int) (pe_ix ix_X (pv 0) pe_int (fun _ _ => rfl))) pe_int) pa_nil)) pe_int) (pg_sub (pv 0) pe_int set_list))
      (pss_one (ps_asg pe_int (pg_sub (pv 0) pe_int set_list)))) pss_nil))) pss_nil)
      (pss_cons (ps_if (pt_cmpR op_gt (pe_ix ix_X (pv 0) pe_int (fun _ _ => rfl)) pe_int (nomark _)) (pss_cons (ps_set (i := 3) sc__law_draw.nd rfl (by first | exact .inl rfl | exact .inr rfl) (pe_op op_mod (pe_callTy call_int1 (by rfl) T.int boot_int (pa_cons (pe_ix ix_X (pv 0) pe_int (fun _ _ => rfl)) pa_nil)) (pv 1)))
      (pss_cons (ps_asg (pe_op op_fdiv (pe_ix ix_X (pv 0) pe_int (fun _ _ => rfl)) (pv 1)) (pg_sub (pv 0) pe_int set_list))
      (pss_one (ps_ret (pv 3))))) pss_nil)
      (pss_cons (ps_set (i := 2) sc__law_draw.nd rfl (by first | exact .inl rfl | exact .inr rfl) (pe_op op_mod (pe_op op_pow (pe_op op_addA (pe_op op_addA (pe_ix ix_X (pv 0) pe_int (fun _ _ => rfl)) (pe_op op_mul pe_int (pe_ix ix_X (pv 0) pe_int (fun _ _ => rfl)))) pe_int) pe_int) pe_int))
      (pss_one (ps_ret (pe_op op_mod (pe_op op_mod (pe_op op_pow (pe_op op_addA (pe_op op_addA (pe_op op_mul (pv 2) pe_int) (pe_op op_mul (pe_op op_mul pe_int (pe_ix ix_X (pv 0) pe_int (fun _ _ => rfl))) (pe_ix ix_X (pv 0) pe_int (fun _ _ => rfl)))) pe_int) pe_int) pe_int) (pv 1)))))))), ?_⟩
    obtain ⟨hne, cells, x, n, m, h1, h2, hx, hn, hk, hm0, hm⟩ := at_
    have hk : n + ((k + 1 : Nat) : Int) ≤ 10000000 := hk
    have st0 : StAt S H cells x n m := ⟨hne, h1, h2⟩
    -- stream[2] = stream[2] + 1
    refine z_sub (j := 2) (jn := 2) (z := n + 1) rfl mh st0 rfl (gv_addIn (K := K) (gv_ixI (K := K) (i := 2) (gv_var rfl st0.sq) (gv_c rfl) rfl) (gv_c rfl)) fun M1 H1 g1 ha1 hb1 => ?_
    have st1 : StAt S H1 cells x (n + 1) m := ⟨hne, ha1, hb1⟩
    have hp18 : ((10 : Int) ^ (18 : Int).toNat) = 1000000000000000000 := by decide
    refine q_cut (fun σ' H2 => ∃ M2 cells x m, σ' = [some (.ref S.a), some (.int many), none, none] ∧ Gr M (S.cut H) M2 (S.cut H2) ∧ StAt S H2 cells x (n + 1) m ∧ 0 ≤ x ∧ 0 ≤ m ∧ m < 2147483647) (fun nx hnx => ?_) ?_
    · refine s_if0 (b := decide (x = 0) && !decide (cells = [])) (full_same g1.mh) (gt_and (gt_test (gv_is (gv_eqT (K := K) (neg := false) py_int inj_int (gv_ixI (K := K) (i := 1) (gv_var rfl st1.sq) (gv_c rfl) rfl) (gv_c rfl) (by simp [PyData.depth])) fun M v h => by simpa using h)) fun _ =>
          gt_test (gv_is (gv_eq (K := K) (neg := true) (d := .list (cells.map .int)) (e := .list []) (gv_ix (K := K) (R := Dd K) (i := 0) (gv_var rfl st1.sq) (gv_c rfl) rfl) gv_nilD (depthI cells)) fun M v h => ?_)) (fun hb H2 hh2 => ?_) (fun hb H2 hh2 => ?_)
      · rw [show v = _ from h, nilI]; simp
      · -- a cell is taken
        obtain ⟨ex, hc⟩ : x = 0 ∧ cells ≠ [] := by simpa using hb
        have st2 := st1.same hh2
        have g2 : Gr M (S.cut H) M1 (S.cut H2) := g1.trans (.idle g1.mh fun y u e => by rw [cut_on (on_of e)]; exact hh2 y u (of_cut e))
        obtain ⟨cell, rest, rfl⟩ : ∃ c r, cells = c :: r := by cases cells with | nil => exact absurd rfl hc | cons c r => exact ⟨c, r, rfl⟩
        refine ⟨.ref S.a, rfl, .inl ⟨S.a, _, 0, .ref S.b, rfl, rfl, .inl (.inl st2.a), rfl, .inl ⟨rfl, _, .inl (.inl st2.b)⟩, S.b, _, 0, 0, .int cell, rfl, rfl, st2.b, by decide, by decide, ?_, rfl, .ref S.a, rfl, S.a, _, 1, 1, rfl, rfl, (by rw [upd_ne hne]; exact st2.a), rfl, ?_⟩⟩
        · simp [seqIndex?]
        · have st3 : StAt S (upd (upd H2 S.b (.lst (((cell :: rest).map V.int).eraseIdx 0))) S.a (.lst ([V.ref S.b, .int x, .int (n + 1), .int m].set 1 (.int cell)))) rest cell (n + 1) m := ⟨hne, upd_same, by rw [upd_ne (Ne.symm hne), upd_same]; rfl⟩
          have g3 : Gr M (S.cut H) M1 (S.cut (upd (upd H2 S.b (.lst (((cell :: rest).map V.int).eraseIdx 0))) S.a (.lst ([V.ref S.b, .int x, .int (n + 1), .int m].set 1 (.int cell))))) := by rw [cut_updo (.inl rfl), cut_updo (.inr rfl)]; exact g2
          revert st3 g3
          generalize upd (upd H2 S.b (.lst (((cell :: rest).map V.int).eraseIdx 0))) S.a (.lst ([V.ref S.b, .int x, .int (n + 1), .int m].set 1 (.int cell))) = H3
          intro st3 g3
          refine s_if0 (b := decide (cell < 1000000000000000000)) (full_same g3.mh) (gt_test (gv_is (gv_lt (gv_ixI (K := K) (i := 1) (gv_var rfl st3.sq) (gv_c rfl) rfl) (gv_pow (i := 10) (j := 18) (gv_c rfl) (gv_c rfl) ⟨by decide, by decide, by decide⟩)) fun M v h => by rw [hp18] at h; exact h)) (fun hb4 H4 hh4 => ?_) (fun hb4 H4 hh4 => ?_)
          · have st4 := st3.same hh4
            have g4 : Gr M (S.cut H) M1 (S.cut H4) := g3.trans (.idle g3.mh fun y u e => by rw [cut_on (on_of e)]; exact hh4 y u (of_cut e))
            refine z_sub (j := 3) (jn := 3) (z := (m * 31 + cell + 7) % 2147483647) rfl g4.mh st4 rfl (gv_mod (gv_int1 (gv_addIn (K := K) (gv_addIn (K := K) (gv_mul (gv_ixI (K := K) (i := 3) (gv_var rfl st4.sq) (gv_c rfl) rfl) (gv_c rfl) (.inr ⟨by decide, by decide⟩)) (gv_ixI (K := K) (i := 1) (gv_var rfl st4.sq) (gv_c rfl) rfl)) (gv_c rfl))) (gv_c rfl) (by decide)) fun M5 H5 g5 ha5 hb5 => ?_
            have st5 : StAt S H5 rest cell (n + 1) ((m * 31 + cell + 7) % 2147483647) := ⟨hne, ha5, hb5⟩
            refine z_subE (j := 1) (jn := 1) (z := 0) rfl g5.mh st5 rfl (gv_c rfl) fun M6 H6 g6 ha6 hb6 => ?_
            exact hnx _ _ ⟨M6, rest, 0, _, rfl, (g4.trans g5).trans g6, ⟨hne, ha6, hb6⟩, Int.le_refl _, Int.emod_nonneg _ (by decide), Int.emod_lt_of_pos _ (by decide)⟩
          · have hc : (1000000000000000000 : Int) ≤ cell := by simpa using hb4
            exact hnx _ _ ⟨M1, rest, cell, m, rfl, g3.trans (.idle g3.mh fun y u e => by rw [cut_on (on_of e)]; exact hh4 y u (of_cut e)), st3.same hh4, by omega, hm0, hm⟩
      · exact hnx _ _ ⟨M1, cells, x, m, rfl, g1.trans (.idle g1.mh fun y u e => by rw [cut_on (on_of e)]; exact hh2 y u (of_cut e)), st1.same hh2, hx, hm0, hm⟩
    · rintro σ' H2 ⟨M2, cells, x, m, rfl, g2, st2, hx, hm0, hm⟩
      have hk' : n + 1 + (k : Int) ≤ 10000000 := by omega
      refine q_if0 (b := decide (0 < x)) (full_same g2.mh) (gt_test (gv_is (gv_gt (gv_ixI (K := K) (i := 1) (gv_var rfl st2.sq) (gv_c rfl) rfl) (gv_c rfl)) fun M v h => h)) (fun hb3 H3 hh3 => ?_) (fun hb3 H3 hh3 => ?_)
      · have st3 := st2.same hh3
        have g3 : Gr M (S.cut H) M2 (S.cut H3) := g2.trans (.idle g2.mh fun y u e => by rw [cut_on (on_of e)]; exact hh3 y u (of_cut e))
        refine q_asg (M := S.full M2 H3) (P := It' (x % many)) (full_same g3.mh) (gv_mod (gv_int1 (gv_ixI (K := K) (i := 1) (gv_var rfl st3.sq) (gv_c rfl) rfl)) (gv_var rfl rfl) hm1) fun v4 M4 H4 g4 r4 => ?_
        cases r4
        have st4 := st3.same g4.hh
        have G4 := g3.trans (unfull g3.mh g4)
        refine z_sub (j := 1) (jn := 1) (z := x / many) rfl G4.mh st4 rfl (gv_fdiv (gv_ixI (K := K) (i := 1) (gv_var rfl st4.sq) (gv_c rfl) rfl) (gv_var rfl rfl) ⟨hm1, hm2⟩) fun M5 H5 g5 ha5 hb5 => ?_
        refine ⟨.int (x % many), rfl, q _ M5 H5 (G4.trans g5) ⟨hne, cells, x / many, n + 1, m, ha5, hb5, Int.ediv_nonneg hx (by omega), by omega, hk', hm0, hm⟩ ⟨x % many, ⟨Int.emod_nonneg _ (by omega), Int.emod_lt_of_pos _ hm1⟩, rfl⟩⟩
      · have st3 := st2.same hh3
        have g3 : Gr M (S.cut H) M2 (S.cut H3) := g2.trans (.idle g2.mh fun y u e => by rw [cut_on (on_of e)]; exact hh3 y u (of_cut e))
        refine q_asg (M := S.full M2 H3) (P := It' ((m + 104729 * (n + 1) + 17) ^ (5 : Int).toNat % 2147483629)) (full_same g3.mh) (gv_mod (gv_pow (gv_addIn (K := K) (gv_addIn (K := K) (gv_ixI (K := K) (i := 3) (gv_var rfl st3.sq) (gv_c rfl) rfl) (gv_mul (gv_c rfl) (gv_ixI (K := K) (i := 2) (gv_var rfl st3.sq) (gv_c rfl) rfl) (.inl ⟨by decide, by decide⟩))) (gv_c rfl)) (gv_c rfl) ⟨by decide, by decide, by omega⟩) (gv_c rfl) (by decide)) fun v4 M4 H4 g4 r4 => ?_
        have st4 := st3.same g4.hh
        have G4 := g3.trans (unfull g3.mh g4)
        have hz0 := Int.emod_nonneg ((m + 104729 * (n + 1) + 17) ^ (5 : Int).toNat) (show (2147483629 : Int) ≠ 0 by decide)
        have hz1 := Int.emod_lt_of_pos ((m + 104729 * (n + 1) + 17) ^ (5 : Int).toNat) (show (0 : Int) < 2147483629 by decide)
        revert r4 hz0 hz1
        generalize (m + 104729 * (n + 1) + 17) ^ (5 : Int).toNat % 2147483629 = z
        intro r4 hz0 hz1
        have hnn : (n + 1) * (n + 1) ≤ 10000000 * 10000000 := Int.mul_le_mul (by omega) (by omega) (by omega) (by omega)
        have hnn0 : 0 ≤ (n + 1) * (n + 1) := Int.mul_nonneg (by omega) (by omega)
        have hass : 40503 * (n + 1) * (n + 1) = 40503 * ((n + 1) * (n + 1)) := Int.mul_assoc _ _ _
        refine s_ret (M := S.full (S.cut M4) H4) (P := It' ((z * 48271 + 40503 * (n + 1) * (n + 1) + 13) ^ (3 : Int).toNat % 1000000007 % many)) (full_same G4.mh) (gv_mod (gv_mod (gv_pow (gv_addIn (K := K) (gv_addIn (K := K) (gv_mul (gv_var rfl r4) (gv_c rfl) (.inr ⟨by decide, by decide⟩)) (gv_mul (gv_mul (gv_c rfl) (gv_ixI (K := K) (i := 2) (gv_var rfl st4.sq) (gv_c rfl) rfl) (.inl ⟨by decide, by decide⟩)) (gv_ixI (K := K) (i := 2) (gv_var rfl st4.sq) (gv_c rfl) rfl) (.inr ⟨by omega, by omega⟩))) (gv_c rfl)) (gv_c rfl) ⟨by decide, by decide, by omega⟩) (gv_c rfl) (by decide)) (gv_var rfl rfl) hm1) fun v5 M5 H5 g5 r5 => ?_
        have st5 := st4.same g5.hh
        exact q _ _ H5 (G4.trans (unfull G4.mh g5)) ⟨hne, cells, x, n + 1, m, st5.a, st5.b, hx, by omega, hk', hm0, hm⟩ ⟨_, ⟨Int.emod_nonneg _ (by omega), Int.emod_lt_of_pos _ hm1⟩, r5⟩
end
end My

set_option Elab.async false
set_option linter.all false
set_option maxRecDepth 100000
set_option maxHeartbeats 4000000
namespace My
open PySem PySem.Spec PyProof.Rows L2 L3
open L3.Strm
theorem rv_ix {K : PySem.W.Frag} {α : Type} {R : Rl α} [Mon R] {xs : List α} {i : Int} {x : α} {M : Hp} {u w : V} (hu : SqR K R xs M u) (hw : It' i M w) (hx : atI xs i = some x) : RV (rIxX K u w) M (R x) :=
  fun H mh Q q => gv_ix (K := K) (σ := []) (M := M) (ta := tC u) (tb := tC w) (gv_c hu) (gv_c hw) hx H mh Q q
theorem rv_ixS {K : PySem.W.Frag} {x : Str} {i : Int} {c : Nat} {M : Hp} {u w : V} (hu : Tx x M u) (hw : It' i M w) (hz : x.length ≤ sizeLine) (hx : atI x.cps.toList i = some c) : RV (rIxX K u w) M (Tx ⟨#[c]⟩) :=
  fun H mh Q q => gv_ixS (K := K) (σ := []) (M := M) (ta := tC u) (tb := tC w) (gv_c hu) (gv_c hw) hz hx H mh Q q
theorem atI_in {α : Type} {xs : List α} {i : Int} (h0 : 0 ≤ i) (h1 : i < xs.length) : ∃ x ∈ xs, atI xs i = some x := by
  have hi : i.toNat < xs.length := by omega
  refine ⟨xs[i.toNat], List.getElem_mem _, ?_⟩
  have := atI_nat (xs := xs) (j := i.toNat) (List.getElem?_eq_getElem hi)
  rw [Int.toNat_of_nonneg h0] at this
  exact this
theorem erase_map {α β : Type} (f : α → β) : ∀ (l : List α) (i : Nat), (l.map f).eraseIdx i = (l.eraseIdx i).map f
  | [], _ => rfl
  | _ :: _, 0 => rfl
  | a :: l, i + 1 => by show f a :: (l.map f).eraseIdx i = f a :: (l.eraseIdx i).map f; rw [erase_map f l i]
theorem erase_perm {α : Type} : ∀ {l : List α} {i : Nat} (h : i < l.length), (l[i] :: l.eraseIdx i).Perm l
  | _ :: _, 0, _ => List.Perm.refl _
  | a :: l, i + 1, h => (List.Perm.swap _ _ _).trans (List.Perm.cons a (erase_perm (l := l) (i := i) (Nat.lt_of_succ_lt_succ h)))
section
variable {P : Program} {w : World} {K : PySem.W.Frag} {mg : Str → Option Value} {base : Heap}
abbrev s__law_pick : Stmt := topS 41
theorem sc__law_pick : FnScope ["_law_stream", "_law_things"] ["_law_stream", "_law_things"] (defScope s__law_pick) := ⟨rfl, rfl, rfl, by decide +kernel, rfl, by decide +kernel, by decide +kernel⟩
def sp__law_pick (K : PySem.W.Frag) : Sp := spS1 (SqR K Tx) (fun xs => 0 < xs.length ∧ xs.length ≤ 1000000) (fun _ => 1) fun xs => Ex Tx fun x => x ∈ xs
theorem ok__law_pick {f : Addr} {fd : FuncData} (F : Fun K "_law_pick" "_law_pick" s__law_pick f fd) (T : Gc mg) (c__law_draw : Cal P w K mg base 1 "_law_draw" ["_law_stream", "_law_many"] (sp__law_draw K)) : FnOk P w K mg base CX0 2 f fd ["_law_stream", "_law_things"] (sp__law_pick K) := by
  refine F.ok sc__law_pick (fun vs H Q E h => ?_) (fun cdv A outer s H vs Q E hr h => ?_)
  · obtain ⟨S, x, M, v, k, rfl, _⟩ := h
    rfl
  · obtain ⟨S, xs, M, v, k, rfl, mh, at_, r1, ⟨h1, h2⟩, q⟩ := h
    refine ⟨_, (pss_one (ps_ret (pe_ix ix_X (pv 1) (pe_f c__law_draw (hr.mono (by decide)) (pa_cons (pv 0) (pa_cons (pe_callB call_lenA (by rfl) T.len boot_len (pa_cons (pv 1) pa_nil)) pa_nil))) (fun _ _ => rfl)))), ?_⟩
    refine z_ret (S := S) (c := 0 + 1) mh at_ (gs_op (P := SqR K Tx xs) (P1 := Ex It' fun i => 0 ≤ i ∧ i < (xs.length : Int)) (gv_var rfl r1).s (gs_call1 (S := S) (R1 := It') (pre := fun n => 0 < n ∧ n < 1073741824) (cs := fun _ => 1) (R := fun n => Ex It' fun i => 0 ≤ i ∧ i < n) (x := (xs.length : Int)) rfl (gv_lenA (K := K) (R := Tx) (gv_var rfl r1)) ⟨by omega, by omega⟩) fun M' u w pu ⟨i, hi, pw⟩ => ?_) q
    obtain ⟨x, hx, ha⟩ := atI_in hi.1 hi.2
    exact fun H mh Q q => rv_ix pu pw ha H mh Q fun v M' H' g r => q v M' H' g ⟨x, hx, r⟩
abbrev s__law_mixed : Stmt := topS 42
theorem sc__law_mixed : FnScope ["_law_stream", "_law_things", "_law_left", "_law_k"] ["_law_stream", "_law_things"] (defScope s__law_mixed) := ⟨rfl, rfl, rfl, by decide +kernel, rfl, by decide +kernel, by decide +kernel⟩
def sp__law_mixed (K : PySem.W.Frag) : Sp := slS1 (SqR K Tx) (fun xs => xs.length ≤ 1000000) (fun xs => xs.length) fun xs M ws => ∃ ys : List Str, ys.Perm xs ∧ Pd Tx M ys ws
theorem ok__law_mixed {f : Addr} {fd : FuncData} (F : Fun K "_law_mixed" "_law_mixed" s__law_mixed f fd) (T : Gc mg) (c__law_draw : Cal P w K mg base 1 "_law_draw" ["_law_stream", "_law_many"] (sp__law_draw K)) : FnOk P w K mg base CX0 2 f fd ["_law_stream", "_law_things"] (sp__law_mixed K) := by
  refine F.ok sc__law_mixed (fun vs H Q E h => ?_) (fun cdv A outer s H vs Q E hr h => ?_)
  · obtain ⟨S, x, M, v, k, rfl, _⟩ := h
    rfl
  · obtain ⟨S, xs, M, v, k, rfl, mh, at_, r1, h1, q⟩ := h
    refine ⟨_, (pss_cons (ps_set (i := 2) sc__law_mixed.nd rfl (by first | exact .inl rfl | exact .inr rfl) (pe_callTy call_lstA (by rfl) T.list boot_list (pa_cons (pv 1) pa_nil)))
      (pss_one (ps_ret (pe_lc (own := [("_law_k", 3)]) (g := (gName 3)) (tt := tYes) (te := (tBM K "list" rPopAt (tVar 2) (tCons (tCall (sp__law_draw K) [] E0 (tCons (tVar 0) (tCons (tCB (rLenA K) (tCons (tVar 2) tNil)) tNil))) tNil))) (by rfl) sc__law_mixed.nd (pi_range1 (by rfl) T.range (pa_cons (pe_callB call_lenA (by rfl) T.len boot_len (pa_cons (pv 2) pa_nil)) pa_nil)) (blkOk_by (by rfl)) (fun _ _ _ _ _ => (pg_name (i := 3) sc__law_mixed.nd rfl (by first | exact .inl rfl | exact .inr rfl))) (fun _ _ _ _ _ => pts_nil) (fun _ _ _ _ _ => (pe_bm PySem.F.plainAttrs_list PySem.F.slot_list_pop PySem.F.type_list_pop mt_popAt (pv 2) (pa_cons (pe_f c__law_draw (hr.mono (by decide)) (pa_cons (pv 0) (pa_cons (pe_callB call_lenA (by rfl) T.len boot_len (pa_cons (pv 2) pa_nil)) pa_nil))) pa_nil))))))), ?_⟩
    refine z_asgL (S := S) (c := 0) mh at_ (gl_lstOf (K := K) (R1 := Tx) (gv_var rfl r1)).s fun p vs M1 H1 g1 a1 hp0 hpm hpw hpd => ?_
    have evs := pd_tx hpd
    subst evs
    -- the comprehension
    have hlen : Gv (tCB (rLenA K) (tCons (tVar 2) tNil)) [some (.ref S.a), some v, some (.ref p), none] (upd M1 p (.lst (xs.map V.str))) (It' (xs.length : Nat)) := gv_lenA (K := K) (R := Tx) (gv_var rfl (.inl ⟨p, _, rfl, .inl (.inl upd_same), pd_of_tx xs⟩))
    have hdis : ∀ {D : Addr} {H2 : Hp} {o : HO}, H2 D = none → S.cut H2 p = some o → p ≠ D := fun hD hp z => by subst z; have := of_cut hp; rw [hD] at this; cases this
    refine lc_rngL hlen hpm (g1.mh.trans cut_same) (of_cut hpw) (Nat.le_trans h1 (by decide)) ls_nt
      (fun D i M' H' => ∃ L zs : List Str, Gr M (S.cut H) M' (S.cut H') ∧ S.At (k + (xs.length - i)) H' ∧ S.cut H D = none ∧ M' D = none ∧ M' p = none ∧ p ≠ D ∧ S.cut H' D = some (.lst (zs.map V.str)) ∧ S.cut H' p = some (.lst (L.map V.str)) ∧ (zs ++ L).Perm xs ∧ zs.length = i) (fun M2 H2 D g2 hD => ?_) (fun D i M' H' hi => ?_) (fun D M' H' => ?_)
    · have g2' := lift g1.mh a1 g2
      have a2 := a1.same g2.hh
      have nD := a2.fresh hD
      have hp2 := g2'.hh _ _ hpw
      have hpD := hdis hD hp2
      have G2 := g1.trans g2'
      refine ⟨xs, [], by rw [cut_upd nD]; exact G2.trans (.own G2.mh (a2.cutn hD)), a2.upd nD, G2.hh.free (a2.cutn hD), G2.mh.free (a2.cutn hD), g2'.keep hpm hpw, hpD, by rw [cut_upd nD, upd_same]; rfl, by rw [cut_upd nD, upd_ne hpD]; exact hp2, List.Perm.refl _, rfl⟩
    · rintro ⟨L, zs, g, a', hD0, mD, mp, hpD, hwD, hwp, hper, hzl⟩
      have hLl : L.length = xs.length - i := by have := hper.length_eq; rw [List.length_append] at this; omega
      have e1 : k + (xs.length - i) = (k + (xs.length - (i + 1))) + 1 := by omega
      rw [e1] at a'
      refine ⟨.ref p, rfl, .inl ⟨rfl, _, .inl (.inl (of_cut hwp))⟩, ?_⟩
      refine GvS.lend (S := S) (c := 1) (P := Ex It' fun z => 0 ≤ z ∧ z < (L.length : Int)) (gs_call1 (S := S) (R1 := It') (pre := fun n => 0 < n ∧ n < 1073741824) (cs := fun _ => 1) (R := fun n => Ex It' fun i => 0 ≤ i ∧ i < n) (x := (L.length : Int)) rfl
        (gv_lenA (K := K) (R := Tx) (gv_var rfl (.inl ⟨p, _, rfl, .inl (.inl upd_same), pd_of_tx L⟩))) ⟨by omega, by omega⟩) mp g.mh a' hwp ls_nt fun v3 M3 H3 g3 a3 ⟨z, hz, rz⟩ => ?_
      cases rz
      have hp3 := g3.hh _ _ hwp
      have hD3 := g3.hh _ _ hwD
      have hzn : z.toNat < L.length := by omega
      refine ⟨p, L.map V.str, z, z.toNat, .str L[z.toNat], rfl, rfl, of_cut hp3, by omega, by omega, ?_, ?_, ?_⟩
      · unfold seqIndex?
        rw [List.length_map]
        simp only [if_neg (show ¬ z < 0 by omega)]
        rw [if_pos (by simp; omega)]
      · rw [List.getElem?_map, List.getElem?_eq_getElem hzn]; rfl
      · have np := on_of hp3
        have nD := on_of hD3
        refine ⟨zs.map V.str, by rw [upd_ne (Ne.symm hpD)]; exact of_cut hD3, szL (by rw [List.length_map]; omega), M3, L.eraseIdx z.toNat, zs ++ [L[z.toNat]], ?_, (a3.upd np).upd nD, hD0, g3.keep mD hwD, g3.keep mp hwp, hpD, ?_, ?_, ?_, by rw [List.length_append, hzl]; rfl⟩
        · rw [cut_upd nD, cut_upd np]
          exact ((g.trans g3).mut hp0 (g3.keep mp hwp)).mut hD0 (g3.keep mD hwD)
        · rw [cut_upd nD, upd_same, List.map_append]; rfl
        · rw [cut_upd nD, cut_upd np, upd_ne hpD, upd_same, erase_map]
        · refine List.Perm.trans ?_ hper
          rw [List.append_assoc]
          exact List.Perm.append_left zs (erase_perm hzn)
    · rintro ⟨L, zs, g, a', hD0, mD, mp, hpD, hwD, hwp, hper, hzl⟩
      have hL : L = [] := by
        have := hper.length_eq; rw [List.length_append] at this
        exact List.eq_nil_of_length_eq_zero (by omega)
      subst hL
      rw [List.append_nil] at hper
      exact q D _ M' H' g (a'.le (by omega)) hD0 mD hwD ⟨zs, hper, pd_of_tx zs⟩
end
end My

set_option Elab.async false
set_option linter.all false
set_option maxRecDepth 100000
set_option maxHeartbeats 4000000
namespace My
open PySem PySem.Spec PyProof.Rows L2 L3
open L3.Strm
section
variable {K : PySem.W.Frag} {S : Strm} {σ : Sl} {M : Hp} {te : TE} {i : Nat} {n : Int}
theorem gs_draw (hi : σ[i]? = some (some (.ref S.a))) (h : Gv te σ M (It' n)) (h0 : 0 < n) (h1 : n < 1073741824) : GvS S 1 (tCall (sp__law_draw K) [] E0 (tCons (tVar i) (tCons te tNil))) σ M (Ex It' fun z => 0 ≤ z ∧ z < n) :=
  gs_call1 (S := S) (R1 := It') (pre := fun n => 0 < n ∧ n < 1073741824) (cs := fun _ => 1) (R := fun n => Ex It' fun i => 0 ≤ i ∧ i < n) (x := n) hi h ⟨h0, h1⟩
theorem gts_zero (hi : σ[i]? = some (some (.ref S.a))) (h : Gv te σ M (It' n)) (h0 : 0 < n) (h1 : n < 1073741824) : GvTS S 1 (tTest (tOp (rEqP K false) (tCall (sp__law_draw K) [] E0 (tCons (tVar i) (tCons te tNil))) (tC (.int 0)))) σ M fun _ => True :=
  (gts_test (P := fun _ v => ∃ b, v = .bl b) (gs_op (c2 := 0) (P1 := It' 0) (gs_draw (K := K) hi h h0 h1) (gv_c rfl).s fun M' x y ⟨z, _, rz⟩ py => fun H mh Q q =>
    gv_eqT (K := K) (neg := false) (σ := []) (M := M') (ta := tC x) (tb := tC y) py_int inj_int (gv_c rz) (gv_c py) (by simp [PyData.depth]) H mh Q fun v M' H' g r => q v M' H' g ⟨_, r⟩) fun M v ⟨b, e⟩ => ⟨b, e, trivial⟩)
end
def sgn (c : Nat) : Str := ⟨#[c]⟩
theorem join_sgn (cs : List Nat) : Txt.join "" (cs.map sgn) = ⟨cs.toArray⟩ := by
  have h := SX.join_S [] (cs.map fun c => [c])
  rw [List.map_map] at h
  have e : ∀ cs : List Nat, TL.joinL [] (cs.map fun c => [c]) = cs := fun cs => by
    induction cs with
    | nil => rfl
    | cons c r ih =>
      cases r with
      | nil => rfl
      | cons d r => show [c] ++ ([] ++ TL.joinL [] ((d :: r).map fun c => [c])) = c :: d :: r; rw [ih]; rfl
  rw [e] at h
  exact h
theorem letter_at : ∀ j, j < 26 → g_LETTERS.cps.toList[j]? = some (97 + j) := by decide +kernel
theorem atI_letter {z : Int} (h0 : 0 ≤ z) (h1 : z < 26) : atI g_LETTERS.cps.toList z = some (97 + z.toNat) := by
  have := atI_nat (letter_at z.toNat (by omega))
  rw [Int.toNat_of_nonneg h0] at this
  exact this
theorem isNm_of {cs : List Nat} (h1 : 1 ≤ cs.length) (h2 : cs.length ≤ 8) (h : ∀ c ∈ cs, ∃ j, j < 26 ∧ c = 97 + j) : isNm ⟨cs.toArray⟩ = true := by
  simp only [isNm, Bool.and_eq_true, decide_eq_true_eq, List.all_eq_true]
  refine ⟨⟨by simpa [Str.length] using h1, by simpa [Str.length] using h2⟩, fun c hc => ?_⟩
  obtain ⟨j, hj, rfl⟩ := h c (by simpa using hc)
  exact List.mem_of_getElem? (letter_at j hj)
def words : List Str := ["sign", "helper", "clause", "dead", "forced", "all", "found"]
theorem words_nm : ∀ x ∈ words, isNm x = true := by decide +kernel
def spare (i : Nat) : Str := ⟨#[113, 97 + i / 26, 97 + i % 26]⟩
theorem spare_nm {i : Nat} (h : i < 676) : isNm (spare i) = true := isNm_of (cs := [113, 97 + i / 26, 97 + i % 26]) (by simp) (by simp) fun c hc => by
  simp only [List.mem_cons, List.not_mem_nil, or_false] at hc
  rcases hc with rfl | rfl | rfl
  · exact ⟨16, by decide, rfl⟩
  · exact ⟨i / 26, by omega, rfl⟩
  · exact ⟨i % 26, by omega, rfl⟩
theorem spare_inj {i j : Nat} (h : spare i = spare j) : i = j := by
  have h1 := congrArg (fun x : Str => x.cps.toList) h
  simp only [spare, List.cons.injEq, and_true, true_and] at h1
  omega
theorem spare_eq (i : Nat) : ("q" : Str) ++ sgn (97 + i / 26) ++ sgn (97 + i % 26) = spare i := rfl
theorem nodup_le {ys : List Str} : ∀ {xs : List Str}, xs.Nodup → (∀ x ∈ xs, x ∈ ys) → xs.length ≤ ys.length := by
  intro xs
  induction xs generalizing ys with
  | nil => intro _ _; exact Nat.zero_le _
  | cons x xs ih =>
    intro nd h
    obtain ⟨hx, nd⟩ := List.nodup_cons.mp nd
    have h1 := ih (ys := ys.filter fun y => decide (y ≠ x)) nd fun z hz => List.mem_filter.mpr ⟨h z (List.mem_cons_of_mem _ hz), decide_eq_true fun e => hx (e ▸ hz)⟩
    have h2 := filter_lt (l := x) (p := fun _ => true) (q := fun y => decide (y ≠ x)) (xs := ys) (fun _ _ => rfl) (h x (List.mem_cons_self ..)) rfl (by simp)
    rw [List.filter_eq_self.mpr fun _ _ => rfl] at h2
    rw [List.length_cons]
    omega
theorem spare_free {taken : List Str} (h : ∀ i, i < 676 → spare i ∈ taken) : 676 ≤ taken.length := by
  have nd : ((List.range 676).map spare).Nodup := by
    show List.Pairwise _ _
    rw [List.pairwise_map]
    exact List.Pairwise.imp (fun hne e => hne (spare_inj e)) (List.nodup_range (n := 676))
  have := nodup_le nd fun x hx => by
    obtain ⟨i, hi, rfl⟩ := List.mem_map.mp hx
    exact h i (List.mem_range.mp hi)
  simpa using this
theorem sgns_of {α : Type} {xs : List α} {ys : List Str} (h : Paired (fun _ x => ∃ j, j < 26 ∧ x = sgn (97 + j)) xs ys) : ∃ cs : List Nat, ys = cs.map sgn ∧ cs.length = xs.length ∧ ∀ c ∈ cs, ∃ j, j < 26 ∧ c = 97 + j := by
  induction h with
  | nil => exact ⟨[], rfl, rfl, fun c h => nomatch h⟩
  | cons q _ ih =>
    obtain ⟨j, hj, e⟩ := q
    obtain ⟨cs, h1, h2, h3⟩ := ih
    refine ⟨(97 + j) :: cs, by rw [e, h1]; rfl, by simp [h2], fun c hc => ?_⟩
    rcases List.mem_cons.mp hc with rfl | hc
    · exact ⟨j, hj, rfl⟩
    · exact h3 c hc
theorem sgn_sum (cs : List Nat) : ((cs.map sgn).map (·.length)).sum = cs.length := by
  induction cs with
  | nil => rfl
  | cons c r ih => simp only [List.map_cons, List.sum_cons, ih, List.length_cons]; show 1 + r.length = _; omega
section
variable {P : Program} {w : World} {K : PySem.W.Frag} {mg : Str → Option Value} {base : Heap}
abbrev s__law_fresh : Stmt := topS 43
theorem sc__law_fresh : FnScope ["_law_stream", "_law_taken", "_law_name", "_law_k", "_law_letters", "_law_words", "_law_spare"] ["_law_stream", "_law_taken"] (defScope s__law_fresh) := ⟨rfl, rfl, rfl, by decide +kernel, rfl, by decide +kernel, by decide +kernel⟩
def sp__law_fresh (K : PySem.W.Frag) : Sp := spS1 (SqR K Tx) (fun xs => xs.length ≤ 600) (fun _ => 12) fun xs => Ex Tx fun x => isNm x = true ∧ x ∉ xs
theorem ok__law_fresh {f : Addr} {fd : FuncData} (F : Fun K "_law_fresh" "_law_fresh" s__law_fresh f fd) (T : Gc mg) (c__law_draw : Cal P w K mg base 1 "_law_draw" ["_law_stream", "_law_many"] (sp__law_draw K)) (c__law_pick : Cal P w K mg base 2 "_law_pick" ["_law_stream", "_law_things"] (sp__law_pick K)) :
    FnOk P w K mg base CX0 3 f fd ["_law_stream", "_law_taken"] (sp__law_fresh K) := by
  refine F.ok sc__law_fresh (fun vs H Q E h => ?_) (fun cdv A outer s H vs Q E hr h => ?_)
  · obtain ⟨S, x, M, v, k, rfl, _⟩ := h
    rfl
  · obtain ⟨S, tk, M, v, k, rfl, mh, at_, r1, h1, q⟩ := h
    have hu := hr.units
    refine ⟨_, (pss_cons (ps_asg (pe_tup (pa_cons pe_str (pa_cons (pe_lst (pa_cons pe_str (pa_cons pe_str (pa_cons pe_str (pa_cons pe_str (pa_cons pe_str (pa_cons pe_str (pa_cons pe_str pa_nil)))))))) pa_nil))) (pg_tup (by rfl) (pgs_cons (pg_name (i := 4) sc__law_fresh.nd rfl (by first | exact .inl rfl | exact .inr rfl)) (pgs_cons (pg_name (i := 5) sc__law_fresh.nd rfl (by first | exact .inl rfl | exact .inr rfl)) pgs_nil))))
      (pss_cons (ps_set (i := 2) sc__law_fresh.nd rfl (by first | exact .inl rfl | exact .inr rfl) (pe_join pe_str (pe_lc (own := [("_law_k", 3)]) (g := (gName 3)) (tt := tYes) (te := (tOp (rIxX K) (tVar 4) (tCall (sp__law_draw K) [] E0 (tCons (tVar 0) (tCons (tC (.int 26)) tNil))))) (by rfl) sc__law_fresh.nd (pi_range1 (by rfl) T.range (pa_cons (pe_ix ix_X (pe_lst (pa_cons pe_int (pa_cons pe_int (pa_cons pe_int (pa_cons pe_int (pa_cons pe_int (pa_cons pe_int pa_nil))))))) (pe_f c__law_draw (hr.mono (by decide)) (pa_cons (pv 0) (pa_cons pe_int pa_nil))) (fun _ _ => rfl)) pa_nil)) (blkOk_by (by rfl)) (fun _ _ _ _ _ => (pg_name (i := 3) sc__law_fresh.nd rfl (by first | exact .inl rfl | exact .inr rfl))) (fun _ _ _ _ _ => pts_nil) (fun _ _ _ _ _ => (pe_ix ix_X (pv 4) (pe_f c__law_draw (hr.mono (by decide)) (pa_cons (pv 0) (pa_cons pe_int pa_nil))) (fun _ _ => rfl))))))
      (pss_cons (ps_set (i := 2) sc__law_fresh.nd rfl (by first | exact .inl rfl | exact .inr rfl) (pe_ifExp (pt_cmpR (op_eqP hu) (pe_f c__law_draw (hr.mono (by decide)) (pa_cons (pv 0) (pa_cons pe_int pa_nil))) pe_int (nomark _)) (pe_f c__law_pick (hr.mono (by decide)) (pa_cons (pv 0) (pa_cons (pv 5) pa_nil))) (pv 2)))
      (pss_cons (ps_for PassesOwn.never (by rfl) (pi_range1 (by rfl) T.range (pa_cons (pe_op op_mul pe_int (pe_callTy call_int1 (by rfl) T.int boot_int (pa_cons (pe_cmpR (op_inA hu) (pv 2) (pv 1) (by rfl)) pa_nil))) pa_nil)) (pg_name (i := 3) sc__law_fresh.nd rfl (by first | exact .inl rfl | exact .inr rfl)) (pss_cons (ps_set (i := 6) sc__law_fresh.nd rfl (by first | exact .inl rfl | exact .inr rfl) (pe_op op_addA (pe_op op_addA pe_str (pe_ix ix_X (pv 4) (pe_op op_fdiv (pv 3) pe_int) (fun _ _ => rfl))) (pe_ix ix_X (pv 4) (pe_op op_mod (pv 3) pe_int) (fun _ _ => rfl))))
      (pss_one (ps_if (pt_cmpR (op_niA hu) (pv 6) (pv 1) (by rfl)) (pss_one (ps_ret (pv 6))) pss_nil))))
      (pss_one (ps_ret (pv 2))))))), ?_⟩
    refine z_asgT (S := S) (k := k + 12) (c := 0) (R := PrR K Tx (LiR Tx)) (x := (g_LETTERS, words)) mh at_ (gv_pair (gv_c rfl) (gv_strs words (by decide))).s tg_2 fun σ1 M1 H1 g1 a1 ⟨vl, vw, rl, rw', e⟩ => ?_
    cases rl
    subst e
    -- name = "".join([..])
    refine z_asg (S := S) (k := k + 3) (c := 9) (P := Ex Tx fun x => isNm x = true) g1.mh a1 ((gs_join (K := K) (good := fun ys => ∃ cs : List Nat, ys = cs.map sgn ∧ 1 ≤ cs.length ∧ cs.length ≤ 8 ∧ ∀ c ∈ cs, ∃ j, j < 26 ∧ c = 97 + j) ((gls_m1 (R := fun i : Nat => It' (i : Nat)) (T := Tx) (n := 8) (c1 := 1) (c2 := 1) (G := fun xs => ∃ n, (1 ≤ n ∧ n ≤ 8) ∧ xs = List.range n) (good := fun _ x => ∃ j, j < 26 ∧ x = sgn (97 + j)) ?_ ?_ (by decide) ?_).is ?_) ?_).is ?_) fun v2 M2 H2 g2 a2 ⟨nm, hnm, r2⟩ => ?_
    · refine gis_rng1 (good := fun n => 1 ≤ n ∧ n ≤ 8) (gs_op (c1 := 0) (c2 := 1) (P := SqR K It' [1, 1, 1, 2, 3, 8]) (gv_is (gv_ints [1, 1, 1, 2, 3, 8] (by decide)) fun _ _ h => h.sq).s (gs_draw (K := K) rfl (gv_c rfl) (by decide) (by decide)) fun M' u w pu ⟨z, hz, pw⟩ => ?_) fun n hn => by omega
      obtain ⟨x, hx, ha⟩ := atI_in (xs := ([1, 1, 1, 2, 3, 8] : List Int)) hz.1 hz.2
      refine fun H mh Q q => rv_ix pu pw ha H mh Q fun v M' H' g r => q v M' H' g ⟨x.toNat, ?_, ?_⟩
      · simp only [List.mem_cons, List.not_mem_nil, or_false] at hx
        omega
      · have : ((x.toNat : Nat) : Int) = x := by simp only [List.mem_cons, List.not_mem_nil, or_false] at hx; omega
        show v = .int _
        rw [this]; exact r
    · rintro xs ⟨n, hn, rfl⟩
      rw [List.length_range]; exact hn.2
    · intro xs _ i _ M2 v2 sm ri
      refine gs_op (c1 := 0) (c2 := 1) (P := Tx g_LETTERS) (gv_var rfl rfl).s (gs_draw (K := K) rfl (gv_c rfl) (by decide) (by decide)) fun M' u w pu ⟨z, hz, pw⟩ => ?_
      exact fun H mh Q q => rv_ixS pu pw (by decide) (atI_letter hz.1 hz.2) H mh Q fun v M' H' g r => q v M' H' g ⟨_, ⟨z.toNat, by omega, rfl⟩, r⟩
    · rintro M2 ws ⟨xs, ys, ⟨n, hn, rfl⟩, hp, hpd⟩
      obtain ⟨cs, h2, h3, h4⟩ := sgns_of hp
      rw [List.length_range] at h3
      exact ⟨ys, ⟨cs, h2, by omega, by omega, h4⟩, hpd⟩
    · rintro ys ⟨cs, rfl, h2, h3, h4⟩
      rw [sgn_sum]
      have e0 : (Str.ofString "").length = 0 := rfl
      rw [e0]
      omega
    · rintro M2 v2 ⟨ys, ⟨cs, rfl, h2, h3, h4⟩, r⟩
      rw [join_sgn] at r
      exact ⟨_, isNm_of h2 h3 h4, r⟩
    -- name = pick(..) if draw(9) == 0 else name
    cases r2
    have G2 := g1.trans g2
    have rw2 : LiR Tx words M2 vw := Mon.mono g2.mm rw'
    refine z_asg (S := S) (k := k + 1) (c := 1 + 1) (P := Ex Tx fun x => isNm x = true) g2.mh a2 (gs_if (c1 := 1) (c2 := 1) (gts_zero (K := K) rfl (gv_c rfl) (by decide) (by decide)) (fun _ => (gs_call1 (S := S) (R1 := SqR K Tx) (pre := fun xs => 0 < xs.length ∧ xs.length ≤ 1000000) (cs := fun _ => 1) (R := fun xs => Ex Tx fun x => x ∈ xs) (x := words) rfl (gv_var rfl (rw2.sq (K := K))) ⟨by decide, by decide⟩).is fun M v ⟨x, hx, r⟩ => ⟨x, words_nm x hx, r⟩) fun _ => (gv_var (P := Ex Tx fun x => isNm x = true) rfl ⟨nm, hnm, rfl⟩).s.cost (Nat.zero_le _)) fun v3 M3 H3 g3 a3 ⟨nm3, hnm3, r3⟩ => ?_
    cases r3
    have G3 := G2.trans g3
    have r1' : SqR K Tx tk M3 v := Mon.mono G3.mm r1
    have fin : ∀ (x : Str) (M' H' : Hp), isNm x = true → x ∉ tk → Gr M3 H3 M' H' → Q (.str x) H' := fun x M' H' hx ht g => q _ M' H' (G3.trans (lift G3.mh a3 g)) ((a3.same g.hh).le (by omega)) ⟨x, ⟨hx, ht⟩, rfl⟩
    have hmul : (676 : Int) * (if decide (nm3 ∈ tk) = true then 1 else 0) = ((if nm3 ∈ tk then 676 else 0 : Nat) : Int) := by by_cases h : nm3 ∈ tk <;> simp [h]
    refine q_forG (M := M3) (xs := List.range (if nm3 ∈ tk then 676 else 0)) (R := fun i : Nat => It' (i : Nat)) (G3.mh.trans cut_same) (gi_rng1 (n := if nm3 ∈ tk then 676 else 0) (gv_is (gv_mul (gv_c rfl) (gv_int1b (gv_inA (K := K) (neg := false) (gv_var rfl rfl) (gv_var rfl (.inl r1')))) (.inl ⟨by decide, by decide⟩)) fun M v h => by
        rw [show v = _ from h]; rw [Bool.false_xor]; show V.int _ = V.int _; rw [hmul]) (by split <;> decide)) tg_1
      (fun M1' i σ' M' H' => ∃ y3 y6, Gr M3 H3 M' H' ∧ Same M1' M' ∧ Same M3 M' ∧ σ' = [some (.ref S.a), some v, some (.str nm3), y3, some (.str g_LETTERS), some vw, y6] ∧ ∀ j, j < i → spare j ∈ tk)
      (fun M4 H4 g4 => ⟨_, _, g4, Same.refl _, g4.mm, rfl, fun j h => nomatch h⟩) (fun M4 i σ' M' H' ⟨_, _, g, s1, _⟩ => ⟨s1, g.mh⟩) ?_ ?_
    · rintro M4 i x σ' M' H' M5 H5 σ2 sM hx ⟨y3, y6, g, s1, s2, rfl, hall⟩ g5 ⟨v5, r5, rfl⟩
      cases r5
      have hix : i < (if nm3 ∈ tk then 676 else 0) := by have := (List.getElem?_eq_some_iff.mp hx).1; rwa [List.length_range] at this
      obtain rfl : i = x := by rw [List.getElem?_range hix] at hx; exact Option.some.inj hx
      have hi : i < 676 := by split at hix; exact hix; omega
      have G5 := g.trans g5
      refine q_asg (P := Tx (spare i)) G5.mh (gv_is (gv_addSt (K := K) (gv_addSt (K := K) (gv_c rfl) (gv_ixS (K := K) (i := (i : Int) / 26) (c := 97 + i / 26) (x := g_LETTERS) (gv_var rfl rfl) (gv_fdiv (gv_var rfl rfl) (gv_c rfl) ⟨by decide, by decide⟩) (by decide) ?_) (by show 1 + 1 ≤ sizeLine; decide))
        (gv_ixS (K := K) (i := (i : Int) % 26) (c := 97 + i % 26) (x := g_LETTERS) (gv_var rfl rfl) (gv_mod (gv_var rfl rfl) (gv_c rfl) (by decide)) (by decide) ?_) (by show 2 + 1 ≤ sizeLine; decide)) fun M v h => by rw [show v = _ from h]; exact congrArg V.str (spare_eq i)) fun v6 M6 H6 g6 r6 => ?_
      · have := atI_letter (z := (i : Int) / 26) (by omega) (by omega)
        rw [this]; congr 2
      · have := atI_letter (z := (i : Int) % 26) (by omega) (by omega)
        rw [this]; congr 2
      cases r6
      have G6 := G5.trans g6
      refine s_if0 G6.mh (gt_test (gv_inA (K := K) (neg := true) (gv_var rfl rfl) (gv_var rfl (.inl (Mon.mono (s2.trans (g5.mm.trans g6.mm)) r1'))))) (fun hb H7 hh7 => ?_) (fun hb H7 hh7 => ?_)
      · exact ⟨_, rfl, fin _ _ _ (spare_nm hi) (by simpa using hb) (G6.trans (.idle G6.mh hh7))⟩
      · refine ⟨M6, _, _, G6.trans (.idle G6.mh hh7), s1.trans (g5.mm.trans g6.mm), s2.trans (g5.mm.trans g6.mm), rfl, fun j hj => ?_⟩
        by_cases e : j = i
        · subst e; simpa using hb
        · exact hall j (by omega)
    · rintro M4 σ' M' H' sM ⟨y3, y6, g, s1, s2, rfl, hall⟩
      rw [List.length_range] at hall
      refine ⟨_, rfl, fin nm3 M' H' hnm3 (fun ht => ?_) g⟩
      rw [if_pos ht] at hall
      have := spare_free hall
      omega
end
end My

set_option Elab.async false
set_option linter.all false
set_option maxRecDepth 100000
set_option maxHeartbeats 4000000
namespace My
open PySem PySem.Spec PyProof.Rows L2 L3
open L3.Strm
/-- unlike names -/
structure NmL (ns : List Str) : Prop where
  nd : ns.Nodup
  nm : ∀ n ∈ ns, isNm n = true
  n : ns.length ≤ 500
/-- literals of names, no name twice -/
structure Lits (ns ys : List Str) : Prop where
  nd : (ys.map nameOf).Nodup
  of : ∀ y ∈ ys, ∃ n ∈ ns, y = n ∨ y = ("-" : Str) ++ n
section
variable {P : Program} {w : World} {K : PySem.W.Frag} {mg : Str → Option Value} {base : Heap}
abbrev s__law_names : Stmt := topS 44
theorem sc__law_names : FnScope ["_law_stream", "_law_many", "_law_found", "_law_k"] ["_law_stream", "_law_many"] (defScope s__law_names) := ⟨rfl, rfl, rfl, by decide +kernel, rfl, by decide +kernel, by decide +kernel⟩
def sp__law_names (K : PySem.W.Frag) : Sp := slS1 It' (fun n => 0 ≤ n ∧ n ≤ 500) (fun n => 12 * n.toNat) fun n M ws => ∃ ys : List Str, NmL ys ∧ ys.length = n.toNat ∧ Pd Tx M ys ws
theorem ok__law_names {f : Addr} {fd : FuncData} (F : Fun K "_law_names" "_law_names" s__law_names f fd) (T : Gc mg) (c__law_fresh : Cal P w K mg base 3 "_law_fresh" ["_law_stream", "_law_taken"] (sp__law_fresh K)) : FnOk P w K mg base CX0 4 f fd ["_law_stream", "_law_many"] (sp__law_names K) := by
  refine F.ok sc__law_names (fun vs H Q E h => ?_) (fun cdv A outer s H vs Q E hr h => ?_)
  · obtain ⟨S, x, M, v, k, rfl, _⟩ := h
    rfl
  · obtain ⟨S, n, M, v, k, rfl, mh, at_, r1, ⟨h1, h2⟩, q⟩ := h
    obtain ⟨n, rfl⟩ : ∃ m : Nat, n = (m : Int) := ⟨n.toNat, by omega⟩
    cases r1
    have at_ : S.At (k + 12 * n) H := at_
    refine ⟨_, (pss_cons (ps_set (i := 2) sc__law_names.nd rfl (by first | exact .inl rfl | exact .inr rfl) (pe_lst pa_nil))
      (pss_cons (ps_for PassesOwn.never (by rfl) (pi_range1 (by rfl) T.range (pa_cons (pv 1) pa_nil)) (pg_name (i := 3) sc__law_names.nd rfl (by first | exact .inl rfl | exact .inr rfl)) (pss_one (ps_expr (pe_bm PySem.F.plainAttrs_list PySem.F.slot_list_append PySem.F.type_list_append mt_append (pv 2) (pa_cons (pe_f c__law_fresh (hr.mono (by decide)) (pa_cons (pv 0) (pa_cons (pv 2) pa_nil))) pa_nil)))))
      (pss_one (ps_ret (pv 2))))), ?_⟩
    refine z_asgL (S := S) (k := k + 12 * n) (c := 0) mh at_ gl_nil.s fun p vs M1 H1 g1 a1 hp0 hpm hpw ev => ?_
    subst ev
    refine z_for (S := S) (k := k + 12 * n) (c := 0) (G := (· = List.range n)) (R := fun i : Nat => It' (i : Nat)) g1.mh a1 (gi_rng1 (n := n) (gv_var rfl rfl) (by omega)).s tg_1
      (fun _ M1' i σ' M' H' => ∃ ys y3, Gr M (S.cut H) M' (S.cut H') ∧ S.At (k + 12 * (n - i)) H' ∧ Same M1' M' ∧ OwS S H M' H' p (ys.map V.str) ∧ NmL ys ∧ ys.length = i ∧ σ' = [some (.ref S.a), some (.int (n : Nat)), some (.ref p), y3])
      (fun xs M2 H2 _ g2 a2 => ⟨[], _, g1.trans g2, a2, Same.refl _, OwS.step ⟨⟨hp0, hpm, hpw⟩⟩ g2, ⟨List.nodup_nil, (fun _ h => nomatch h), by simp⟩, rfl, rfl⟩)
      (fun xs M2 i σ' M' H' ⟨ys, y3, g, a, s1, _⟩ => ⟨s1, g.mh, a.le (Nat.zero_le _)⟩) ?_ ?_
    · rintro xs M2 i x σ' M' H' M3 H3 σ2 rfl sM hx ⟨ys, y3, g, a, s1, ow, hn, hl, rfl⟩ g3 ⟨v3, r3, rfl⟩
      have hi : i < n := by have := (List.getElem?_eq_some_iff.mp hx).1; rwa [List.length_range] at this
      have g3' := lift g.mh a g3
      have a3 := a.same g3.hh
      have ow3 := ow.step g3'
      have G3 := g.trans g3'
      have e1 : k + 12 * (n - i) = (k + 12 * (n - (i + 1))) + 12 := by omega
      rw [e1] at a3
      have hn5 := hn.n
      refine z_appL (S := S) (c := 12) (P := Ex Tx fun x => isNm x = true ∧ x ∉ ys) G3.mh a3 rfl ow3.o.m ow3.o.h (szL (by rw [List.length_map]; omega)) (gs_call1 (S := S) (R1 := SqR K Tx) (pre := fun xs => xs.length ≤ 600) (cs := fun _ => 12) (R := fun xs => Ex Tx fun x => isNm x = true ∧ x ∉ xs) (x := ys) rfl (gv_var rfl (.inl ⟨p, _, rfl, .inl (.inl upd_same), pd_of_tx ys⟩)) (by omega)) fun v4 M4 H4 g4 a4 ⟨x4, ⟨h4, h5⟩, r4⟩ => ?_
      cases r4
      have ow4 := ow3.step g4
      refine ⟨M4, ys ++ [x4], _, ow4.mut (G3.trans g4), a4.upd ow4.on, s1.trans (g3.mm.trans g4.mm), ?_, ⟨?_, ?_, ?_⟩, by rw [List.length_append, hl]; rfl, rfl⟩
      · rw [List.map_append]; exact ow4.put
      · rw [List.nodup_append]
        exact ⟨hn.nd, by simp, fun a ha b hb => by rw [List.mem_singleton] at hb; subst hb; exact fun e => h5 (e ▸ ha)⟩
      · intro z hz
        rcases List.mem_append.mp hz with hz | hz
        · exact hn.nm z hz
        · rw [List.mem_singleton] at hz; subst hz; exact h4
      · rw [List.length_append, List.length_singleton]; omega
    · rintro xs M2 σ' M' H' rfl sM ⟨ys, y3, g, a, s1, ow, hn, hl, rfl⟩
      rw [List.length_range] at hl
      exact ⟨.ref p, rfl, q p _ M' H' g (a.le (by omega)) ow.o.h0 ow.o.m ow.o.h ⟨ys, hn, hl, pd_of_tx ys⟩⟩
end
end My

set_option Elab.async false
set_option linter.all false
set_option maxRecDepth 100000
set_option maxHeartbeats 4000000
namespace My
open PySem PySem.Spec PyProof.Rows L2 L3
open L3.Strm
theorem Lits.perm {ns ys zs : List Str} (h : Lits ns ys) (p : zs.Perm ys) : Lits ns zs := ⟨(p.map nameOf).nodup_iff.mpr h.nd, fun y hy => h.of y (p.mem_iff.mp hy)⟩
theorem Lits.sub {ns ys zs : List Str} (h : Lits ns ys) (p : zs.Sublist ys) : Lits ns zs := ⟨h.nd.sublist (p.map nameOf), fun y hy => h.of y (p.subset hy)⟩
theorem Lits.nil {ns : List Str} : Lits ns [] := ⟨List.nodup_nil, fun _ h => nomatch h⟩
/-! texts by their signs -/
theorem head1 (c : Nat) (r : List Nat) : cutS (SX.S (c :: r)) none (some 1) = SX.S [c] := by
  show SX.S _ = SX.S _
  have e : HT.sIx (SX.S (c :: r)).length (SX.S (c :: r)).length (some ((1 : Nat) : Int)) = 1 := by rw [HT.sIx_nat, SX.S_len, List.length_cons]; omega
  have e' : HT.sIx (SX.S (c :: r)).length (SX.S (c :: r)).length (some 1) = 1 := e
  rw [e']
  rfl
theorem tail1 (c : Nat) (r : List Nat) : cutS (SX.S (c :: r)) (some 1) none = SX.S r := by
  have e : HT.sIx (SX.S (c :: r)).length 0 (some ((1 : Nat) : Int)) = 1 := by rw [HT.sIx_nat, SX.S_len, List.length_cons]; omega
  have e' : HT.sIx (SX.S (c :: r)).length 0 (some 1) = 1 := e
  have e2 : HT.sIx (SX.S (c :: r)).length (SX.S (c :: r)).length none = r.length + 1 := by rw [HT.sIx_none, SX.S_len, List.length_cons]
  show SX.S _ = SX.S _
  rw [e', e2]
  congr 1
  show (r.take (r.length + 1 - 1)) = r
  simp
theorem minus : ("-" : Str) = SX.S [45] := rfl
theorem neg_S (l : List Nat) : ("-" : Str) ++ SX.S l = SX.S (45 :: l) := SX.S_cat [45] l
theorem nm_S {n : Str} (h : isNm n = true) : ∃ c r, n = SX.S (c :: r) ∧ c ≠ 45 := by
  simp only [isNm, Bool.and_eq_true, decide_eq_true_eq, List.all_eq_true] at h
  obtain ⟨⟨h1, h2⟩, h3⟩ := h
  cases hl : n.cps.toList with
  | nil =>
    have : n.length = 0 := by rw [show n.length = n.cps.toList.length from rfl, hl]; rfl
    exact absurd h1 (by omega)
  | cons c r =>
    refine ⟨c, r, by rw [← hl], fun e => ?_⟩
    have := h3 c (by rw [hl]; exact List.mem_cons_self ..)
    subst e
    revert this
    decide +kernel
theorem nameOf_nm {n : Str} (h : isNm n = true) : nameOf n = n := by
  obtain ⟨c, r, rfl, hc⟩ := nm_S h
  unfold nameOf
  rw [head1, minus, if_neg (fun e => hc (by have := SX.S_inj e; simpa using this))]
theorem nameOf_neg {n : Str} (h : isNm n = true) : nameOf (("-" : Str) ++ n) = n := by
  obtain ⟨c, r, rfl, hc⟩ := nm_S h
  unfold nameOf
  rw [neg_S, head1, minus, if_pos rfl, tail1]
theorem opp_nm {n : Str} (h : isNm n = true) : opp n = ("-" : Str) ++ n := by
  obtain ⟨c, r, rfl, hc⟩ := nm_S h
  unfold opp
  rw [head1, minus, if_neg (fun e => hc (by have := SX.S_inj e; simpa using this))]
theorem opp_neg {n : Str} (h : isNm n = true) : opp (("-" : Str) ++ n) = n := by
  obtain ⟨c, r, rfl, hc⟩ := nm_S h
  unfold opp
  rw [neg_S, head1, minus, if_pos rfl, tail1]
theorem neg_ne {n m : Str} (h : isNm n = true) : n ≠ ("-" : Str) ++ m := fun e => by
  obtain ⟨c, r, rfl, hc⟩ := nm_S h
  rw [← SX.S_tl m, neg_S] at e
  have := SX.S_inj e
  simp at this
  exact hc this.1
theorem neg_inj {n m : Str} (e : ("-" : Str) ++ n = ("-" : Str) ++ m) : n = m := by
  rw [← SX.S_tl m, ← SX.S_tl n, neg_S, neg_S] at e
  have := SX.S_inj e
  simp at this
  exact congrArg (fun x : Array Nat => (⟨x⟩ : Str)) this
section
variable {P : Program} {w : World} {K : PySem.W.Frag} {mg : Str → Option Value} {base : Heap}
theorem nm_len {n : Str} (h : isNm n = true) : n.length ≤ 8 := isNm_len h
end
end My

set_option Elab.async false
set_option linter.all false
set_option maxRecDepth 100000
set_option maxHeartbeats 4000000
namespace My
open PySem PySem.Spec PyProof.Rows L2 L3
open L3.Strm
section
variable {P : Program} {w : World} {K : PySem.W.Frag} {mg : Str → Option Value} {base : Heap}
abbrev s__law_neg : Stmt := topS 45
theorem sc__law_neg : FnScope ["_law_one"] ["_law_one"] (defScope s__law_neg) := ⟨rfl, rfl, rfl, by decide +kernel, rfl, by decide +kernel, by decide +kernel⟩
def sp__law_neg (K : PySem.W.Frag) : Sp := sp1 Tx (fun x => x.length ≤ 1000) fun x => Tx (opp x)
theorem ok__law_neg {f : Addr} {fd : FuncData} (F : Fun K "_law_neg" "_law_neg" s__law_neg f fd) : FnOk P w K mg base CX0 1 f fd ["_law_one"] (sp__law_neg K) := by
  refine F.ok sc__law_neg (fun vs H Q E h => ?_) (fun cdv A outer s H vs Q E hr h => ?_)
  · obtain ⟨x, M, v, rfl, _⟩ := h
    rfl
  · obtain ⟨x, M, v, rfl, mh, r1, hp, q⟩ := h
    have hu := hr.units
    refine ⟨_, (pss_one (ps_ret (pe_ifExp (pt_cmpR (op_eqP hu) (pe_slice sl_X (pv 0) po_none (po_some pe_int)) pe_str (nomark _)) (pe_slice sl_X (pv 0) (po_some pe_int) po_none) (pe_op op_addA pe_str (pv 0))))), ?_⟩
    have hv : Gv (tVar 0) (start ["_law_one"] [v]) M (Tx x) := gv_var rfl r1
    refine s_ret mh (gv_if (gt_test (gv_eqT py_str inj_str (gv_cutS hv (sz1000 hp) (fun _ _ h => h) (fun _ _ h => ⟨1, rfl, h⟩)) (gv_c rfl) (by simp [PyData.depth]))) (fun hb => gv_is (gv_cutS hv (sz1000 hp) (fun _ _ h => ⟨1, rfl, h⟩) fun _ _ h => h) fun M' v h => ?_) fun hb => gv_is (gv_addSt (gv_c rfl) hv (szM (by show 1 + x.length ≤ _; omega))) fun M' v h => ?_) q
    · show Tx (opp x) M' v
      rw [show opp x = _ from if_pos (by simpa using hb)]; exact h
    · show Tx (opp x) M' v
      rw [show opp x = _ from if_neg (by simpa using hb)]; exact h
abbrev s__law_up : Stmt := topS 47
theorem sc__law_up : FnScope ["_law_some", "_law_names_here", "_law_found", "_law_name", "_law_one"] ["_law_some", "_law_names_here"] (defScope s__law_up) := ⟨rfl, rfl, rfl, by decide +kernel, rfl, by decide +kernel, by decide +kernel⟩
def sp__law_up (K : PySem.W.Frag) : Sp := sp2 (CtR K) (SqR K Tx) (fun _ ns => Shorts ns) fun ls ns => TT (asc ls ns)
theorem ok__law_up {f : Addr} {fd : FuncData} (F : Fun K "_law_up" "_law_up" s__law_up f fd) (T : Bi mg) : FnOk P w K mg base CX0 1 f fd ["_law_some", "_law_names_here"] (sp__law_up K) := by
  refine F.ok sc__law_up (fun vs H Q E h => ?_) (fun cdv A outer s H vs Q E hr h => ?_)
  · obtain ⟨x, y, M, v, w, rfl, _⟩ := h
    rfl
  · obtain ⟨ls, ns, M, v, w, rfl, mh, r1, r2, hp, q⟩ := h
    have hu := hr.units
    refine ⟨_, (pss_cons (ps_set (i := 2) sc__law_up.nd rfl (by first | exact .inl rfl | exact .inr rfl) (pe_lst pa_nil))
      (pss_cons (ps_for PassesOwn.never (by rfl) (pi_sq (pv 1)) (pg_name (i := 3) sc__law_up.nd rfl (by first | exact .inl rfl | exact .inr rfl)) (pss_one (ps_expr (pe_bm PySem.F.plainAttrs_list PySem.F.slot_list_extend PySem.F.type_list_extend mt_extend (pv 2) (pa_cons (pe_lc (own := [("_law_one", 4)]) (g := (gName 4)) (tt := (tTest (tOp (rInA K false) (tVar 4) (tVar 0)))) (te := (tVar 4)) (by rfl) sc__law_up.nd (pi_sq (pe_tup (pa_cons (pv 3) (pa_cons (pe_op op_addA pe_str (pv 3)) pa_nil)))) (blkOk_by (by rfl)) (fun _ _ _ _ _ => (pg_name (i := 4) sc__law_up.nd rfl (by first | exact .inl rfl | exact .inr rfl))) (fun _ _ _ _ _ => (pts_one (pt_cmpR (op_inA hu) (pv 4) (pv 0) (by rfl)))) (fun _ _ _ _ _ => (pv 4))) pa_nil)))))
      (pss_one (ps_ret (pe_callTy call_tupA (by rfl) T.tuple boot_tuple (pa_cons (pv 2) pa_nil)))))), ?_⟩
    refine q_asgL mh gl_nil fun p vs M2 H2 g2 h0 m0 hp2 hv => ?_
    subst hv
    refine q_for (R1 := Tx) (xs := ns) g2.mh (gv_var rfl (Mon.mono g2.mm r2))
      (fun M1' i σ' M' H' => ∃ y3 y4, Gr M H M' H' ∧ Same M1' M' ∧ Same M M' ∧ Own H M' H' p ((asc ls (ns.take i)).map V.str) ∧ σ' = [some v, some w, some (.ref p), y3, y4])
      (fun M3 H3 g3 => ⟨none, none, g2.trans g3, Same.refl _, (g2.trans g3).mm, Own.step ⟨h0, m0, hp2⟩ g3, rfl⟩)
      (fun M3 i σ' M' H' ⟨_, _, g, s1, _⟩ => ⟨s1, g.mh⟩) ?_ ?_
    · rintro M3 i n v' σ' M' H' sM hx ⟨y3, y4, g, s1, s2, ow, rfl⟩ rx
      cases rx
      have hn : n.length ≤ 900 := hp.2 n (List.mem_of_getElem? hx)
      have hil : i < ns.length := (List.getElem?_eq_some_iff.mp hx).1
      have et : ns.take (i + 1) = ns.take i ++ [n] := by rw [List.take_add_one, hx]; rfl
      refine s_ext g.mh rfl ow.h (gl_lc (R := Tx) (S := Tx) (gv_is (gv_tup2 (K := K) (gv_var rfl rfl) (gv_addSt (gv_c rfl) (gv_var rfl rfl) (szM (by show 1 + n.length ≤ _; omega)))) fun _ _ h => .inr h) (by show 2 ≤ sizeLine; decide) (fun l => decide (l ∈ ls)) id
        (fun l _ M1 vl sm hl => gt_is (gt_test (gv_inA (K := K) (gv_var rfl hl) (gv_var rfl (Mon.mono (s2.trans sm) r1)))) (by simp)) (fun l _ _ M1 vl sm hl => gv_var rfl hl)) (fun M4 ws h => ?_) fun ws M4 H4 g4 h => ?_
      · have l1 := h.length
        have l2 := asc_len ls (ns.take i)
        have l3 := List.length_filter_le (fun l => decide (l ∈ ls)) [n, ("-" : Str) ++ n]
        have l4 := hp.1
        rw [List.length_map] at l1 ⊢
        rw [List.length_take] at l2
        simp only [List.length_cons, List.length_nil] at l3
        exact szM (by omega)
      · have e4 := pd_tx h
        subst e4
        have ow4 := ow.step g4
        refine ⟨M4, _, _, (g.trans g4).mut ow4.h0 ow4.m, s1.trans g4.mm, s2.trans g4.mm, ?_, rfl⟩
        have e5 : asc ls (ns.take (i + 1)) = asc ls (ns.take i) ++ ([n, ("-" : Str) ++ n].filter fun l => decide (l ∈ ls)).map id := by
          rw [et, List.map_id]; unfold asc; rw [List.flatMap_append]; simp
        rw [e5, List.map_append]
        exact ow4.put
    · rintro M3 σ' M' H' sM ⟨y3, y4, g, s1, s2, ow, rfl⟩
      rw [List.take_length] at ow
      exact s_retTup g.mh rfl ow.h fun l nl => q _ _ _ (g.trans (.new g.mh nl)) (TT.new _)
abbrev s__law_once : Stmt := topS 55
theorem sc__law_once : FnScope ["_law_clauses", "_law_names_here", "_law_found", "_law_clause"] ["_law_clauses", "_law_names_here"] (defScope s__law_once) := ⟨rfl, rfl, rfl, by decide +kernel, rfl, by decide +kernel, by decide +kernel⟩
def onceUp (cs : List (List Str)) (ns : List Str) : List (List Str) := once (cs.map fun c => asc c ns)
def sp__law_once (K : PySem.W.Frag) : Sp := sl2 (SqR K (CtR K)) (SqR K Tx) (fun cs ns => Shorts ns ∧ cs.length ≤ 1000000) fun cs ns M ws => Pd TT M (onceUp cs ns) ws
theorem ok__law_once {f : Addr} {fd : FuncData} (F : Fun K "_law_once" "_law_once" s__law_once f fd) (T : Gc mg) (c__law_up : Cal P w K mg base 1 "_law_up" ["_law_some", "_law_names_here"] (sp__law_up K)) : FnOk P w K mg base CX0 2 f fd ["_law_clauses", "_law_names_here"] (sp__law_once K) := by
  refine F.ok sc__law_once (fun vs H Q E h => ?_) (fun cdv A outer s H vs Q E hr h => ?_)
  · obtain ⟨x, y, M, v, w, rfl, _⟩ := h
    rfl
  · obtain ⟨cs, ns, M, v, w, rfl, mh, r1, r2, ⟨hsh, hcl⟩, q⟩ := h
    have hu := hr.units
    refine ⟨_, (pss_cons (ps_set (i := 2) sc__law_once.nd rfl (by first | exact .inl rfl | exact .inr rfl) (pe_lst pa_nil))
      (pss_cons (ps_for PassesOwn.never (by rfl) (pi_sq (pv 0)) (pg_name (i := 3) sc__law_once.nd rfl (by first | exact .inl rfl | exact .inr rfl)) (pss_one (ps_if (pt_cmpR (op_niA hu) (pe_f c__law_up (hr.mono (by decide)) (pa_cons (pv 3) (pa_cons (pv 1) pa_nil))) (pv 2) (by rfl)) (pss_one (ps_expr (pe_bm PySem.F.plainAttrs_list PySem.F.slot_list_append PySem.F.type_list_append mt_append (pv 2) (pa_cons (pe_f c__law_up (hr.mono (by decide)) (pa_cons (pv 3) (pa_cons (pv 1) pa_nil))) pa_nil)))) pss_nil)))
      (pss_one (ps_ret (pv 2))))), ?_⟩
    refine q_asgL mh gl_nil fun p vs M2 H2 g2 h0 m0 hp2 hv => ?_
    subst hv
    refine q_for (R1 := CtR K) (xs := cs) g2.mh (gv_var rfl (Mon.mono g2.mm r1))
      (fun M1' i σ' M' H' => ∃ y3 ws, Gr M H M' H' ∧ Same M1' M' ∧ Same M M' ∧ Own H M' H' p ws ∧ Pd TT M' (onceUp (cs.take i) ns) ws ∧ (onceUp (cs.take i) ns).length ≤ i ∧ σ' = [some v, some w, some (.ref p), y3])
      (fun M3 H3 g3 => ⟨none, [], g2.trans g3, Same.refl _, (g2.trans g3).mm, Own.step ⟨h0, m0, hp2⟩ g3, .nil, Nat.le_refl _, rfl⟩)
      (fun M3 i σ' M' H' ⟨_, _, g, s1, _⟩ => ⟨s1, g.mh⟩) ?_ ?_
    · rintro M3 i c v' σ' M' H' sM hx ⟨y3, ws, g, s1, s2, ow, hpd, hl, rfl⟩ rx
      have hil : i < cs.length := (List.getElem?_eq_some_iff.mp hx).1
      have et : cs.take (i + 1) = cs.take i ++ [c] := by rw [List.take_add_one, hx]; rfl
      have eo : onceUp (cs.take (i + 1)) ns = onceP (onceUp (cs.take i) ns) (asc c ns) := by
        rw [et]; unfold onceUp once; rw [List.map_append, List.foldl_append]; rfl
      have r2' : SqR K Tx ns M' w := Mon.mono s2 r2
      have up := ow.up
      refine s_if0 (ow.fr g.mh) (gt_test (gv_inD (K := K) (R := TT) (neg := true) py_TT inj_TT (gv_call2 (R1 := CtR K) (R2 := SqR K Tx) (gv_var rfl (Mon.mono up rx)) (gv_var rfl (Mon.mono up r2')) hsh) (gv_var rfl (.inl (ow.lst hpd))) (by simp [PyData.depth, depthS]))) (fun hb H4 hh4 => ?_) (fun hb H4 hh4 => ?_)
      · have g4 := g.trans (.idle g.mh hh4)
        have ow4 := ow.idle hh4
        have hwl : ws.length ≤ i := by rw [← hpd.length]; exact hl
        refine s_app (P := TT (asc c ns)) g4.mh rfl ow4.h (szL (by omega)) (gv_call2 (R1 := CtR K) (R2 := SqR K Tx) (gv_var rfl rx) (gv_var rfl r2') hsh) fun v5 M5 H5 g5 r5 => ?_
        have ow5 := ow4.step g5
        refine ⟨M5, _, ws ++ [v5], (g4.trans g5).mut ow5.h0 ow5.m, s1.trans g5.mm, s2.trans g5.mm, ow5.put, ?_, ?_, rfl⟩
        · rw [eo, onceP, if_neg (by simpa using hb)]
          exact pd_app (hpd.mono g5.mm) (.cons r5 .nil)
        · rw [eo]; exact Nat.le_trans (onceP_len _ _) (Nat.succ_le_succ hl)
      · have hin : asc c ns ∈ onceUp (cs.take i) ns := by simpa using hb
        refine ⟨M', _, ws, g.trans (.idle g.mh hh4), s1, s2, ow.idle hh4, ?_, ?_, rfl⟩
        · rw [eo, onceP, if_pos hin]; exact hpd
        · rw [eo]; exact Nat.le_trans (onceP_len _ _) (Nat.succ_le_succ hl)
    · rintro M3 σ' M' H' sM ⟨y3, ws, g, s1, s2, ow, hpd, hl, rfl⟩
      rw [List.take_length] at hpd
      exact ⟨.ref p, rfl, q p ws M' H' g ow.h0 ow.m ow.h hpd⟩
end
end My

set_option Elab.async false
set_option linter.all false
set_option maxRecDepth 100000
set_option maxHeartbeats 4000000
namespace My
open PySem PySem.Spec PyProof.Rows L2 L3
open L3.Strm
/-- the law's own code: a dict -/
def LawR (c : CodeD) : Pr := Dc3 "signs" "helpers" "clauses" (LiR Tx c.signs) (LiR Tx c.helpers) (LiR TT c.clauses)
instance : Mon LawR := ⟨fun e ⟨p, u1, u2, u3, h1, h2, h3, h4, h5⟩ => ⟨p, u1, u2, u3, h1, e _ _ h2, Mon.mono e h3, Mon.mono e h4, Mon.mono e h5⟩⟩
structure Good (c : CodeD) : Prop where
  nm : NmL c.names
  n : c.names.length ≤ 60
  cl : ∃ cs, c.clauses = onceUp cs c.names ∧ (∀ x ∈ cs, Lits c.names x) ∧ cs.length ≤ 100
section
variable {K : PySem.W.Frag} {σ : Sl} {M : Hp} {td : TE} {c : CodeD}
theorem gv_cS (h : Gv td σ M (LawR c)) : Gv (tDGet td (tC (.str "signs"))) σ M (LiR Tx c.signs) := gv_dget h fun M v ⟨p, u1, u2, u3, h1, h2, h3, h4, h5⟩ => ⟨p, _, u1, h1, h2, rfl, h3⟩
theorem gv_cH (h : Gv td σ M (LawR c)) : Gv (tDGet td (tC (.str "helpers"))) σ M (LiR Tx c.helpers) := gv_dget h fun M v ⟨p, u1, u2, u3, h1, h2, h3, h4, h5⟩ => ⟨p, _, u2, h1, h2, rfl, h4⟩
theorem gv_cC (h : Gv td σ M (LawR c)) : Gv (tDGet td (tC (.str "clauses"))) σ M (LiR TT c.clauses) := gv_dget h fun M v ⟨p, u1, u2, u3, h1, h2, h3, h4, h5⟩ => ⟨p, _, u3, h1, h2, rfl, h5⟩
end
section
variable {P : Program} {w : World} {K : PySem.W.Frag} {mg : Str → Option Value} {base : Heap}
theorem nm_shorts {ns : List Str} (h : NmL ns) : Shorts ns := ⟨Nat.le_trans h.n (by decide), fun n hn => Nat.le_trans (nm_len (h.nm n hn)) (by decide)⟩
end
end My

set_option Elab.async false
set_option linter.all false
set_option maxRecDepth 100000
set_option maxHeartbeats 4000000
namespace My
open PySem PySem.Spec PyProof.Rows L2 L3
theorem mem_asc {l ns : List Str} {x : Str} : x ∈ asc l ns ↔ ∃ n ∈ ns, (x = n ∨ x = ("-" : Str) ++ n) ∧ x ∈ l := by
  unfold asc
  rw [List.mem_flatMap]
  constructor
  · rintro ⟨n, hn, h⟩
    obtain ⟨h1, h2⟩ := List.mem_filter.mp h
    exact ⟨n, hn, by simpa using h1, by simpa using h2⟩
  · rintro ⟨n, hn, h1, h2⟩
    exact ⟨n, hn, List.mem_filter.mpr ⟨by simpa using h1, by simpa using h2⟩⟩
theorem asc_congr {l l' ns : List Str} (h : ∀ n ∈ ns, ∀ x, (x = n ∨ x = ("-" : Str) ++ n) → (x ∈ l ↔ x ∈ l')) : asc l ns = asc l' ns := by
  unfold asc
  induction ns with
  | nil => rfl
  | cons n ns ih =>
    rw [List.flatMap_cons, List.flatMap_cons, ih fun m hm => h m (List.mem_cons_of_mem _ hm)]
    congr 1
    refine List.filter_congr fun x hx => ?_
    have := h n (List.mem_cons_self ..) x (by simpa using hx)
    simp [this]
theorem asc_asc (l ns : List Str) : asc (asc l ns) ns = asc l ns := asc_congr fun n hn x hx => by
  rw [mem_asc]
  exact ⟨fun ⟨_, _, _, h⟩ => h, fun h => ⟨n, hn, hx, h⟩⟩
theorem Lits.name {ns ys : List Str} (hn : NmL ns) (h : Lits ns ys) {y : Str} (hy : y ∈ ys) : nameOf y ∈ ns ∧ (y = nameOf y ∨ y = ("-" : Str) ++ nameOf y) ∧ isNm (nameOf y) = true := by
  obtain ⟨n, hnn, h1 | h1⟩ := h.of y hy
  · subst h1
    have e := nameOf_nm (hn.nm y hnn)
    rw [e]
    exact ⟨hnn, .inl rfl, hn.nm y hnn⟩
  · subst h1
    rw [nameOf_neg (hn.nm n hnn)]
    exact ⟨hnn, .inr rfl, hn.nm n hnn⟩
theorem nodup_inj {α β : Type} {f : α → β} : ∀ {xs : List α}, (xs.map f).Nodup → ∀ x ∈ xs, ∀ y ∈ xs, f x = f y → x = y
  | [], _, _, h, _, _, _ => by cases h
  | a :: xs, nd, x, hx, y, hy, e => by
    rw [List.map_cons] at nd
    obtain ⟨h1, h2⟩ := List.nodup_cons.mp nd
    rcases List.mem_cons.mp hx with ex | hx'
    · rcases List.mem_cons.mp hy with ey | hy'
      · rw [ex, ey]
      · exact absurd (List.mem_map.mpr ⟨y, hy', by rw [← e, ex]⟩) h1
    · rcases List.mem_cons.mp hy with ey | hy'
      · exact absurd (List.mem_map.mpr ⟨x, hx', by rw [e, ey]⟩) h1
      · exact nodup_inj h2 x hx' y hy' e
/-- literals in the order of the names are literals -/
theorem Lits.asc {ns ys : List Str} (hn : NmL ns) (h : Lits ns ys) : Lits ns (asc ys ns) := by
  refine ⟨?_, fun y hy => let ⟨n, h1, h2, _⟩ := mem_asc.mp hy; ⟨n, h1, h2⟩⟩
  have sub : ∀ ms : List Str, (∀ m ∈ ms, m ∈ ns) → ((My.asc ys ms).map nameOf).Sublist ms := by
    intro ms
    induction ms with
    | nil => intro _; exact List.Sublist.refl _
    | cons m ms ih =>
      intro hm
      have ih := ih fun z hz => hm z (List.mem_cons_of_mem _ hz)
      have hnm := hn.nm m (hm m (List.mem_cons_self ..))
      have e1 := nameOf_nm hnm
      have e2 := nameOf_neg hnm
      have hboth : ¬ (m ∈ ys ∧ ("-" : Str) ++ m ∈ ys) := fun ⟨a, b⟩ => neg_ne hnm (nodup_inj h.nd m a _ b (by rw [e1, e2]))
      show (((m :: ms).flatMap fun n => [n, ("-" : Str) ++ n].filter fun l => decide (l ∈ ys)).map nameOf).Sublist (m :: ms)
      rw [List.flatMap_cons, List.map_append]
      have : (([m, ("-" : Str) ++ m].filter fun l => decide (l ∈ ys)).map nameOf).Sublist [m] := by
        by_cases ha : m ∈ ys
        · have hb : ¬ ("-" : Str) ++ m ∈ ys := fun b => hboth ⟨ha, b⟩
          simp [ha, hb, e1]
        · by_cases hb : ("-" : Str) ++ m ∈ ys
          · simp [ha, hb, e2]
          · simp [ha, hb]
      exact List.Sublist.append this ih
  exact hn.nd.sublist (sub ns fun _ h => h)
theorem fw_lits {ns : List Str} : ∀ {ys met : List Str} {i : Nat}, (∀ y ∈ ys, nameOf y ∈ ns) → (ys.map nameOf).Nodup → (∀ y ∈ ys, nameOf y ∉ met) → fwGo ns (ys.map PyData.str) met i = none
  | [], _, _, _, _, _ => rfl
  | y :: ys, met, i, h1, h2, h3 => by
    rw [List.map_cons] at h2
    obtain ⟨h4, h5⟩ := List.nodup_cons.mp h2
    rw [List.map_cons, fwGo, if_neg]
    · refine fw_lits (fun z hz => h1 z (List.mem_cons_of_mem _ hz)) h5 fun z hz hm => ?_
      rcases List.mem_append.mp hm with hm | hm
      · exact h3 z (List.mem_cons_of_mem _ hz) hm
      · rw [List.mem_singleton] at hm
        exact h4 (List.mem_map.mpr ⟨z, hz, hm⟩)
    · rintro (h | h)
      · simp [isLit, h1 y (List.mem_cons_self ..)] at h
      · exact h3 y (List.mem_cons_self ..) h
theorem lits_len {ns ys : List Str} (h : Lits ns ys) (hn : NmL ns) : ys.length ≤ ns.length := by
  have := nodup_le h.nd (ys := ns) fun z hz => by
    obtain ⟨y, hy, rfl⟩ := List.mem_map.mp hz
    exact (h.name hn hy).1
  rwa [List.length_map] at this
theorem lits_short {ns ys : List Str} (h : Lits ns ys) (hn : NmL ns) : ∀ l ∈ ys, l.length ≤ 9 := fun l hl => by
  obtain ⟨h1, h2, h3⟩ := h.name hn hl
  have h4 := nm_len h3
  rcases h2 with e | e
  · rw [e]; omega
  · rw [e]
    show (("-" : Str) ++ nameOf l).length ≤ 9
    rw [← SX.S_tl (nameOf l), neg_S, SX.S_len, List.length_cons]
    have : (nameOf l).cps.toList.length = (nameOf l).length := rfl
    omega
theorem clOk_lits {ns ys : List Str} (hn : NmL ns) (h : Lits ns ys) : ClOk ns ys := ⟨fw_lits (fun y hy => (h.name hn hy).1) h.nd (fun _ _ z => by cases z), Nat.le_trans (lits_len h hn) (Nat.le_trans hn.n (by decide)), fun l hl => Nat.le_trans (lits_short h hn l hl) (by decide)⟩
section
variable {α : Type} [DecidableEq α]
theorem once_inv : ∀ (xs acc : List α), acc.Nodup → (xs.foldl onceP acc).Nodup ∧ ∀ x, x ∈ xs.foldl onceP acc ↔ x ∈ acc ∨ x ∈ xs
  | [], acc, h => ⟨h, fun x => by simp⟩
  | y :: xs, acc, h => by
    rw [List.foldl_cons]
    by_cases hy : y ∈ acc
    · have e : onceP acc y = acc := by unfold onceP; rw [if_pos hy]
      rw [e]
      obtain ⟨h1, h2⟩ := once_inv xs acc h
      refine ⟨h1, fun x => ?_⟩
      rw [h2, List.mem_cons]
      constructor
      · rintro (h | h)
        · exact .inl h
        · exact .inr (.inr h)
      · rintro (h | rfl | h)
        · exact .inl h
        · exact .inl hy
        · exact .inr h
    · have e : onceP acc y = acc ++ [y] := by unfold onceP; rw [if_neg hy]
      rw [e]
      obtain ⟨h1, h2⟩ := once_inv xs (acc ++ [y]) (List.nodup_append.mpr ⟨h, by simp, fun a ha b hb => by rw [List.mem_singleton] at hb; subst hb; exact fun e => hy (e ▸ ha)⟩)
      refine ⟨h1, fun x => ?_⟩
      rw [h2, List.mem_cons, List.mem_append, List.mem_singleton]
      constructor
      · rintro ((h | h) | h)
        · exact .inl h
        · exact .inr (.inl h)
        · exact .inr (.inr h)
      · rintro (h | h | h)
        · exact .inl (.inl h)
        · exact .inl (.inr h)
        · exact .inr h
theorem once_nodup (xs : List α) : (once xs).Nodup := (once_inv xs [] List.nodup_nil).1
theorem mem_once {xs : List α} {x : α} : x ∈ once xs ↔ x ∈ xs := by unfold once; rw [(once_inv xs [] List.nodup_nil).2]; simp
theorem once_self {xs : List α} (h : xs.Nodup) : once xs = xs := by
  have go : ∀ (xs acc : List α), (acc ++ xs).Nodup → xs.foldl onceP acc = acc ++ xs := by
    intro xs
    induction xs with
    | nil => intro acc _; simp
    | cons y xs ih =>
      intro acc h
      have hy : y ∉ acc := fun hy => (List.nodup_append.mp h).2.2 y hy y (List.mem_cons_self ..) rfl
      rw [List.foldl_cons, onceP, if_neg hy, ih (acc ++ [y]) (by simpa using h)]
      simp
  have := go xs [] (by simpa using h)
  simpa [once] using this
end
theorem onceUp_idem (cs : List (List Str)) (ns : List Str) : once ((onceUp cs ns).map fun c => asc c ns) = onceUp cs ns := by
  have e : (onceUp cs ns).map (fun c => asc c ns) = onceUp cs ns := by
    have : ∀ c ∈ onceUp cs ns, asc c ns = c := fun c hc => by
      obtain ⟨d, _, rfl⟩ := List.mem_map.mp (mem_once.mp hc)
      exact asc_asc d ns
    have h2 := List.map_congr_left (l := onceUp cs ns) (f := fun c => asc c ns) (g := id) this
    rw [h2, List.map_id]
  rw [e]
  exact once_self (once_nodup _)
theorem Good.lits {c : CodeD} (g : Good c) : ∀ x ∈ c.clauses, Lits c.names x := fun x hx => by
  obtain ⟨cs, e, h, _⟩ := g.cl
  rw [e] at hx
  obtain ⟨d, hd, rfl⟩ := List.mem_map.mp (mem_once.mp hx)
  exact (h d hd).asc g.nm
theorem Good.made {c : CodeD} (g : Good c) : mkCode c.signs c.helpers c.clauses = c := by
  obtain ⟨cs, e, h, _⟩ := g.cl
  obtain ⟨ss, hs, cl⟩ := c
  have e : cl = onceUp cs (ss ++ hs) := e
  unfold mkCode
  rw [e]
  show CodeD.mk ss hs (once ((onceUp cs (ss ++ hs)).map fun c => asc c (ss ++ hs))) = _
  rw [onceUp_idem]
theorem once_len2 {α : Type} [DecidableEq α] (hs : List α) : (once hs).length ≤ hs.length := by
  have go : ∀ (xs acc : List α), (xs.foldl onceP acc).length ≤ acc.length + xs.length := by
    intro xs
    induction xs with
    | nil => intro acc; exact Nat.le_refl _
    | cons x xs ih =>
      intro acc
      have h1 := ih (onceP acc x)
      have h2 := onceP_len acc x
      rw [List.foldl_cons, List.length_cons]
      omega
  simpa [once] using go hs []
theorem Good.few {c : CodeD} (g : Good c) : c.clauses.length ≤ 100 := by
  obtain ⟨cs, e, h, hl⟩ := g.cl
  rw [e]
  exact Nat.le_trans (once_len2 _) (by rw [List.length_map]; exact hl)
theorem Good.ok {c : CodeD} (g : Good c) : CodeOk c.signs c.helpers c.clauses := by
  have nd := g.nm.nd
  have hn := g.n
  have hl : c.names.length = c.signs.length + c.helpers.length := List.length_append
  obtain ⟨n1, n2, n3⟩ := List.nodup_append.mp (show (c.signs ++ c.helpers).Nodup from nd)
  refine ⟨⟨n1, fun x hx => ⟨g.nm.nm x (List.mem_append_left _ hx), fun h => by cases h⟩, by omega⟩, ⟨n2, fun x hx => ⟨g.nm.nm x (List.mem_append_right _ hx), fun h => n3 x h x hx rfl⟩, by omega⟩, Nat.le_trans g.few (by decide), fun x hx => clOk_lits g.nm (g.lits x hx), ?_⟩
  show c.names.length ≤ 1000
  omega
theorem flat_len : ∀ {xs : List (List Str)} {n : Nat}, (∀ x ∈ xs, x.length ≤ n) → xs.flatten.length ≤ xs.length * n
  | [], _, _ => by simp
  | x :: xs, n, h => by
    rw [List.flatten_cons, List.length_append, List.length_cons, Nat.succ_mul]
    have h1 := h x (List.mem_cons_self ..)
    have h2 := flat_len (xs := xs) fun y hy => h y (List.mem_cons_of_mem _ hy)
    omega
theorem Good.w {c : CodeD} (g : Good c) : CodeW c := by
  have h1 : ∀ x ∈ c.clauses, x.length ≤ 60 := fun x hx => Nat.le_trans (lits_len (g.lits x hx) g.nm) g.n
  have h2 := flat_len h1
  have h3 := g.few
  have h4 : c.clauses.length * 60 ≤ 100 * 60 := Nat.mul_le_mul_right _ h3
  exact ⟨fun x hx => ⟨Nat.le_trans (h1 x hx) (by decide), fun l hl => Nat.le_trans (lits_short (g.lits x hx) g.nm l hl) (by decide)⟩, by omega, by omega, nm_shorts g.nm⟩
end My

set_option Elab.async false
set_option linter.all false
set_option maxRecDepth 100000
set_option maxHeartbeats 4000000
namespace My
open PySem PySem.Spec PyProof.Rows L2 L3
open L3.Strm
structure Gd (mg : Str → Option Value) : Prop extends Gc mg where
  dict : mg "dict" = none
def lpass : List (List Str) → List Str → Option (List Str)
  | [], so => some so
  | c :: r, so => match c.filter (fun l => decide (opp l ∉ so)) with
    | [] => none
    | [l] => lpass r (onceP so l)
    | _ => lpass r so
inductive LChase (cs : List (List Str)) : List Str → Option (List Str) → Prop
  | dead {so} : lpass cs so = none → LChase cs so none
  | done {so so'} : lpass cs so = some so' → ¬ so.length < so'.length → LChase cs so (some so')
  | more {so so' r} : lpass cs so = some so' → so.length < so'.length → LChase cs so' r → LChase cs so r
section
variable {P : Program} {w : World} {K : PySem.W.Frag} {mg : Str → Option Value} {base : Heap}
abbrev s__law_made : Stmt := topS 56
theorem sc__law_made : FnScope ["_law_c"] ["_law_c"] (defScope s__law_made) := ⟨rfl, rfl, rfl, by decide +kernel, rfl, by decide +kernel, by decide +kernel⟩
end
end My

set_option Elab.async false
set_option linter.all false
set_option maxRecDepth 100000
set_option maxHeartbeats 4000000
namespace My
open PySem PySem.Spec PyProof.Rows L2 L3
open L3.Strm
/-- a pair (text, True) in a tuple -/
def PtR : Rl Str := fun x M v => ∃ a, v = .ref a ∧ M a = some (.tup [.str x, .bl true])
instance : Mon PtR := ⟨fun e ⟨a, h, r⟩ => ⟨a, h, e _ _ r⟩⟩
theorem merge_kvT : ∀ (xs acc : List Str), mergeK (kvT acc) (xs.map fun x => ((Sum.inr x : Key), V.bl true)) = kvT (xs.foldl onceP acc)
  | [], acc => rfl
  | x :: xs, acc => by
    have := merge_kvT xs (onceP acc x)
    rw [List.foldl_cons, ← this, ← putK_kvT]
    rfl
/-- dict of a new list of pairs -/
theorem pd_refs {xs : List Str} {M : Hp} {vs : List V} (h : Pd PtR M xs vs) : ∃ ps : List Addr, vs = ps.map V.ref ∧ Paired (fun p x => M p = some (.tup [V.str x, V.bl true])) ps xs := by
  induction h with
  | nil => exact ⟨[], rfl, .nil⟩
  | cons q _ ih =>
    obtain ⟨a, e, r⟩ := q
    obtain ⟨ps, h1, h2⟩ := ih
    exact ⟨a :: ps, by rw [e, h1]; rfl, .cons r h2⟩
section
variable {K : PySem.W.Frag} {σ : Sl} {M : Hp} {te : TE}
theorem gk_dict {xs : List Str} (h : GvL te σ M fun M vs => Pd PtR M xs vs) : GvK (tCB (fun xs H Q => ∃ (a : Addr) (ps : List Addr) (kvs : List (Key × V)), xs = [V.ref a] ∧ SqL K H a (ps.map V.ref) ∧ Paired (fun p kv => SqT K H p [kV kv.1, kv.2]) ps kvs ∧
    ∀ p, H p = none → Q (.ref p) (upd H p (.dK (mergeK [] kvs)))) (tCons te tNil)) σ M (once xs) := fun H mh Q q => h H mh _ fun p vs M' H' g h0 m0 hw r => by
  obtain ⟨ps, e, hp⟩ := pd_refs r
  refine ⟨p, ps, xs.map fun x => ((Sum.inr x : Key), V.bl true), rfl, .inl (.inl (by rw [← e]; exact hw)), ?_, fun D hD => ?_⟩
  · clear q r hw e h
    induction hp with
    | nil => exact .nil
    | cons q _ ih => exact .cons (.inl (.inl (g.mh _ _ q))) ih
  · have e1 := merge_kvT xs []
    have e2 : kvT [] = [] := rfl
    rw [e2] at e1
    rw [e1]
    exact q D M' _ (g.trans (.own g.mh hD)) (g.hh.free hD) (g.mh.free hD) upd_same
theorem gv_neg {i : Int} (h : Gv te σ M (It' i)) : Gv (tUn (rU fun i => .int (-i)) te) σ M (It' (-i)) := fun H mh Q q => h H mh _ fun v M1 H1 g1 p1 => ⟨i, p1, q _ M1 H1 g1 rfl⟩
theorem gv_pt {x : Str} (h : Gv te σ M (Tx x)) : Gv (tTup (tCons te (tCons (tC (.bl true)) tNil))) σ M (PtR x) := fun H mh Q q => h H mh _ fun v M1 H1 g1 p1 => ⟨by show 2 ≤ sizeLine; decide, fun p np => q _ _ _ (g1.trans (.new g1.mh np)) ⟨p, rfl, by rw [upd_same, show v = _ from p1]⟩⟩
theorem gv_lenK {ks : List Str} {p : Addr} {i : Nat} (hi : σ[i]? = some (some (.ref p))) (hp : M p = some (.dK (kvT ks))) : Gv (tCB (rLenA K) (tCons (tVar i) tNil)) σ M (It' (ks.length : Nat)) := fun H mh Q q => ⟨_, hi, .inr (.inr ⟨p, _, rfl, mh _ _ hp, by rw [kvT_len]; exact q _ M H (.refl mh) rfl⟩)⟩
end
theorem boot_dict : bootBuiltins "dict" = some (.type "dict") := by decide +kernel
def leftOf (so c : List Str) : List Str := c.filter fun l => decide (opp l ∉ so)
section
variable {P : Program} {w : World} {K : PySem.W.Frag} {mg : Str → Option Value} {base : Heap}
abbrev s__law_chase : Stmt := topS 54
theorem sc__law_chase : FnScope ["_law_clauses", "_law_half", "_law_so", "_law_many", "_law_clause", "_law_left", "_law_one"] ["_law_clauses", "_law_half"] (defScope s__law_chase) := ⟨rfl, rfl, rfl, by decide +kernel, rfl, by decide +kernel, by decide +kernel⟩
def sp__law_chase (K : PySem.W.Frag) : Sp := sp2 (SqR K (SqR K Tx)) (SqR K Tx) ChOk fun cs hs M v => ∃ r, LChase cs (once hs) r ∧ OpR' (LiR Tx) r M v
theorem ok__law_chase {f : Addr} {fd : FuncData} (F : Fun K "_law_chase" "_law_chase" s__law_chase f fd) (T : Gd mg) (c__law_neg : Cal P w K mg base 1 "_law_neg" ["_law_one"] (sp__law_neg K)) : FnOk P w K mg base CX0 2 f fd ["_law_clauses", "_law_half"] (sp__law_chase K) := by
  refine F.ok sc__law_chase (fun vs H Q E h => ?_) (fun cdv A outer s H vs Q E hr h => ?_)
  · obtain ⟨x, y, M, v, w, rfl, _⟩ := h
    rfl
  · obtain ⟨cs, hs, M, v, w, rfl, mh, r1, r2, ok, q⟩ := h
    have hu := hr.units
    refine ⟨_, (pss_cons (ps_asg (pe_tup (pa_cons (pe_callTy (call_dictP (by rfl)) (by rfl) T.dict boot_dict (pa_cons (pe_lc (own := [("_law_one", 6)]) (g := (gName 6)) (tt := tYes) (te := (tTup (tCons (tVar 6) (tCons (tC (.bl true)) tNil)))) (by rfl) sc__law_chase.nd (pi_sq (pv 1)) (blkOk_by (by rfl)) (fun _ _ _ _ _ => (pg_name (i := 6) sc__law_chase.nd rfl (by first | exact .inl rfl | exact .inr rfl))) (fun _ _ _ _ _ => pts_nil) (fun _ _ _ _ _ => (pe_tup (pa_cons (pv 6) (pa_cons pe_bl pa_nil))))) pa_nil)) (pa_cons (pe_un un_neg pe_int) pa_nil))) (pg_tup (by rfl) (pgs_cons (pg_name (i := 2) sc__law_chase.nd rfl (by first | exact .inl rfl | exact .inr rfl)) (pgs_cons (pg_name (i := 3) sc__law_chase.nd rfl (by first | exact .inl rfl | exact .inr rfl)) pgs_nil))))
      (pss_cons (ps_while PassesOwn.never (pt_cmpR op_lt (pv 3) (pe_callB call_lenA (by rfl) T.len boot_len (pa_cons (pv 2) pa_nil)) (nomark _)) (pss_cons (ps_set (i := 3) sc__law_chase.nd rfl (by first | exact .inl rfl | exact .inr rfl) (pe_callB call_lenA (by rfl) T.len boot_len (pa_cons (pv 2) pa_nil)))
      (pss_one (ps_for PassesOwn.never (by rfl) (pi_sq (pv 0)) (pg_name (i := 4) sc__law_chase.nd rfl (by first | exact .inl rfl | exact .inr rfl)) (pss_cons (ps_setLc (i := 5) (own := [("_law_one", 6)]) (g := (gName 6)) (tt := (tTest (tOp (rInA K true) (tCall (sp__law_neg K) [] E0 (tCons (tVar 6) tNil)) (tVar 2)))) (te := (tVar 6)) (by rfl) sc__law_chase.nd rfl rfl (sw_true rfl rfl rfl (by decide +kernel)) (pi_sq (pv 4)) (blkOk_by (by rfl)) (fun _ _ _ _ _ => (pg_name (i := 6) sc__law_chase.nd rfl (by first | exact .inl rfl | exact .inr rfl))) (fun _ _ _ _ _ => (pts_one (pt_cmpR (op_niA hu) (pe_f c__law_neg (hr.mono (by decide)) (pa_cons (pv 6) pa_nil)) (pv 2) (by rfl)))) (fun _ _ _ _ _ => (pv 6)))
      (pss_cons (ps_if (pt_cmpR (op_eqP hu) (pv 5) (pe_lst pa_nil) (nomark _)) (pss_one (ps_ret pe_non)) pss_nil)
      (pss_one (ps_if (pt_cmpR (op_eqP hu) (pe_callB call_lenA (by rfl) T.len boot_len (pa_cons (pv 5) pa_nil)) pe_int (nomark _)) (pss_one (ps_dput (Nat.lt_of_le_of_lt (Nat.add_le_add_left (by decide) _) hu) (pv 2) (pe_ix ix_X (pv 5) pe_int (fun _ _ => rfl)) pe_bl rfl)) pss_nil))))))))
      (pss_one (ps_ret (pe_callTy (call_listD (by rfl)) (by rfl) T.list boot_list (pa_cons (pv 2) pa_nil)))))), ?_⟩
    have hlo : (once hs).length ≤ 1000000 := Nat.le_trans (once_len' hs) ok.h
    have mul : mu cs (once hs) ≤ 1000000 := Nat.le_trans (List.length_filter_le _ _) ok.n
    -- so, many = dict([..]), -1
    have hgl : GvL (tLc (iSq K (tVar 1)) (gName 6) tYes (tTup (tCons (tVar 6) (tCons (tC (.bl true)) tNil))) [6]) (start ["_law_clauses", "_law_half", "_law_so", "_law_many", "_law_clause", "_law_left", "_law_one"] [v, w]) M fun M ws => Pd PtR M hs ws := by
      have := gl_m1 (R := Tx) (S := PtR) (j := 6) (σ := start ["_law_clauses", "_law_half", "_law_so", "_law_many", "_law_clause", "_law_left", "_law_one"] [v, w]) (M := M) (te := tTup (tCons (tVar 6) (tCons (tC (.bl true)) tNil))) (xs := hs) (gi_sq (K := K) (ts := tVar 1) (gv_var rfl r2)) (szM (Nat.le_trans ok.h (by decide))) id fun x _ M1 v sm r => gv_pt (gv_var rfl r)
      rw [List.map_id] at this
      exact this
    refine q_asg2 (a_K mh (gk_dict (K := K) hgl) fun p M1 H1 g1 hp0 hpm hpk => a_V (P := It' (-1)) g1.mh (gv_neg (gv_c rfl)) fun vm M2 H2 g2 r2m => a_nil (fin2 fun t nt => ?_))
    cases r2m
    have G2 := (g1.trans g2).trans (.own (o := .tup [.ref p, .int (-1)]) g2.mh nt)
    have k2 : OwnK H M2 (upd H2 t (.tup [.ref p, .int (-1)])) p (once hs) := (OwnK.step (H0 := H) ⟨hp0, hpm, hpk⟩ g2).step (.own g2.mh nt)
    revert G2 k2
    generalize upd H2 t (.tup [.ref p, .int (-1)]) = H3
    intro G2 k2
    refine q_while (M := M2) (m0 := 2 * mu cs (once hs) + 1) (fun m σ' M' H' => ∃ (so : List Str) (many : Int) (y4 y5 : Option V), m = 2 * mu cs so + (if many < so.length then 1 else 0) ∧ Gr M H M' H' ∧ OwnK H M' H' p so ∧ σ' = [some v, some w, some (.ref p), some (.int many), y4, y5, none] ∧
      (∀ r, (if many < so.length then LChase cs so r else r = some so) → LChase cs (once hs) r) ∧ so.length + mu cs so ≤ (once hs).length + mu cs (once hs))
      ⟨once hs, -1, _, _, by rw [if_pos (by omega)], G2, k2, rfl, fun r h => by rw [if_pos (by omega)] at h; exact h, Nat.le_refl _⟩ ?_
    rintro m σ' M' H' ⟨so, many, y4, y5, rfl, g, k, rfl, hch, hmu⟩
    refine ⟨decide (many < so.length), _, k.lent g.mh, gt_test (gv_lt (gv_var rfl rfl) (gv_lenK (K := K) rfl upd_same)), fun hb H4 hh4 => ?_, fun hb H4 hh4 => ?_⟩
    · have hlt : many < so.length := by simpa using hb
      have hch : ∀ r, LChase cs so r → LChase cs (once hs) r := fun r h => hch r (by rw [if_pos hlt]; exact h)
      have g4 := g.trans (.idle g.mh hh4)
      have k4 := k.idle hh4
      refine q_asgK (P := It' (so.length : Nat)) g4.mh k4.m k4.h (gv_lenK (K := K) rfl upd_same) fun v5 M5 H5 g5 r5 => ?_
      cases r5
      have G5 := g4.trans g5
      have k5 := k4.step g5
      refine s_for (R1 := SqR K Tx) (xs := cs) g5.mh (gv_var rfl (Mon.mono G5.mm r1))
        (fun M1' i σ' M' H' => ∃ so2 y4 y5, Gr M H M' H' ∧ Same M1' M' ∧ Same M M' ∧ OwnK H M' H' p so2 ∧ σ' = [some v, some w, some (.ref p), some (.int (so.length : Nat)), y4, y5, none] ∧
          lpass cs so = lpass (cs.drop i) so2 ∧ (so2 = so ∨ (so.length < so2.length ∧ mu cs so2 < mu cs so)) ∧ so2.length + mu cs so2 ≤ (once hs).length + mu cs (once hs))
        (fun M6 H6 g6 => ⟨so, _, _, G5.trans g6, Same.refl _, (G5.trans g6).mm, k5.step g6, rfl, rfl, .inl rfl, hmu⟩)
        (fun M6 i σ' M' H' ⟨_, _, _, g, s1, _⟩ => ⟨s1, g.mh⟩) ?_ ?_
      · rintro M6 i c v' σ' M' H' sM hx ⟨so2, y4, y5, g, s1, s2, k2, rfl, el, hor, hmu2⟩ rx
        have hxm : c ∈ cs := List.mem_of_getElem? hx
        have hil : i < cs.length := (List.getElem?_eq_some_iff.mp hx).1
        have ed : cs.drop i = c :: cs.drop (i + 1) := by rw [List.drop_eq_getElem_cons hil]; congr 1; exact (List.getElem?_eq_some_iff.mp hx).2
        have hsh := ok.c c hxm
        have up : Same M' (upd M' p (.dK (kvT so2))) := same_new k2.m
        -- left = [..]
        refine q_asgK (P := LiR Tx (leftOf so2 c)) g.mh k2.m k2.h ((gl_lc (K := K) (R := Tx) (S := Tx) (gv_var rfl (Mon.mono up rx)) (szM (Nat.le_trans hsh.1 (by decide))) (fun l => decide (opp l ∉ so2)) id
          (fun l hl M1 vl sm rl => gt_is (gt_test (gv_inA (K := K) (neg := true) (gv_call1 (R1 := Tx) (pre := fun x => x.length ≤ 1000) (R := fun x => Tx (opp x)) (gv_var rfl rl) (hsh.2 l hl)) (gv_var rfl (Mon.mono sm OwnK.ct)))) (by simp)) fun l _ _ M1 vl sm rl => gv_var rfl rl).gv fun M' vs p hp m => ?_) fun v7 M7 H7 g7 r7 => ?_
        · rw [List.map_id] at hp
          exact ⟨p, vs, rfl, upd_same, hp.mono (same_new m)⟩
        have G7 := g.trans g7
        have k7 := k2.step g7
        have hd7 : Dp K M7 v7 (.list ((leftOf so2 c).map .str)) := py_lst py_str _ _ _ r7.lst
        refine q_if0 (b := decide (leftOf so2 c = [])) G7.mh (gt_test (gv_is (gv_eq (K := K) (neg := false) (d := .list ((leftOf so2 c).map .str)) (e := .list []) (gv_var rfl hd7) gv_nilD (depthO (some _))) fun M v h => by
            rw [show v = _ from h]
            have := optD_eq (some (leftOf so2 c)) []
            simp only [optD, List.map_nil] at this
            rw [this]; simp)) (fun hb8 H8 hh8 => ?_) (fun hb8 H8 hh8 => ?_)
        · have e0 : leftOf so2 c = [] := by simpa using hb8
          have g8 := G7.trans (.idle G7.mh hh8)
          refine s_ret (P := fun _ v => v = .non) g8.mh (gv_c rfl) fun v9 M9 H9 g9 r9 => q v9 M9 H9 (g8.trans g9) ⟨none, hch _ (.dead ?_), r9⟩
          rw [el, ed, lpass]
          unfold leftOf at e0
          rw [e0]
        · have hne : leftOf so2 c ≠ [] := by simpa using hb8
          have g8 := G7.trans (.idle G7.mh hh8)
          have k8 := k7.idle hh8
          refine s_if0 (b := decide ((leftOf so2 c).length = 1)) g8.mh (gt_test (gv_is (gv_eqT (K := K) (neg := false) py_int inj_int (gv_lenA (K := K) (gv_var rfl (r7.sq (K := K)))) (gv_c rfl) (by simp [PyData.depth])) fun M v h => ?_)) (fun hb9 H9 hh9 => ?_) (fun hb9 H9 hh9 => ?_)
          · rw [show v = _ from h]
            simp only [Bool.false_bne, V.bl.injEq, decide_eq_decide]
            omega
          · obtain ⟨l, hl⟩ : ∃ l, leftOf so2 c = [l] := by
              match leftOf so2 c, hb9 with
              | [l], _ => exact ⟨l, rfl⟩
              | [], h => simp at h
              | _ :: _ :: _, h => simp at h
            have g9 := g8.trans (.idle g8.mh hh9)
            have k9 := k8.idle hh9
            rw [hl] at r7
            have hlc : l ∈ c := by
              have : l ∈ leftOf so2 c := by rw [hl]; simp
              exact (List.mem_filter.mp this).1
            refine s_dputT (l := l) g9.mh rfl k9.h (szL (by omega)) (gv_ix (K := K) (R := Tx) (xs := [l]) (i := 0) (gv_var rfl (r7.sq (K := K))) (gv_c rfl) rfl) fun M10 H10 g10 => ?_
            have k10 := k9.step g10
            refine ⟨M10, onceP so2 l, _, _, (g9.trans g10).mut k10.h0 k10.m, s1.trans (g7.mm.trans g10.mm), s2.trans (g7.mm.trans g10.mm), k10.put, rfl, ?_, ?_, ?_⟩
            · rw [el, ed, lpass]
              unfold leftOf at hl
              rw [hl]
            · by_cases hin : l ∈ so2
              · rw [show onceP so2 l = so2 from if_pos hin]; exact hor
              · have h1 := mu_put hxm hlc hin
                rw [onceP_new hin]
                refine .inr ?_
                rw [List.length_append, List.length_singleton]
                rcases hor with rfl | hor
                · exact ⟨by omega, h1⟩
                · exact ⟨by omega, by omega⟩
            · by_cases hin : l ∈ so2
              · rw [show onceP so2 l = so2 from if_pos hin]; exact hmu2
              · have h1 := mu_put hxm hlc hin
                rw [onceP_new hin, List.length_append, List.length_singleton]
                omega
          · refine ⟨M7, so2, _, _, g8.trans (.idle g8.mh hh9), s1.trans g7.mm, s2.trans g7.mm, k8.idle hh9, rfl, ?_, hor, hmu2⟩
            rw [el, ed, lpass]
            unfold leftOf at hne hb9
            match hm : c.filter (fun l => decide (opp l ∉ so2)), hne, hb9 with
            | [], h, _ => exact absurd rfl h
            | [l], _, h => simp at h
            | _ :: _ :: _, _, _ => rfl
      · rintro M6 σ' M' H' sM ⟨so2, y4, y5, g, s1, s2, k2, rfl, el, hor, hmu2⟩
        rw [List.drop_length, lpass] at el
        refine ⟨_, M', ?_, so2, (so.length : Int), y4, y5, rfl, g, k2, rfl, fun r hr => hch r ?_, hmu2⟩
        · rw [if_pos hlt]
          rcases hor with rfl | ⟨h1, h2⟩
          · rw [if_neg (by omega)]; omega
          · rw [if_pos (by omega)]; omega
        · by_cases hl2 : so.length < so2.length
          · rw [if_pos (by omega)] at hr; exact .more el hl2 hr
          · rw [if_neg (by omega)] at hr; subst hr; exact .done el hl2
    · have hge : ¬ many < so.length := by simpa using hb
      have hch : ∀ r, r = some so → LChase cs (once hs) r := fun r h => hch r (by rw [if_neg hge]; exact h)
      have g4 := g.trans (.idle g.mh hh4)
      have k4 := k.idle hh4
      refine ⟨.ref p, rfl, p, kvT so, rfl, .inl k4.h, fun t nt => ?_⟩
      have ek : (kvT so).map (fun kv => kV kv.1) = so.map V.str := by unfold kvT; rw [List.map_map]; rfl
      rw [ek]
      exact q _ _ _ (g4.trans (.new g4.mh nt)) ⟨some so, hch _ rfl, t, _, rfl, upd_same, pd_of_tx so⟩
end
end My

set_option Elab.async false
set_option linter.all false
set_option maxRecDepth 100000
set_option maxHeartbeats 4000000
namespace My
open PySem PySem.Spec PyProof.Rows L2 L3
/-! following as a least closed set -/
inductive Der (cs : List (List Str)) (hs : List Str) : Str → Prop
  | base {x} : x ∈ hs → Der cs hs x
  | step {c l} : c ∈ cs → l ∈ c → (∀ m ∈ c, m ≠ l → Der cs hs (opp m)) → Der cs hs l
def Dead (cs : List (List Str)) (hs : List Str) : Prop := ∃ c ∈ cs, ∀ m ∈ c, Der cs hs (opp m)
/-- a literal of names -/
def LitN (ns : List Str) (x : Str) : Prop := ∃ n ∈ ns, x = n ∨ x = ("-" : Str) ++ n
theorem opp_opp {ns : List Str} (hn : NmL ns) {x : Str} (h : LitN ns x) : opp (opp x) = x ∧ opp x ≠ x := by
  obtain ⟨n, hnn, h | h⟩ := h
  · subst h
    have hm := hn.nm x hnn
    rw [opp_nm hm, opp_neg hm]
    exact ⟨rfl, fun e => neg_ne hm e.symm⟩
  · subst h
    have hm := hn.nm n hnn
    rw [opp_neg hm, opp_nm hm]
    exact ⟨rfl, fun e => neg_ne hm e⟩
structure Ctx (ns : List Str) (cs : List (List Str)) (hs : List Str) : Prop where
  nm : NmL ns
  c : ∀ c ∈ cs, Lits ns c
  h : Lits ns hs
theorem lits_nodup {ns ys : List Str} (h : Lits ns ys) : ys.Nodup := by
  have := h.nd
  rw [List.Nodup, List.pairwise_map] at this
  exact List.Pairwise.imp (fun hne e => hne (by rw [e])) this
/-- what is so -/
structure So (ns : List Str) (cs : List (List Str)) (hs so : List Str) : Prop where
  sub : ∀ x ∈ hs, x ∈ so
  snd : ∀ x ∈ so, Der cs hs x
  lit : ∀ x ∈ so, LitN ns x
  con : ∀ x ∈ so, opp x ∉ so
  nd : so.Nodup
variable {ns : List Str} {cs : List (List Str)} {hs so c : List Str} {l : Str}
theorem So.init (X : Ctx ns cs hs) : So ns cs hs hs := by
  refine ⟨fun _ h => h, fun _ h => .base h, fun x hx => X.h.of x hx, fun x hx ho => ?_, lits_nodup X.h⟩
  obtain ⟨h1, h2, h3⟩ := X.h.name X.nm hx
  obtain ⟨h4, h5, h6⟩ := X.h.name X.nm ho
  have hne := (opp_opp X.nm (X.h.of x hx)).2
  have e : nameOf (opp x) = nameOf x := by
    rcases h2 with e | e
    · rw [e, opp_nm h3, nameOf_neg h3, nameOf_nm h3]
    · rw [e, opp_neg h3, nameOf_nm h3, nameOf_neg h3]
  exact hne (nodup_inj X.h.nd _ ho _ hx e)
theorem mem_left {so c : List Str} {l : Str} : l ∈ leftOf so c ↔ l ∈ c ∧ opp l ∉ so := by unfold leftOf; rw [List.mem_filter]; simp
theorem left_one (X : Ctx ns cs hs) (S : ∀ x ∈ so, Der cs hs x) (hc : c ∈ cs) (h : leftOf so c = [l]) : Der cs hs l := by
  have hl : l ∈ leftOf so c := by rw [h]; simp
  refine .step hc (mem_left.mp hl).1 fun m hm hne => ?_
  by_cases ho : opp m ∈ so
  · exact S _ ho
  · have : m ∈ leftOf so c := mem_left.mpr ⟨hm, ho⟩
    rw [h, List.mem_singleton] at this
    exact absurd this hne
theorem left_none (S : ∀ x ∈ so, Der cs hs x) (hc : c ∈ cs) (h : leftOf so c = []) : Dead cs hs := ⟨c, hc, fun m hm => by
  by_cases ho : opp m ∈ so
  · exact S _ ho
  · have : m ∈ leftOf so c := mem_left.mpr ⟨hm, ho⟩
    rw [h] at this
    cases this⟩
theorem So.put (X : Ctx ns cs hs) (S : So ns cs hs so) (hc : c ∈ cs) (h : leftOf so c = [l]) (hl : l ∉ so) : So ns cs hs (so ++ [l]) := by
  have hm : l ∈ leftOf so c := by rw [h]; simp
  obtain ⟨h1, h2⟩ := mem_left.mp hm
  have hlit : LitN ns l := (X.c c hc).of l h1
  have hoo := opp_opp X.nm hlit
  refine ⟨fun x hx => List.mem_append_left _ (S.sub x hx), fun x hx => ?_, fun x hx => ?_, fun x hx ho => ?_, ?_⟩
  · rcases List.mem_append.mp hx with hx | hx
    · exact S.snd x hx
    · rw [List.mem_singleton] at hx; subst hx; exact left_one X S.snd hc h
  · rcases List.mem_append.mp hx with hx | hx
    · exact S.lit x hx
    · rw [List.mem_singleton] at hx; subst hx; exact hlit
  · rcases List.mem_append.mp hx with hx | hx
    · rcases List.mem_append.mp ho with ho | ho
      · exact S.con x hx ho
      · rw [List.mem_singleton] at ho
        have := (opp_opp X.nm (S.lit x hx)).1
        rw [ho] at this
        exact h2 (by rw [this]; exact hx)
    · rw [List.mem_singleton] at hx
      subst hx
      rcases List.mem_append.mp ho with ho | ho
      · exact h2 ho
      · rw [List.mem_singleton] at ho; exact hoo.2 ho
  · exact List.nodup_append.mpr ⟨S.nd, by simp, fun a ha b hb => by rw [List.mem_singleton] at hb; subst hb; exact fun e => hl (e ▸ ha)⟩
/-- closed -/
def Closed (cs : List (List Str)) (so : List Str) : Prop := ∀ c ∈ cs, leftOf so c ≠ [] ∧ ∀ l, leftOf so c = [l] → l ∈ so
theorem nodup_one {l : Str} : ∀ {xs : List Str}, xs.Nodup → (∀ x ∈ xs, x = l) → xs = [] ∨ xs = [l]
  | [], _, _ => .inl rfl
  | [x], _, h => .inr (by rw [h x (by simp)])
  | x :: y :: r, nd, h => by
    have h1 := h x (by simp)
    have h2 := h y (by simp)
    rw [h1, h2] at nd
    simp at nd
theorem der_in (X : Ctx ns cs hs) (hsub : ∀ x ∈ hs, x ∈ so) (hcl : Closed cs so) {x : Str} (h : Der cs hs x) : x ∈ so := by
  induction h with
  | base h => exact hsub _ h
  | @step c l hc hl _ ih =>
    obtain ⟨h1, h2⟩ := hcl c hc
    have : ∀ m ∈ leftOf so c, m = l := fun m hm => by
      obtain ⟨h3, h4⟩ := mem_left.mp hm
      by_cases e : m = l
      · exact e
      · exact absurd (ih m h3 e) h4
    have nd : (leftOf so c).Nodup := (lits_nodup (X.c c hc)).sublist List.filter_sublist
    rcases nodup_one nd this with e | e
    · exact absurd e h1
    · exact h2 l e
theorem not_dead (X : Ctx ns cs hs) (hsub : ∀ x ∈ hs, x ∈ so) (hcl : Closed cs so) : ¬ Dead cs hs := fun ⟨c, hc, h⟩ => by
  refine (hcl c hc).1 ?_
  have : ∀ m, m ∉ leftOf so c := fun m hm => by
    obtain ⟨h3, h4⟩ := mem_left.mp hm
    exact h4 (der_in X hsub hcl (h m h3))
  exact List.eq_nil_iff_forall_not_mem.mpr this
/-! the law's following -/
theorem lpass_ok (X : Ctx ns cs hs) : ∀ (rest : List (List Str)) (so : List Str), (∀ c ∈ rest, c ∈ cs) → So ns cs hs so → match lpass rest so with
    | none => Dead cs hs
    | some so' => So ns cs hs so' ∧ so.length ≤ so'.length ∧ (¬ so.length < so'.length → so' = so ∧ ∀ c ∈ rest, leftOf so c ≠ [] ∧ ∀ l, leftOf so c = [l] → l ∈ so)
  | [], so, _, S => ⟨S, Nat.le_refl _, fun _ => ⟨rfl, fun c hc => by cases hc⟩⟩
  | c :: rest, so, hr, S => by
    have hc := hr c (List.mem_cons_self ..)
    have hr' := fun d hd => hr d (List.mem_cons_of_mem _ hd)
    rw [lpass]
    match hl : c.filter (fun l => decide (opp l ∉ so)) with
    | [] => exact left_none S.snd hc hl
    | [l] =>
      have hl' : leftOf so c = [l] := hl
      by_cases hin : l ∈ so
      · have e : onceP so l = so := if_pos hin
        simp only [e]
        have ih := lpass_ok X rest so hr' S
        revert ih
        cases lpass rest so with
        | none => exact fun h => h
        | some so' =>
          rintro ⟨h1, h2, h3⟩
          refine ⟨h1, h2, fun h => ⟨(h3 h).1, fun d hd => ?_⟩⟩
          rcases List.mem_cons.mp hd with rfl | hd
          · rw [hl']; exact ⟨by simp, fun m hm => by cases hm; exact hin⟩
          · exact (h3 h).2 d hd
      · have e : onceP so l = so ++ [l] := if_neg hin
        simp only [e]
        have ih := lpass_ok X rest (so ++ [l]) hr' (S.put X hc hl' hin)
        revert ih
        cases lpass rest (so ++ [l]) with
        | none => exact fun h => h
        | some so' =>
          rintro ⟨h1, h2, _⟩
          rw [List.length_append, List.length_singleton] at h2
          exact ⟨h1, by omega, fun h => absurd (by omega) h⟩
    | a :: b :: r =>
      have hl' : leftOf so c = a :: b :: r := hl
      simp only
      have ih := lpass_ok X rest so hr' S
      revert ih
      cases lpass rest so with
      | none => exact fun h => h
      | some so' =>
        rintro ⟨h1, h2, h3⟩
        refine ⟨h1, h2, fun h => ⟨(h3 h).1, fun d hd => ?_⟩⟩
        rcases List.mem_cons.mp hd with rfl | hd
        · rw [hl']; exact ⟨by simp, fun m hm => by simp at hm⟩
        · exact (h3 h).2 d hd
/-- how a following ends -/
def EndsOk (ns : List Str) (cs : List (List Str)) (hs : List Str) : Option (List Str) → Prop
  | none => Dead cs hs
  | some so => ¬ Dead cs hs ∧ (∀ x, x ∈ so ↔ Der cs hs x) ∧ So ns cs hs so
theorem ends_some (X : Ctx ns cs hs) (S : So ns cs hs so) (hcl : Closed cs so) : EndsOk ns cs hs (some so) := ⟨not_dead X S.sub hcl, fun x => ⟨S.snd x, der_in X S.sub hcl⟩, S⟩
theorem lchase_ok (X : Ctx ns cs hs) {r : Option (List Str)} (h : LChase cs so r) (S : So ns cs hs so) : EndsOk ns cs hs r := by
  induction h with
  | @dead so e =>
    have := lpass_ok X cs so (fun _ h => h) S
    rw [e] at this
    exact this
  | @done so so' e hn =>
    have := lpass_ok X cs so (fun _ h => h) S
    rw [e] at this
    obtain ⟨h1, h2, h3⟩ := this
    obtain ⟨e1, h4⟩ := h3 hn
    rw [e1]
    exact ends_some X S h4
  | @more so so' r e _ _ ih =>
    have := lpass_ok X cs so (fun _ h => h) S
    rw [e] at this
    exact ih this.1
/-! the program's following -/
end My

set_option Elab.async false
set_option linter.all false
set_option maxRecDepth 100000
set_option maxHeartbeats 4000000
namespace My
open PySem PySem.Spec PyProof.Rows L2 L3
/-! the plain functions -/
def fullP (acc : List (List Str)) (n : Str) : List (List Str) := acc.flatMap fun s => [n, ("-" : Str) ++ n].map fun l => s ++ [l]
def fulls (ns : List Str) : List (List Str) := ns.foldl fullP [[]]
def liesIn (p c : List Str) : Bool := p.all fun l => decide (l ∈ c)
def meets (c s : List Str) : Bool := c.any fun l => decide (l ∈ s)
def isCons (c : List Str) (ss : List (List Str)) : Bool := ss.all fun s => meets c s
def fits (ss : List (List Str)) (h : List Str) : List (List Str) := ss.filter fun s => liesIn h s
def forcedL (ss : List (List Str)) (h : List Str) : Option (List Str) := match fits ss h with
  | [] => none
  | s :: r => some (s.filter fun l => decide (l ∉ h) && (s :: r).all fun z => decide (l ∈ z))
def stepH (ns : List Str) (p : List Str × Nat) : List (List Str × Nat) := (List.range' p.2 (ns.length - p.2)).flatMap fun a => [ns.getD a "", ("-" : Str) ++ ns.getD a ""].map fun l => (p.1 ++ [l], a + 1)
def nextH (ns : List Str) (lv : List (List Str × Nat)) : List (List Str × Nat) := lv.flatMap (stepH ns)
def halfGo (ns : List Str) : Nat → List (List Str × Nat) → List (List Str) → List (List Str)
  | 0, _, found => found
  | m + 1, lv, found => halfGo ns m (nextH ns lv) (found ++ (nextH ns lv).map (·.1))
def halves (ns : List Str) : List (List Str) := halfGo ns ns.length [([], 0)] [[]]
def shortP (ss : List (List Str)) (found : List (List Str)) (c : List Str) : List (List Str) := if (!found.any fun o => liesIn o c) && isCons c ss then found ++ [c] else found
def shortestL (ns : List Str) (ss : List (List Str)) : List (List Str) := (halves ns).foldl (shortP ss) []
section
variable {K : PySem.W.Frag} {σ : Sl} {M : Hp} {te ta tb : TE} {α : Type} {R : Rl α}
theorem _root_.L3.GvL.li [Mon R] {xs : List α} (h : GvL te σ M fun M ws => Pd R M xs ws) : Gv te σ M (LiR R xs) := h.gv fun M vs p r m => ⟨p, vs, rfl, upd_same, r.mono (same_new m)⟩
theorem _root_.L3.GvK.gv {ks : List Str} (h : GvK te σ M ks) : Gv te σ M (DcR ks) := fun H mh Q q => h H mh Q fun p M' H' g h0 m0 hw => q _ _ H' (g.freeze h0 m0 hw) ⟨p, rfl, .inl upd_same⟩
theorem gl_one [Mon R] {x : α} (h : Gv te σ M (R x)) : GvL (tLst (tCons te tNil)) σ M fun M ws => Pd R M [x] ws := fun H mh Q q =>
  h H mh _ fun v M1 H1 g1 p1 => ⟨by show 1 ≤ sizeLine; decide, fun p np => q p [v] M1 _ (g1.trans (.own g1.mh np)) (g1.hh.free np) (g1.mh.free np) upd_same (.cons p1 .nil)⟩
theorem gl_twoL [Mon R] {x y : α} (h1 : Gv ta σ M (R x)) (h2 : Gv tb σ M (R y)) : GvL (tLst (tCons ta (tCons tb tNil))) σ M fun M ws => Pd R M [x, y] ws := fun H mh Q q =>
  h1 H mh _ fun v M1 H1 g1 p1 => h2.le g1.mm H1 g1.mh _ fun u M2 H2 g2 p2 => ⟨by show 2 ≤ sizeLine; decide, fun p np => q p [v, u] M2 _ ((g1.trans g2).trans (.own g2.mh np)) ((g1.trans g2).hh.free np) (g2.mh.free np) upd_same (.cons (Mon.mono g2.mm p1) (.cons p2 .nil))⟩
theorem gv_tup1 {x : Str} (h : Gv te σ M (Tx x)) : Gv (tTup (tCons te tNil)) σ M (TT [x]) := fun H mh Q q =>
  h H mh _ fun v M1 H1 g1 p1 => ⟨by show 1 ≤ sizeLine; decide, fun p np => q _ _ _ (g1.trans (.new g1.mh np)) (by cases (show v = _ from p1); exact TT.new [x])⟩
theorem szK {n : Nat} (h : n ≤ 1000000) : n ≤ sizeLine := szM (Nat.le_trans h (by decide))
theorem flat2_len {α β : Type} (xs : List α) (f : α → β) (g : α → β) : (xs.flatMap fun x => [f x, g x]).length = 2 * xs.length := by
  induction xs with
  | nil => rfl
  | cons x xs ih => rw [List.flatMap_cons, List.length_append, ih]; simp only [List.length_cons, List.length_nil]; omega
theorem py_LTT {K : PySem.W.Frag} : PyR K (LiR TT) fun xs => .list (xs.map fun c => .tuple (c.map .str)) := fun xs M v h => py_lst py_TT _ _ _ h.lst
theorem inj_LTT : Inj fun xs : List (List Str) => PyData.list (xs.map fun c => .tuple (c.map .str)) := inj_lst inj_TT
theorem gv_nilL {R : Rl α} : Gv (tLst tNil) σ M (LiR R []) := gl_nil.gv fun M vs p h m => by subst h; exact ⟨p, [], rfl, upd_same, .nil⟩
end
end My

set_option Elab.async false
set_option linter.all false
set_option maxRecDepth 100000
set_option maxHeartbeats 4000000
namespace My
open PySem PySem.Spec PyProof.Rows L2 L3
theorem depthT : ∀ xs : List (List Str), PyData.depthAll (xs.map fun c => .tuple (c.map .str)) ≤ 1
  | [] => by simp [PyData.depthAll]
  | c :: r => by
    have := depthT r
    simp only [List.map_cons, PyData.depthAll, PyData.depth, depthS]
    omega
theorem depth_LTT (xs : List (List Str)) : (PyData.list (xs.map fun c => .tuple (c.map .str))).depth ≤ 60 := by
  have := depthT xs
  simp only [PyData.depth]
  omega
section
variable {P : Program} {w : World} {K : PySem.W.Frag} {mg : Str → Option Value} {base : Heap}
theorem fulls_len (ns : List Str) : (fulls ns).length = 2 ^ ns.length := by
  have go : ∀ (ns : List Str) (acc : List (List Str)), (ns.foldl fullP acc).length = acc.length * 2 ^ ns.length := by
    intro ns
    induction ns with
    | nil => intro acc; simp
    | cons n ns ih =>
      intro acc
      rw [List.foldl_cons, ih, List.length_cons, Nat.pow_succ]
      have : (fullP acc n).length = acc.length * 2 := by
        unfold fullP
        induction acc with
        | nil => rfl
        | cons a acc ih => rw [List.flatMap_cons, List.length_append, ih, List.length_cons]; simp; omega
      rw [this, Nat.mul_assoc, Nat.mul_comm 2]
  have := go ns [[]]
  simpa [fulls] using this
theorem fulls_take {ns : List Str} {i : Nat} {n : Str} (h : ns[i]? = some n) : fulls (ns.take (i + 1)) = fullP (fulls (ns.take i)) n := by
  unfold fulls
  rw [List.take_add_one, h, List.foldl_append]
  rfl
theorem fulls_each : ∀ (ns : List Str), ∀ s ∈ fulls ns, s.length = ns.length := by
  have go : ∀ (ns : List Str) (acc : List (List Str)) (k : Nat), (∀ s ∈ acc, s.length = k) → ∀ s ∈ ns.foldl fullP acc, s.length = k + ns.length := by
    intro ns
    induction ns with
    | nil => intro acc k h s hs; exact h s hs
    | cons n ns ih =>
      intro acc k h s hs
      rw [List.foldl_cons] at hs
      have := ih (fullP acc n) (k + 1) (fun z hz => by
        obtain ⟨y, hy, hz⟩ := List.mem_flatMap.mp hz
        obtain ⟨l, _, rfl⟩ := List.mem_map.mp hz
        rw [List.length_append, h y hy]; rfl) s hs
      rw [this, List.length_cons]; omega
  intro ns s hs
  have := go ns [[]] 0 (by simp) s hs
  omega
end
end My

set_option Elab.async false
set_option linter.all false
set_option maxRecDepth 100000
set_option maxHeartbeats 8000000
namespace My
open PySem PySem.Spec PyProof.Rows L2 L3
abbrev NtR : Rl Nat := fun i => It' (i : Nat)
instance : Mon NtR := ⟨fun _ h => h⟩
/-- the state between two levels; m levels are still to come -/
structure HvI (ns : List Str) (lv : List (List Str × Nat)) (found : List (List Str)) (m : Nat) : Prop where
  lo : ∀ p ∈ lv, ns.length ≤ p.2 + m
  up : ∀ p ∈ lv, p.2 ≤ ns.length ∧ p.1.length ≤ p.2
  go : halfGo ns m lv found = halves ns
  sz : lv.length * 12 ^ m ≤ 2985984
  fz : 11 * found.length * 12 ^ m ≤ 35831808
theorem mem_stepH {ns : List Str} {p q : List Str × Nat} (h : q ∈ stepH ns p) : ∃ a l, p.2 ≤ a ∧ a < ns.length ∧ (l = ns.getD a "" ∨ l = ("-" : Str) ++ ns.getD a "") ∧ q = (p.1 ++ [l], a + 1) := by
  obtain ⟨a, ha, hq⟩ := List.mem_flatMap.mp h
  obtain ⟨l, hl, rfl⟩ := List.mem_map.mp hq
  have := List.mem_range'_1.mp ha
  exact ⟨a, l, this.1, by omega, by simpa using hl, rfl⟩
theorem flat_le {α β : Type} {f : α → List β} {c : Nat} : ∀ {xs : List α}, (∀ x ∈ xs, (f x).length ≤ c) → (xs.flatMap f).length ≤ c * xs.length
  | [], _ => Nat.zero_le _
  | x :: xs, h => by
    have h1 := h x (List.mem_cons_self ..)
    have h2 := flat_le (xs := xs) fun z hz => h z (List.mem_cons_of_mem _ hz)
    rw [List.flatMap_cons, List.length_append, List.length_cons, Nat.mul_succ]
    omega
theorem stepH_len (ns : List Str) (p : List Str × Nat) : (stepH ns p).length = 2 * (ns.length - p.2) := by
  unfold stepH
  have := flat2_len (List.range' p.2 (ns.length - p.2)) (fun a => (p.1 ++ [ns.getD a ""], a + 1)) (fun a => (p.1 ++ [("-" : Str) ++ ns.getD a ""], a + 1))
  rw [List.length_range'] at this
  exact this
theorem nextH_len {ns : List Str} {lv : List (List Str × Nat)} (n6 : ns.length ≤ 6) : (nextH ns lv).length ≤ 12 * lv.length := flat_le fun p _ => by rw [stepH_len]; omega
theorem HvI.init {ns : List Str} (n6 : ns.length ≤ 6) : HvI ns [([], 0)] [[]] ns.length := by
  have h : 12 ^ ns.length ≤ 12 ^ 6 := Nat.pow_le_pow_right (by decide) n6
  refine ⟨fun p hp => ?_, fun p hp => ?_, rfl, ?_, ?_⟩
  · rw [List.mem_singleton.mp hp]; exact Nat.le_of_eq (Nat.zero_add _).symm
  · rw [List.mem_singleton.mp hp]; exact ⟨Nat.zero_le _, Nat.le_refl _⟩
  · simp only [List.length_singleton]; omega
  · simp only [List.length_singleton]; omega
theorem HvI.step1 {ns : List Str} {lv : List (List Str × Nat)} {found : List (List Str)} {m : Nat} (n6 : ns.length ≤ 6) (h : HvI ns lv found (m + 1)) : HvI ns (nextH ns lv) (found ++ (nextH ns lv).map (·.1)) m := by
  have up : ∀ p ∈ nextH ns lv, p.2 ≤ ns.length ∧ p.1.length ≤ p.2 := fun p hp => by
    obtain ⟨r, hr, hp⟩ := List.mem_flatMap.mp hp
    obtain ⟨a, l, h1, h2, _, rfl⟩ := mem_stepH hp
    have := (h.up r hr).2
    refine ⟨h2, ?_⟩
    show (r.1 ++ [l]).length ≤ a + 1
    rw [List.length_append]
    show r.1.length + 1 ≤ a + 1
    omega
  have l1 := nextH_len (lv := lv) n6
  have s1 := h.sz
  have f1 := h.fz
  rw [Nat.pow_succ] at s1 f1
  have s2 : (nextH ns lv).length * 12 ^ m ≤ 2985984 := by
    refine Nat.le_trans (Nat.mul_le_mul_right _ l1) ?_
    rw [Nat.mul_comm 12, Nat.mul_assoc, Nat.mul_comm 12]
    exact s1
  refine ⟨fun p hp => ?_, up, h.go, s2, ?_⟩
  · obtain ⟨r, hr, hp⟩ := List.mem_flatMap.mp hp
    obtain ⟨a, l, h1, h2, _, rfl⟩ := mem_stepH hp
    have := h.lo r hr
    show ns.length ≤ a + 1 + m
    omega
  · rw [List.length_append, List.length_map, Nat.mul_add, Nat.add_mul]
    have f2 : 11 * found.length * 12 ^ m * 12 ≤ 35831808 := by rw [Nat.mul_assoc]; exact f1
    have f3 : 11 * (nextH ns lv).length * 12 ^ m ≤ 11 * 2985984 := by rw [Nat.mul_assoc]; exact Nat.mul_le_mul_left _ s2
    omega
theorem HvI.step {ns : List Str} {lv : List (List Str × Nat)} {found : List (List Str)} {m : Nat} (n6 : ns.length ≤ 6) (h : HvI ns lv found m) :
    ∃ m', (m' < m ∨ nextH ns lv = []) ∧ HvI ns (nextH ns lv) (found ++ (nextH ns lv).map (·.1)) m' := by
  cases m with
  | zero =>
    have e : nextH ns lv = [] := List.flatMap_eq_nil_iff.mpr fun p hp => by
      have := h.lo p hp
      apply List.eq_nil_of_length_eq_zero
      rw [stepH_len]
      omega
    refine ⟨0, .inr e, ?_⟩
    rw [e]
    refine ⟨fun p hp => (List.not_mem_nil hp).elim, fun p hp => (List.not_mem_nil hp).elim, ?_, by simp, ?_⟩
    · rw [List.map_nil, List.append_nil]; exact h.go
    · rw [List.map_nil, List.append_nil]; exact h.fz
  | succ m => exact ⟨m, .inl (Nat.lt_succ_self m), h.step1 n6⟩
theorem HvI.end_ {ns : List Str} {found : List (List Str)} {m : Nat} (h : HvI ns [] found m) : found = halves ns := by
  have go : ∀ m found, halfGo ns m [] found = found := by
    intro m
    induction m with
    | zero => intro f; rfl
    | succ m ih => intro f; rw [halfGo]; show halfGo ns m [] (f ++ []) = f; rw [List.append_nil, ih]
  rw [← h.go, go]
section
end
end My

set_option Elab.async false
set_option linter.all false
set_option maxRecDepth 100000
set_option maxHeartbeats 8000000
namespace My
open PySem PySem.Spec PyProof.Rows L2 L3
/-- a rule: names, allowed settings -/
structure RuleD where
  names : List Str
  allowed : List (List Str)
def RuleD.settings (r : RuleD) : List (List Str) := (fulls r.names).filter fun s => decide (s ∈ r.allowed)
def mkRule (ns : List Str) (ss : List (List Str)) : RuleD := ⟨ns, once (ss.map fun s => asc s ns)⟩
def ruleF (vn va : V) : List (Str × V) := putF "allowed" va (putF "names" vn [])
def RuleR (C : Addr) : Rl RuleD := fun r M v => ∃ a dx vn va, v = .ref a ∧ M a = some (.ins C dx (ruleF vn va)) ∧ TT r.names M vn ∧ DtR r.allowed M va
instance {C : Addr} : Mon (RuleR C) := ⟨fun e ⟨a, dx, vn, va, h1, h2, h3, h4⟩ => ⟨a, dx, vn, va, h1, e _ _ h2, Mon.mono e h3, Mon.mono e h4⟩⟩
structure RuleT (K : PySem.W.Frag) (mg : Str → Option Value) (C : Addr) : Prop where
  cl : Cls K C
  nN : NoAttr K C "names"
  nA : NoAttr K C "allowed"
section
end
theorem halves_len {ns : List Str} (n6 : ns.length ≤ 6) : (halves ns).length ≤ 3257437 := by
  have fin : ∀ {lv : List (List Str × Nat)} {found : List (List Str)} {m : Nat}, HvI ns lv found m → found.length ≤ 3257437 := fun {lv found m} h => by
    have := h.fz
    have h1 : 1 ≤ 12 ^ m := Nat.one_le_pow _ _ (by decide)
    have : 11 * found.length * 1 ≤ 11 * found.length * 12 ^ m := Nat.mul_le_mul_left _ h1
    omega
  have go : ∀ (m : Nat) (lv : List (List Str × Nat)) (found : List (List Str)), HvI ns lv found m → (halves ns).length ≤ 3257437 := by
    intro m
    induction m using Nat.strongRecOn with
    | ind m ih =>
      intro lv found h
      obtain ⟨m', h1, h2⟩ := h.step n6
      rcases h1 with h1 | h1
      · exact ih m' h1 _ _ h2
      · rw [h1] at h2
        rw [← h2.end_]
        exact fin h2
  exact go _ _ _ (HvI.init n6)
section
variable {P : Program} {w : World} {K : PySem.W.Frag} {mg : Str → Option Value} {base : Heap}
structure RuleOk (ns : List Str) (ss : List (List Str)) : Prop where
  s : NamesOk ns []
  k : ns.length ≤ 6
  n : ss.length ≤ 1000000
  c : ∀ c ∈ ss, ClOk ns c ∧ c.length = ns.length
structure RuleW (r : RuleD) : Prop where
  k : r.names.length ≤ 6
  s : Shorts r.names
theorem shortP_len (ss found : List (List Str)) (c : List Str) : (shortP ss found c).length ≤ found.length + 1 := by
  unfold shortP
  split
  · simp
  · omega
theorem short_take {ss : List (List Str)} {xs : List (List Str)} {i : Nat} {c : List Str} (h : xs[i]? = some c) : (xs.take (i + 1)).foldl (shortP ss) [] = shortP ss ((xs.take i).foldl (shortP ss) []) c := by
  rw [List.take_add_one, h, List.foldl_append]
  rfl
theorem short_len (ss xs : List (List Str)) : (xs.foldl (shortP ss) []).length ≤ xs.length := by
  have go : ∀ (xs acc : List (List Str)), (xs.foldl (shortP ss) acc).length ≤ acc.length + xs.length := by
    intro xs
    induction xs with
    | nil => intro acc; exact Nat.le_refl _
    | cons x xs ih =>
      intro acc
      have h1 := ih (shortP ss acc x)
      have h2 := shortP_len ss acc x
      rw [List.foldl_cons, List.length_cons]
      omega
  simpa using go xs []
theorem short_sub (ss xs : List (List Str)) : ∀ c ∈ xs.foldl (shortP ss) [], c ∈ xs := by
  have go : ∀ (xs acc : List (List Str)), ∀ c ∈ xs.foldl (shortP ss) acc, c ∈ acc ∨ c ∈ xs := by
    intro xs
    induction xs with
    | nil => intro acc c h; exact .inl h
    | cons x xs ih =>
      intro acc c h
      rw [List.foldl_cons] at h
      rcases ih _ c h with h | h
      · unfold shortP at h
        split at h
        · rcases List.mem_append.mp h with h | h
          · exact .inl h
          · rw [List.mem_singleton.mp h]; exact .inr (List.mem_cons_self ..)
        · exact .inl h
      · exact .inr (List.mem_cons_of_mem _ h)
  intro c h
  rcases go xs [] c h with h | h
  · cases h
  · exact h
theorem halves_each {ns : List Str} (n6 : ns.length ≤ 6) : ∀ c ∈ halves ns, c.length ≤ 6 := by
  have go : ∀ (m : Nat) (lv : List (List Str × Nat)) (found : List (List Str)), HvI ns lv found m → (∀ c ∈ found, c.length ≤ 6) → ∀ c ∈ halves ns, c.length ≤ 6 := by
    intro m
    induction m using Nat.strongRecOn with
    | ind m ih =>
      intro lv found h hf
      obtain ⟨m', h1, h2⟩ := h.step n6
      have hf' : ∀ c ∈ found ++ (nextH ns lv).map (·.1), c.length ≤ 6 := fun c hc => by
        rcases List.mem_append.mp hc with hc | hc
        · exact hf c hc
        · obtain ⟨p, hp, rfl⟩ := List.mem_map.mp hc
          have := h2.up p hp
          omega
      rcases h1 with h1 | h1
      · exact ih m' h1 _ _ h2 hf'
      · rw [h1] at h2 hf'
        rw [← h2.end_]
        exact hf'
  exact go _ _ _ (HvI.init n6) (by simp)
end
end My

set_option Elab.async false
set_option linter.all false
set_option maxRecDepth 100000
set_option maxHeartbeats 8000000
namespace My
open PySem PySem.Spec PyProof.Rows L2 L3
/-- where the walk of a setting goes on: behind its last name -/
def LastI (ns : List Str) (p : List Str × Nat) : Prop := (p.1 = [] ∧ p.2 = 0) ∨ ∃ s l a, p.1 = s ++ [l] ∧ p.2 = a + 1 ∧ a < ns.length ∧ nameOf l = ns.getD a "" ∧ l.length ≤ 9
theorem neg_len (n : Str) : (("-" : Str) ++ n).length = n.length + 1 := by
  rw [← SX.S_tl n, neg_S, SX.S_len, List.length_cons, SX.S_len]
theorem getD_at {ns : List Str} {a : Nat} (h : a < ns.length) : ns[a]? = some (ns.getD a "") := by rw [List.getD_eq_getElem?_getD, List.getElem?_eq_getElem h]; rfl
theorem last_next {ns : List Str} {lv : List (List Str × Nat)} (nm : NmL ns) : ∀ p ∈ nextH ns lv, LastI ns p := fun p hp => by
  obtain ⟨r, hr, hp⟩ := List.mem_flatMap.mp hp
  obtain ⟨a, l, h1, h2, h3, rfl⟩ := mem_stepH hp
  have hn := nm.nm _ (List.mem_of_getElem? (getD_at h2))
  have hl := nm_len hn
  refine .inr ⟨r.1, l, a, rfl, rfl, h2, ?_⟩
  rcases h3 with e | e
  · rw [e, nameOf_nm hn]; exact ⟨rfl, by omega⟩
  · rw [e, nameOf_neg hn]; exact ⟨rfl, by rw [neg_len]; omega⟩
theorem drop_map (ns : List Str) (k : Nat) : ns.drop k = (List.range' k (ns.length - k)).map fun a => ns.getD a "" := by
  apply List.ext_getElem
  · simp
  · intro j h1 h2
    rw [List.length_drop] at h1
    rw [List.getElem_drop, List.getElem_map, List.getElem_range', Nat.one_mul, List.getD_eq_getElem?_getD, List.getElem?_eq_getElem (by omega)]
    rfl
theorem step_drop (ns : List Str) (p : List Str × Nat) : (stepH ns p).map (·.1) = (ns.drop p.2).flatMap fun n => [p.1 ++ [n], p.1 ++ [("-" : Str) ++ n]] := by
  unfold stepH
  rw [drop_map, List.map_flatMap, List.flatMap_map]
  rfl
section
variable {P : Program} {w : World} {K : PySem.W.Frag} {mg : Str → Option Value} {base : Heap}
abbrev s__law_bare : Stmt := topS 46
theorem sc__law_bare : FnScope ["_law_one"] ["_law_one"] (defScope s__law_bare) := ⟨rfl, rfl, rfl, by decide +kernel, rfl, by decide +kernel, by decide +kernel⟩
def sp__law_bare (K : PySem.W.Frag) : Sp := sp1 Tx (fun x => x.length ≤ 1000) fun x => Tx (nameOf x)
theorem ok__law_bare {f : Addr} {fd : FuncData} (F : Fun K "_law_bare" "_law_bare" s__law_bare f fd) : FnOk P w K mg base CX0 1 f fd ["_law_one"] (sp__law_bare K) := by
  refine F.ok sc__law_bare (fun vs H Q E h => ?_) (fun cdv A outer s H vs Q E hr h => ?_)
  · obtain ⟨x, M, v, rfl, _⟩ := h
    rfl
  · obtain ⟨x, M, v, rfl, mh, r1, hp, q⟩ := h
    have hu := hr.units
    refine ⟨_, (pss_one (ps_ret (pe_ifExp (pt_cmpR (op_eqP hu) (pe_slice sl_X (pv 0) po_none (po_some pe_int)) pe_str (nomark _)) (pe_slice sl_X (pv 0) (po_some pe_int) po_none) (pv 0)))), ?_⟩
    have hv : Gv (tVar 0) (start ["_law_one"] [v]) M (Tx x) := gv_var rfl r1
    refine s_ret mh (gv_if (gt_test (gv_eqT py_str inj_str (gv_cutS hv (sz1000 hp) (fun _ _ h => h) (fun _ _ h => ⟨1, rfl, h⟩)) (gv_c rfl) (by simp [PyData.depth]))) (fun hb => gv_is (gv_cutS hv (sz1000 hp) (fun _ _ h => ⟨1, rfl, h⟩) fun _ _ h => h) fun M' v h => ?_) fun hb => gv_is hv fun M' v h => ?_) q
    · show Tx (nameOf x) M' v
      rw [show nameOf x = _ from if_pos (by simpa using hb)]; exact h
    · show Tx (nameOf x) M' v
      rw [show nameOf x = _ from if_neg (by simpa using hb)]; exact h
abbrev s__law_within : Stmt := topS 52
theorem sc__law_within : FnScope ["_law_part", "_law_clause", "_law_one"] ["_law_part", "_law_clause"] (defScope s__law_within) := ⟨rfl, rfl, rfl, by decide +kernel, rfl, by decide +kernel, by decide +kernel⟩
def sp__law_within (K : PySem.W.Frag) : Sp := sp2 (SqR K Tx) (CtR K) (fun p _ => p.length ≤ 1000000) fun p c => Bl (liesIn p c)
theorem ok__law_within {f : Addr} {fd : FuncData} (F : Fun K "_law_within" "_law_within" s__law_within f fd) (T : Gc mg) : FnOk P w K mg base CX0 1 f fd ["_law_part", "_law_clause"] (sp__law_within K) := by
  refine F.ok sc__law_within (fun vs H Q E h => ?_) (fun cdv A outer s H vs Q E hr h => ?_)
  · obtain ⟨x, y, M, v, w, rfl, _⟩ := h
    rfl
  · obtain ⟨p, c, M, v, w, rfl, mh, r1, r2, hp, q⟩ := h
    have hu := hr.units
    refine ⟨_, (pss_one (ps_ret (pe_callB (cr_all rfl) (by rfl) T.all boot_all (pa_cons (pe_lc (own := [("_law_one", 2)]) (g := (gName 2)) (tt := tYes) (te := (tOp (rInA K false) (tVar 2) (tVar 1))) (by rfl) sc__law_within.nd (pi_sq (pv 0)) (blkOk_by (by rfl)) (fun _ _ _ _ _ => (pg_name (i := 2) sc__law_within.nd rfl (by first | exact .inl rfl | exact .inr rfl))) (fun _ _ _ _ _ => pts_nil) (fun _ _ _ _ _ => (pe_cmpR (op_inA hu) (pv 2) (pv 1) (by rfl)))) pa_nil)))), ?_⟩
    refine s_ret mh (gv_is (gv_all (K := K) (gl_m1 (S := Bl) (R := Tx) (xs := p) (gi_sq (K := K) (gv_var rfl r1)) (szK hp) (fun l => decide (l ∈ c)) fun l _ M1 u sm ru => gv_is (gv_inA (K := K) (gv_var rfl ru) (gv_var rfl (Mon.mono sm r2))) fun _ _ h => by simpa using h)) fun M' v h => ?_) q
    rw [show v = _ from h, List.all_map]
    rfl
abbrev s__law_meets : Stmt := topS 50
theorem sc__law_meets : FnScope ["_law_clause", "_law_some", "_law_one"] ["_law_clause", "_law_some"] (defScope s__law_meets) := ⟨rfl, rfl, rfl, by decide +kernel, rfl, by decide +kernel, by decide +kernel⟩
def sp__law_meets (K : PySem.W.Frag) : Sp := sp2 (SqR K Tx) (CtR K) (fun p _ => p.length ≤ 1000000) fun p c => Bl (meets p c)
theorem ok__law_meets {f : Addr} {fd : FuncData} (F : Fun K "_law_meets" "_law_meets" s__law_meets f fd) (T : Gc mg) : FnOk P w K mg base CX0 1 f fd ["_law_clause", "_law_some"] (sp__law_meets K) := by
  refine F.ok sc__law_meets (fun vs H Q E h => ?_) (fun cdv A outer s H vs Q E hr h => ?_)
  · obtain ⟨x, y, M, v, w, rfl, _⟩ := h
    rfl
  · obtain ⟨p, c, M, v, w, rfl, mh, r1, r2, hp, q⟩ := h
    have hu := hr.units
    refine ⟨_, (pss_one (ps_ret (pe_callB (cr_any rfl) (by rfl) T.any boot_any (pa_cons (pe_lc (own := [("_law_one", 2)]) (g := (gName 2)) (tt := tYes) (te := (tOp (rInA K false) (tVar 2) (tVar 1))) (by rfl) sc__law_meets.nd (pi_sq (pv 0)) (blkOk_by (by rfl)) (fun _ _ _ _ _ => (pg_name (i := 2) sc__law_meets.nd rfl (by first | exact .inl rfl | exact .inr rfl))) (fun _ _ _ _ _ => pts_nil) (fun _ _ _ _ _ => (pe_cmpR (op_inA hu) (pv 2) (pv 1) (by rfl)))) pa_nil)))), ?_⟩
    refine s_ret mh (gv_is (gv_any (K := K) (gl_m1 (S := Bl) (R := Tx) (xs := p) (gi_sq (K := K) (gv_var rfl r1)) (szK hp) (fun l => decide (l ∈ c)) fun l _ M1 u sm ru => gv_is (gv_inA (K := K) (gv_var rfl ru) (gv_var rfl (Mon.mono sm r2))) fun _ _ h => by simpa using h)) fun M' v h => ?_) q
    rw [show v = _ from h, List.any_map]
    rfl
abbrev s__law_forced : Stmt := topS 51
theorem sc__law_forced : FnScope ["_law_settings", "_law_half", "_law_some", "_law_one", "_law_part"] ["_law_settings", "_law_half"] (defScope s__law_forced) := ⟨rfl, rfl, rfl, by decide +kernel, rfl, by decide +kernel, by decide +kernel⟩
def sp__law_forced (K : PySem.W.Frag) : Sp := sp2 (SqR K TT) (SqR K Tx) (fun ss h => ss.length ≤ 1000000 ∧ h.length ≤ 1000000 ∧ ∀ s ∈ ss, s.length ≤ 1000000) fun ss h => OpR' (LiR Tx) (forcedL ss h)
theorem ok__law_forced {f : Addr} {fd : FuncData} (F : Fun K "_law_forced" "_law_forced" s__law_forced f fd) (T : Gc mg) : FnOk P w K mg base CX0 1 f fd ["_law_settings", "_law_half"] (sp__law_forced K) := by
  refine F.ok sc__law_forced (fun vs H Q E h => ?_) (fun cdv A outer s H vs Q E hr h => ?_)
  · obtain ⟨x, y, M, v, w, rfl, _⟩ := h
    rfl
  · obtain ⟨ss, h, M, v, w, rfl, mh, r1, r2, ⟨h1, h2, h3⟩, q⟩ := h
    have hu := hr.units
    refine ⟨_, (pss_cons (ps_set (i := 2) sc__law_forced.nd rfl (by first | exact .inl rfl | exact .inr rfl) (pe_lc (own := [("_law_one", 3)]) (g := (gName 3)) (tt := (tB (tCB (rAll K) (tCons (tLc (iSq K (tVar 1)) (gName 4) tYes (tOp (rInA K false) (tVar 4) (tVar 3)) [4]) tNil)))) (te := (tVar 3)) (by rfl) sc__law_forced.nd (pi_sq (pv 0)) (blkOk_by (by rfl)) (fun _ _ _ _ _ => (pg_name (i := 3) sc__law_forced.nd rfl (by first | exact .inl rfl | exact .inr rfl))) (fun _ _ _ _ _ => (pts_one (pt_val (pe_callB (cr_all rfl) (by rfl) T.all boot_all (pa_cons (pe_lc (own := [("_law_part", 4)]) (g := (gName 4)) (tt := tYes) (te := (tOp (rInA K false) (tVar 4) (tVar 3))) (by rfl) sc__law_forced.nd (pi_sq (pv 1)) (blkOk_by (by rfl)) (fun _ _ _ _ _ => (pg_name (i := 4) sc__law_forced.nd rfl (by first | exact .inl rfl | exact .inr rfl))) (fun _ _ _ _ _ => pts_nil) (fun _ _ _ _ _ => (pe_cmpR (op_inA hu) (pv 4) (pv 3) (by rfl)))) pa_nil))))) (fun _ _ _ _ _ => (pv 3))))
      (pss_cons (ps_if (pt_cmpR (op_eqP hu) (pv 2) (pe_lst pa_nil) (nomark _)) (pss_one (ps_ret pe_non)) pss_nil)
      (pss_one (ps_ret (pe_lc (own := [("_law_part", 4)]) (g := (gName 4)) (tt := (tAnd (tTest (tOp (rInA K true) (tVar 4) (tVar 1))) (tB (tCB (rAll K) (tCons (tLc (iSq K (tVar 2)) (gName 3) tYes (tOp (rInA K false) (tVar 4) (tVar 3)) [3]) tNil))))) (te := (tVar 4)) (by rfl) sc__law_forced.nd (pi_sq (pe_ix ix_X (pv 2) pe_int (fun _ _ => rfl))) (blkOk_by (by rfl)) (fun _ _ _ _ _ => (pg_name (i := 4) sc__law_forced.nd rfl (by first | exact .inl rfl | exact .inr rfl))) (fun _ _ _ _ _ => (pts_one (PW.pt (pw_and (pt_cmpR (op_niA hu) (pv 4) (pv 1) (by rfl)) (pw_and1 (pt_val (pe_callB (cr_all rfl) (by rfl) T.all boot_all (pa_cons (pe_lc (own := [("_law_one", 3)]) (g := (gName 3)) (tt := tYes) (te := (tOp (rInA K false) (tVar 4) (tVar 3))) (by rfl) sc__law_forced.nd (pi_sq (pv 2)) (blkOk_by (by rfl)) (fun _ _ _ _ _ => (pg_name (i := 3) sc__law_forced.nd rfl (by first | exact .inl rfl | exact .inr rfl))) (fun _ _ _ _ _ => pts_nil) (fun _ _ _ _ _ => (pe_cmpR (op_inA hu) (pv 4) (pv 3) (by rfl)))) pa_nil)))))))) (fun _ _ _ _ _ => (pv 4))))))), ?_⟩
    refine q_asg (P := LiR TT (fits ss h)) mh (gv_is (gl_c1 (S := TT) (R := TT) (xs := ss) (gi_sq (K := K) (gv_var rfl r1)) (szK h1) (fun z => liesIn h z) id (fun z _ M1 u sm ru => gt_B (gv_is (gv_all (K := K) (gl_m1 (S := Bl) (R := Tx) (xs := h) (gi_sq (K := K) (gv_var rfl (Mon.mono sm r2))) (szK h2) (fun l => decide (l ∈ z))
      fun l _ M2 u2 sm2 ru2 => gv_is (gv_inA (K := K) (gv_var rfl ru2) (gv_var rfl (.inl (Mon.mono sm2 ru).sq))) fun _ _ h => by simpa using h)) fun M' v h => by rw [show v = _ from h, List.all_map]; rfl)) fun z _ _ M1 u sm ru => gv_var rfl ru).li fun M' v' h => by rw [List.map_id] at h; exact h) fun v1 M1 H1 g1 p1 => ?_
    have fl : (fits ss h).length ≤ 1000000 := Nat.le_trans (List.length_filter_le _ _) h1
    refine q_if0 (b := decide (fits ss h = [])) g1.mh (gt_is (gt_test (gv_eqT (K := K) (R := LiR TT) (neg := false) py_LTT inj_LTT (gv_var rfl p1) gv_nilL (depth_LTT _))) (by simp)) (fun hb H2 hh => ?_) fun hb H2 hh => ?_
    · have e : forcedL ss h = none := by unfold forcedL; rw [of_decide_eq_true hb]
      exact s_ret (P := fun _ u => u = .non) (g1.mh.trans hh) (gv_c rfl) fun u M' H' g r => q u M' H' ((g1.trans (.idle g1.mh hh)).trans g) (by show OpR' (LiR Tx) (forcedL ss h) M' u; rw [e]; exact r)
    · cases ef : fits ss h with
      | nil => rw [ef] at hb; simp at hb
      | cons s0 r0 =>
        rw [ef] at p1
        have hs0 : s0 ∈ ss := (List.mem_filter.mp (show s0 ∈ fits ss h by rw [ef]; simp)).1
        have e : forcedL ss h = some (s0.filter fun l => decide (l ∉ h) && (s0 :: r0).all fun z => decide (l ∈ z)) := by unfold forcedL; rw [ef]
        have mh2 := g1.mh.trans hh
        refine s_ret mh2 (gv_is (gl_c1 (S := Tx) (R := Tx) (xs := s0) (gi_sq (K := K) (gv_is (gv_ix (K := K) (R := TT) (xs := s0 :: r0) (i := 0) (x := s0) (gv_var rfl p1.sq) (gv_c rfl) (atI_nat (j := 0) rfl)) fun _ _ h => h.sq)) (szK (h3 s0 hs0)) (fun l => decide (l ∉ h) && (s0 :: r0).all fun z => decide (l ∈ z)) id
          (fun l _ M2 u sm ru => gt_and (b := decide (l ∉ h)) (c := (s0 :: r0).all fun z => decide (l ∈ z)) (gt_is (gt_test (gv_inA (K := K) (neg := true) (gv_var rfl ru) (gv_var rfl (.inl (Mon.mono (g1.mm.trans sm) r2))))) (by simp)) fun _ => gt_B (gv_is (gv_all (K := K) (gl_m1 (S := Bl) (R := TT) (xs := s0 :: r0) (gi_sq (K := K) (gv_var rfl (Mon.mono sm p1).sq)) (szK (by rw [← ef]; exact fl)) (fun z => decide (l ∈ z))
            fun z _ M3 u3 sm3 ru3 => gv_is (gv_inA (K := K) (x := l) (gv_var rfl (by exact ru)) (gv_var rfl (.inl ru3.sq))) fun _ _ h => by simpa using h)) fun M' v h => by rw [show v = _ from h, List.all_map]; rfl)) fun l _ _ M2 u sm ru => gv_var rfl ru).li fun M' v' hv => ?_) fun u M' H' g r => q u M' H' ((g1.trans (.idle g1.mh hh)).trans g) r
        rw [List.map_id] at hv
        show OpR' (LiR Tx) (forcedL ss h) M' v'
        rw [e]
        exact hv
end
end My

set_option Elab.async false
set_option linter.all false
set_option maxRecDepth 100000
set_option maxHeartbeats 8000000
namespace My
open PySem PySem.Spec PyProof.Rows L2 L3
theorem fullP_take {acc : List (List Str)} {i : Nat} {s n : Str} {z : List Str} (h : acc[i]? = some z) : fullP (acc.take (i + 1)) n = fullP (acc.take i) n ++ [z ++ [n], z ++ [("-" : Str) ++ n]] := by
  unfold fullP
  rw [take_flat _ h]
  rfl
theorem fullP_len (acc : List (List Str)) (n : Str) : (fullP acc n).length = 2 * acc.length := flat2_len acc (fun s => s ++ [n]) (fun s => s ++ [("-" : Str) ++ n])
section
variable {K : PySem.W.Frag} {σ : Sl} {M : Hp} {ta tb : TE}
/-- [z + (n,), z + ("-" + n,)] -/
theorem gl_both {i j : Nat} {z : List Str} {n : Str} (hz : Gv (tVar i) σ M (TT z)) (hn : Gv (tVar j) σ M (Tx n)) (l1 : z.length ≤ 1000000) (l2 : n.length ≤ 1000000) :
    GvL (tLst (tCons (tOp (rAddA K) (tVar i) (tTup (tCons (tVar j) tNil))) (tCons (tOp (rAddA K) (tVar i) (tTup (tCons (tOp (rAddA K) (tC (.str "-")) (tVar j)) tNil))) tNil))) σ M fun M ws => Pd TT M [z ++ [n], z ++ [("-" : Str) ++ n]] ws :=
  gl_twoL (R := TT) (gv_addTT (K := K) hz (gv_tup1 hn) (szM (by simp only [List.length_cons, List.length_nil]; omega))) (gv_addTT (K := K) hz (gv_tup1 (gv_addSt (K := K) (gv_c rfl) hn (szM (by show 1 + n.length ≤ _; omega)))) (szM (by simp only [List.length_cons, List.length_nil]; omega)))
theorem gv_minus {i : Int} (h : Gv ta σ M (It' i)) : Gv (tUn (rU fun i => .int (-i)) ta) σ M (It' (-i)) := fun H mh Q q => h H mh _ fun v M1 H1 g1 e => ⟨i, e, q _ M1 H1 g1 rfl⟩
theorem s_par2 {H : Hp} {D : Ends} {ta : TA} {i j : Nat} (h : ta σ H fun vs H1 => ∃ u v, vs = [u, v] ∧ D.nx ((σ.set i (some u)).set j (some v)) H1) : tPar i j ta D σ H := h
/-- names.index(x) -/
theorem gv_index {ns : List Str} {x : Str} {a : Nat} (h : Gv ta σ M (LstR K Tx ns)) (hx : Gv tb σ M (Tx x)) (nd : ns.Nodup) (ha : ns[a]? = some x) : Gv (tBM K "list" (rIndex K) ta (tCons tb tNil)) σ M (NtR a) := fun H mh Q q =>
  h H mh _ fun v M1 H1 g1 ⟨p, vs, e, hs, hp⟩ => by
    subst e
    refine ⟨.inl ⟨rfl, _, sl_mono g1.mh hs⟩, hx.le g1.mm H1 g1.mh _ fun y M2 H2 g2 e2 => ?_⟩
    cases (show y = _ from e2)
    have ev := pd_tx hp
    subst ev
    refine ⟨p, ns.map V.str, .str x, a, .str x, rfl, rfl, sl_mono (g1.mh.trans g2.hh) hs, rfl, ?_, by rw [List.getElem?_map, ha]; rfl, ?_, fun m z' hm hz' => ?_, q _ M2 H2 (g1.trans g2) rfl⟩
    · rw [List.all_map]; exact List.all_eq_true.mpr fun _ _ => rfl
    · simp [eqV]
    · rw [List.getElem?_map] at hz'
      obtain ⟨y, hy, rfl⟩ := Option.map_eq_some_iff.mp hz'
      have hne : ¬ y = x := fun e => by
        subst e
        have h1 := (List.getElem?_eq_some_iff.mp hy)
        have h2 := (List.getElem?_eq_some_iff.mp ha)
        exact absurd (List.getElem_inj nd |>.mp (h1.2.trans h2.2.symm)) (by omega)
      simp [eqV, hne]
end
section
variable {P : Program} {w : World} {K : PySem.W.Frag} {mg : Str → Option Value} {base : Heap}
abbrev s__law_fulls : Stmt := topS 48
theorem sc__law_fulls : FnScope ["_law_names_here", "_law_found", "_law_name", "_law_longer", "_law_one"] ["_law_names_here"] (defScope s__law_fulls) := ⟨rfl, rfl, rfl, by decide +kernel, rfl, by decide +kernel, by decide +kernel⟩
def sp__law_fulls (K : PySem.W.Frag) : Sp := sp1 (SqR K Tx) (fun ns => ns.length ≤ 6 ∧ Shorts ns) fun ns => LiR TT (fulls ns)
theorem ok__law_fulls {f : Addr} {fd : FuncData} (F : Fun K "_law_fulls" "_law_fulls" s__law_fulls f fd) (T : Gc mg) : FnOk P w K mg base CX0 1 f fd ["_law_names_here"] (sp__law_fulls K) := by
  refine F.ok sc__law_fulls (fun vs H Q E h => ?_) (fun cdv A outer s H vs Q E hr h => ?_)
  · obtain ⟨x, M, v, rfl, _⟩ := h
    rfl
  · obtain ⟨ns, M, v, rfl, mh, r1, ⟨h6, hsh⟩, q⟩ := h
    have hu := hr.units
    refine ⟨_, (pss_cons (ps_set (i := 1) sc__law_fulls.nd rfl (by first | exact .inl rfl | exact .inr rfl) (pe_lst (pa_cons (pe_tup pa_nil) pa_nil)))
      (pss_cons (ps_for PassesOwn.never (by rfl) (pi_sq (pv 0)) (pg_name (i := 2) sc__law_fulls.nd rfl (by first | exact .inl rfl | exact .inr rfl)) (pss_cons (ps_set (i := 3) sc__law_fulls.nd rfl (by first | exact .inl rfl | exact .inr rfl) (pe_lst pa_nil))
      (pss_cons (ps_for PassesOwn.never (by rfl) (pi_sq (pv 1)) (pg_name (i := 4) sc__law_fulls.nd rfl (by first | exact .inl rfl | exact .inr rfl)) (pss_one (ps_expr (pe_bm PySem.F.plainAttrs_list PySem.F.slot_list_extend PySem.F.type_list_extend mt_extend (pv 3) (pa_cons (pe_lst (pa_cons (pe_op op_addA (pv 4) (pe_tup (pa_cons (pv 2) pa_nil))) (pa_cons (pe_op op_addA (pv 4) (pe_tup (pa_cons (pe_op op_addA pe_str (pv 2)) pa_nil))) pa_nil))) pa_nil)))))
      (pss_one (ps_set (i := 1) sc__law_fulls.nd rfl (by first | exact .inl rfl | exact .inr rfl) (pv 3))))))
      (pss_one (ps_ret (pv 1))))), ?_⟩
    refine q_asg (P := LiR TT [[]]) mh (gl_one gv_nilT).li fun v1 M1 H1 g1 p1 => ?_
    refine q_for (R1 := Tx) (xs := ns) g1.mh (gv_var rfl (Mon.mono g1.mm r1))
      (fun M1' i σ' M' H' => ∃ y2 y3 y4 u, Gr M H M' H' ∧ Same M1' M' ∧ LiR TT (fulls (ns.take i)) M' u ∧ σ' = [some v, some u, y2, y3, y4])
      (fun M2 H2 g2 => ⟨_, _, _, v1, g1.trans g2, Same.refl _, Mon.mono g2.mm p1, rfl⟩) (fun M2 i σ' M' H' ⟨_, _, _, _, g, s1, _⟩ => ⟨s1, g.mh⟩) ?_ ?_
    · rintro M2 i n u0 σ' M' H' sM hx ⟨y2, y3, y4, u, g, s1, p2, rfl⟩ rx
      cases rx
      have hi : i < ns.length := (List.getElem?_eq_some_iff.mp hx).1
      have hn : n.length ≤ 900 := hsh.2 n (List.mem_of_getElem? hx)
      have hle : (fulls (ns.take i)).length ≤ 64 := by
        rw [fulls_len, List.length_take]
        exact Nat.le_trans (Nat.pow_le_pow_right (by decide) (show min i ns.length ≤ 6 by omega)) (by decide)
      refine q_asgL g.mh gl_nil fun p3 vs3 M3 H3 g3 h03 m03 hw3 e3 => ?_
      subst e3
      have G3 := g.trans g3
      refine q_for (R1 := TT) (xs := fulls (ns.take i)) g3.mh (gv_var rfl (Mon.mono g3.mm p2).sq)
        (fun M1' j σ' M'' H'' => ∃ y4 ws, Gr M H M'' H'' ∧ Same M1' M'' ∧ Same M3 M'' ∧ Own H M'' H'' p3 ws ∧ Pd TT M'' (fullP ((fulls (ns.take i)).take j) n) ws ∧ σ' = [some v, some u, some (.str n), some (.ref p3), y4])
        (fun M4 H4 g4 => ⟨_, [], G3.trans g4, Same.refl _, g4.mm, Own.step ⟨g.hh.free h03, m03, hw3⟩ g4, .nil, rfl⟩) (fun M4 j σ' M' H' ⟨_, _, g, s1, _⟩ => ⟨s1, g.mh⟩) ?_ ?_
      · rintro M4 j z uz σ' M'' H'' sM4 hxz ⟨y4, ws, g4, s4, s3, ow, hpd, rfl⟩ rz
        have hzl := fulls_each _ z (List.mem_of_getElem? hxz)
        rw [List.length_take] at hzl
        have hjl : j < (fulls (ns.take i)).length := (List.getElem?_eq_some_iff.mp hxz).1
        have hwl : ws.length ≤ 128 := by rw [← hpd.length, fullP_len, List.length_take]; omega
        refine s_ext (K := K) (P := fun M ws => Pd TT M [z ++ [n], z ++ [("-" : Str) ++ n]] ws) g4.mh rfl ow.h (gl_both (K := K) (gv_var rfl rz) (gv_var rfl rfl) (by omega) (by omega)) (fun M5 ws5 h => ?_) fun ws5 M5 H5 g5 h5 => ?_
        · have := h.length
          simp only [List.length_cons, List.length_nil] at this
          exact szM (by omega)
        · have ow5 := ow.step g5
          refine ⟨M5, _, ws ++ ws5, (g4.trans g5).mut ow5.h0 ow5.m, s4.trans g5.mm, s3.trans g5.mm, ow5.put, ?_, rfl⟩
          rw [fullP_take (s := n) hxz]
          exact pd_app (hpd.mono g5.mm) h5
      · rintro M4 σ' M'' H'' sM4 ⟨y4, ws, g4, s4, s3, ow, hpd, rfl⟩
        rw [List.take_length] at hpd
        have G4 := g4.freeze ow.h0 ow.m ow.h
        refine s_asg (P := LiR TT (fulls (ns.take (i + 1)))) G4.mh (gv_var rfl ⟨p3, ws, rfl, upd_same, by rw [fulls_take hx]; exact hpd.mono ow.up⟩) fun u5 M5 H5 g5 p5 => ?_
        exact ⟨M5, _, _, _, u5, G4.trans g5, s1.trans (g3.mm.trans (s3.trans (ow.up.trans g5.mm))), p5, rfl⟩
    · rintro M2 σ' M' H' sM ⟨y2, y3, y4, u, g, s1, p2, rfl⟩
      rw [List.take_length] at p2
      exact ⟨u, rfl, q _ _ _ g p2⟩
abbrev s__law_halves : Stmt := topS 49
theorem sc__law_halves : FnScope ["_law_names_here", "_law_size", "_law_found", "_law_level", "_law_longer", "_law_one", "_law_start", "_law_name"] ["_law_names_here"] (defScope s__law_halves) := ⟨rfl, rfl, rfl, by decide +kernel, rfl, by decide +kernel, by decide +kernel⟩
def sp__law_halves (K : PySem.W.Frag) : Sp := sp1 (LstR K Tx) (fun ns => ns.length ≤ 6 ∧ NmL ns) fun ns => LiR TT (halves ns)
theorem ok__law_halves {f : Addr} {fd : FuncData} (F : Fun K "_law_halves" "_law_halves" s__law_halves f fd) (T : Gc mg) (c__law_bare : Cal P w K mg base 1 "_law_bare" ["_law_one"] (sp__law_bare K)) : FnOk P w K mg base CX0 2 f fd ["_law_names_here"] (sp__law_halves K) := by
  refine F.ok sc__law_halves (fun vs H Q E h => ?_) (fun cdv A outer s H vs Q E hr h => ?_)
  · obtain ⟨x, M, v, rfl, _⟩ := h
    rfl
  · obtain ⟨ns, M, v, rfl, mh, r1, ⟨h6, nm⟩, q⟩ := h
    have hu := hr.units
    refine ⟨_, (pss_cons (ps_par (i := 2) (j := 3) (by rfl) sc__law_halves.nd rfl rfl (by decide) rfl rfl (pa_cons (pe_lst (pa_cons (pe_tup pa_nil) pa_nil)) (pa_cons (pe_lst (pa_cons (pe_tup pa_nil) pa_nil)) pa_nil)) (by rfl))
      (pss_cons (ps_for PassesOwn.never (by rfl) (pi_range1 (by rfl) T.range (pa_cons (pe_callB call_lenA (by rfl) T.len boot_len (pa_cons (pv 0) pa_nil)) pa_nil)) (pg_name (i := 1) sc__law_halves.nd rfl (by first | exact .inl rfl | exact .inr rfl)) (pss_cons (ps_set (i := 4) sc__law_halves.nd rfl (by first | exact .inl rfl | exact .inr rfl) (pe_lst pa_nil))
      (pss_cons (ps_for PassesOwn.never (by rfl) (pi_sq (pv 3)) (pg_name (i := 5) sc__law_halves.nd rfl (by first | exact .inl rfl | exact .inr rfl)) (pss_cons (ps_set (i := 6) sc__law_halves.nd rfl (by first | exact .inl rfl | exact .inr rfl) (pe_ifExp (pt_cmpR (op_eqP hu) (pv 5) (pe_tup pa_nil) (nomark _)) pe_int (pe_op op_addA (pe_bm PySem.F.plainAttrs_list PySem.F.slot_list_index PySem.F.type_list_index mt_index (pv 0) (pa_cons (pe_f c__law_bare (hr.mono (by decide)) (pa_cons (pe_ix ix_X (pv 5) (pe_un un_neg pe_int) (fun _ _ => rfl)) pa_nil)) pa_nil)) pe_int)))
      (pss_one (ps_for PassesOwn.never (by rfl) (pi_sq (pe_slice sl_X (pv 0) (po_some (pv 6)) po_none)) (pg_name (i := 7) sc__law_halves.nd rfl (by first | exact .inl rfl | exact .inr rfl)) (pss_one (ps_expr (pe_bm PySem.F.plainAttrs_list PySem.F.slot_list_extend PySem.F.type_list_extend mt_extend (pv 4) (pa_cons (pe_lst (pa_cons (pe_op op_addA (pv 5) (pe_tup (pa_cons (pv 7) pa_nil))) (pa_cons (pe_op op_addA (pv 5) (pe_tup (pa_cons (pe_op op_addA pe_str (pv 7)) pa_nil))) pa_nil))) pa_nil))))))))
      (pss_one (ps_par (i := 2) (j := 3) (by rfl) sc__law_halves.nd rfl rfl (by decide) rfl rfl (pa_cons (pe_op op_addA (pv 2) (pv 4)) (pa_cons (pv 4) pa_nil)) (by rfl))))))
      (pss_one (ps_ret (pv 2))))), ?_⟩
    refine q_par2 (a_V (P := LiR TT [[]]) mh (gl_one (R := TT) (x := []) gv_nilT).li fun vf M1 H1 g1 pf => a_V (P := LiR TT [[]]) g1.mh (gl_one (R := TT) (x := []) gv_nilT).li fun vl M2 H2 g2 pl => ⟨_, _, rfl, ?_⟩)
    have G2 := g1.trans g2
    refine q_forG (R := NtR) (xs := List.range ns.length) g2.mh (gi_rng1 (n := ns.length) (gv_lenA (K := K) (R := Tx) (gv_var rfl (Mon.mono G2.mm r1).sq)) (by omega)) tg_1
      (fun M1' k σ' M' H' => ∃ y1 y4 y5 y6 y7 uf ul lv found, HvI ns lv found (ns.length - k) ∧ (∀ p ∈ lv, LastI ns p) ∧ Gr M H M' H' ∧ Same M1' M' ∧ LiR TT found M' uf ∧ LiR TT (lv.map (fun p : List Str × Nat => p.1)) M' ul ∧ σ' = [some v, y1, some uf, some ul, y4, y5, y6, y7])
      (fun M3 H3 g3 => ⟨_, _, _, _, _, vf, vl, [([], 0)], [[]], HvI.init h6, fun p hp => by rw [List.mem_singleton.mp hp]; exact .inl ⟨rfl, rfl⟩, G2.trans g3, Same.refl _, Mon.mono (g2.mm.trans g3.mm) pf, Mon.mono g3.mm pl, rfl⟩) (fun M3 i σ' M' H' ⟨_, _, _, _, _, _, _, _, _, _, _, g, s1, _⟩ => ⟨s1, g.mh⟩) ?_ ?_
    · rintro M3 k x σ' M' H' M4 H4 σ2 sM hxk ⟨y1, y4, y5, y6, y7, uf, ul, lv, found, hv, hla, g, s1, rf, rl, rfl⟩ gk ⟨v1, rv1, rfl⟩
      have hk : k < ns.length := by have := (List.getElem?_eq_some_iff.mp hxk).1; rwa [List.length_range] at this
      have ek : ns.length - k = (ns.length - (k + 1)) + 1 := by omega
      rw [ek] at hv
      have hv' := hv.step1 h6
      have G4 := g.trans gk
      refine q_asgL G4.mh gl_nil fun p4 vs4 M5 H5 g5 h05 m05 hw5 e5 => ?_
      subst e5
      have G5 := G4.trans g5
      refine q_for (R1 := TT) (xs := lv.map (fun p : List Str × Nat => p.1)) g5.mh (gv_var rfl (Mon.mono (gk.mm.trans g5.mm) rl).sq)
        (fun M1' i σ' M' H' => ∃ y5 y6 y7 ws, Gr M H M' H' ∧ Same M5 M' ∧ Same M1' M' ∧ Own H M' H' p4 ws ∧ Pd TT M' ((lv.take i).flatMap fun p => (stepH ns p).map (fun p : List Str × Nat => p.1)) ws ∧ σ' = [some v, some v1, some uf, some ul, some (.ref p4), y5, y6, y7])
        (fun M6 H6 g6 => ⟨_, _, _, [], G5.trans g6, g6.mm, Same.refl _, Own.step ⟨G4.hh.free h05, m05, hw5⟩ g6, .nil, rfl⟩) (fun M6 i σ' M' H' ⟨_, _, _, _, g, _, s1, _⟩ => ⟨s1, g.mh⟩) ?_ ?_
      · rintro M6 i z uz σ' M' H' sM6 hxz ⟨y5, y6, y7, ws, g6, s5, s6, ow, hpd, rfl⟩ rz
        obtain ⟨p, hp, ez⟩ : ∃ p, lv[i]? = some p ∧ p.1 = z := by
          rw [List.getElem?_map] at hxz
          obtain ⟨p, hp, e⟩ := Option.map_eq_some_iff.mp hxz
          exact ⟨p, hp, e⟩
        subst ez
        have hpm := List.mem_of_getElem? hp
        have upp := hv.up p hpm
        have r16 : LstR K Tx ns M' v := Mon.mono g6.mm r1
        -- start
        refine q_asg (P := NtR p.2) g6.mh (gv_if (b := decide (p.1 = [])) (gt_is (gt_test (gv_eqT (K := K) (R := TT) (neg := false) py_TT inj_TT (gv_var rfl rz) gv_nilT (by simp [PyData.depth, depthS]))) (by simp)) (fun hb => ?_) fun hb => ?_) fun v6 M7 H7 g7 r7 => ?_
        · rcases hla p hpm with ⟨_, e2⟩ | ⟨s, l, a, e, _⟩
          · exact gv_is (gv_c (P := fun _ v => v = .int 0) rfl) fun _ _ h => by rw [e2]; exact h
          · rw [e] at hb; simp at hb
        · rcases hla p hpm with ⟨e1, _⟩ | ⟨s, l, a, e1, e2, e3, e4, e5⟩
          · rw [e1] at hb; simp at hb
          · have hl : atI p.1 (-1) = some l := by rw [e1]; exact atI_last s l
            refine gv_is (gv_addIn (K := K) (gv_index (K := K) (a := a) (gv_var rfl r16) (gv_call1 (R1 := Tx) (pre := fun x => x.length ≤ 1000) (R := fun x => Tx (nameOf x)) (x := l) (gv_ix (K := K) (R := Tx) (xs := p.1) (i := -1) (gv_var rfl rz.sq) (gv_minus (gv_c rfl)) hl) ?_) nm.nd (by rw [e4]; exact getD_at e3)) (gv_c rfl)) fun M v h => ?_
            · exact Nat.le_trans e5 (by decide)
            · rw [show v = _ from h]; show V.int _ = V.int _; rw [e2]; rfl
        cases (show v6 = _ from r7)
        have G7 := g6.trans g7
        refine s_for (R1 := Tx) (xs := ns.drop p.2) G7.mh (gv_is (gl_cut (K := K) (R := Tx) (lo := some (p.2 : Int)) (hi := none) (gv_var rfl (Mon.mono G7.mm r1)) (fun _ _ h => ⟨_, rfl, _, rfl, h⟩) (fun _ _ h => h)).li fun M v h => by rw [cut_drop] at h; exact h.sq)
          (fun M1' j σ' M' H' => ∃ y7 ws', Gr M H M' H' ∧ Same M7 M' ∧ Same M1' M' ∧ Own H M' H' p4 ws' ∧ Pd TT M' (((lv.take i).flatMap fun p => (stepH ns p).map (fun p : List Str × Nat => p.1)) ++ ((ns.drop p.2).take j).flatMap fun n => [p.1 ++ [n], p.1 ++ [("-" : Str) ++ n]]) ws' ∧ σ' = [some v, some v1, some uf, some ul, some (.ref p4), some uz, some (.int (p.2 : Nat)), y7])
          (fun M8 H8 g8 => ⟨_, ws, G7.trans g8, g8.mm, Same.refl _, (ow.step g7).step g8, by simpa using hpd.mono (g7.mm.trans g8.mm), rfl⟩) (fun M8 j σ' M' H' ⟨_, _, g, _, s1, _⟩ => ⟨s1, g.mh⟩) ?_ ?_
        · rintro M8 j n un σ' M' H' sM8 hxn ⟨y7, ws', g8, s7, s8, ow8, hp8, rfl⟩ rn
          cases (show un = _ from rn)
          have hnm := List.mem_of_getElem? hxn
          have hnn : n ∈ ns := List.mem_of_mem_drop hnm
          have hnl := nm_len (nm.nm n hnn)
          have hj : j < ns.length - p.2 := by have := (List.getElem?_eq_some_iff.mp hxn).1; rwa [List.length_drop] at this
          have hil : i < lv.length := (List.getElem?_eq_some_iff.mp hp).1
          have hm1 : 12 * lv.length ≤ 2985984 := by
            have s1 := hv.sz
            rw [Nat.pow_succ] at s1
            have : 1 ≤ 12 ^ (ns.length - (k + 1)) := Nat.one_le_pow _ _ (by decide)
            have : lv.length * (1 * 12) ≤ lv.length * (12 ^ (ns.length - (k + 1)) * 12) := Nat.mul_le_mul_left _ (Nat.mul_le_mul_right _ this)
            omega
          have lenw : ws'.length ≤ 12 * lv.length + 12 := by
            rw [← hp8.length, List.length_append]
            have l1 : ((lv.take i).flatMap fun p => (stepH ns p).map (fun p : List Str × Nat => p.1)).length ≤ 12 * (lv.take i).length := flat_le fun p _ => by rw [List.length_map, stepH_len]; omega
            have l2 := flat2_len ((ns.drop p.2).take j) (fun n => p.1 ++ [n]) (fun n => p.1 ++ [("-" : Str) ++ n])
            rw [List.length_take] at l1
            rw [List.length_take, List.length_drop] at l2
            omega
          refine s_ext (K := K) (P := fun M ws => Pd TT M [p.1 ++ [n], p.1 ++ [("-" : Str) ++ n]] ws) g8.mh rfl ow8.h (gl_both (K := K) (gv_var rfl (Mon.mono (g7.mm.trans s7) rz)) (gv_var rfl rfl) (by omega) (by omega)) (fun M9 ws9 h => ?_) fun ws9 M9 H9 g9 h9 => ?_
          · have := h.length
            simp only [List.length_cons, List.length_nil] at this
            exact szM (by omega)
          · have ow9 := ow8.step g9
            refine ⟨M9, _, ws' ++ ws9, (g8.trans g9).mut ow9.h0 ow9.m, s7.trans g9.mm, s8.trans g9.mm, ow9.put, ?_, rfl⟩
            rw [take_flat _ hxn, ← List.append_assoc]
            exact pd_app (hp8.mono g9.mm) h9
        · rintro M8 σ' M' H' sM8 ⟨y7, ws', g8, s7, s8, ow8, hp8, rfl⟩
          refine ⟨M', _, _, _, ws', g8, s5.trans (g7.mm.trans s7), s6.trans (g7.mm.trans s7), ow8, ?_, rfl⟩
          rw [take_flat _ hp, step_drop]
          rw [List.take_length] at hp8
          exact hp8
      · rintro M6 σ' M' H' sM6 ⟨y5, y6, y7, ws, g6, s5, s6, ow, hpd, rfl⟩
        rw [List.length_map, List.take_length] at hpd
        have en : (lv.flatMap fun p => (stepH ns p).map (fun p : List Str × Nat => p.1)) = (nextH ns lv).map (fun p : List Str × Nat => p.1) := by unfold nextH; rw [List.map_flatMap]
        rw [en] at hpd
        have G6 := g6.freeze ow.h0 ow.m ow.h
        have r4 : LiR TT ((nextH ns lv).map (fun p : List Str × Nat => p.1)) (upd M' p4 (.lst ws)) (.ref p4) := ⟨p4, ws, rfl, upd_same, hpd.mono ow.up⟩
        have up6 : Same M4 (upd M' p4 (.lst ws)) := g5.mm.trans (s5.trans ow.up)
        have fl : found.length + ((nextH ns lv).map (fun p : List Str × Nat => p.1)).length ≤ 16000000 := by
          have := hv'.fz
          have h1 : 1 ≤ 12 ^ (ns.length - (k + 1)) := Nat.one_le_pow _ _ (by decide)
          have h2 : 11 * (found ++ (nextH ns lv).map (fun p : List Str × Nat => p.1)).length * 1 ≤ 11 * (found ++ (nextH ns lv).map (fun p : List Str × Nat => p.1)).length * 12 ^ (ns.length - (k + 1)) := Nat.mul_le_mul_left _ h1
          rw [← List.length_append]
          omega
        refine s_par2 (a_V (P := LiR TT (found ++ (nextH ns lv).map (fun p : List Str × Nat => p.1))) G6.mh (gl_addL (K := K) (R := TT) (gv_var rfl (Mon.mono (gk.mm.trans up6) rf)) (gv_var rfl r4) (szM fl)).li fun u7 M7 H7 g7 p7 => a_V (P := LiR TT ((nextH ns lv).map (fun p : List Str × Nat => p.1))) g7.mh (gv_var rfl (Mon.mono g7.mm r4)) fun u8 M8 H8 g8 p8 => ⟨_, _, rfl, ?_⟩)
        exact ⟨M8, _, _, _, _, _, u7, u8, nextH ns lv, found ++ (nextH ns lv).map (fun p : List Str × Nat => p.1), hv', last_next nm, (G6.trans g7).trans g8, s1.trans (gk.mm.trans (up6.trans (g7.mm.trans g8.mm))), Mon.mono g8.mm p7, p8, rfl⟩
    · rintro M3 σ' M' H' sM ⟨y1, y4, y5, y6, y7, uf, ul, lv, found, hv, hla, g, s1, rf, rl, rfl⟩
      rw [List.length_range, Nat.sub_self] at hv
      have e : found = halves ns := hv.go
      rw [e] at rf
      exact ⟨uf, rfl, q _ _ _ g rf⟩
end
end My

set_option Elab.async false
set_option linter.all false
set_option maxRecDepth 100000
set_option maxHeartbeats 8000000
namespace My
open PySem PySem.Spec PyProof.Rows L2 L3
open L3.Strm
/-- a value as it is -/
abbrev VR : Rl V := fun x _ v => v = x
instance : Mon VR := ⟨fun _ h => h⟩
section
variable {K : PySem.W.Frag} {S : Strm} {c c1 c2 k : Nat} {σ : Sl} {M H : Hp} {te t1 : TE} {tt : L2.TT} {tr : TA} {QA : List V → Hp → Prop} {P : Pr} {α : Type} {R : Rl α} {R1 : Rl α} {i : Nat}
theorem gls_call1d {good : α → Prop} {pre : α → Prop} {cs : α → Nat} {R : α → Hp → List V → Prop} (hi : σ[i]? = some (some (.ref S.a))) (h1 : GvS S c1 t1 σ M (Ex R1 good)) (hp : ∀ x, good x → pre x) (hc : ∀ x, good x → cs x ≤ c2) :
    GvLS S (c1 + c2) (tCall (slS1 R1 pre cs R) [] E0 (tCons (tVar i) (tCons t1 tNil))) σ M fun M ws => ∃ x, good x ∧ R x M ws := fun H k mh a Q q =>
  ⟨_, hi, h1 H (k + c2) mh (a.le (by omega)) _ fun v M1 H1 g1 a1 ⟨x, gx, rx⟩ => ⟨S, x, M1, v, k, rfl, g1.mh, a1.le (by have := hc x gx; omega), rx, hp x gx, fun p ws M' H' g a' h0 m0 hw r => q p ws M' H' (g1.trans g) a' (g1.hh.free h0) m0 hw ⟨x, gx, r⟩⟩⟩
/-- [x for x in xs if a drawn test] -/
theorem gls_sub [Mon R] {j n : Nat} {wi : TI} {G : List α → Prop} (hj : j < σ.length) (hsrc : GvIS S c1 wi σ M G R) (hn : ∀ xs, G xs → xs.length ≤ n) (hz : n ≤ sizeLine)
    (ht : ∀ xs, G xs → ∀ x ∈ xs, ∀ M1 v, Same M M1 → R x M1 v → GvTS S c2 tt ((wipe σ [j]).set j (some v)) M1 fun _ => True) :
    GvLS S (c1 + n * c2) (tLc wi (gName j) tt (tVar j) [j]) σ M fun M ws => ∃ xs ys, G xs ∧ ys.Sublist xs ∧ Pd R M ys ws := by
  intro H k mh at_ Q q
  refine hsrc H (k + n * c2) mh (at_.le (by omega)) _ fun J xs M1 H1 g1 a1 gx ⟨GG, Y, w, hG, hY⟩ D hD => ?_
  have hxn := hn xs gx
  have nD := a1.fresh hD
  refine turns_of w (fun i H' => ∃ M' ys ws, Gr M1 (S.cut H1) M' (S.cut H') ∧ S.At (k + (n - i) * c2) H' ∧ M' D = none ∧ S.cut H' D = some (.lst ws) ∧ ws.length ≤ i ∧ ys.Sublist (xs.take i) ∧ Pd R M' ys ws)
    ⟨M1, [], [], by rw [cut_upd nD]; exact .own g1.mh (a1.cutn hD), a1.upd nD, g1.mh.free (a1.cutn hD), by rw [cut_upd nD, upd_same], Nat.le_refl _, .slnil, .nil⟩ (fun i H' _ ⟨M', ys, ws, g, _⟩ => hG M' H' g.mm (g.mh.trans cut_same)) ?_ ?_
  · rintro i y H' H'' hi ⟨M', ys, ws, g, a', m0, hw', hl, hg, hpd⟩ hy
    obtain ⟨x, M0, hx, g0, rx⟩ := hY i M' H' y H'' g.mm (g.mh.trans cut_same) hi hy
    have hxm := List.mem_of_getElem? hx
    have et : xs.take (i + 1) = xs.take i ++ [x] := by rw [List.take_add_one, hx]; rfl
    have L0 := lift g.mh a' g0
    have gg := g.trans L0
    have ag := a'.same g0.hh
    have k0 : S.cut H'' D = some (.lst ws) := L0.hh _ _ hw'
    have m0' : M0 D = none := L0.keep m0 hw'
    have hni : n - i = (n - (i + 1)) + 1 := by omega
    refine ⟨wipe1, ht xs gx x hxm M0 y (g1.mm.trans gg.mm) rx H'' (k + (n - (i + 1)) * c2) gg.mh (ag.le (by rw [hni, Nat.add_mul]; omega)) _ fun b M3 H3 g3 a3 _ => ?_⟩
    have m3 : M3 D = none := g3.keep m0' k0
    have k3 := g3.hh _ _ k0
    have n3 := on_of k3
    have up3 : Same M' M3 := L0.mm.trans g3.mm
    cases b with
    | true =>
      rw [if_pos rfl]
      refine ⟨y, List.getElem?_set_self (by rw [wipe_length]; exact hj), ws, of_cut k3, Nat.lt_of_lt_of_le (Nat.lt_of_le_of_lt hl hi) (Nat.le_trans hxn hz), M3, ys ++ [x], ws ++ [y], by rw [cut_upd n3]; exact (gg.trans g3).mut (a1.cutn hD) m3, a3.upd n3, m3, by rw [cut_upd n3, upd_same], by rw [List.length_append]; exact Nat.succ_le_succ hl, ?_, ?_⟩
      · rw [et]; exact hg.append (.refl _)
      · exact pd_app (hpd.mono up3) (.cons (Mon.mono g3.mm rx) .nil)
    | false =>
      rw [if_neg (by simp)]
      refine ⟨M3, ys, ws, gg.trans g3, a3, m3, k3, Nat.le_succ_of_le hl, ?_, hpd.mono up3⟩
      rw [et]
      exact hg.trans (List.sublist_append_left _ _)
  · rintro H' ⟨M', ys, ws, g, a', m0, hw', hl, hg, hpd⟩
    rw [List.take_length] at hg
    exact q D ws M' H' (g1.trans g) (a'.le (by omega)) (g1.hh.free (a1.cutn hD)) m0 hw' ⟨xs, ys, gx, hg, hpd⟩
end
section
variable {P : Program} {w : World} {K : PySem.W.Frag} {mg : Str → Option Value} {base : Heap}
abbrev s__law_shortest : Stmt := topS 53
theorem sc__law_shortest : FnScope ["_law_names_here", "_law_settings", "_law_found", "_law_clause", "_law_part", "_law_one"] ["_law_names_here", "_law_settings"] (defScope s__law_shortest) := ⟨rfl, rfl, rfl, by decide +kernel, rfl, by decide +kernel, by decide +kernel⟩
def sp__law_shortest (K : PySem.W.Frag) : Sp := sp2 (LstR K Tx) (SqR K TT) (fun ns ss => (ns.length ≤ 6 ∧ NmL ns) ∧ ss.length ≤ 1000000) fun ns ss => LiR TT (shortestL ns ss)
theorem ok__law_shortest {f : Addr} {fd : FuncData} (F : Fun K "_law_shortest" "_law_shortest" s__law_shortest f fd) (T : Gc mg) (c__law_halves : Cal P w K mg base 2 "_law_halves" ["_law_names_here"] (sp__law_halves K)) (c__law_within : Cal P w K mg base 1 "_law_within" ["_law_part", "_law_clause"] (sp__law_within K))
    (c__law_meets : Cal P w K mg base 1 "_law_meets" ["_law_clause", "_law_some"] (sp__law_meets K)) : FnOk P w K mg base CX0 3 f fd ["_law_names_here", "_law_settings"] (sp__law_shortest K) := by
  refine F.ok sc__law_shortest (fun vs H Q E h => ?_) (fun cdv A outer s H vs Q E hr h => ?_)
  · obtain ⟨x, y, M, v, w, rfl, _⟩ := h
    rfl
  · obtain ⟨ns, ss, M, v, w, rfl, mh, r1, r2, ⟨⟨hn6, nm⟩, hss⟩, q⟩ := h
    have hu := hr.units
    refine ⟨_, (pss_cons (ps_set (i := 2) sc__law_shortest.nd rfl (by first | exact .inl rfl | exact .inr rfl) (pe_lst pa_nil))
      (pss_cons (ps_for PassesOwn.never (by rfl) (pi_sq (pe_f c__law_halves (hr.mono (by decide)) (pa_cons (pv 0) pa_nil))) (pg_name (i := 3) sc__law_shortest.nd rfl (by first | exact .inl rfl | exact .inr rfl)) (pss_one (ps_if (pt_not (pt_val (pe_callB (cr_any rfl) (by rfl) T.any boot_any (pa_cons (pe_lc (own := [("_law_part", 4)]) (g := (gName 4)) (tt := tYes) (te := (tCall (sp__law_within K) [] E0 (tCons (tVar 4) (tCons (tVar 3) tNil)))) (by rfl) sc__law_shortest.nd (pi_sq (pv 2)) (blkOk_by (by rfl)) (fun _ _ _ _ _ => (pg_name (i := 4) sc__law_shortest.nd rfl (by first | exact .inl rfl | exact .inr rfl))) (fun _ _ _ _ _ => pts_nil) (fun _ _ _ _ _ => (pe_f c__law_within (hr.mono (by decide)) (pa_cons (pv 4) (pa_cons (pv 3) pa_nil))))) pa_nil)))) (pss_one (ps_if (pt_val (pe_callB (cr_all rfl) (by rfl) T.all boot_all (pa_cons (pe_lc (own := [("_law_one", 5)]) (g := (gName 5)) (tt := tYes) (te := (tCall (sp__law_meets K) [] E0 (tCons (tVar 3) (tCons (tVar 5) tNil)))) (by rfl) sc__law_shortest.nd (pi_sq (pv 1)) (blkOk_by (by rfl)) (fun _ _ _ _ _ => (pg_name (i := 5) sc__law_shortest.nd rfl (by first | exact .inl rfl | exact .inr rfl))) (fun _ _ _ _ _ => pts_nil) (fun _ _ _ _ _ => (pe_f c__law_meets (hr.mono (by decide)) (pa_cons (pv 3) (pa_cons (pv 5) pa_nil))))) pa_nil))) (pss_one (ps_expr (pe_bm PySem.F.plainAttrs_list PySem.F.slot_list_append PySem.F.type_list_append mt_append (pv 2) (pa_cons (pv 3) pa_nil)))) pss_nil)) pss_nil)))
      (pss_one (ps_ret (pv 2))))), ?_⟩
    refine q_asgL mh gl_nil fun p2 vs1 M1 H1 g1 h01 m01 hw1 e1 => ?_
    subst e1
    refine q_for (R1 := TT) (xs := halves ns) g1.mh (gv_is (gv_call1 (R1 := LstR K Tx) (pre := fun ns => ns.length ≤ 6 ∧ NmL ns) (R := fun ns => LiR TT (halves ns)) (gv_var rfl (Mon.mono g1.mm r1)) ⟨hn6, nm⟩) fun _ _ h => h.sq)
      (fun M1' i σ' M' H' => ∃ y3 ws, Gr M H M' H' ∧ Same M1' M' ∧ Own H M' H' p2 ws ∧ Pd TT M' (((halves ns).take i).foldl (shortP ss) []) ws ∧ σ' = [some v, some w, some (.ref p2), y3, none, none])
      (fun M3 H3 g3 => ⟨_, [], g1.trans g3, Same.refl _, Own.step ⟨h01, m01, hw1⟩ g3, .nil, rfl⟩) (fun M3 i σ' M' H' ⟨_, _, g, s1, _⟩ => ⟨s1, g.mh⟩) ?_ ?_
    · rintro M3 i c u σ' M' H' sM hx ⟨y3, ws, g, s1, ow, hpd, rfl⟩ rx
      have hcm := List.mem_of_getElem? hx
      have hil : i < (halves ns).length := (List.getElem?_eq_some_iff.mp hx).1
      have hl := halves_len hn6
      have hc6 := halves_each hn6 c hcm
      have fl : (((halves ns).take i).foldl (shortP ss) []).length ≤ i := Nat.le_trans (short_len _ _) (by rw [List.length_take]; omega)
      have fe : ∀ o ∈ ((halves ns).take i).foldl (shortP ss) [], o.length ≤ 6 := fun o ho => halves_each hn6 o (List.mem_of_mem_take (short_sub _ _ o ho))
      have lent : LiR TT (((halves ns).take i).foldl (shortP ss) []) (upd M' p2 (.lst ws)) (.ref p2) := ⟨p2, ws, rfl, upd_same, hpd.mono ow.up⟩
      have rx' : TT c (upd M' p2 (.lst ws)) u := Mon.mono ow.up rx
      refine s_if0 (b := !(((halves ns).take i).foldl (shortP ss) []).any fun o => liesIn o c) (same_lent g.mh ow.h)
        (gt_not (gt_B (gv_is (gv_any (K := K) (gl_m1 (S := Bl) (R := TT) (xs := ((halves ns).take i).foldl (shortP ss) []) (gi_sq (K := K) (gv_var rfl lent.sq)) (szM (by omega)) (fun o => liesIn o c) fun o ho M5 u5 sm5 ru5 => gv_call2 (R1 := SqR K Tx) (R2 := CtR K) (x := o) (y := c) (gv_var rfl ru5.sq) (gv_var rfl (.inl (Mon.mono sm5 rx').sq)) (Nat.le_trans (fe o ho) (by decide))))
          fun M v h => by rw [show v = _ from h, List.any_map]; rfl))) (fun hb H4 hh => ?_) (fun hb H4 hh => ?_)
      · have g4 := g.trans (.idle g.mh hh)
        have ow4 := ow.idle hh
        refine s_if0 (b := isCons c ss) g4.mh (gt_B (gv_is (gv_all (K := K) (gl_m1 (S := Bl) (R := TT) (xs := ss) (gi_sq (K := K) (gv_var rfl (Mon.mono g.mm r2))) (szK hss) (fun z => meets c z) fun z hz M5 u5 sm5 ru5 => gv_call2 (R1 := SqR K Tx) (R2 := CtR K) (x := c) (y := z) (gv_var rfl (Mon.mono sm5 rx).sq) (gv_var rfl (.inl ru5.sq)) (Nat.le_trans hc6 (by decide))))
          fun M v h => by rw [show v = _ from h, List.all_map]; rfl)) (fun hb2 H5 hh5 => ?_) (fun hb2 H5 hh5 => ?_)
        · have g5 := g4.trans (.idle g4.mh hh5)
          have ow5 := ow4.idle hh5
          have hwl : ws.length ≤ i := by rw [← hpd.length]; exact fl
          refine s_app (P := TT c) g5.mh rfl ow5.h (szL (by omega)) (gv_var rfl rx) fun v6 M6 H6 g6 r6 => ?_
          have ow6 := ow5.step g6
          refine ⟨M6, _, ws ++ [v6], (g5.trans g6).mut ow6.h0 ow6.m, s1.trans g6.mm, ow6.put, ?_, rfl⟩
          rw [short_take hx, shortP, if_pos (by rw [hb, hb2]; rfl)]
          exact pd_app (hpd.mono g6.mm) (.cons r6 .nil)
        · refine ⟨M', _, ws, g4.trans (.idle g4.mh hh5), s1, ow4.idle hh5, ?_, rfl⟩
          rw [short_take hx, shortP, if_neg (by rw [hb2]; simp)]
          exact hpd
      · refine ⟨M', _, ws, g.trans (.idle g.mh hh), s1, ow.idle hh, ?_, rfl⟩
        rw [short_take hx, shortP, if_neg (by rw [hb]; simp)]
        exact hpd
    · rintro M3 σ' M' H' sM ⟨y3, ws, g, s1, ow, hpd, rfl⟩
      rw [List.take_length] at hpd
      exact ⟨.ref p2, rfl, q _ _ _ (g.freeze ow.h0 ow.m ow.h) ⟨p2, ws, rfl, upd_same, hpd.mono ow.up⟩⟩
end
end My

set_option Elab.async false
set_option linter.all false
set_option maxRecDepth 100000
set_option maxHeartbeats 8000000
namespace My
open PySem PySem.Spec PyProof.Rows L2 L3
open L3.Strm
section
end
end My

set_option Elab.async false
set_option linter.all false
set_option maxRecDepth 100000
set_option maxHeartbeats 4000000
namespace My
open PySem PySem.Spec PyProof.Rows L2 L3
/-! full settings -/
def Side (n l : Str) : Prop := l = n ∨ l = ("-" : Str) ++ n
theorem fulls_paired {ns s : List Str} (h : s ∈ fulls ns) : Paired Side ns s := by
  have go : ∀ (ns : List Str) (acc : List (List Str)) (done : List Str), (∀ s ∈ acc, Paired Side done s) → ∀ s ∈ ns.foldl fullP acc, Paired Side (done ++ ns) s := by
    intro ns
    induction ns with
    | nil => intro acc done h s hs; rw [List.append_nil]; exact h s hs
    | cons n ns ih =>
      intro acc done h s hs
      rw [List.foldl_cons] at hs
      have := ih (fullP acc n) (done ++ [n]) (fun z hz => by
        obtain ⟨y, hy, hz⟩ := List.mem_flatMap.mp hz
        obtain ⟨l, hl, rfl⟩ := List.mem_map.mp hz
        exact pd_app (h y hy) (.cons (by show l = _ ∨ l = _; simpa using hl) .nil)) s hs
      rwa [List.append_assoc] at this
  exact go ns [[]] [] (fun s hs => by rw [List.mem_singleton.mp hs]; exact .nil) s h
theorem fulls_nodup {ns : List Str} (hn : ∀ n ∈ ns, isNm n = true) : (fulls ns).Nodup := by
  have go : ∀ (ns : List Str) (acc : List (List Str)), (∀ n ∈ ns, isNm n = true) → acc.Nodup → (ns.foldl fullP acc).Nodup := by
    intro ns
    induction ns with
    | nil => intro acc _ h; exact h
    | cons n ns ih =>
      intro acc hn h
      rw [List.foldl_cons]
      refine ih _ (fun m hm => hn m (List.mem_cons_of_mem _ hm)) ?_
      have hne := neg_ne (m := n) (hn n (List.mem_cons_self ..))
      unfold fullP
      induction acc with
      | nil => exact List.nodup_nil
      | cons a acc ih2 =>
        obtain ⟨h1, h2⟩ := List.nodup_cons.mp h
        rw [List.flatMap_cons, List.nodup_append]
        refine ⟨by simp [hne], ih2 h2, fun x hx y hy e => ?_⟩
        subst e
        obtain ⟨b, hb, hy⟩ := List.mem_flatMap.mp hy
        obtain ⟨l, _, e1⟩ := List.mem_map.mp hx
        obtain ⟨l', _, e2⟩ := List.mem_map.mp hy
        have := List.append_inj_left' (e1.trans e2.symm) rfl
        rw [this] at h1
        exact h1 hb
  exact go ns [[]] hn (by simp)
/-- what a setting says of each name -/
theorem side_name {n l : Str} (hn : isNm n = true) (h : Side n l) : nameOf l = n := by
  rcases h with e | e
  · rw [e, nameOf_nm hn]
  · rw [e, nameOf_neg hn]
theorem paired_side {ns s : List Str} (hn : ∀ n ∈ ns, isNm n = true) (h : Paired Side ns s) : s.map nameOf = ns := by
  induction h with
  | nil => rfl
  | cons r t ih =>
    rw [List.map_cons, side_name (hn _ (List.mem_cons_self ..)) r, ih fun m hm => hn m (List.mem_cons_of_mem _ hm)]
theorem side_lits {ns s : List Str} (nm : NmL ns) (h : Paired Side ns s) : Lits ns s := by
  refine ⟨by rw [paired_side nm.nm h]; exact nm.nd, ?_⟩
  have : ∀ {ms s : List Str}, Paired Side ms s → ∀ y ∈ s, ∃ n ∈ ms, y = n ∨ y = ("-" : Str) ++ n := by
    intro ms s h
    induction h with
    | nil => intro y hy; cases hy
    | cons r t ih =>
      intro y hy
      rcases List.mem_cons.mp hy with rfl | hy
      · exact ⟨_, List.mem_cons_self .., r⟩
      · obtain ⟨n, h1, h2⟩ := ih y hy
        exact ⟨n, List.mem_cons_of_mem _ h1, h2⟩
  exact this h
/-- one side of each name -/
theorem paired_mem {ns s : List Str} (h : Paired Side ns s) {n : Str} (hn : n ∈ ns) : n ∈ s ∨ ("-" : Str) ++ n ∈ s := by
  induction h with
  | nil => cases hn
  | cons r t ih =>
    rcases List.mem_cons.mp hn with e | hn
    · subst e
      rcases r with e | e
      · exact .inl (by rw [e]; exact List.mem_cons_self ..)
      · exact .inr (by rw [e]; exact List.mem_cons_self ..)
    · rcases ih hn with h | h
      · exact .inl (List.mem_cons_of_mem _ h)
      · exact .inr (List.mem_cons_of_mem _ h)
theorem lits_one {ns s : List Str} (nm : NmL ns) (h : Lits ns s) {n : Str} (hn : n ∈ ns) : ¬ (n ∈ s ∧ ("-" : Str) ++ n ∈ s) := fun ⟨a, b⟩ => by
  have hm := nm.nm n hn
  exact neg_ne hm (nodup_inj h.nd _ a _ b (by rw [nameOf_nm hm, nameOf_neg hm]))
theorem full_opp {ns s : List Str} (nm : NmL ns) (h : Paired Side ns s) {x : Str} (hx : ∃ n ∈ ns, x = n ∨ x = ("-" : Str) ++ n) : opp x ∈ s ↔ x ∉ s := by
  obtain ⟨n, hn, e⟩ := hx
  have hm := nm.nm n hn
  have one := lits_one nm (side_lits nm h) hn
  have two := paired_mem h hn
  rcases e with e | e
  · rw [e, opp_nm hm]
    exact ⟨fun a b => one ⟨b, a⟩, fun a => two.resolve_left a⟩
  · rw [e, opp_neg hm]
    exact ⟨fun a b => one ⟨a, b⟩, fun a => two.resolve_right a⟩
/-- literals in their order stay -/
theorem asc_paired {ns s : List Str} (nm : NmL ns) (h : Paired Side ns s) : asc s ns = s := by
  have L := side_lits nm h
  have go : ∀ {ms t : List Str}, Paired Side ms t → (∀ m ∈ ms, m ∈ ns) → (∀ x ∈ t, x ∈ s) → asc s ms = t := by
    intro ms t h
    induction h with
    | nil => intro _ _; rfl
    | @cons m l ms t r _ ih =>
      intro hm ht
      have ih := ih (fun z hz => hm z (List.mem_cons_of_mem _ hz)) fun z hz => ht z (List.mem_cons_of_mem _ hz)
      have hl := ht l (List.mem_cons_self ..)
      have one := lits_one nm L (hm m (List.mem_cons_self ..))
      show ((m :: ms).flatMap fun n => [n, ("-" : Str) ++ n].filter fun l => decide (l ∈ s)) = _
      rw [List.flatMap_cons]
      have e : ([m, ("-" : Str) ++ m].filter fun l => decide (l ∈ s)) = [l] := by
        rcases r with e | e
        · subst e
          have : ¬ ("-" : Str) ++ l ∈ s := fun b => one ⟨hl, b⟩
          simp [hl, this]
        · subst e
          have : ¬ m ∈ s := fun b => one ⟨b, hl⟩
          simp [hl, this]
      rw [e]
      exact congrArg (l :: ·) ih
  exact go h (fun _ h => h) fun _ h => h
theorem sub_filter {α : Type} [DecidableEq α] : ∀ {xs ys : List α}, ys.Sublist xs → xs.Nodup → (xs.filter fun x => decide (x ∈ ys)) = ys
  | _, _, .slnil, _ => rfl
  | _, ys, .cons a (l₂ := xs) h, nd => by
    obtain ⟨h1, h2⟩ := List.nodup_cons.mp nd
    have : a ∉ ys := fun z => h1 (h.subset z)
    rw [List.filter_cons, if_neg (by simpa using this)]
    exact sub_filter h h2
  | _, _, .cons₂ a (l₁ := ys) (l₂ := xs) h, nd => by
    obtain ⟨h1, h2⟩ := List.nodup_cons.mp nd
    rw [List.filter_cons, if_pos (by simp)]
    congr 1
    rw [← sub_filter h h2]
    refine List.filter_congr fun x hx => ?_
    have : x ≠ a := fun e => h1 (e ▸ hx)
    have e2 := sub_filter h h2
    simp [this, e2]
/-! half-filled settings -/
structure HalfOk (ns : List Str) (p : List Str × Nat) : Prop where
  le : p.2 ≤ ns.length
  nm : ∀ x ∈ p.1, ∃ a, a < p.2 ∧ Side (ns.getD a "") x
  nd : (p.1.map nameOf).Nodup
theorem half_next {ns : List Str} (nm : NmL ns) {lv : List (List Str × Nat)} (h : ∀ p ∈ lv, HalfOk ns p) : ∀ p ∈ nextH ns lv, HalfOk ns p := fun q hq => by
  obtain ⟨p, hp, hq⟩ := List.mem_flatMap.mp hq
  obtain ⟨a, l, h1, h2, h3, rfl⟩ := mem_stepH hq
  have hok := h p hp
  have han := nm.nm _ (List.mem_of_getElem? (getD_at h2))
  refine ⟨h2, fun x hx => ?_, ?_⟩
  · rcases List.mem_append.mp hx with hx | hx
    · obtain ⟨b, hb, hs⟩ := hok.nm x hx
      exact ⟨b, by show b < a + 1; omega, hs⟩
    · rw [List.mem_singleton.mp hx]
      exact ⟨a, Nat.lt_succ_self a, h3⟩
  · show ((p.1 ++ [l]).map nameOf).Nodup
    rw [List.map_append, List.nodup_append]
    refine ⟨hok.nd, by simp, fun x hx y hy e => ?_⟩
    have hy' : y = nameOf l := by simpa using hy
    rw [hy', side_name han h3] at e
    obtain ⟨z, hz, rfl⟩ := List.mem_map.mp hx
    obtain ⟨b, hb, hs⟩ := hok.nm z hz
    have hbn : b < ns.length := by omega
    rw [side_name (nm.nm _ (List.mem_of_getElem? (getD_at hbn))) hs] at e
    have i1 := List.getElem?_eq_some_iff.mp (getD_at hbn)
    have i2 := List.getElem?_eq_some_iff.mp (getD_at h2)
    have := (List.getElem_inj nm.nd).mp (i1.2.trans (e.trans i2.2.symm))
    omega
theorem HalfOk.lits {ns : List Str} {p : List Str × Nat} (nm : NmL ns) (h : HalfOk ns p) : Lits ns p.1 :=
  ⟨h.nd, fun x hx => let ⟨a, ha, hs⟩ := h.nm x hx; ⟨_, List.mem_of_getElem? (getD_at (show a < ns.length by have := h.le; omega)), hs⟩⟩
theorem halves_lits {ns : List Str} (nm : NmL ns) : ∀ c ∈ halves ns, Lits ns c := by
  have go : ∀ (m : Nat) (lv : List (List Str × Nat)) (found : List (List Str)), (∀ p ∈ lv, HalfOk ns p) → (∀ c ∈ found, Lits ns c) → ∀ c ∈ halfGo ns m lv found, Lits ns c := by
    intro m
    induction m with
    | zero => intro lv found _ hf; exact hf
    | succ m ih =>
      intro lv found hl hf
      have hn := half_next nm hl
      refine ih _ _ hn fun c hc => ?_
      rcases List.mem_append.mp hc with hc | hc
      · exact hf c hc
      · obtain ⟨p, hp, rfl⟩ := List.mem_map.mp hc
        exact (hn p hp).lits nm
  refine go _ _ _ (fun p hp => ?_) fun c hc => ?_
  · rw [List.mem_singleton.mp hp]
    exact ⟨Nat.zero_le _, fun x hx => (List.not_mem_nil hx).elim, List.nodup_nil⟩
  · rw [List.mem_singleton.mp hc]
    exact ⟨List.nodup_nil, fun x hx => (List.not_mem_nil hx).elim⟩
/-- found is not lost -/
theorem halfGo_sub (ns : List Str) : ∀ (m : Nat) (lv : List (List Str × Nat)) (found : List (List Str)), ∀ c ∈ found, c ∈ halfGo ns m lv found
  | 0, _, _, _, h => h
  | m + 1, lv, found, c, h => halfGo_sub ns m _ _ c (List.mem_append_left _ h)
/-- the first literal of an ascending list: its place, and what is behind it -/
theorem asc_split {d : List Str} {ns : List Str} (one : ∀ n ∈ ns, ¬ (n ∈ d ∧ ("-" : Str) ++ n ∈ d)) : ∀ (k st : Nat), st + k = ns.length → ∀ {l : Str} {t : List Str}, asc d (ns.drop st) = l :: t → ∃ a, st ≤ a ∧ a < ns.length ∧ Side (ns.getD a "") l ∧ asc d (ns.drop (a + 1)) = t
  | 0, st, e, l, t, h => by
    rw [List.drop_of_length_le (by omega)] at h
    cases h
  | k + 1, st, e, l, t, h => by
    have hst : st < ns.length := by omega
    have hd : ns.drop st = ns.getD st "" :: ns.drop (st + 1) := by
      rw [List.drop_eq_getElem_cons hst]
      congr 1
      rw [List.getD_eq_getElem?_getD, List.getElem?_eq_getElem hst]
      rfl
    have hm := List.mem_of_getElem? (getD_at hst)
    have on := one _ hm
    rw [hd] at h
    have h' : ([ns.getD st "", ("-" : Str) ++ ns.getD st ""].filter fun l => decide (l ∈ d)) ++ asc d (ns.drop (st + 1)) = l :: t := h
    by_cases h1 : ns.getD st "" ∈ d
    · have h2 : ¬ ("-" : Str) ++ ns.getD st "" ∈ d := fun b => on ⟨h1, b⟩
      have e1 : ([ns.getD st "", ("-" : Str) ++ ns.getD st ""].filter fun l => decide (l ∈ d)) = [ns.getD st ""] := by
        rw [List.filter_cons, if_pos (by simpa using h1), List.filter_cons, if_neg (by simpa using h2)]; rfl
      rw [e1] at h'
      have h' := List.cons.inj h'
      exact ⟨st, Nat.le_refl _, hst, .inl h'.1.symm, h'.2⟩
    · by_cases h2 : ("-" : Str) ++ ns.getD st "" ∈ d
      · have e1 : ([ns.getD st "", ("-" : Str) ++ ns.getD st ""].filter fun l => decide (l ∈ d)) = [("-" : Str) ++ ns.getD st ""] := by
          rw [List.filter_cons, if_neg (by simpa using h1), List.filter_cons, if_pos (by simpa using h2)]; rfl
        rw [e1] at h'
        have h' := List.cons.inj h'
        exact ⟨st, Nat.le_refl _, hst, .inr h'.1.symm, h'.2⟩
      · have e1 : ([ns.getD st "", ("-" : Str) ++ ns.getD st ""].filter fun l => decide (l ∈ d)) = [] := by
          rw [List.filter_cons, if_neg (by simpa using h1), List.filter_cons, if_neg (by simpa using h2)]; rfl
        rw [e1] at h'
        obtain ⟨a, h3, h4⟩ := asc_split one k (st + 1) (by omega) h'
        exact ⟨a, by omega, h4⟩
/-- every set of literals without both sides of a name is met -/
theorem halves_all {ns d : List Str} (one : ∀ n ∈ ns, ¬ (n ∈ d ∧ ("-" : Str) ++ n ∈ d)) : asc d ns ∈ halves ns := by
  have go : ∀ (t : List Str) (m : Nat) (lv : List (List Str × Nat)) (found : List (List Str)) (s : List Str) (st : Nat), (s, st) ∈ lv → s ∈ found → st ≤ ns.length → ns.length ≤ st + m → asc d (ns.drop st) = t → s ++ t ∈ halfGo ns m lv found := by
    intro t
    induction t with
    | nil =>
      intro m lv found s st _ hf _ _ _
      rw [List.append_nil]
      exact halfGo_sub ns m lv found s hf
    | cons l t ih =>
      intro m lv found s st hl hf hst hm ht
      obtain ⟨a, h1, h2, h3, h4⟩ := asc_split one (ns.length - st) st (by omega) ht
      cases m with
      | zero => omega
      | succ m =>
        have hq : (s ++ [l], a + 1) ∈ nextH ns lv := by
          refine List.mem_flatMap.mpr ⟨(s, st), hl, List.mem_flatMap.mpr ⟨a, List.mem_range'_1.mpr ⟨h1, ?_⟩, List.mem_map.mpr ⟨l, ?_, rfl⟩⟩⟩
          · show a < st + (ns.length - st); omega
          · rcases h3 with e | e
            · rw [e]; simp
            · rw [e]; simp
        have := ih m (nextH ns lv) (found ++ (nextH ns lv).map (·.1)) (s ++ [l]) (a + 1) hq (List.mem_append_right _ (List.mem_map.mpr ⟨_, hq, rfl⟩)) h2 (by omega) h4
        rw [List.append_assoc] at this
        exact this
  exact go (asc d ns) ns.length [([], 0)] [[]] [] 0 (by simp) (by simp) (Nat.zero_le _) (by omega) rfl
/-! shortest consequences -/
theorem liesIn_iff {p c : List Str} : liesIn p c = true ↔ ∀ l ∈ p, l ∈ c := by unfold liesIn; simp
theorem isCons_iff {c : List Str} {ss : List (List Str)} : isCons c ss = true ↔ ∀ s ∈ ss, ∃ l ∈ c, l ∈ s := by unfold isCons meets; simp
theorem short_ok (ss xs : List (List Str)) : (∀ c ∈ xs.foldl (shortP ss) [], isCons c ss = true) ∧ ∀ c ∈ xs, isCons c ss = true → ∃ o ∈ xs.foldl (shortP ss) [], liesIn o c = true := by
  have go : ∀ (xs acc : List (List Str)), (∀ c ∈ acc, isCons c ss = true) → (∀ c ∈ xs.foldl (shortP ss) acc, isCons c ss = true) ∧ (∀ c ∈ acc, c ∈ xs.foldl (shortP ss) acc) ∧ ∀ c ∈ xs, isCons c ss = true → ∃ o ∈ xs.foldl (shortP ss) acc, liesIn o c = true := by
    intro xs
    induction xs with
    | nil => intro acc h; exact ⟨h, fun _ h => h, fun c hc => by cases hc⟩
    | cons x xs ih =>
      intro acc h
      rw [List.foldl_cons]
      have hs : ∀ c ∈ shortP ss acc x, isCons c ss = true := fun c hc => by
        unfold shortP at hc
        split at hc
        · rename_i hb
          rcases List.mem_append.mp hc with hc | hc
          · exact h c hc
          · rw [List.mem_singleton.mp hc]
            simp only [Bool.and_eq_true] at hb
            exact hb.2
        · exact h c hc
      have hk : ∀ c ∈ acc, c ∈ shortP ss acc x := fun c hc => by
        unfold shortP
        split
        · exact List.mem_append_left _ hc
        · exact hc
      obtain ⟨h1, h2, h3⟩ := ih (shortP ss acc x) hs
      refine ⟨h1, fun c hc => h2 c (hk c hc), fun c hc hcs => ?_⟩
      rcases List.mem_cons.mp hc with e | hc
      · subst e
        by_cases ha : (acc.any fun o => liesIn o c) = true
        · obtain ⟨o, ho, hl⟩ := List.any_eq_true.mp ha
          exact ⟨o, h2 o (hk o ho), hl⟩
        · refine ⟨c, h2 c ?_, liesIn_iff.mpr fun _ h => h⟩
          unfold shortP
          rw [if_pos (by simp only [Bool.and_eq_true]; exact ⟨by simpa using ha, hcs⟩)]
          simp
      · exact h3 c hc hcs
  have := go xs [] (fun c hc => by cases hc)
  exact ⟨this.1, this.2.2⟩
theorem short_any {ns : List Str} {ss : List (List Str)} {d : List Str} (hd : ∀ s ∈ ss, ∀ l ∈ s, l ∈ d → ∃ n ∈ ns, Side n l) (one : ∀ n ∈ ns, ¬ (n ∈ d ∧ ("-" : Str) ++ n ∈ d)) : ((shortestL ns ss).any fun c => liesIn c d) = isCons d ss := by
  obtain ⟨h1, h2⟩ := short_ok ss (halves ns)
  rw [Bool.eq_iff_iff]
  constructor
  · intro h
    obtain ⟨c, hc, hl⟩ := List.any_eq_true.mp h
    have := isCons_iff.mp (h1 c hc)
    refine isCons_iff.mpr fun s hs => ?_
    obtain ⟨l, hl1, hl2⟩ := this s hs
    exact ⟨l, liesIn_iff.mp hl l hl1, hl2⟩
  · intro h
    have h' := isCons_iff.mp h
    have hcs : isCons (asc d ns) ss = true := isCons_iff.mpr fun s hs => by
      obtain ⟨l, hl1, hl2⟩ := h' s hs
      obtain ⟨n, hn, e⟩ := hd s hs l hl2 hl1
      exact ⟨l, mem_asc.mpr ⟨n, hn, e, hl1⟩, hl2⟩
    obtain ⟨o, ho, hl⟩ := h2 _ (halves_all one) hcs
    refine List.any_eq_true.mpr ⟨o, ho, liesIn_iff.mpr fun l hl' => ?_⟩
    exact (mem_asc.mp (liesIn_iff.mp hl l hl')).choose_spec.2.2
/-! what is forced -/
structure Set_ (ns : List Str) (ss : List (List Str)) (h : List Str) : Prop where
  nm : NmL ns
  s : ∀ s ∈ ss, Paired Side ns s
  h : Lits ns h
end My

set_option Elab.async false
set_option linter.all false
set_option maxRecDepth 100000
set_option maxHeartbeats 8000000
namespace My
open PySem PySem.Spec PyProof.Rows L2 L3
open L3.Strm
/-! sizes -/
def wH (n : Nat) (lv : List (List Str × Nat)) : Nat := (lv.map fun p => 3 ^ (n - p.2)).sum
theorem wH_app (n : Nat) (a b : List (List Str × Nat)) : wH n (a ++ b) = wH n a + wH n b := by unfold wH; rw [List.map_append, List.sum_append]
theorem wH_ge (n : Nat) : ∀ lv : List (List Str × Nat), lv.length ≤ wH n lv
  | [] => Nat.le_refl _
  | p :: r => by
    have h1 : 1 ≤ 3 ^ (n - p.2) := Nat.one_le_pow _ _ (by decide)
    have h2 := wH_ge n r
    unfold wH at h2 ⊢
    rw [List.length_cons, List.map_cons, List.sum_cons]
    omega
theorem wH_step (ns : List Str) (p : List Str × Nat) : wH ns.length (stepH ns p) + 1 = 3 ^ (ns.length - p.2) := by
  have go : ∀ (k s : Nat), s + k = ns.length → wH ns.length ((List.range' s k).flatMap fun a => [ns.getD a "", ("-" : Str) ++ ns.getD a ""].map fun l => (p.1 ++ [l], a + 1)) + 1 = 3 ^ k := by
    intro k
    induction k with
    | zero => intro s _; rfl
    | succ k ih =>
      intro s e
      rw [List.range'_succ, List.flatMap_cons, wH_app]
      have h1 := ih (s + 1) (by omega)
      have h2 : wH ns.length ([ns.getD s "", ("-" : Str) ++ ns.getD s ""].map fun l => (p.1 ++ [l], s + 1)) = 3 ^ k + 3 ^ k := by
        show 3 ^ (ns.length - (s + 1)) + (3 ^ (ns.length - (s + 1)) + 0) = _
        rw [show ns.length - (s + 1) = k by omega]
        omega
      rw [h2, Nat.pow_succ]
      omega
  by_cases h : p.2 ≤ ns.length
  · exact go (ns.length - p.2) p.2 (by omega)
  · have e : ns.length - p.2 = 0 := by omega
    unfold stepH
    rw [e]
    rfl
theorem wH_next (ns : List Str) : ∀ lv : List (List Str × Nat), wH ns.length (nextH ns lv) + lv.length = wH ns.length lv
  | [] => rfl
  | p :: r => by
    have h1 := wH_step ns p
    have h2 := wH_next ns r
    have e : nextH ns (p :: r) = stepH ns p ++ nextH ns r := rfl
    rw [e, wH_app, List.length_cons]
    have e2 : wH ns.length (p :: r) = 3 ^ (ns.length - p.2) + wH ns.length r := by unfold wH; rw [List.map_cons, List.sum_cons]
    omega
theorem halves_few (ns : List Str) : (halves ns).length ≤ 3 ^ ns.length := by
  have go : ∀ (m : Nat) (lv : List (List Str × Nat)) (found : List (List Str)), found.length + wH ns.length lv = 3 ^ ns.length + lv.length → (halfGo ns m lv found).length ≤ 3 ^ ns.length := by
    intro m
    induction m with
    | zero =>
      intro lv found h
      have := wH_ge ns.length lv
      show found.length ≤ _
      omega
    | succ m ih =>
      intro lv found h
      refine ih _ _ ?_
      have := wH_next ns lv
      rw [List.length_append, List.length_map]
      omega
  refine go _ _ _ ?_
  show 1 + (3 ^ (ns.length - 0) + 0) = _
  rw [Nat.sub_zero]
  show 1 + (3 ^ ns.length + 0) = 3 ^ ns.length + 1
  omega
section
end
end My

set_option Elab.async false
set_option linter.all false
set_option maxRecDepth 100000
set_option maxHeartbeats 4000000
namespace My
open PySem PySem.Spec PyProof.Rows L2 L3
/-! full settings that fit all clauses -/
def Fits (cs : List (List Str)) (s : List Str) : Prop := ∀ c ∈ cs, ∃ l ∈ c, l ∈ s
def Sat (ns : List Str) (cs : List (List Str)) (hs : List Str) : Prop := ∃ s, Paired Side ns s ∧ (∀ x ∈ hs, x ∈ s) ∧ Fits cs s
/-- the names that are open -/
def opn (ns hs : List Str) : List Str := ns.filter fun n => decide (n ∉ hs) && decide (("-" : Str) ++ n ∉ hs)
theorem mem_opn {ns hs : List Str} {n : Str} : n ∈ opn ns hs ↔ n ∈ ns ∧ n ∉ hs ∧ ("-" : Str) ++ n ∉ hs := by unfold opn; rw [List.mem_filter]; simp
section
variable {ns : List Str} {cs : List (List Str)} {hs so s : List Str}
theorem fit_der (X : Ctx ns cs hs) (p : Paired Side ns s) (hsub : ∀ x ∈ hs, x ∈ s) (hf : Fits cs s) {x : Str} (h : Der cs hs x) : x ∈ s := by
  induction h with
  | base h => exact hsub _ h
  | @step c l hc hl _ ih =>
    obtain ⟨m, hm, hms⟩ := hf c hc
    by_cases e : m = l
    · rw [← e]; exact hms
    · exact absurd hms ((full_opp X.nm p ((X.c c hc).of m hm)).mp (ih m hm e))
theorem dead_unsat (X : Ctx ns cs hs) (h : Dead cs hs) : ¬ Sat ns cs hs := fun ⟨s, p, hsub, hf⟩ => by
  obtain ⟨c, hc, hd⟩ := h
  obtain ⟨m, hm, hms⟩ := hf c hc
  exact (full_opp X.nm p ((X.c c hc).of m hm)).mp (fit_der X p hsub hf (hd m hm)) hms
theorem sat_so (X : Ctx ns cs hs) (h : EndsOk ns cs hs (some so)) : Sat ns cs hs ↔ Sat ns cs so := by
  obtain ⟨_, h2, h3⟩ := h
  constructor
  · rintro ⟨s, p, hsub, hf⟩
    exact ⟨s, p, fun x hx => fit_der X p hsub hf ((h2 x).mp hx), hf⟩
  · rintro ⟨s, p, hsub, hf⟩
    exact ⟨s, p, fun x hx => hsub x (h3.sub x hx), hf⟩
theorem so_lits (nm : NmL ns) (h : So ns cs hs so) : Lits ns so := by
  refine ⟨?_, fun x hx => h.lit x hx⟩
  rw [List.Nodup, List.pairwise_map]
  refine List.Pairwise.imp_of_mem (fun {a b} ha hb hab e => ?_) h.nd
  obtain ⟨n, hn, e1⟩ := h.lit a ha
  obtain ⟨m, hm, e2⟩ := h.lit b hb
  have k1 := nm.nm n hn
  have k2 := nm.nm m hm
  rw [side_name k1 e1, side_name k2 e2] at e
  subst e
  rcases e1 with e1 | e1 <;> rcases e2 with e2 | e2
  · exact hab (e1.trans e2.symm)
  · refine h.con a ha ?_
    rw [e1, opp_nm k1, ← e2]; exact hb
  · refine h.con a ha ?_
    rw [e1, opp_neg k1, ← e2]; exact hb
  · exact hab (e1.trans e2.symm)
theorem sat_split {n : Str} (hn : n ∈ ns) : Sat ns cs so ↔ Sat ns cs (so ++ [n]) ∨ Sat ns cs (so ++ [("-" : Str) ++ n]) := by
  constructor
  · rintro ⟨s, p, hsub, hf⟩
    rcases paired_mem p hn with a | a
    · refine .inl ⟨s, p, fun x hx => ?_, hf⟩
      rcases List.mem_append.mp hx with hx | hx
      · exact hsub x hx
      · rw [List.mem_singleton.mp hx]; exact a
    · refine .inr ⟨s, p, fun x hx => ?_, hf⟩
      rcases List.mem_append.mp hx with hx | hx
      · exact hsub x hx
      · rw [List.mem_singleton.mp hx]; exact a
  · rintro (⟨s, p, hsub, hf⟩ | ⟨s, p, hsub, hf⟩)
    · exact ⟨s, p, fun x hx => hsub x (List.mem_append_left _ hx), hf⟩
    · exact ⟨s, p, fun x hx => hsub x (List.mem_append_left _ hx), hf⟩
theorem lits_put {n l : Str} (nm : NmL ns) (L : Lits ns so) (hn : n ∈ opn ns so) (e : Side n l) : Lits ns (so ++ [l]) := by
  obtain ⟨h1, h2, h3⟩ := mem_opn.mp hn
  have hm := nm.nm n h1
  refine ⟨?_, fun x hx => ?_⟩
  · rw [List.map_append, List.nodup_append]
    refine ⟨L.nd, by simp, fun a ha b hb e' => ?_⟩
    have hb : b = nameOf l := by simpa using hb
    rw [hb, side_name hm e] at e'
    obtain ⟨x, hx, rfl⟩ := List.mem_map.mp ha
    obtain ⟨m, hmm, em⟩ := L.of x hx
    rw [side_name (nm.nm m hmm) em] at e'
    subst e'
    rcases em with em | em
    · exact h2 (em ▸ hx)
    · exact h3 (em ▸ hx)
  · rcases List.mem_append.mp hx with hx | hx
    · exact L.of x hx
    · rw [List.mem_singleton.mp hx]; exact ⟨n, h1, e⟩
theorem opn_le (h : ∀ x ∈ hs, x ∈ so) : (opn ns so).length ≤ (opn ns hs).length := by
  unfold opn
  have : ∀ ms : List Str, (ms.filter fun n => decide (n ∉ so) && decide (("-" : Str) ++ n ∉ so)).length ≤ (ms.filter fun n => decide (n ∉ hs) && decide (("-" : Str) ++ n ∉ hs)).length := by
    intro ms
    induction ms with
    | nil => exact Nat.le_refl _
    | cons m ms ih =>
      rw [List.filter_cons, List.filter_cons]
      by_cases a : (decide (m ∉ so) && decide (("-" : Str) ++ m ∉ so)) = true
      · have b : (decide (m ∉ hs) && decide (("-" : Str) ++ m ∉ hs)) = true := by
          simp only [Bool.and_eq_true, decide_eq_true_eq] at a ⊢
          exact ⟨fun z => a.1 (h _ z), fun z => a.2 (h _ z)⟩
        rw [if_pos a, if_pos b, List.length_cons, List.length_cons]
        omega
      · rw [if_neg a]
        split
        · rw [List.length_cons]; omega
        · exact ih
  exact this ns
theorem opn_put {n l : Str} (nd : ns.Nodup) (hn : n ∈ opn ns so) (e : Side n l) : (opn ns (so ++ [l])).length + 1 ≤ (opn ns so).length := by
  have sub : (opn ns (so ++ [l])).length ≤ ((opn ns so).filter fun m => decide (m ≠ n)).length := by
    have go : ∀ ms : List Str, (opn ms (so ++ [l])).length ≤ ((opn ms so).filter fun m => decide (m ≠ n)).length := by
      intro ms
      unfold opn
      rw [List.filter_filter]
      induction ms with
      | nil => exact Nat.le_refl _
      | cons m ms ih =>
        rw [List.filter_cons, List.filter_cons]
        by_cases a : (decide (m ∉ so ++ [l]) && decide (("-" : Str) ++ m ∉ so ++ [l])) = true
        · have b : (decide (m ≠ n) && (decide (m ∉ so) && decide (("-" : Str) ++ m ∉ so))) = true := by
            simp only [Bool.and_eq_true, decide_eq_true_eq, List.mem_append, List.mem_singleton, not_or] at a ⊢
            refine ⟨fun em => ?_, a.1.1, a.2.1⟩
            subst em
            rcases e with e | e
            · exact a.1.2 e.symm
            · exact a.2.2 e.symm
          rw [if_pos a, if_pos b, List.length_cons, List.length_cons]
          omega
        · rw [if_neg a]
          split
          · rw [List.length_cons]; omega
          · exact ih
    exact go ns
  have one : ((opn ns so).filter fun m => decide (m ≠ n)).length + 1 ≤ (opn ns so).length := by
    have : ((opn ns so).filter fun m => decide (m ≠ n)).length < (opn ns so).length := by
      rw [List.length_filter_lt_length_iff_exists]
      exact ⟨n, hn, by simp⟩
    omega
  omega
end
end My

set_option Elab.async false
set_option linter.all false
set_option maxRecDepth 100000
set_option maxHeartbeats 8000000
namespace My
open PySem PySem.Spec PyProof.Rows L2 L3
/-- whether some full setting goes with literals -/
noncomputable def satB (ns : List Str) (cs : List (List Str)) (hs : List Str) : Bool := @decide (Sat ns cs hs) (Classical.propDecidable _)
theorem satB_iff {ns : List Str} {cs : List (List Str)} {hs : List Str} : satB ns cs hs = true ↔ Sat ns cs hs := by unfold satB; simp
structure CodeX (c : CodeD) : Prop where
  nm : NmL c.names
  l : ∀ x ∈ c.clauses, Lits c.names x
  w : CodeW c
  n6 : c.names.length ≤ 6
theorem CodeX.sg {c : CodeD} (X : CodeX c) : NmL c.signs ∧ c.signs.length ≤ 6 := by
  have e : c.names.length = c.signs.length + c.helpers.length := List.length_append
  have := X.n6
  have nd := X.nm.nd
  refine ⟨⟨(List.nodup_append.mp nd).1, fun n hn => X.nm.nm n (List.mem_append_left _ hn), ?_⟩, by omega⟩
  have := X.nm.n
  omega
/-- codes that are asked in a level -/
structure CodeZ (c : CodeD) : Prop where
  nm : NmL c.names
  l : ∀ x ∈ c.clauses, Lits c.names x
  w : CodeW c
  s6 : c.signs.length ≤ 6
  n14 : c.names.length ≤ 14
theorem CodeX.z {c : CodeD} (X : CodeX c) : CodeZ c := ⟨X.nm, X.l, X.w, X.sg.2, Nat.le_trans X.n6 (by decide)⟩
theorem CodeZ.sg {c : CodeD} (X : CodeZ c) : NmL c.signs ∧ c.signs.length ≤ 6 := by
  have nd := X.nm.nd
  refine ⟨⟨(List.nodup_append.mp nd).1, fun n hn => X.nm.nm n (List.mem_append_left _ hn), ?_⟩, X.s6⟩
  have := X.s6
  omega
theorem CodeZ.x {c : CodeD} (X : CodeZ c) (h : c.names.length ≤ 6) : CodeX c := ⟨X.nm, X.l, X.w, h⟩
def ChW (cs : List (List Str)) : Prop := (∀ c ∈ cs, shortT c) ∧ cs.flatten.length ≤ 1000000 ∧ cs.length ≤ 1000000
section
variable {P : Program} {w : World} {K : PySem.W.Frag} {mg : Str → Option Value} {base : Heap}
def FilR (ns : List Str) (cs : List (List Str)) (hs : List Str) : Pr := fun M v => ∃ o, OpR' TT o M v ∧ (o.isSome = true ↔ Sat ns cs hs)
end
end My

set_option Elab.async false
set_option linter.all false
set_option maxRecDepth 100000
set_option maxHeartbeats 8000000
namespace My
open PySem PySem.Spec PyProof.Rows L2 L3
open L3.Strm
section
variable {K : PySem.W.Frag} {S : Strm} {c c' : Nat} {σ : Sl} {M : Hp} {t1 t2 to te : TE} {P : Pr} {C : Addr} {α β : Type} {R1 : Rl α} {R2 : Rl β} {m : Str}
theorem _root_.L3.GvS.up (h : GvS S c te σ M P) (e : c ≤ c') : GvS S c' te σ M P := fun H k mh a Q q => h H k mh (a.le (by omega)) Q q
end
/-- what the law has drawn -/
structure RuleX (ns : List Str) (ss : List (List Str)) : Prop where
  nm : NmL ns
  n6 : ns.length ≤ 6
  sub : ss.Sublist (fulls ns)
theorem RuleX.side {ns : List Str} {ss : List (List Str)} (X : RuleX ns ss) : ∀ s ∈ ss, Paired Side ns s := fun s hs => fulls_paired (X.sub.subset hs)
theorem RuleX.len {ns : List Str} {ss : List (List Str)} (X : RuleX ns ss) : ss.length ≤ 64 := by
  refine Nat.le_trans X.sub.length_le ?_
  rw [fulls_len]
  exact Nat.le_trans (Nat.pow_le_pow_right (by decide) X.n6) (by decide)
theorem RuleX.each {ns : List Str} {ss : List (List Str)} (X : RuleX ns ss) : ∀ s ∈ ss, s.length = ns.length := fun s hs => fulls_each _ s (X.sub.subset hs)
theorem RuleX.made {ns : List Str} {ss : List (List Str)} (X : RuleX ns ss) : mkRule ns ss = ⟨ns, ss⟩ := by
  have e : (ss.map fun s => asc s ns) = ss := by
    conv => rhs; rw [← List.map_id ss]
    exact List.map_congr_left fun s hs => asc_paired X.nm (X.side s hs)
  unfold mkRule
  rw [e, once_self ((fulls_nodup X.nm.nm).sublist X.sub)]
theorem RuleX.set {ns : List Str} {ss : List (List Str)} (X : RuleX ns ss) : (mkRule ns ss).settings = ss := by
  rw [X.made]
  refine Eq.trans (List.filter_congr fun x _ => ?_) (sub_filter X.sub (fulls_nodup X.nm.nm))
  simp
theorem RuleX.ok {ns : List Str} {ss : List (List Str)} (X : RuleX ns ss) : RuleOk ns ss :=
  ⟨⟨X.nm.nd, fun x hx => ⟨X.nm.nm x hx, by simp⟩, Nat.le_trans X.n6 (by decide)⟩, X.n6, Nat.le_trans X.len (by decide), fun s hs => ⟨clOk_lits X.nm (side_lits X.nm (X.side s hs)), X.each s hs⟩⟩
theorem RuleX.w {ns : List Str} {ss : List (List Str)} (X : RuleX ns ss) : RuleW (mkRule ns ss) := ⟨X.n6, nm_shorts X.nm⟩
theorem liTT_sqq {K : PySem.W.Frag} {cs : List (List Str)} {M : Hp} {v : V} (h : LiR TT cs M v) : SqR K (SqR K Tx) cs M v :=
  let ⟨a, vs, e, r, p⟩ := h
  .inl ⟨a, vs, e, .inl (.inl r), Paired.mapP p fun _ _ q => TT.sq q⟩
end My

set_option Elab.async false
set_option linter.all false
set_option maxRecDepth 100000
set_option maxHeartbeats 8000000
namespace My
open PySem PySem.Spec PyProof.Rows L2 L3
def IsLv (l : Str) : Prop := l = "dead" ∨ l = "forced" ∨ l = "all"
def lvNames (c : CodeD) (l : Str) : List Str := if l = ("all" : Str) then c.names else c.signs
theorem CodeX.lv {c : CodeD} (X : CodeX c) (l : Str) : NmL (lvNames c l) ∧ (lvNames c l).length ≤ 6 ∧ ∀ n ∈ lvNames c l, n ∈ c.names := by
  unfold lvNames
  split
  · exact ⟨X.nm, X.n6, fun _ h => h⟩
  · exact ⟨X.sg.1, X.sg.2, fun n h => List.mem_append_left _ h⟩
structure LvX (c : CodeD) (l : Str) : Prop where
  z : CodeZ c
  is : IsLv l
  all : l = ("all" : Str) → c.names.length ≤ 6
theorem LvX.lv {c : CodeD} {l : Str} (X : LvX c l) : NmL (lvNames c l) ∧ (lvNames c l).length ≤ 6 ∧ ∀ n ∈ lvNames c l, n ∈ c.names := by
  unfold lvNames
  split
  · rename_i h
    exact ⟨X.z.nm, X.all h, fun _ h => h⟩
  · exact ⟨X.z.sg.1, X.z.sg.2, fun n h => List.mem_append_left _ h⟩
theorem CodeZ.ch {c : CodeD} (X : CodeZ c) : ChW c.clauses := ⟨X.w.c, X.w.n, X.w.k⟩
theorem CodeX.ch {c : CodeD} (X : CodeX c) : ChW c.clauses := ⟨X.w.c, X.w.n, X.w.k⟩
theorem Lits.wide {ns ms s : List Str} (L : Lits ns s) (h : ∀ n ∈ ns, n ∈ ms) : Lits ms s := ⟨L.nd, fun x hx => let ⟨n, hn, e⟩ := L.of x hx; ⟨n, h n hn, e⟩⟩
theorem CodeX.full {c : CodeD} (X : CodeX c) {l : Str} {s : List Str} (h : s ∈ fulls (lvNames c l)) : Lits c.names s := (side_lits (X.lv l).1 (fulls_paired h)).wide (X.lv l).2.2
theorem insR_code {C : Addr} {m : Str} {c : CodeD} (h1 : ¬ m = ("clause_row" : Str)) (h2 : ¬ m = ("names" : Str)) (h3 : ¬ m = ("helper_row" : Str)) (h4 : ¬ m = ("sign_row" : Str)) : InsR C m (CodeR C c) := fun M v ⟨a, dx, va, vb, vn, vc, e, h, _⟩ => ⟨a, dx, _, e, h, by
  unfold codeF
  rw [lookup_putF, if_neg h1, lookup_putF, if_neg h2, lookup_putF, if_neg h3, lookup_putF, if_neg h4]
  rfl⟩
instance {ns : List Str} {cs : List (List Str)} {hs : List Str} : Mono (FilR ns cs hs) := ⟨fun e ⟨o, r, h⟩ => ⟨o, Mon.mono e r, h⟩⟩
section
end
end My

set_option Elab.async false
set_option linter.all false
set_option maxRecDepth 100000
set_option maxHeartbeats 8000000
namespace My
open PySem PySem.Spec PyProof.Rows L2 L3
def BlR (K : PySem.W.Frag) : Rl (List Str × Option Str) := PrR K TT (OpR' Tx)
instance {K : PySem.W.Frag} : Mon (BlR K) := inferInstanceAs (Mon (PrR K TT (OpR' Tx)))
theorem op_non {α : Type} {R : Rl α} (hr : ∀ x M v, R x M v → ∃ a, v = .ref a) {o : Option α} {M : Hp} {v : V} (h : OpR' R o M v) : decide (v = .non) = o.isNone := by
  cases o with
  | none => cases (show v = .non from h); rfl
  | some x => obtain ⟨a, e⟩ := hr x M v h; subst e; rfl
theorem li_ref {α : Type} {R : Rl α} : ∀ x M v, LiR R x M v → ∃ a, v = .ref a := fun _ _ _ ⟨a, _, e, _⟩ => ⟨a, e⟩
section
end
section
variable {P : Program} {w : World} {K : PySem.W.Frag} {mg : Str → Option Value} {base : Heap}
structure BlPre (c : CodeD) (ss : List (List Str)) (h : List Str) : Prop where
  X : CodeZ c
  L : Lits c.names h
  n : ss.length ≤ 1000000
  e : ∀ s ∈ ss, s.length ≤ 1000000
end
end My

set_option Elab.async false
set_option linter.all false
set_option maxRecDepth 100000
set_option maxHeartbeats 4000000
namespace My
open PySem PySem.Spec PyProof.Rows L2 L3
/-! what the law takes for allowed -/
def fitB (cs : List (List Str)) (s : List Str) : Bool := cs.all fun d => meets d s
theorem fitB_iff {cs : List (List Str)} {s : List Str} : fitB cs s = true ↔ Fits cs s := by unfold fitB Fits meets; simp
def allowedL (sg : List Str) (cs : List (List Str)) (hp : List Str) : List (List Str) := (fulls sg).filter fun s => (fulls hp).any fun r => fitB cs (s ++ r)
theorem fulls_mem {ns s : List Str} (h : Paired Side ns s) : s ∈ fulls ns := by
  have go : ∀ {ns s : List Str}, Paired Side ns s → ∀ (acc : List (List Str)) (pre : List Str), pre ∈ acc → pre ++ s ∈ ns.foldl fullP acc := by
    intro ns s h
    induction h with
    | nil => intro acc pre hp; simpa using hp
    | @cons n l ns t e _ ih =>
      intro acc pre hp
      rw [List.foldl_cons]
      have := ih (fullP acc n) (pre ++ [l]) (List.mem_flatMap.mpr ⟨pre, hp, List.mem_map.mpr ⟨l, by rcases e with e | e <;> rw [e] <;> simp, rfl⟩⟩)
      simpa using this
  have := go h [[]] [] (by simp)
  simpa [fulls] using this
theorem side_in {ns s s' : List Str} (nm : NmL ns) (p : Paired Side ns s') (sub : ∀ x ∈ s, x ∈ s') {n l : Str} (hn : n ∈ ns) (e : Side n l) (hl : l ∈ s') (hs : n ∈ s ∨ ("-" : Str) ++ n ∈ s) : l ∈ s := by
  have one := lits_one nm (side_lits nm p) hn
  rcases e with e | e <;> rcases hs with h | h
  · rw [e]; exact h
  · rw [e] at hl; exact absurd ⟨hl, sub _ h⟩ one
  · rw [e] at hl; exact absurd ⟨sub _ h, hl⟩ one
  · rw [e]; exact h
theorem paired_split {b : List Str} : ∀ {a s : List Str}, Paired Side (a ++ b) s → ∃ s1 s2, s = s1 ++ s2 ∧ Paired Side a s1 ∧ Paired Side b s2
  | [], s, h => ⟨[], s, rfl, .nil, h⟩
  | n :: a, _, .cons (b := l) e t => by
    obtain ⟨s1, s2, e1, h1, h2⟩ := paired_split (a := a) t
    exact ⟨l :: s1, s2, by rw [e1]; rfl, .cons e h1, h2⟩
theorem sat_signs {c : CodeD} (X : CodeX c) {s : List Str} (hs : s ∈ fulls c.signs) : satB c.names c.clauses s = (fulls c.helpers).any fun r => fitB c.clauses (s ++ r) := by
  have p := fulls_paired hs
  rw [Bool.eq_iff_iff, satB_iff, List.any_eq_true]
  constructor
  · rintro ⟨s', p', sub, hf⟩
    obtain ⟨s1, s2, e, h1, h2⟩ := paired_split (a := c.signs) (b := c.helpers) p'
    refine ⟨s2, fulls_mem h2, fitB_iff.mpr fun d hd => ?_⟩
    obtain ⟨m, hm, hms⟩ := hf d hd
    refine ⟨m, hm, ?_⟩
    rw [e] at hms
    rcases List.mem_append.mp hms with h | h
    · obtain ⟨n, hn, em⟩ := (side_lits X.sg.1 h1).of m h
      exact List.mem_append_left _ (side_in X.nm p' sub (List.mem_append_left _ hn) em (by rw [e]; exact hms) (paired_mem p hn))
    · exact List.mem_append_right _ h
  · rintro ⟨r, hr, hf⟩
    exact ⟨s ++ r, pd_app p (fulls_paired hr), fun x hx => List.mem_append_left _ hx, fitB_iff.mp hf⟩
/-! the law's codes -/
structure LawX (c : CodeD) : Prop where
  nm : NmL c.names
  n6 : c.names.length ≤ 6
  l : ∀ x ∈ c.clauses, Lits c.names x
  k : c.clauses.length ≤ 1000
theorem LawX.len {c : CodeD} (X : LawX c) : ∀ x ∈ c.clauses, x.length ≤ 6 := fun x hx => Nat.le_trans (lits_len (X.l x hx) X.nm) X.n6
theorem LawX.x {c : CodeD} (X : LawX c) : CodeX c := by
  have h2 := flat_len X.len
  have h3 := X.k
  have h4 : c.clauses.length * 6 ≤ 1000 * 6 := Nat.mul_le_mul_right _ h3
  exact ⟨X.nm, X.l, ⟨fun x hx => ⟨Nat.le_trans (X.len x hx) (by decide), fun l hl => Nat.le_trans (lits_short (X.l x hx) X.nm l hl) (by decide)⟩, by omega, by omega, nm_shorts X.nm⟩, X.n6⟩
theorem LawX.ok {c : CodeD} (X : LawX c) : CodeOk c.signs c.helpers c.clauses := by
  have nd := X.nm.nd
  have hn := X.n6
  have hl : c.names.length = c.signs.length + c.helpers.length := List.length_append
  obtain ⟨n1, n2, n3⟩ := List.nodup_append.mp (show (c.signs ++ c.helpers).Nodup from nd)
  refine ⟨⟨n1, fun x hx => ⟨X.nm.nm x (List.mem_append_left _ hx), fun h => by cases h⟩, by omega⟩, ⟨n2, fun x hx => ⟨X.nm.nm x (List.mem_append_right _ hx), fun h => n3 x h x hx rfl⟩, by omega⟩, Nat.le_trans X.k (by decide), fun x hx => clOk_lits X.nm (X.l x hx), ?_⟩
  show c.names.length ≤ 1000
  omega
abbrev madeOf (c : CodeD) : CodeD := mkCode c.signs c.helpers c.clauses
theorem LawX.made {c : CodeD} (X : LawX c) : LawX (madeOf c) := by
  refine ⟨X.nm, X.n6, fun x hx => ?_, ?_⟩
  · obtain ⟨d, hd, rfl⟩ := List.mem_map.mp (mem_once.mp (show x ∈ once (c.clauses.map fun d => asc d c.names) from hx))
    exact (X.l d hd).asc X.nm
  · refine Nat.le_trans (once_len2 _) ?_
    rw [List.length_map]
    exact X.k
theorem der_to {cs cs' : List (List Str)} {hs : List Str} {x : Str} (h : ∀ c ∈ cs, ∃ c' ∈ cs', ∀ x, x ∈ c ↔ x ∈ c') (d : Der cs hs x) : Der cs' hs x := by
  induction d with
  | base hx => exact .base hx
  | @step c l hc hl _ ih =>
    obtain ⟨c', hc', e⟩ := h c hc
    exact .step hc' ((e l).mp hl) fun m hm hne => ih m ((e m).mpr hm) hne
theorem dead_to {cs cs' : List (List Str)} {hs : List Str} (h : ∀ c ∈ cs, ∃ c' ∈ cs', ∀ x, x ∈ c ↔ x ∈ c') (d : Dead cs hs) : Dead cs' hs := by
  obtain ⟨c, hc, hd⟩ := d
  obtain ⟨c', hc', e⟩ := h c hc
  exact ⟨c', hc', fun m hm => der_to h (hd m ((e m).mpr hm))⟩
theorem fits_to {cs cs' : List (List Str)} {s : List Str} (h : ∀ c ∈ cs, ∃ c' ∈ cs', ∀ x, x ∈ c ↔ x ∈ c') (d : Fits cs' s) : Fits cs s := fun c hc => by
  obtain ⟨c', hc', e⟩ := h c hc
  obtain ⟨m, hm, hs⟩ := d c' hc'
  exact ⟨m, (e m).mpr hm, hs⟩
theorem asc_same {ns d : List Str} (L : Lits ns d) (x : Str) : x ∈ asc d ns ↔ x ∈ d := by
  rw [mem_asc]
  exact ⟨fun ⟨_, _, _, h⟩ => h, fun h => let ⟨n, hn, e⟩ := L.of x h; ⟨n, hn, e, h⟩⟩
end My

set_option Elab.async false
set_option linter.all false
set_option maxRecDepth 100000
set_option maxHeartbeats 8000000
namespace My
open PySem PySem.Spec PyProof.Rows L2 L3
section
variable {P : Program} {w : World} {K : PySem.W.Frag} {mg : Str → Option Value} {base : Heap}
def sp__law_made2 (K : PySem.W.Frag) (C : Addr) : Sp := sp1 LawR LawX fun c => CodeR C (madeOf c)
theorem ok__law_made2 {f C : Addr} {fd : FuncData} (F : Fun K "_law_made" "_law_made" s__law_made f fd) (k_Code : Mak P w K mg base 5 "Code" C ["self", "signs", "clauses", "helpers"] (sp_Code_init K C)) : FnOk P w K mg base CX0 7 f fd ["_law_c"] (sp__law_made2 K C) := by
  refine F.ok sc__law_made (fun vs H Q E h => ?_) (fun cdv A outer s H vs Q E hr h => ?_)
  · obtain ⟨x, M, v, rfl, _⟩ := h
    rfl
  · obtain ⟨c, M, v, rfl, mh, r1, X, q⟩ := h
    have hu := hr.units
    refine ⟨_, (pss_one (ps_ret (pe_mk k_Code (hr.mono (by decide)) (pa_cons (pe_dget (Nat.lt_of_le_of_lt (Nat.add_le_add_left (by decide) _) hu) (pv 0) pe_str (fun _ _ => rfl)) (pa_cons (pe_dget (Nat.lt_of_le_of_lt (Nat.add_le_add_left (by decide) _) hu) (pv 0) pe_str (fun _ _ => rfl)) (pa_cons (pe_dget (Nat.lt_of_le_of_lt (Nat.add_le_add_left (by decide) _) hu) (pv 0) pe_str (fun _ _ => rfl)) pa_nil)))))), ?_⟩
    refine gv_cS (gv_var rfl r1) H mh _ fun v1 M1 H1 g1 q1 => ?_
    refine gv_cC (gv_var (P := LawR c) rfl (Mon.mono g1.mm r1)) H1 g1.mh _ fun v2 M2 H2 g2 q2 => ?_
    refine gv_cH (gv_var (P := LawR c) rfl (Mon.mono (g1.trans g2).mm r1)) H2 g2.mh _ fun v3 M3 H3 g3 q3 => ?_
    intro x dx hx hdx hne
    have G := (g1.trans g2).trans g3
    have m3 : Same M3 H3 := g3.mh
    have gN : Gr M3 H3 M3 (upd (upd H3 dx (.own x)) x (.ins C dx [])) := (Gr.own m3 hdx).trans (.own (m3.trans (same_new hdx)) (by rw [upd_ne (Ne.symm hne)]; exact hx))
    refine ⟨c.signs, c.helpers, c.clauses, M3, H3, x, dx, v1, v2, v3, rfl, gN, hx, m3.free hx, upd_same, (Mon.mono (g2.mm.trans g3.mm) q1 : LiR Tx c.signs M3 v1).sq, liTT_sqq (Mon.mono g3.mm q2), q3.sq, X.ok, fun M' H' g r => ⟨rfl, ?_⟩⟩
    exact q _ M' H' (G.trans g) r
structure AlPre (sg : List Str) (cs : List (List Str)) (hp : List Str) : Prop where
  s6 : sg.length ≤ 6
  ss : Shorts sg
  h6 : hp.length ≤ 6
  hs : Shorts hp
  n : cs.length ≤ 1000000
  e : ∀ c ∈ cs, c.length ≤ 1000000
end
end My

set_option Elab.async false
set_option linter.all false
set_option maxRecDepth 100000
set_option maxHeartbeats 4000000
namespace My
open PySem PySem.Spec PyProof.Rows L2 L3
/-! codes whose clauses stand as the program keeps them -/
structure Nf (c : CodeD) : Prop where
  a : ∀ x ∈ c.clauses, asc x c.names = x
  nd : c.clauses.Nodup
theorem map_self {α : Type} {f : α → α} {xs : List α} (h : ∀ x ∈ xs, f x = x) : xs.map f = xs := by
  have := List.map_congr_left (l := xs) (f := f) (g := id) h
  rw [this, List.map_id]
theorem Nf.made {c : CodeD} (h : Nf c) : madeOf c = c := by
  obtain ⟨ss, hs, cl⟩ := c
  show CodeD.mk ss hs (once (cl.map fun d => asc d (ss ++ hs))) = _
  rw [map_self (f := fun d => asc d (ss ++ hs)) h.a, once_self h.nd]
theorem nf_up {sg hp ns : List Str} (cs : List (List Str)) (e : sg ++ hp = ns) : Nf ⟨sg, hp, onceUp cs ns⟩ := ⟨fun x hx => by
  show asc x (sg ++ hp) = x
  rw [e]
  obtain ⟨d, _, rfl⟩ := List.mem_map.mp (mem_once.mp (show x ∈ once (cs.map fun d => asc d ns) from hx))
  exact asc_asc _ _, once_nodup _⟩
theorem Good.nf {c : CodeD} (g : Good c) : Nf c := by
  obtain ⟨cs, e, _⟩ := g.cl
  have := nf_up (sg := c.signs) (hp := c.helpers) (ns := c.names) cs rfl
  rw [← e] at this
  exact this
def litsOf (ns : List Str) : List Str := ns.flatMap fun n => [n, ("-" : Str) ++ n]
theorem mem_litsOf {ns : List Str} {x : Str} : x ∈ litsOf ns ↔ LitN ns x := by
  unfold litsOf
  rw [List.mem_flatMap]
  constructor
  · rintro ⟨n, hn, h⟩; exact ⟨n, hn, by simpa using h⟩
  · rintro ⟨n, hn, h⟩; exact ⟨n, hn, by simpa using h⟩
theorem litsOf_nodup : ∀ {ns : List Str}, ns.Nodup → (∀ n ∈ ns, isNm n = true) → (litsOf ns).Nodup
  | [], _, _ => List.nodup_nil
  | n :: r, nd, nm => by
    obtain ⟨h1, h2⟩ := List.nodup_cons.mp nd
    have hn := nm n (List.mem_cons_self ..)
    have ih := litsOf_nodup h2 fun m hm => nm m (List.mem_cons_of_mem _ hm)
    show ([n, ("-" : Str) ++ n] ++ litsOf r).Nodup
    refine List.nodup_append.mpr ⟨?_, ih, fun a ha b hb e => ?_⟩
    · simp only [List.nodup_cons, List.mem_singleton, List.not_mem_nil, not_false_eq_true, List.nodup_nil, and_true]
      exact neg_ne hn
    · subst e
      obtain ⟨m, hm, s⟩ := mem_litsOf.mp hb
      have hmn := nm m (List.mem_cons_of_mem _ hm)
      simp only [List.mem_cons, List.not_mem_nil, or_false] at ha
      have ne : n ≠ m := fun e => h1 (e ▸ hm)
      rcases ha with ha | ha <;> rcases s with s | s
      · exact ne (ha.symm.trans s)
      · exact neg_ne hn (ha.symm.trans s)
      · exact neg_ne hmn (s.symm.trans ha)
      · exact ne (neg_inj (ha.symm.trans s))
structure HalfS (ns : List Str) (p : List Str × Nat) : Prop where
  le : p.2 ≤ ns.length
  s : p.1.Sublist (litsOf (ns.take p.2))
end My

set_option Elab.async false
set_option linter.all false
set_option maxRecDepth 100000
set_option maxHeartbeats 8000000
namespace My
open PySem PySem.Spec PyProof.Rows L2 L3
open L3.Strm
/-! one more name -/
theorem nm_snoc {ns : List Str} {n : Str} (nm : NmL ns) (h : isNm n = true) (hn : n ∉ ns) (hl : ns.length ≤ 400) : NmL (ns ++ [n]) := by
  refine ⟨List.nodup_append.mpr ⟨nm.nd, by simp, fun a ha b hb e => ?_⟩, fun m hm => ?_, by rw [List.length_append]; simp; omega⟩
  · rw [List.mem_singleton] at hb
    subst hb
    exact hn (e ▸ ha)
  · rcases List.mem_append.mp hm with hm | hm
    · exact nm.nm m hm
    · rw [List.mem_singleton.mp hm]; exact h
theorem lits_snoc {ns so : List Str} {n l : Str} (nm : NmL ns) (h : isNm n = true) (hn : n ∉ ns) (hl : ns.length ≤ 400) (L : Lits ns so) (e : Side n l) : Lits (ns ++ [n]) (so ++ [l]) := by
  refine lits_put (n := n) (nm_snoc nm h hn hl) (L.wide fun m hm => List.mem_append_left _ hm) (mem_opn.mpr ⟨by simp, fun z => ?_, fun z => ?_⟩) e
  · have := (L.name nm z).1
    rw [nameOf_nm h] at this
    exact hn this
  · have := (L.name nm z).1
    rw [nameOf_neg h] at this
    exact hn this
theorem side_opp {n l : Str} (h : isNm n = true) (e : Side n l) : Side n (opp l) := by
  rcases e with e | e
  · rw [e, opp_nm h]; exact .inr rfl
  · rw [e, opp_neg h]; exact .inl rfl
theorem liTT_liq {K : PySem.W.Frag} {cs : List (List Str)} {M : Hp} {v : V} (h : LiR TT cs M v) : LiR (SqR K Tx) cs M v :=
  let ⟨a, vs, e, r, p⟩ := h
  ⟨a, vs, e, r, Paired.mapP p fun _ _ q => TT.sq q⟩
structure LawN (c : CodeD) : Prop where
  nm : NmL c.names
  n9 : c.names.length ≤ 9
  l : ∀ x ∈ c.clauses, Lits c.names x
  k : c.clauses.length ≤ 1000
theorem LawN.len {c : CodeD} (X : LawN c) : ∀ x ∈ c.clauses, x.length ≤ 9 := fun x hx => Nat.le_trans (lits_len (X.l x hx) X.nm) X.n9
theorem once_up_lawN {sg hp ns : List Str} {cs : List (List Str)} (e : sg ++ hp = ns) (nm : NmL ns) (n9 : ns.length ≤ 9) (L : ∀ x ∈ cs, Lits ns x) (k : cs.length ≤ 1000) : LawN ⟨sg, hp, onceUp cs ns⟩ := by
  refine ⟨by show NmL (sg ++ hp); rw [e]; exact nm, by show (sg ++ hp).length ≤ 9; rw [e]; exact n9, fun x hx => ?_, ?_⟩
  · show Lits (sg ++ hp) x
    rw [e]
    obtain ⟨d, hd, rfl⟩ := List.mem_map.mp (mem_once.mp (show x ∈ once (cs.map fun d => asc d ns) from hx))
    exact (L d hd).asc nm
  · show (once (cs.map fun d => asc d ns)).length ≤ 1000
    refine Nat.le_trans (once_len2 _) ?_
    rw [List.length_map]
    exact k
end My

set_option Elab.async false
set_option linter.all false
set_option maxRecDepth 100000
set_option maxHeartbeats 8000000
namespace My
open PySem PySem.Spec PyProof.Rows L2 L3
theorem flat_sub {xs ys : List (List Str)} (h : xs.Sublist ys) : xs.flatten.length ≤ ys.flatten.length := by
  induction h with
  | slnil => exact Nat.le_refl _
  | cons a _ ih => rw [List.flatten_cons, List.length_append]; omega
  | cons_cons a _ ih => rw [List.flatten_cons, List.flatten_cons, List.length_append, List.length_append]; omega
theorem ChW.sub {cs ds : List (List Str)} (w : ChW cs) (h : ds.Sublist cs) : ChW ds := ⟨fun c hc => w.1 c (h.subset hc), Nat.le_trans (flat_sub h) w.2.1, Nat.le_trans h.length_le w.2.2⟩
/-- codes of moderate size -/
structure CodeP (c : CodeD) : Prop where
  nm : NmL c.names
  l : ∀ x ∈ c.clauses, Lits c.names x
  n : c.names.length ≤ 100
  k : c.clauses.length ≤ 1000
section
variable {c : CodeD}
theorem CodeP.len (X : CodeP c) : ∀ x ∈ c.clauses, x.length ≤ 100 := fun x hx => Nat.le_trans (lits_len (X.l x hx) X.nm) X.n
theorem CodeP.w (X : CodeP c) : CodeW c := by
  have h2 := flat_len X.len
  have h4 : c.clauses.length * 100 ≤ 1000 * 100 := Nat.mul_le_mul_right _ X.k
  have h5 := X.k
  exact ⟨fun x hx => ⟨Nat.le_trans (X.len x hx) (by decide), fun l hl => Nat.le_trans (lits_short (X.l x hx) X.nm l hl) (by decide)⟩, by omega, by omega, nm_shorts X.nm⟩
theorem CodeP.ch (X : CodeP c) : ChW c.clauses := ⟨X.w.c, X.w.n, X.w.k⟩
theorem CodeP.ok (X : CodeP c) : CodeOk c.signs c.helpers c.clauses := by
  have hn := X.n
  have hl : c.names.length = c.signs.length + c.helpers.length := List.length_append
  obtain ⟨n1, n2, n3⟩ := List.nodup_append.mp (show (c.signs ++ c.helpers).Nodup from X.nm.nd)
  refine ⟨⟨n1, fun x hx => ⟨X.nm.nm x (List.mem_append_left _ hx), fun h => by cases h⟩, by omega⟩, ⟨n2, fun x hx => ⟨X.nm.nm x (List.mem_append_right _ hx), fun h => n3 x h x hx rfl⟩, by omega⟩, Nat.le_trans X.k (by decide), fun x hx => clOk_lits X.nm (X.l x hx), ?_⟩
  show c.names.length ≤ 1000
  omega
theorem LawX.p (X : LawX c) : CodeP c := ⟨X.nm, X.l, Nat.le_trans X.n6 (by decide), X.k⟩
theorem CodeP.sub {ds : List (List Str)} (X : CodeP c) (h : ds.Sublist c.clauses) : CodeP ⟨c.signs, c.helpers, ds⟩ := ⟨X.nm, fun x hx => X.l x (h.subset hx), X.n, Nat.le_trans h.length_le X.k⟩
theorem Nf.sub {ds : List (List Str)} (X : Nf c) (h : ds.Sublist c.clauses) : Nf ⟨c.signs, c.helpers, ds⟩ := ⟨fun x hx => X.a x (h.subset hx), X.nd.sublist h⟩
end
theorem inst_code {C : Addr} (c : CodeD) : ∀ (M : Hp) (v : V), CodeR C c M v → ∃ a dx fs, v = .ref a ∧ M a = some (.ins C dx fs) := fun M v ⟨a, dx, va, vb, vn, vc, e, h, _⟩ => ⟨a, dx, _, e, h⟩
theorem gv_mkCode {K : PySem.W.Frag} {σ : Sl} {M : Hp} {t1 t2 t3 : TE} {C : Addr} {ss hs : List Str} {cs : List (List Str)} (h1 : Gv t1 σ M (SqR K Tx ss)) (h2 : Gv t2 σ M (SqR K (SqR K Tx) cs)) (h3 : Gv t3 σ M (SqR K Tx hs)) (ok : CodeOk ss hs cs) : Gv (tMake C (sp_Code_init K C) [] E0 (tCons t1 (tCons t2 (tCons t3 tNil)))) σ M (CodeR C (mkCode ss hs cs)) := fun H mh Q q =>
  h1 H mh _ fun v1 M1 H1 g1 q1 => h2.le g1.mm H1 g1.mh _ fun v2 M2 H2 g2 q2 => h3.le (g1.mm.trans g2.mm) H2 g2.mh _ fun v3 M3 H3 g3 q3 x dx hx hdx hne => by
    have m3 := g3.mh
    have gN : Gr M3 H3 M3 (upd (upd H3 dx (.own x)) x (.ins C dx [])) := (Gr.own m3 hdx).trans (.own (m3.trans (same_new hdx)) (by rw [upd_ne (Ne.symm hne)]; exact hx))
    exact ⟨ss, hs, cs, M3, H3, x, dx, v1, v2, v3, rfl, gN, hx, m3.free hx, upd_same, Mon.mono (g2.mm.trans g3.mm) q1, Mon.mono g3.mm q2, q3, ok, fun M' H' g r => ⟨rfl, q _ M' H' (((g1.trans g2).trans g3).trans g) r⟩⟩
def sameN (xs ys : List Str) : Bool := decide (xs.length = ys.length) && xs.all fun x => decide (x ∈ ys)
def inC (c : CodeD) (x : List Str) : Bool := decide (firstWrong c.names (.tuple (x.map .str)) = none) && decide (asc x c.names ∈ c.clauses)
def eqC (a b : CodeD) : Bool := decide (a.clauses.length = b.clauses.length) && (sameN a.signs b.signs && (sameN a.helpers b.helpers && a.clauses.all (inC b)))
theorem sameN_self (xs : List Str) : sameN xs xs = true := by unfold sameN; simp
theorem eqC_self {c : CodeD} (X : CodeP c) (N : Nf c) : eqC c c = true := by
  unfold eqC
  rw [sameN_self, sameN_self]
  simp only [decide_true, Bool.true_and, List.all_eq_true]
  intro x hx
  unfold inC
  rw [Bool.and_eq_true, decide_eq_true_eq, decide_eq_true_eq]
  exact ⟨(clOk_lits X.nm (X.l x hx)).1, by rw [N.a x hx]; exact hx⟩
section
variable {P : Program} {w : World} {K : PySem.W.Frag} {mg : Str → Option Value} {base : Heap}
abbrev s_Code_signs : Stmt := inClass (topS 33) 1
theorem sc_Code_signs : FnScope ["self"] ["self"] (defScope s_Code_signs) := ⟨rfl, rfl, rfl, by decide +kernel, rfl, by decide +kernel, by decide +kernel⟩
def sp_Code_signs (K : PySem.W.Frag) (C : Addr) : Sp := sp1 (CodeR C) (fun _ => True) fun c => LiR Tx c.signs
theorem ok_Code_signs {f C : Addr} {fd : FuncData} (F : Fun K "signs" "Code.signs" s_Code_signs f fd) (T : Gc mg) (TC : CodeT K mg C) : FnOk P w K mg base CX0 1 f fd ["self"] (sp_Code_signs K C) := by
  refine F.ok sc_Code_signs (fun vs H Q E h => ?_) (fun cdv A outer s H vs Q E hr h => ?_)
  · obtain ⟨x, M, v, rfl, _⟩ := h
    rfl
  · obtain ⟨c, M, v, rfl, mh, r1, _, q⟩ := h
    have hu := hr.units
    refine ⟨_, (pss_one (ps_ret (pe_callTy call_lstA (by rfl) T.list boot_list (pa_cons (pe_fld (pv 0) rfl) pa_nil)))), ?_⟩
    exact s_ret mh (gl_lstOf (K := K) (R1 := Tx) (gv_is (gv_sign TC (gv_var rfl r1)) fun _ _ h => h.sq)).li q
abbrev s_Code_helpers : Stmt := inClass (topS 33) 2
theorem sc_Code_helpers : FnScope ["self"] ["self"] (defScope s_Code_helpers) := ⟨rfl, rfl, rfl, by decide +kernel, rfl, by decide +kernel, by decide +kernel⟩
def sp_Code_helpers (K : PySem.W.Frag) (C : Addr) : Sp := sp1 (CodeR C) (fun _ => True) fun c => LiR Tx c.helpers
theorem ok_Code_helpers {f C : Addr} {fd : FuncData} (F : Fun K "helpers" "Code.helpers" s_Code_helpers f fd) (T : Gc mg) (TC : CodeT K mg C) : FnOk P w K mg base CX0 1 f fd ["self"] (sp_Code_helpers K C) := by
  refine F.ok sc_Code_helpers (fun vs H Q E h => ?_) (fun cdv A outer s H vs Q E hr h => ?_)
  · obtain ⟨x, M, v, rfl, _⟩ := h
    rfl
  · obtain ⟨c, M, v, rfl, mh, r1, _, q⟩ := h
    have hu := hr.units
    refine ⟨_, (pss_one (ps_ret (pe_callTy call_lstA (by rfl) T.list boot_list (pa_cons (pe_fld (pv 0) rfl) pa_nil)))), ?_⟩
    exact s_ret mh (gl_lstOf (K := K) (R1 := Tx) (gv_is (gv_helper TC (gv_var rfl r1)) fun _ _ h => h.sq)).li q
abbrev s_Code_clauses : Stmt := inClass (topS 33) 3
theorem sc_Code_clauses : FnScope ["self"] ["self"] (defScope s_Code_clauses) := ⟨rfl, rfl, rfl, by decide +kernel, rfl, by decide +kernel, by decide +kernel⟩
def sp_Code_clauses (K : PySem.W.Frag) (C : Addr) : Sp := sp1 (CodeR C) (fun _ => True) fun c => LiR TT c.clauses
theorem ok_Code_clauses {f C : Addr} {fd : FuncData} (F : Fun K "clauses" "Code.clauses" s_Code_clauses f fd) (T : Gc mg) (TC : CodeT K mg C) : FnOk P w K mg base CX0 1 f fd ["self"] (sp_Code_clauses K C) := by
  refine F.ok sc_Code_clauses (fun vs H Q E h => ?_) (fun cdv A outer s H vs Q E hr h => ?_)
  · obtain ⟨x, M, v, rfl, _⟩ := h
    rfl
  · obtain ⟨c, M, v, rfl, mh, r1, _, q⟩ := h
    have hu := hr.units
    refine ⟨_, (pss_one (ps_ret (pe_callTy call_lstA (by rfl) T.list boot_list (pa_cons (pe_fld (pv 0) rfl) pa_nil)))), ?_⟩
    exact s_ret mh (gl_lstOf (K := K) (R1 := TT) (gv_is (gv_clause TC (gv_var rfl r1)) fun _ _ h => h.sq)).li q
theorem gv_clauses {σ : Sl} {M : Hp} {C : Addr} {c : CodeD} {te : TE} (h : Gv te σ M (CodeR C c)) : Gv (tMeth C "clauses" (sp_Code_clauses K C) [] E0 te tNil) σ M (LiR TT c.clauses) :=
  gv_met1 (R1 := CodeR C) (pre := fun _ => True) (R := fun c => LiR TT c.clauses) (x := c) (insR_code (by decide +kernel) (by decide +kernel) (by decide +kernel) (by decide +kernel)) h trivial
theorem gv_signsM {σ : Sl} {M : Hp} {C : Addr} {c : CodeD} {te : TE} (h : Gv te σ M (CodeR C c)) : Gv (tMeth C "signs" (sp_Code_signs K C) [] E0 te tNil) σ M (LiR Tx c.signs) :=
  gv_met1 (R1 := CodeR C) (pre := fun _ => True) (R := fun c => LiR Tx c.signs) (x := c) (insR_code (by decide +kernel) (by decide +kernel) (by decide +kernel) (by decide +kernel)) h trivial
theorem gv_helpersM {σ : Sl} {M : Hp} {C : Addr} {c : CodeD} {te : TE} (h : Gv te σ M (CodeR C c)) : Gv (tMeth C "helpers" (sp_Code_helpers K C) [] E0 te tNil) σ M (LiR Tx c.helpers) :=
  gv_met1 (R1 := CodeR C) (pre := fun _ => True) (R := fun c => LiR Tx c.helpers) (x := c) (insR_code (by decide +kernel) (by decide +kernel) (by decide +kernel) (by decide +kernel)) h trivial
abbrev s_are_same : Stmt := topS 34
theorem sc_are_same : FnScope ["names", "others", "name"] ["names", "others"] (defScope s_are_same) := ⟨rfl, rfl, rfl, by decide +kernel, rfl, by decide +kernel, by decide +kernel⟩
def sp_are_same (K : PySem.W.Frag) : Sp := sp2 (SqR K Tx) (SqR K Tx) (fun xs _ => xs.length ≤ 1000000) fun xs ys => Bl (sameN xs ys)
theorem ok_are_same {f : Addr} {fd : FuncData} (F : Fun K "are_same" "are_same" s_are_same f fd) (T : Gc mg) : FnOk P w K mg base CX0 1 f fd ["names", "others"] (sp_are_same K) := by
  refine F.ok sc_are_same (fun vs H Q E h => ?_) (fun cdv A outer s H vs Q E hr h => ?_)
  · obtain ⟨x, y, M, v, w, rfl, _⟩ := h
    rfl
  · obtain ⟨xs, ys, M, v, w, rfl, mh, r1, r2, hl, q⟩ := h
    have hu := hr.units
    refine ⟨_, (pss_one (ps_ret (pe_and (pe_cmpR (op_eqP hu) (pe_callB call_lenA (by rfl) T.len boot_len (pa_cons (pv 0) pa_nil)) (pe_callB call_lenA (by rfl) T.len boot_len (pa_cons (pv 1) pa_nil)) (nomark _)) (pe_one (pe_callB (cr_all rfl) (by rfl) T.all boot_all (pa_cons (pe_lc (own := [("name", 2)]) (g := (gName 2)) (tt := tYes) (te := (tOp (rInA K false) (tVar 2) (tVar 1))) (by rfl) sc_are_same.nd (pi_sq (pv 0)) (blkOk_by (by rfl)) (fun _ _ _ _ _ => (pg_name (i := 2) sc_are_same.nd rfl (by first | exact .inl rfl | exact .inr rfl))) (fun _ _ _ _ _ => pts_nil) (fun _ _ _ _ _ => (pe_cmpR (op_inA hu) (pv 2) (pv 1) (by rfl)))) pa_nil)))))), ?_⟩
    refine s_ret mh (gv_is (gv_andV (b := decide (xs.length = ys.length)) (c := xs.all fun x => decide (x ∈ ys)) (gv_is (gv_eqT (K := K) (neg := false) (x := (xs.length : Int)) (y := (ys.length : Int)) py_int inj_int (gv_lenA (K := K) (R := Tx) (gv_var rfl r1)) (gv_lenA (K := K) (R := Tx) (gv_var rfl r2)) (by simp [PyData.depth])) fun M v h => by
      rw [show v = _ from h]; show V.bl _ = V.bl _; congr 1; simp [Int.ofNat_inj]) fun _ => gv_is (gv_all (K := K) (gl_m1 (S := Bl) (R := Tx) (xs := xs) (gi_sq (K := K) (gv_var rfl r1)) (szK hl) (fun x => decide (x ∈ ys)) fun x _ M1 u sm ru => gv_is (gv_inA (K := K) (neg := false) (gv_var rfl ru) (gv_var rfl (.inl (Mon.mono sm r2)))) fun M v h => by simpa using h)) fun M v h => by rw [show v = _ from h, List.all_map]; rfl) fun M v h => h) q
abbrev s_Code_contains : Stmt := inClass (topS 33) 6
theorem sc_Code_contains : FnScope ["self", "thing"] ["self", "thing"] (defScope s_Code_contains) := ⟨rfl, rfl, rfl, by decide +kernel, rfl, by decide +kernel, by decide +kernel⟩
def sp_Code_contains (K : PySem.W.Frag) (C : Addr) : Sp := sp2 (CodeR C) TT (fun c x => Shorts c.names ∧ shortT x) fun c x => Bl (inC c x)
theorem ok_Code_contains {f C : Addr} {fd : FuncData} (F : Fun K "__contains__" "Code.__contains__" s_Code_contains f fd) (TC : CodeT K mg C) (c_first_wrong : Cal P w K mg base 3 "first_wrong" ["things", "names"] (sp_first_wrong K)) (c_ascending : Cal P w K mg base 1 "ascending" ["literals", "names"] (sp_ascending K)) : FnOk P w K mg base CX0 4 f fd ["self", "thing"] (sp_Code_contains K C) := by
  refine F.ok sc_Code_contains (fun vs H Q E h => ?_) (fun cdv A outer s H vs Q E hr h => ?_)
  · obtain ⟨x, y, M, v, w, rfl, _⟩ := h
    rfl
  · obtain ⟨c, x, M, v, w, rfl, mh, r1, r2, ⟨hs, hx⟩, q⟩ := h
    have hu := hr.units
    refine ⟨_, (pss_one (ps_ret (pe_and (pe_cmp (pc_isN (pe_f c_first_wrong (hr.mono (by decide)) (pa_cons (pv 1) (pa_cons (pe_fld (pv 0) rfl) pa_nil))))) (pe_one (pe_cmpR (op_inA hu) (pe_f c_ascending (hr.mono (by decide)) (pa_cons (pv 1) (pa_cons (pe_fld (pv 0) rfl) pa_nil))) (pe_fld (pv 0) rfl) (by rfl)))))), ?_⟩
    have sh : shortL (.tuple (x.map .str)) := ⟨by rw [List.length_map]; exact hx.1, fun d hd => by obtain ⟨l, hl, rfl⟩ := List.mem_map.mp hd; exact hx.2 l hl⟩
    exact s_ret mh (gv_andV (b := decide (firstWrong c.names (.tuple (x.map .str)) = none)) (c := decide (asc x c.names ∈ c.clauses)) (gv_isN (b := decide (firstWrong c.names (.tuple (x.map .str)) = none)) (gv_call2 (R1 := Dd K) (R2 := SqR K Tx) (pre := fun d _ => shortL d) (R := fun d ns => OpN (firstWrong ns d)) (x := .tuple (x.map .str)) (y := c.names) (gv_var rfl (py_TT _ _ _ r2)) (gv_is (gv_names TC (gv_var rfl r1)) fun _ _ h => h.sq) sh) fun M v h => by
        have h : OpN (firstWrong c.names (.tuple (x.map .str))) M v := h
        revert h
        cases firstWrong c.names (.tuple (x.map .str)) with
        | none => intro h; cases (show v = .non from h); rfl
        | some i => intro h; cases (show v = .int _ from h); rfl) fun _ => gv_is (gv_inD (K := K) (R := TT) (neg := false) py_TT inj_TT (gv_call2 (R1 := CtR K) (R2 := SqR K Tx) (pre := fun _ ns => Shorts ns) (R := fun ls ns => TT (asc ls ns)) (x := x) (y := c.names) (gv_var rfl (.inl r2.sq)) (gv_is (gv_names TC (gv_var rfl r1)) fun _ _ h => h.sq) hs) (gv_is (gv_clause TC (gv_var rfl r1)) fun _ _ h => h.sq) (by simp [PyData.depth, depthS])) fun M v h => by rw [show v = _ from h]; show V.bl _ = V.bl _; congr 1; simp) q
abbrev s_Code_eq : Stmt := inClass (topS 33) 7
theorem sc_Code_eq : FnScope ["self", "other", "clause"] ["self", "other"] (defScope s_Code_eq) := ⟨rfl, rfl, rfl, by decide +kernel, rfl, by decide +kernel, by decide +kernel⟩
def sp_Code_eq (K : PySem.W.Frag) (C : Addr) : Sp := sp2 (CodeR C) (CodeR C) (fun a b => CodeP a ∧ CodeP b) fun a b => Bl (eqC a b)
theorem ok_Code_eq {f C : Addr} {fd : FuncData} (F : Fun K "__eq__" "Code.__eq__" s_Code_eq f fd) (T : Gc mg) (TC : CodeT K mg C) (IC : InsF K C) (g_Code : mg "Code" = some (.ref C)) (o_len : OwnLen P w K mg base 1 C (sp_Code_len K C)) (o_in : OwnSp P w K mg base 4 C "__contains__" ["self", "thing"] (sp_Code_contains K C)) (c_are_same : Cal P w K mg base 1 "are_same" ["names", "others"] (sp_are_same K)) : FnOk P w K mg base CX0 5 f fd ["self", "other"] (sp_Code_eq K C) := by
  refine F.ok sc_Code_eq (fun vs H Q E h => ?_) (fun cdv A outer s H vs Q E hr h => ?_)
  · obtain ⟨x, y, M, v, w, rfl, _⟩ := h
    rfl
  · obtain ⟨a, b, M, v, w, rfl, mh, r1, r2, ⟨XA, XB⟩, q⟩ := h
    have hu := hr.units
    refine ⟨_, (pss_cons (ps_if (PW.pt (pw_or (pt_not (pt_val (pe_callB call_isi (by rfl) T.isinstance boot_isinstance (pa_cons (pv 1) (pa_cons (pe_glob (v := .ref C) (by rfl) g_Code rfl) pa_nil))))) (pw_or1 (pt_cmpR (op_neP hu) (pe_callB (call_lenO o_len (hr.mono (by decide))) (by rfl) T.len boot_len (pa_cons (pv 0) pa_nil)) (pe_callB (call_lenO o_len (hr.mono (by decide))) (by rfl) T.len boot_len (pa_cons (pv 1) pa_nil)) (nomark _))))) (pss_one (ps_ret pe_bl)) pss_nil)
      (pss_cons (ps_if (PW.pt (pw_or (pt_not (pt_val (pe_f c_are_same (hr.mono (by decide)) (pa_cons (pe_fld (pv 0) rfl) (pa_cons (pe_fld (pv 1) rfl) pa_nil))))) (pw_or1 (pt_not (pt_val (pe_f c_are_same (hr.mono (by decide)) (pa_cons (pe_fld (pv 0) rfl) (pa_cons (pe_fld (pv 1) rfl) pa_nil)))))))) (pss_one (ps_ret pe_bl)) pss_nil)
      (pss_one (ps_ret (pe_callB (cr_all rfl) (by rfl) T.all boot_all (pa_cons (pe_lc (own := [("clause", 2)]) (g := (gName 2)) (tt := tYes) (te := (tOp (rInO C (sp_Code_contains K C) false) (tVar 2) (tVar 1))) (by rfl) sc_Code_eq.nd (pi_sq (pe_fld (pv 0) rfl)) (blkOk_by (by rfl)) (fun _ _ _ _ _ => (pg_name (i := 2) sc_Code_eq.nd rfl (by first | exact .inl rfl | exact .inr rfl))) (fun _ _ _ _ _ => pts_nil) (fun _ _ _ _ _ => (pe_cmpR (op_inO o_in (hr.mono (by decide))) (pv 2) (pv 1) (by rfl)))) pa_nil)))))), ?_⟩
    have ka := XA.k
    have kb := XB.k
    have na : a.names.length = a.signs.length + a.helpers.length := List.length_append
    have nn := XA.n
    have glen : ∀ {σ' : Sl} {te : TE} {d : CodeD}, d.clauses.length ≤ 1000 → Gv te σ' M (CodeR C d) → Gv (tCB (rLenO C (sp_Code_len K C)) (tCons te tNil)) σ' M (It' (d.clauses.length : Nat)) := fun hk h => gv_lenO (R1 := CodeR C) (pre := fun _ => True) (R := fun c => It' (c.clauses.length : Nat)) h (fun M v r => inst_code _ M v r) trivial (by omega) fun _ _ r => r
    have gsame : ∀ {σ' : Sl} {M' : Hp} {t1 t2 : TE} {xs ys : List Str}, xs.length ≤ 1000000 → Gv t1 σ' M' (TT xs) → Gv t2 σ' M' (TT ys) → Gv (tCall (sp_are_same K) [] E0 (tCons t1 (tCons t2 tNil))) σ' M' (Bl (sameN xs ys)) := fun hl h1 h2 => gv_call2 (R1 := SqR K Tx) (R2 := SqR K Tx) (pre := fun xs _ => xs.length ≤ 1000000) (R := fun xs ys => Bl (sameN xs ys)) (gv_is h1 fun _ _ h => h.sq) (gv_is h2 fun _ _ h => h.sq) hl
    have fin : ∀ (z : V) (M' H' : Hp) (e : Bool), Gr M H M' H' → z = .bl e → e = eqC a b → Q z H' := fun z M' H' e g hz he => q z M' H' g (by rw [hz, he])
    refine q_if0 (b := !decide (a.clauses.length = b.clauses.length)) mh (gt_is (gt_or (b := false) (c := !decide (a.clauses.length = b.clauses.length)) (gt_is (gt_not (gt_B (gv_isC (K := K) IC (gv_var (P := CodeR C b) rfl r2) (inst_code b)))) rfl) fun _ => gt_is (gt_test (gv_eqT (K := K) (neg := true) (x := (a.clauses.length : Int)) (y := (b.clauses.length : Int)) py_int inj_int (glen ka (gv_var rfl r1)) (glen kb (gv_var rfl r2)) (by simp [PyData.depth]))) (by simp [Int.ofNat_inj])) (by simp)) (fun hb H1 hh1 => ?_) fun hb H1 hh1 => ?_
    · exact s_ret (P := Bl false) (mh.trans hh1) (gv_c rfl) fun z M' H' g r => fin z M' H' false (.trans (.idle mh hh1) g) r (by unfold eqC; rw [show decide (a.clauses.length = b.clauses.length) = false by simpa using hb]; rfl)
    have e0 : decide (a.clauses.length = b.clauses.length) = true := by simpa using hb
    have G1 : Gr M H M H1 := .idle mh hh1
    refine q_if0 (b := !sameN a.signs b.signs || !sameN a.helpers b.helpers) G1.mh (gt_or (b := !sameN a.signs b.signs) (c := !sameN a.helpers b.helpers) (gt_not (gt_B (gsame (by omega) (gv_sign TC (gv_var rfl r1)) (gv_sign TC (gv_var rfl r2))))) fun _ => gt_not (gt_B (gsame (by omega) (gv_helper TC (gv_var rfl r1)) (gv_helper TC (gv_var rfl r2))))) (fun hb H2 hh2 => ?_) fun hb H2 hh2 => ?_
    · refine s_ret (P := Bl false) (G1.mh.trans hh2) (gv_c rfl) fun z M' H' g r => fin z M' H' false ((G1.trans (.idle G1.mh hh2)).trans g) r ?_
      unfold eqC
      rw [e0]
      revert hb
      cases sameN a.signs b.signs <;> cases sameN a.helpers b.helpers <;> simp
    have G2 := G1.trans (.idle G1.mh hh2)
    refine s_ret G2.mh (gv_all (K := K) (gl_m1 (S := Bl) (R := TT) (xs := a.clauses) (gi_sq (K := K) (gv_is (gv_clause TC (gv_var rfl r1)) fun _ _ h => h.sq)) (szK (by omega)) (inC b) fun x hx M1 u sm ru => gv_is (gv_inO (R1 := CodeR C) (R2 := TT) (pre := fun c x => Shorts c.names ∧ shortT x) (B := inC) (x := b) (y := x) (neg := false) (gv_var rfl ru) (gv_var rfl (Mon.mono sm r2)) (inst_code b) ⟨nm_shorts XB.nm, XA.w.c x hx⟩) fun M v h => by simpa using h)) fun z M' H' g r => fin z M' H' _ (G2.trans g) r ?_
    unfold eqC
    rw [e0]
    revert hb
    cases sameN a.signs b.signs <;> cases sameN a.helpers b.helpers <;> simp [List.all_map, Function.comp_def]
end
end My

set_option Elab.async false
set_option linter.all false
set_option maxRecDepth 100000
set_option maxHeartbeats 1000000
namespace L3
open PySem PySem.Spec PyProof.Rows L2 MeetsSeq
open AutoSeq1 (wpAny_loadPart')
/-! an empty dict beside texts: not in a tuple of texts; repr of (text, thing) -/
section
end
/-- a tuple of a text and a thing -/
def TxF (K : PySem.W.Frag) : Rl (Str × PyData) := fun t M v => ∃ p w, v = .ref p ∧ M p = some (.tup [.str t.1, w]) ∧ DdF K t.2 M w
instance {K : PySem.W.Frag} : Mon (TxF K) := ⟨fun e ⟨p, w, h1, h2, h3⟩ => ⟨p, w, h1, e _ _ h2, Mon.mono e h3⟩⟩
section
end
end L3

set_option Elab.async false
set_option linter.all false
set_option maxRecDepth 100000
set_option maxHeartbeats 8000000
namespace My
open PySem PySem.Spec PyProof.Rows L2 L3 LamX
open L3.Strm
/-! statement rules that carry the state of a law with a table; lists of data among which an empty dict may stand -/
section
variable {S : Strm} {Pt : Addr} {q : Str} {M H : Hp} {k j c : Nat} {σ : Sl} {te : TE} {P : Pr} {D : Ends} {tz tb : TS} {tt : L2.TT}
theorem _root_.L3.LS.plain {M' H' : Hp} (L : LS S Pt q M H k) (g : Gr M H M' H') : LS S Pt q M' H' k := L.step (lift L.mh L.at_ g) (L.at_.same g.hh)
/-- a list of ours is known from now on -/
theorem _root_.L3.LS.freeze {p : Addr} {vs : List V} (L : LS S Pt q M H k) (hp : S.cut H p = some (.lst vs)) : LS S Pt q (upd M p (.lst vs)) H k := by
  obtain ⟨ps, hP, ok, h3⟩ := L.tb
  have n : Pt ≠ p := fun z => by rw [z, of_cut hp] at hP; cases hP
  refine ⟨same_lent L.mh hp, L.at_, L.tb, by rw [upd_ne n]; exact L.mp, fun a qs e => ?_⟩
  by_cases z : a = p
  · subst z; rw [upd_same] at e; cases e
  · rw [upd_ne z] at e; exact L.nt a qs e
/-- a new list -/
theorem _root_.L3.LS.new {p : Addr} {o : HO} (L : LS S Pt q M H k) (np : H p = none) : LS S Pt q M (upd H p o) k ∧ M p = none ∧ S.cut (upd H p o) p = some o := by
  have no := L.at_.fresh np
  have nc := L.at_.cutn np
  exact ⟨L.step (by rw [cut_upd no]; exact .own L.mh nc) (L.at_.upd no), L.mh.free nc, by rw [cut_upd no, upd_same]⟩
end
section
end
/-! the law's own def that takes a lambda: its suite calls a def -/
section
end
section
end
end My

set_option Elab.async false
set_option linter.all false
set_option maxRecDepth 100000
set_option maxHeartbeats 1000000
namespace L3
open PySem PySem.Spec PyProof.Rows L2
/-! several except clauses, each with a name or without -/
/-- an exception that has come down to the frame of its try -/
structure Ld (X : Cx) (pins : List (Addr × Obj)) (σ : L2.St) (H : Hp) (e : Addr) (cls : Value) (d : Option Addr) (z : Shared) : Prop where
  st : X.stack = X.env :: X.outer
  fr : X.env.frame = some X.env.locals
  un : H e = none
  fl : ∃ (B : Heap) (y : Shared), L2.Inv X pins σ H y ∧ (∀ b o, y.heap.get? b = some o → b ∉ frs X.stack → B.get? b = some o) ∧ y.heap.UpToSlots z.heap ∧ z.os = y.os ∧ AllBare z.gens ∧ HandSPX.FlyingZ B (X.env :: X.outer) e (Zc cls d) z.heap
section
variable {X : Cx} {pins : List (Addr × Obj)} {σ : L2.St} {H : Hp} {e : Addr} {cls : Value} {d : Option Addr} {z : Shared}
theorem Ld.inv (L : Ld X pins σ H e cls d z) : L2.Inv X pins σ H z := let ⟨_, _, J, nb, u, o, g, f⟩ := L.fl; J.landed nb f.1 u o g
/-- its object stands apart from the frames -/
theorem Ld.obj (L : Ld X pins σ H e cls d z) : ∃ ob us, z.heap.get? e = some ob ∧ Zc cls d ob ∧ ob.data = .fields us ∧ e ≠ X.env.locals ∧ e ∉ X.fs := by
  obtain ⟨B, y, _, _, _, _, _, f⟩ := L.fl
  obtain ⟨ob, us, h1, h2, h3⟩ := f.there
  have apart : e ∉ frs (X.env :: X.outer) := by
    intro hm
    obtain ⟨_, o2, h4, h5⟩ := f.2.2.1.mem hm
    cases h1.symm.trans h4
    exact h5 _ h3
  refine ⟨ob, us, h1, h2, h3, fun q => ?_, fun q => ?_⟩
  · exact apart (List.mem_filterMap.mpr ⟨_, List.mem_cons_self .., q ▸ L.fr⟩)
  · obtain ⟨v, h6, h7⟩ := List.mem_filterMap.mp q
    exact apart (List.mem_filterMap.mpr ⟨v, List.mem_cons_of_mem _ h6, h7⟩)
/-- the state in which a clause's suite begins -/
theorem Ld.in (L : Ld X pins σ H e cls d z) : ∃ ob us, z.heap.get? e = some ob ∧ Zc cls d ob ∧ ob.data = .fields us ∧ L2.Inv (X.suite e ((e, ob) :: (X.pn ++ pins))) [] σ H z :=
  let ⟨ob, us, h1, h2, h3, h4, h5⟩ := L.obj
  ⟨ob, us, h1, h2, h3, L.inv.suite h1 h3 L.un h4 h5⟩
/-- the flight is set to none once more -/
theorem Ld.again (L : Ld X pins σ H e cls d z) {A : Around} {Q : Unit → Shared → Prop} {E : Value → Shared → Prop} (go : ∀ h, Ld X pins σ H e cls d { z with heap := h } → Q () { z with heap := h }) : wpAny (model X.prog X.w) A (setFlight (.ref e) none) Q E z := by
  obtain ⟨B, y, J, nb, u, o, g, f⟩ := L.fl
  exact HandSPX.lands_againZ f fun h f' u' => go h ⟨L.st, L.fr, L.un, B, y, J, nb, u.trans u', o, g, f'⟩
/-- no clause takes it -/
theorem Ld.on {W : WX} {D : Ends} (L : Ld X pins σ H e cls d z) (tk : Takes X W) (w : W cls d σ H) : wpAny (model X.prog X.w) X.A (handleBy (.ref e) X.env []) (SP X pins D) X.xe z := by
  obtain ⟨B, y, J, nb, u, o, g, f⟩ := L.fl
  have last : wpAny (model X.prog X.w) X.A (setFlight (.ref e) X.env.frame) (fun _ => wpAny (model X.prog X.w) X.A (throw (.ref e) : Sem Flow) (SP X pins D) X.xe) X.xe z := by
    rw [L.fr]
    exact HandSPX.setFlight_upZ f fun h hd u' => wpAny_throw (tk _ _ ⟨e, B, y, pins, σ, H, cls, d, rfl, J, nb, u.trans u', .inr (.inr (by rw [L.st]; exact hd)), L.un, o, g, w⟩)
  refine wpAny_handleBy_nil ?_
  obtain ⟨_, _, _, ob, us, t, _, _, h1, _, h3, h4, _⟩ := f
  unfold PySem.passOn
  refine wpAny_bind (wpAny_field h1 h3 h4 ?_)
  rw [if_neg (by simp : ¬ ((Value.ref t == Value.none) = true))]
  first
    | exact wpAny_bind (wpAny_pure (wpAny_bind last))
    | exact wpAny_bind last
/-- the class that a clause names is looked at -/
theorem Ld.asks {x : Str} {c : Value} {np : Pos} {b : Bool} {Q : Bool → Shared → Prop} {E E2 : Value → Shared → Prop} (L : Ld X pins σ H e cls d z) (hc : Names X x c) (hb : PySem.W.exmOne X.K cls c = some b) (q : Q b z) :
    wpAny (model X.prog X.w) (X.A.mark (some (.ref e))) (eval (.Name x np) X.env) (fun v s1 => wpAny (model X.prog X.w) (X.A.mark (some (.ref e))) (excMatches (.ref e) v) Q E s1) E2 z := by
  obtain ⟨ob, us, h1, h2, h3, S⟩ := L.in
  have ty : PySem.W.Looks (model X.prog X.w) z.heap (typeOf (.ref e)) cls := fun _ _ _ _ kp k => wpAny_typeOf_ref (kp _ _ h1) (h2.1.symm ▸ k)
  have lk := (PySem.W.exm_one (M := model X.prog X.w) L.inv.kIn ty hb).here (A := X.A.mark (some (.ref e))) (Q := Q) (E := E) (s := z) q
  obtain ⟨g, db, m | ⟨m, v, nn⟩⟩ := hc
  · exact ld_glob (X := X.suite e ((e, ob) :: (X.pn ++ pins))) S g m lk db
  · exact ld_blt (X := X.suite e ((e, ob) :: (X.pn ++ pins))) S g m v lk nn db
end
/-- class, slot of its name, suite -/
abbrev Clz := Value × Option Nat × (Addr → Value → Option Addr → TS)
def clG (o : Option Nat) (σ : L2.St) : L2.St := match o with
  | none => σ
  | some i => σ.set i none
def clD (o : Option Nat) (D : Ends) : Ends := ⟨fun σ H => D.nx (clG o σ) H, D.rt, fun σ H => D.bk (clG o σ) H, fun σ H => D.ct (clG o σ) H⟩
def clS (o : Option Nat) (a : Addr) (σ : L2.St) : L2.St := match o with
  | none => σ
  | some i => σ.set i (some (.ref a))
/-- what the clauses, one after the other, do of an exception -/
def wCl (K : PySem.W.Frag) (W : WX) (D : Ends) : List Clz → WX
  | [] => W
  | (c, o, ts) :: r => fun cls d σ H => ∃ b, PySem.W.exmOne K cls c = some b ∧ (b = true → ∀ a, H a = none → ts a cls d (clD o D) (clS o a σ) H) ∧ (b = false → wCl K W D r cls d σ H)
inductive ClOk (X : Cx) : List ExceptHandler → List Clz → Prop
  | nil : ClOk X [] []
  | plain {x : Str} {c : Value} {ts : Addr → Value → Option Addr → TS} {b₀ : Stmt} {su : List Stmt} {np p : Pos} {hs : List ExceptHandler} {l : List Clz} (hc : Names X x c)
      (go : ∀ (a : Addr) (ob : Obj) (cls : Value) (d : Option Addr) (pn : List (Addr × Obj)), Zc cls d ob → (∃ us, ob.data = .fields us) → PSs (X.suite a ((a, ob) :: pn)) (b₀ :: su) (ts a cls d)) (r : ClOk X hs l) :
      ClOk X (.ExceptHandler (some (.Name x np)) none (b₀ :: su) p :: hs) ((c, none, ts) :: l)
  | named {x n : Str} {i : Nat} {c : Value} {ts : Addr → Value → Option Addr → TS} {b₀ : Stmt} {su : List Stmt} {np p : Pos} {hs : List ExceptHandler} {l : List Clz} (hN : X.N.Nodup) (hi : X.N[i]? = some n) (hln : X.env.kindOf n = some .local) (hc : Names X x c)
      (go : ∀ (a : Addr) (ob : Obj) (cls : Value) (d : Option Addr) (pn : List (Addr × Obj)), Zc cls d ob → (∃ us, ob.data = .fields us) → PSs (X.suite a ((a, ob) :: pn)) (b₀ :: su) (ts a cls d)) (r : ClOk X hs l) :
      ClOk X (.ExceptHandler (some (.Name x np)) (some n) (b₀ :: su) p :: hs) ((c, some i, ts) :: l)
section
variable {X : Cx} {pins : List (Addr × Obj)} {σ : L2.St} {H : Hp} {e : Addr} {cls : Value} {d : Option Addr} {z : Shared} {W : WX} {D : Ends}
theorem ClOk.run {hs : List ExceptHandler} {l : List Clz} (k : ClOk X hs l) (ok : X.Ok) (tk : Takes X W) : ∀ {z : Shared}, Ld X pins σ H e cls d z → wCl X.K W D l cls d σ H → wpAny (model X.prog X.w) X.A (handleBy (.ref e) X.env hs) (SP X pins D) X.xe z := by
  induction k with
  | nil => exact fun L w => L.on tk w
  | plain hc go _ ih =>
    rintro z L ⟨b, hb, yes, no⟩
    refine wpAny_handleBy_cons (codeAny_handlers_test (L.asks hc hb ?_)) nofun
    cases b with
    | false => exact ih L (no rfl)
    | true =>
      refine codeAny_handlers_suite (L.again fun h L2 => ?_)
      obtain ⟨ob, us, h1, h2, h3, S⟩ := L2.in
      refine wpAny_mono ((go e ob cls d _ h2 ⟨us, h3⟩).run [] _ σ H (clD none D) S (yes rfl e L.un)) (fun f y q => ?_) fun _ _ q => q.elim
      cases f with
      | ret u => exact let ⟨v, s, G, J, r, q⟩ := q; ⟨v, s, G, J.unsuite ok, r, q⟩
      | next => exact let ⟨s, G, J, q⟩ := q; ⟨s, G, J.unsuite ok, q⟩
      | brk => exact let ⟨s, G, J, q⟩ := q; ⟨s, G, J.unsuite ok, q⟩
      | cont => exact let ⟨s, G, J, q⟩ := q; ⟨s, G, J.unsuite ok, q⟩
  | @named x n i c ts b₀ su np p hs l hN hi hln hc go _ ih =>
    rintro z L ⟨b, hb, yes, no⟩
    refine wpAny_handleBy_cons (codeAny_handlers_test (L.asks hc hb ?_)) nofun
    cases b with
    | false => exact ih L (no rfl)
    | true =>
      refine codeAny_handlers_suite_as (L.again fun h L2 => ?_)
      obtain ⟨ob, us, h1, h2, h3, S⟩ := L2.in
      refine store_ok (X := X.suite e ((e, ob) :: (X.pn ++ pins))) (v := .ref e) S hN hi (.inl hln) rfl (fun y T => ?_) (.inr hln)
      refine wpAny_mono ((go e ob cls d _ h2 ⟨us, h3⟩).run [] _ _ H (clD (some i) D) T (yes rfl e L.un)) (fun f y2 q => ?_) fun _ _ q => q.elim
      cases f with
      | ret u => exact let ⟨v, s, G, J, r, q⟩ := q; gone_ok (J.unsuite ok) hN hi hln fun y3 J3 => ⟨v, _, G, J3, r, q⟩
      | next => exact let ⟨s, G, J, q⟩ := q; gone_ok (J.unsuite ok) hN hi hln fun y3 J3 => ⟨_, G, J3, q⟩
      | brk => exact let ⟨s, G, J, q⟩ := q; gone_ok (J.unsuite ok) hN hi hln fun y3 J3 => ⟨_, G, J3, q⟩
      | cont => exact let ⟨s, G, J, q⟩ := q; gone_ok (J.unsuite ok) hN hi hln fun y3 J3 => ⟨_, G, J3, q⟩
end
section
end
end L3

set_option Elab.async false
set_option linter.all false
set_option maxRecDepth 100000
set_option maxHeartbeats 1000000
namespace L3
open PySem PySem.Spec PyProof.Rows L2
/-! o - x by an own __sub__, x a text -/
section
end
end L3

set_option Elab.async false
set_option linter.all false
set_option maxRecDepth 100000
set_option maxHeartbeats 1000000
namespace L3
open PySem PySem.Spec PyProof.Rows L2
/-! a new list stands apart from sys.modules; repr of a list of one tuple (text, thing), the thing data or an empty dict -/
section
variable {X : Cx}
def LzF (K : PySem.W.Frag) : Rl (Str × PyData) := fun t M v => ∃ p w, v = .ref p ∧ p ≠ sysModules ∧ M p = some (.lst [w]) ∧ TxF K t M w
instance {K : PySem.W.Frag} : Mon (LzF K) := ⟨fun e ⟨p, w, h1, h2, h3, h4⟩ => ⟨p, w, h1, h2, e _ _ h3, Mon.mono e h4⟩⟩
end
section
end
end L3

set_option Elab.async false
set_option linter.all false
set_option maxRecDepth 100000
set_option maxHeartbeats 1000000
namespace L3
open PySem PySem.Spec PyProof.Rows L2 LamX
open L3.Strm
/-! x(lambda: body, e); a method that raises -/
section
end
section
end
section
end
end L3

set_option Elab.async false
set_option linter.all false
set_option maxRecDepth 100000
set_option maxHeartbeats 1000000
namespace L3
open PySem PySem.Spec PyProof.Rows L2
/-! a & b, a | b, a < b of two instances by own methods; every n-th item -/
section
end
section
end
/-! every n-th item of a list -/
end L3

set_option Elab.async false
set_option linter.all false
set_option maxRecDepth 100000
set_option maxHeartbeats 1000000
namespace L3
open PySem PySem.Spec PyProof.Rows L2
/-! t[::-1] of a tuple; [x] * n -/
section
end
section
end
end L3

set_option Elab.async false
set_option linter.all false
set_option maxRecDepth 100000
set_option maxHeartbeats 1000000
namespace L3
open PySem PySem.Spec PyProof.Rows L2
/-! a method with arguments that raises -/
section
end
end L3

set_option Elab.async false
set_option linter.all false
set_option maxRecDepth 100000
set_option maxHeartbeats 1000000
namespace L3
open PySem PySem.Spec PyProof.Rows L2
/-! an instance whose __init__ may raise -/
end L3

set_option Elab.async false
set_option linter.all false
set_option maxRecDepth 100000
set_option maxHeartbeats 1000000
namespace L3
open PySem PySem.Spec PyProof.Rows L2
/-! o - y by an own __sub__ that raises, y data or an empty dict -/
/-- an own special method whose other side is a built-in value; T: its type, c: whether it has the slot -/
structure OffT (T : String) (c : Bool) : Prop where
  fl : fillsNumberSlot (.type T) "sub" = pure c
  up : ∀ C, isSubtype (.type T) (.ref C) = pure false
  py : numberSlotInPython (.type T) "sub" = pure false
  rl : c = true → ∃ o, typeLookup (.type T) (dunderR "sub") = pure o
end L3

set_option Elab.async false
set_option linter.all false
set_option maxRecDepth 100000
set_option maxHeartbeats 1000000
namespace L3
open PySem PySem.Spec PyProof.Rows L2 PySem.SeqAt
open AutoSeq1 (wpAny_loadPart')
open MeetsSeq MeetsSeq2 MeetsSeq3 SeqRoads2
/-! o == y, y != o: o an instance with an own __eq__, y data or an empty dict -/
/-- a class that is no subclass of the built-in kinds of data -/
structure OffC (K : PySem.W.Frag) (C : Addr) : Prop where
  l : PySem.W.subIn K (.ref C) (.type "list") = some false
  t : PySem.W.subIn K (.ref C) (.type "tuple") = some false
  d : PySem.W.subIn K (.ref C) (.type "dict") = some false
  s : PySem.W.subIn K (.ref C) (.type "str") = some false
  i : PySem.W.subIn K (.ref C) (.type "int") = some false
  b : PySem.W.subIn K (.ref C) (.type "bool") = some false
  n : PySem.W.subIn K (.ref C) (.type "NoneType") = some false
  cd : (PySem.W.clsIn K C).isSome = true
  ty : PySem.W.typeIn K (.ref C) = some (.type "type")
theorem OffC.at_ {K : PySem.W.Frag} {C : Addr} (o : OffC K C) {d : PyData} : PySem.W.subIn K (.ref C) (.type (tyN d)) = some false := by
  cases d with
  | none => exact o.n
  | bool b => exact o.b
  | int i => exact o.i
  | str x => exact o.s
  | list xs => exact o.l
  | tuple xs => exact o.t
  | dict kvs => exact o.d
section
end
section
end
end L3

set_option Elab.async false
set_option linter.all false
set_option maxRecDepth 100000
set_option maxHeartbeats 4000000
namespace My
open PySem PySem.Spec PyProof.Rows L2 L3
/-! what is small enough to be shown -/
structure Sm (d : PyData) : Prop where
  sh : d.showable = true
  dp : d.depth ≤ 60
  ls : d.leavesShort 13 = true
  wt : d.weight ≤ 100000
end My

set_option Elab.async false
set_option linter.all false
set_option maxRecDepth 100000
set_option maxHeartbeats 8000000
namespace My
open PySem PySem.Spec PyProof.Rows L2 L3
open L3.Strm
/-! the state of a law without a table -/
structure Zs (S : Strm) (M H : Hp) (k : Nat) : Prop where
  mh : Same M (S.cut H)
  at_ : S.At k H
section
variable {S : Strm} {M H M' H' M0 : Hp} {k j c : Nat} {σ : Sl} {te : TE} {P : Pr} {D : Ends} {tz tb : TS} {tt : L2.TT}
theorem Zs.step (L : Zs S M H k) (g : Gr M (S.cut H) M' (S.cut H')) (a : S.At j H') : Zs S M' H' j := ⟨g.mh, a⟩
theorem Zs.plain (L : Zs S M H k) (g : Gr M H M' H') : Zs S M' H' k := L.step (lift L.mh L.at_ g) (L.at_.same g.hh)
theorem Zs.le (L : Zs S M H k) (e : j ≤ k) : Zs S M H j := ⟨L.mh, L.at_.le e⟩
theorem Zs.sub (L : Zs S M H k) (e : Same M0 M) : Zs S M0 H k := ⟨e.trans L.mh, L.at_⟩
theorem Zs.idle (L : Zs S M H k) (hh : Same H H') : Zs S M H' k := L.plain (.idle (L.mh.trans cut_same) hh)
theorem n_asg {i : Nat} (L : Zs S M H (k + c)) (h : GvS S c te σ M P) (go : ∀ v M' H', Same M M' → Zs S M' H' k → P M' v → tz D (σ.set i (some v)) H') : tSeq (tAsg te (gName i)) tz D σ H :=
  z_asg L.mh L.at_ h fun v M' H' g a r => go v M' H' g.mm (L.step g a) r
theorem n_if {b : Bool} (L : Zs S M H k) (h : GvT tt σ M b) (h1 : b = true → ∀ H', Zs S M H' k → tb { D with nx := tz D } σ H') (h2 : b = false → ∀ H', Zs S M H' k → tz D σ H') : tSeq (tIfS tt tb tNext) tz D σ H :=
  q_if0 (L.mh.trans cut_same) h (fun e H' hh => h1 e H' (L.idle hh)) fun e H' hh => h2 e H' (L.idle hh)
theorem n_ifN (L : Zs S M H k) (h : GvT tt σ M false) (go : ∀ H', Zs S M H' k → tz D σ H') : tSeq (tIfS tt tb tNext) tz D σ H := n_if L h (fun e => nomatch e) fun _ H' L' => go H' L'
theorem n_for {α : Type} {R : Rl α} {wi : TI} {g : TG} {U : α → Hp → Sl → Sl → Prop} {xs : List α} (cost : Nat → Nat) (J : Hp → Nat → Sl → Prop) (L : Zs S M H (cost 0)) (hsrc : GvI wi σ M xs R) (htg : TgOk g R U) (hJ : ∀ M M' i σ, Same M M' → J M i σ → J M' i σ) (h0 : J M 0 σ)
    (hs : ∀ i x σ' M' H' σ2 (nx : Sl → Hp → Prop), (∀ M2 H2 σ3, Same M' M2 → J M2 (i + 1) σ3 → Zs S M2 H2 (cost (i + 1)) → nx σ3 H2) → xs[i]? = some x → Same M M' → J M' i σ' → Zs S M' H' (cost i) → U x M' σ' σ2 → tb { D with nx := nx, ct := nx, bk := tz D } σ2 H')
    (hd : ∀ σ' M' H', Same M M' → J M' xs.length σ' → Zs S M' H' (cost xs.length) → tz D σ' H') : tSeq (tFor wi g tb) tz D σ H := by
  refine z_for (S := S) (k := cost 0) (c := 0) (G := (· = xs)) L.mh L.at_ hsrc.s htg (fun ys M1 i σ' M' H' => Same M1 M' ∧ J M' i σ' ∧ Zs S M' H' (cost i)) (fun ys M1 H1 e g a => ?_) (fun ys M1 i σ' M' H' ⟨s, _, l⟩ => ⟨s, l.mh, l.at_.le (Nat.zero_le _)⟩) ?_ ?_
  · exact ⟨Same.refl _, hJ _ _ _ _ g.mm h0, L.step g a⟩
  · rintro ys M1 i x σ' M' H' M2 H2 σ2 rfl sM hx ⟨s1, j1, l1⟩ g hU
    exact hs i x σ' M2 H2 σ2 _ (fun M3 H3 σ3 s3 j3 l3 => ⟨M3, (s1.trans g.mm).trans s3, j3, l3⟩) hx ((sM.trans s1).trans g.mm) (hJ _ _ _ _ g.mm j1) (l1.plain g) hU
  · rintro ys M1 σ' M' H' rfl sM ⟨s1, j1, l1⟩
    exact hd σ' M' H' (sM.trans s1) j1 l1
end
/-! lists that are changed behind -/
section
end
/-- the very value -/
def EqV : Rl V := fun x _ v => v = x
instance : Mon EqV := ⟨fun _ h => h⟩
section
end
/-! what is small enough to be shown, piece by piece -/
structure SmW (k w : Nat) (d : PyData) : Prop where
  sh : d.showable = true
  dp : d.depth ≤ k
  ls : d.leavesShort 13 = true
  wt : d.weight ≤ w
structure SmA (k w : Nat) (ds : List PyData) : Prop where
  sh : PyData.showableAll ds = true
  dp : PyData.depthAll ds ≤ k
  ls : PyData.leavesShortAll 13 ds = true
  wt : PyData.weightAll ds ≤ w
theorem SmA.nil {k : Nat} : SmA k 0 [] := ⟨by simp [PyData.showableAll], by simp [PyData.depthAll], by simp [PyData.leavesShortAll], by simp [PyData.weightAll]⟩
theorem SmA.cons {k a b : Nat} {d : PyData} {ds : List PyData} (h : SmW k a d) (r : SmA k b ds) : SmA k (a + b + 1) (d :: ds) := ⟨by simp only [PyData.showableAll, h.sh, r.sh, Bool.and_self], by
  have := h.dp
  have := r.dp
  simp only [PyData.depthAll]; omega, by simp only [PyData.leavesShortAll, h.ls, r.ls, Bool.and_self], by
  have := h.wt
  have := r.wt
  simp only [PyData.weightAll]; omega⟩
theorem SmA.lst {k w : Nat} {ds : List PyData} (h : SmA k w ds) : SmW (k + 1) (w + 10) (.list ds) := ⟨by rw [PyData.showable]; exact h.sh, by
  have := h.dp
  rw [PyData.depth]; omega, by rw [PyData.leavesShort]; exact h.ls, by
  have := h.wt
  rw [PyData.weight]; omega⟩
theorem SmW.up {k w k' w' : Nat} {d : PyData} (h : SmW k w d) (hk : k ≤ k') (hw : w ≤ w') : SmW k' w' d := ⟨h.sh, Nat.le_trans h.dp hk, h.ls, Nat.le_trans h.wt hw⟩
theorem SmA.up {k w k' w' : Nat} {ds : List PyData} (h : SmA k w ds) (hk : k ≤ k') (hw : w ≤ w') : SmA k' w' ds := ⟨h.sh, Nat.le_trans h.dp hk, h.ls, Nat.le_trans h.wt hw⟩
section
end
/-! a list of ours that grows, of known things -/
structure Ac {α : Type} (R : Rl α) (S : Strm) (M0 H0 : Hp) (p : Addr) (xs : List α) (M H : Hp) (k : Nat) : Prop where
  Z : Zs S M H k
  G : Gr M0 (S.cut H0) M (S.cut H)
  h0 : S.cut H0 p = none
  m : M p = none
  ex : ∃ vs, S.cut H p = some (.lst vs) ∧ Pd R M xs vs
section
variable {K : PySem.W.Frag} {α : Type} {R : Rl α} [Mon R] {S : Strm} {M0 H0 M H M' H' : Hp} {p : Addr} {xs : List α} {k j c i : Nat} {σ : Sl} {te : TE} {D : Ends} {tz : TS} {P : Pr}
theorem Ac.step (A : Ac R S M0 H0 p xs M H k) (g : Gr M (S.cut H) M' (S.cut H')) (a : S.At j H') : Ac R S M0 H0 p xs M' H' j := let ⟨vs, h, pd⟩ := A.ex; ⟨⟨g.mh, a⟩, A.G.trans g, A.h0, g.keep A.m h, vs, g.hh _ _ h, pd.mono g.mm⟩
theorem Ac.le (A : Ac R S M0 H0 p xs M H k) (e : j ≤ k) : Ac R S M0 H0 p xs M H j := ⟨A.Z.le e, A.G, A.h0, A.m, A.ex⟩
end
/-! a list that is newer than what was known -/
def NewL (M0 : Hp) {α : Type} (R : Rl α) : Rl (List α) := fun xs M v => ∃ p vs, v = .ref p ∧ M p = some (.lst vs) ∧ M0 p = none ∧ Pd R M xs vs
section
variable {K : PySem.W.Frag} {α : Type} {R : Rl α} {M0 M : Hp}
instance [Mon R] : Mon (NewL M0 R) := ⟨fun e ⟨p, vs, h1, h2, h3, h4⟩ => ⟨p, vs, h1, e _ _ h2, h3, h4.mono e⟩⟩
theorem NewL.li {xs : List α} {v : V} (h : NewL M0 R xs M v) : LiR R xs M v := let ⟨p, vs, h1, h2, _, h4⟩ := h; ⟨p, vs, h1, h2, h4⟩
theorem NewL.sq [Mon R] {xs : List α} {v : V} (h : NewL M0 R xs M v) : SqR K R xs M v := h.li.sq
end
section
end
section
end
end My

set_option Elab.async false
set_option linter.all false
set_option maxRecDepth 100000
set_option maxHeartbeats 4000000
namespace L3
open PySem PySem.Spec PyProof.Rows L2
/-! x not in d.values() -/
section
end
section
end
end L3

set_option Elab.async false
set_option linter.all false
set_option maxRecDepth 100000
set_option maxHeartbeats 1000000
namespace L3
open PySem PySem.Spec PyProof.Rows L2
/-! a + b of two instances by an own method -/
section
end
end L3

set_option Elab.async false
set_option linter.all false
set_option maxRecDepth 100000
set_option maxHeartbeats 1000000
namespace L3
open PySem PySem.Spec PyProof.Rows L2
/-! zip of two things that stand still, each a list or a tuple -/
/-- the walk: an item of each as a new pair -/
def IzS (rd rd' : Hp → List V → Prop) : It :=
  ⟨fun i H => ∃ xs ys, rd H xs ∧ rd' H ys ∧ i < xs.length ∧ i < ys.length, fun i H v H' => ∃ p x y, v = .ref p ∧ H p = none ∧ H' = upd H p (.tup [x, y]) ∧ (∀ xs, rd H xs → xs[i]? = some x) ∧ ∀ ys, rd' H ys → ys[i]? = some y,
    fun i H => ∃ xs ys, rd H xs ∧ rd' H ys ∧ i = min xs.length ys.length⟩
theorem walk_zS {rd rd' : Hp → List V → Prop} {xs ys : List V} {n : Nat} (hn : n = min xs.length ys.length) : Walk (IzS rd rd') n (fun H => rd H xs ∧ rd' H ys) (YPair (fun i => xs[i]?) (fun i => ys[i]?)) :=
  ⟨fun _ _ hi q => ⟨xs, ys, q.1, q.2, by omega, by omega⟩, fun _ q => ⟨xs, ys, q.1, q.2, hn⟩, fun i _ _ _ _ q ⟨p, x, y, h1, h2, h3, h4, h5⟩ => ⟨p, x, y, h1, h2, h3, h4 xs q.1, h5 ys q.2⟩⟩
section
variable {P : Program} {w : World} {K : PySem.W.Frag} {a b : Addr} {o o' : Obj} {rd rd' : Hp → List V → Prop} {pt pt' : Addr → Nat → Heap → Prop} {fx fx' : List Value → Heap → Prop} {elts : List Expr} {kk : Nat} {tpos : Pos}
/-- where the five objects of the walk stand -/
structure ZiAt (pt pt' : Addr → Nat → Heap → Prop) (z TI TO i1 i2 : Addr) (i : Nat) (h : Heap) : Prop where
  z : IsZip h z TI TO .none
  its : IsTupOf2 h TI (.ref i1) (.ref i2)
  out : ∃ u v, IsTupOf2 h TO u v
  p1 : pt i1 i h
  p2 : pt' i2 i h
theorem five {α : Type} {c z TI TO i1 i2 : α} (h : c ∈ [z, TI, TO, i1, i2]) : c = z ∨ c = TI ∨ c = TO ∨ c = i1 ∨ c = i2 := by simpa using h
theorem get_val {xs : List V} {its : List Value} {i : Nat} {y : Value} (rv : Vals xs its) (hl : i < xs.length) (hy : its.toArray[i]? = some y) : ∃ x, xs[i]? = some x ∧ RelV x y := by
  obtain ⟨y', g, rr⟩ := rv.get (x := xs[i]) (List.getElem?_eq_getElem hl)
  rw [List.getElem?_toArray, g] at hy
  exact ⟨_, List.getElem?_eq_getElem hl, Option.some.inj hy ▸ rr⟩
theorem turn_zS (S : Still P w K a o rd pt fx) (S' : Still P w K b o' rd' pt' fx') {z TI TO i1 i2 : Addr} (D : ZipSep2 z TI TO i1 i2 [i1, a] [i2, b]) (n1 : a ≠ i1) (n2 : b ≠ i2) : Turn P w K (.Tuple elts kk tpos) (IzS rd rd') [z, TI, TO, i1, i2] z (ZiAt pt pt' z TI TO i1 i2) where
  mem := .head _
  obj := fun i h A c hc => by
    obtain ⟨u, v, hO⟩ := A.out
    rcases five hc with rfl | rfl | rfl | rfl | rfl
    · exact ⟨_, A.z, fun v q => nomatch q⟩
    · exact ⟨_, A.its, fun v q => nomatch q⟩
    · exact ⟨_, hO, fun v q => nomatch q⟩
    · exact S.live A.p1
    · exact S'.live A.p2
  keep := fun i h h' A k => ⟨k z (by simp) _ A.z, k TI (by simp) _ A.its, let ⟨u, v, q⟩ := A.out; ⟨u, v, k TO (by simp) _ q⟩, S.mv A.p1 (k i1 (by simp)), S'.mv A.p2 (k i2 (by simp))⟩
  self := fun A i s Q E B q => wpAny_pyIter_zip B.z q
  done := fun X e1 e2 e3 hc i pins s σ H E I hf A ⟨xs, ys, hx, hy, hi⟩ => by
    subst e1 e2
    obtain ⟨its, rv, f1⟩ := S.got e3 I hx
    obtain ⟨its', rv', f2⟩ := S'.got e3 I hy
    obtain ⟨u, v, hO⟩ := A.out
    have l1 : its.toArray.size = xs.length := by rw [List.size_toArray, ← rv.length]
    have l2 : its'.toArray.size = ys.length := by rw [List.size_toArray, ← rv'.length]
    exact wpAny_pyNext_zipD2_end D (S.dr (A := X.A.in1) its (I.ok.hd hc) n1) (S'.dr (A := X.A.in1) its' (I.ok.hd hc) n2) A.z A.its hO ⟨A.p1, f1⟩ ⟨A.p2, f2⟩ (by omega) (by omega) (by omega) fun h' tk hk =>
      ⟨rfl, I.turnedL (t' := tk) (ch := [z, TI, TO, i1, i2]) (fun c ob hb q => hk c ob (fun e => hb (by simp [e])) (fun e => hb (by simp [e])) (fun e => hb (by simp [e])) (fun e => hb (by simp [e])) q) hf⟩
  item := fun X e1 e2 e3 hc i pins s σ H E I hf A ⟨xs, ys, hx, hy, lx, ly⟩ => by
    subst e1 e2
    obtain ⟨its, rv, f1⟩ := S.got e3 I hx
    obtain ⟨its', rv', f2⟩ := S'.got e3 I hy
    obtain ⟨u, v, hO⟩ := A.out
    have l1 : i < its.toArray.size := by rw [List.size_toArray, ← rv.length]; exact lx
    have l2 : i < its'.toArray.size := by rw [List.size_toArray, ← rv'.length]; exact ly
    have below : ∀ c ∈ [z, TI, TO, i1, i2], c < s.heap.objs.size := fun c hc => by
      rcases five hc with rfl | rfl | rfl | rfl | rfl
      · exact Heap.lt_size A.z
      · exact Heap.lt_size A.its
      · exact Heap.lt_size hO
      · obtain ⟨_, q, _⟩ := S.live A.p1; exact Heap.lt_size q
      · obtain ⟨_, q, _⟩ := S'.live A.p2; exact Heap.lt_size q
    refine wpAny_pyNext_zipD2_item D (S.dr (A := X.A.in1) its (I.ok.hd hc) n1) (S'.dr (A := X.A.in1) its' (I.ok.hd hc) n2) A.z A.its hO ⟨A.p1, f1⟩ ⟨A.p2, f2⟩ l1 l2 fun y1 y2 h1 tk g1 g2 hz hO' t1 t2 new _ kp => ⟨_, rfl, ?_⟩
    refine wpAny_letOwnedTupleGo_zip (s := { s with heap := h1, toks := tk }) hz fun h2 hz2 sb => ?_
    obtain ⟨x1, e1, r1⟩ := get_val rv lx g1
    obtain ⟨x2, e2, r2⟩ := get_val rv' ly g2
    have nz : s.heap.objs.size ≠ z := Nat.ne_of_gt (below z (.head _))
    have kept : ∀ c ob, c ∉ [z, TI, TO, i1, i2] → s.heap.get? c = some ob → h2.get? c = some ob := fun c ob hb q =>
      (sb.2 c fun e => hb (by simp [e])).trans (kp c ob (fun e => hb (by simp [e])) (fun e => hb (by simp [e])) (fun e => hb (by simp [e])) (fun e => hb (by simp [e])) q)
    have J := I.turnedNew (t' := tk) (ob := .tup [x1, x2]) (ch := [z, TI, TO, i1, i2]) kept hf (Nat.le_refl _) ⟨(by show 2 ≤ sizeLine; decide), [y1, y2], .cons r1 (.cons r2 .nil), ⟨_, (sb.2 _ nz).trans new, rfl, _, rfl⟩⟩
    refine ⟨.ref s.heap.objs.size, _, J, rfl, ⟨_, x1, x2, rfl, I.hok.fresh (Nat.le_refl _), rfl, fun l hl => S.one e3 I hx hl ▸ e1, fun l hl => S'.one e3 I hy hl ▸ e2⟩, ⟨hz2, ?_, ⟨y1, y2, (sb.2 _ D.TOz).trans hO'⟩, S.mv t1.1 fun ob q => (sb.2 i1 fun e => D.zi1 e.symm).trans q, S'.mv t2.1 fun ob q => (sb.2 i2 fun e => D.zi2 e.symm).trans q⟩, fun c hc => ?_⟩
    · exact (sb.2 _ D.TIz).trans (kp _ _ D.TIz D.TITO D.TIi1 D.TIi2 A.its)
    · rw [upd_ne (Nat.ne_of_lt (below c hc))]
      exact (hf c hc).1
theorem sep5 (n a b : Nat) (ha : a < n) (hb : b < n) : ZipSep2 (n + 4) (n + 2) (n + 3) n (n + 1) [n, a] [n + 1, b] := by
  have out : ∀ x c d : Nat, x ≠ c → x ≠ d → x ∉ [c, d] := fun x c d h1 h2 h => by
    rcases List.mem_cons.mp h with e | e
    · exact h1 e
    · exact h2 (List.mem_singleton.mp e)
  have p2 : n + 2 ≠ n + 4 := by omega
  have p3 : n + 3 ≠ n + 4 := by omega
  have p4 : n + 2 ≠ n + 3 := by omega
  have p5 : n + 2 ≠ n := by omega
  have p6 : n + 2 ≠ n + 1 := by omega
  exact ⟨p2, p3, p4, p5, .head _, out _ _ _ (by omega) (by omega), out _ _ _ (by omega) (by omega), p6, .head _, out _ _ _ (by omega) (by omega), out _ _ _ (by omega) (by omega), out _ _ _ (by omega) (by omega), out _ _ _ (by omega) (by omega)⟩
theorem zi_walk {X : Cx} {pins : List (Addr × Obj)} {s : Shared} {σ : Sl} {H : Hp} {R : It → Hp → Prop} {xs ys : List V} (S : Still X.prog X.w X.K a o rd pt fx) (S' : Still X.prog X.w X.K b o' rd' pt' fx') (I : Inv X pins σ H s) (hx : rd H xs) (hy : rd' H ys) (q : R (IzS rd rd') H) :
    wpAny (model X.prog X.w) X.A (call (.type "zip") [.ref a, .ref b]) (fun v s1 => wpAny (model X.prog X.w) X.A (pyIter v) (PIE X pins σ (.Tuple elts kk tpos) R) X.xe s1) X.xe s := by
  obtain ⟨its, _, f1⟩ := S.got rfl I hx
  obtain ⟨its', _, f2⟩ := S'.got rfl I hy
  have la := S.lt f1
  have lb := S'.lt f2
  refine zip_begins2 (S.bg its) (S'.bg its') f1 f2 fun h' hz hT hO g1 g2 _ hk => wpAny_pyIter_zip hz ⟨s.heap.objs.size + 4, _, _, IzS rd rd', H, rfl, I.kept (t' := s.toks) hk, turn_zS S S' (sep5 _ _ _ la lb) (Nat.ne_of_lt la) (Nat.ne_of_lt (Nat.lt_succ_of_lt lb)), ⟨hz, hT, ⟨_, _, hO⟩, S.st g1, S'.st g2⟩, fps_new I fun c hc => ?_, q⟩
  rcases five hc with rfl | rfl | rfl | rfl | rfl <;> omega
end
/-- a list or a tuple, as it stands -/
inductive RdS (K : PySem.W.Frag) (a : Addr) : (Hp → List V → Prop) → Prop where
  | lst : RdS K a fun H xs => SqL K H a xs
  | tup : RdS K a fun H xs => SqT K H a xs
def iZipS (K : PySem.W.Frag) (ta : TA) : TI := fun σ H R => ta σ H fun vs H1 => ∃ a b rd rd' xs ys, vs = [.ref a, .ref b] ∧ RdS K a rd ∧ RdS K b rd' ∧ rd H1 xs ∧ rd' H1 ys ∧ R (IzS rd rd') H1
theorem pi_zipS {X : Cx} {e e2 : Expr} {ta : TA} {p pos tpos : Pos} {elts : List Expr} {kk : Nat} (hg : Gl X "zip") (hm : X.mg "zip" = none) (ha : PA X [e, e2] ta)
    (hs : starEach [e, e2] X.env = (false, eval e X.env) :: starEach [e2] X.env := by rfl) (hpl : (backTo pos (starEach [e2] X.env)).any (·.1) = false := by rfl) :
    PI X (.Tuple elts kk tpos) (.Call (.Name "zip" p) [e, e2] [] pos) (iZipS X.K ta) where
  run pins s σ H R I h := by
    refine Call_ (ld_blt I hg hm boot_zip (PyProof.Rows.callWith_type1 (thn (ha.run pos pins s σ H _ I h) fun us s1 z => ?_) hs hpl))
    obtain ⟨vs, H1, I1, rvs, a, b, rd, rd', xs, ys, rfl, ra, rb, hx, hy, q⟩ := z
    cases rvs with
    | cons r1 rr =>
      cases rr with
      | cons r2 rr =>
        cases rr
        cases r1
        cases r2
        cases ra <;> cases rb
        · exact zi_walk (still_lst a) (still_lst b) I1 hx hy q
        · exact zi_walk (still_lst a) (still_tup b) I1 hx hy q
        · exact zi_walk (still_tup a) (still_lst b) I1 hx hy q
        · exact zi_walk (still_tup a) (still_tup b) I1 hx hy q
section
variable {K : PySem.W.Frag} {σ : Sl} {M : Hp} {ta tb te : TE} {α β : Type} {R : Rl α} {S : Rl β}
theorem sq_rd [Mon R] {xs : List α} {M : Hp} {v : V} (h : SqR K R xs M v) : ∃ a vs rd, v = .ref a ∧ RdS K a rd ∧ (∀ M2, Same M M2 → rd M2 vs) ∧ Pd R M xs vs := by
  rcases h with ⟨a, vs, e, hs, pd⟩ | ⟨a, vs, e, hs, pd⟩
  · exact ⟨a, vs, _, e, .lst, fun M2 s => sl_mono s hs, pd⟩
  · exact ⟨a, vs, _, e, .tup, fun M2 s => st_mono s hs, pd⟩
/-- two lists or tuples of one length walked together -/
theorem gi_zipS [Mon R] [Mon S] {xs : List α} {ys : List β} (h1 : Gv ta σ M (SqR K R xs)) (h2 : Gv tb σ M (SqR K S ys)) : GvI (iZipS K (tCons ta (tCons tb tNil))) σ M (xs.zip ys) (PrR K R S) := fun H mh Q q =>
  h1 H mh _ fun v M1 H1 g1 r1 => h2.le g1.mm H1 g1.mh _ fun w M2 H2 g2 r2 => by
    obtain ⟨a, vs, rd, ev, ra, ka, pv⟩ := sq_rd (Mon.mono (R := SqR K R) g2.mm r1)
    obtain ⟨b, ws, rd', ew, rb, kb, pw⟩ := sq_rd r2
    subst ev ew
    have len : (xs.zip ys).length = min vs.length ws.length := by rw [List.length_zip, pv.length, pw.length]
    refine ⟨a, b, rd, rd', vs, ws, rfl, ra, rb, ka _ g2.mh, kb _ g2.mh, q _ M2 H2 (g1.trans g2) ⟨_, _, walk_zS (xs := vs) (ys := ws) len, fun M3 H3 s1 s2 => ⟨ka _ (s1.trans s2), kb _ (s1.trans s2)⟩, ?_⟩⟩
    rintro i M3 H3 z H4 s1 s2 hi ⟨p, x1, x2, rfl, np, rfl, e1, e2⟩
    obtain ⟨x, hx, rx⟩ := pd_get' pv e1
    obtain ⟨y, hy, ry⟩ := pd_get' pw e2
    have up : Same M2 (upd M3 p (.tup [x1, x2])) := s1.trans (same_new (s2.free np))
    exact ⟨(x, y), upd M3 p (.tup [x1, x2]), List.getElem?_zip_eq_some.mpr ⟨hx, hy⟩, .new s2 np, p, _, _, rfl, .inl (.inl upd_same), Mon.mono (M' := upd M3 p (.tup [x1, x2])) up rx, Mon.mono up ry⟩
end
end L3

set_option Elab.async false
set_option linter.all false
set_option maxRecDepth 100000
set_option maxHeartbeats 1000000
namespace LsQ
open PySem PySem.SeqAt
open AutoSeq1 (wpAny_loadPart')
open MeetsSeq MeetsSeq2 MeetsSeq3 SeqRoads2
open GQ (FinOf)
/-! xs == ys, xs != ys of lists whose items are compared by running code -/
section
end
end LsQ
namespace L3
open PySem PySem.Spec PyProof.Rows L2
/-! lists of instances: the same object, or their own == -/
section
end
section
end
end L3

set_option Elab.async false
set_option linter.all false
set_option maxRecDepth 100000
set_option maxHeartbeats 2000000
namespace L3
open PySem PySem.Spec PyProof.Rows L2
/-! d.values() of a dict, list of it -/
/-- d.values() -/
def tVals (td : TE) : TE := fun σ H Q => td σ H fun y H1 => ∃ d kvs, y = .ref d ∧ Rd H1 d (.dK kvs) ∧ ∀ p, H1 p = none → Q (.ref p) (upd H1 p (viewO "dict_values" p d))
theorem kv_vals {κ : Type} {kvs : List (κ × V)} {vs : List (κ × Value)} (h : KV kvs vs) : Vals (kvs.map (·.2)) (vs.map (·.2)) := by
  induction h with
  | nil => exact .nil
  | cons q _ ih => exact .cons q.2 ih
section
variable {X : Cx} {e : Expr} {td : TE} {apos cpos : Pos}
theorem pe_vals (he : PE X e td) (hbase : attributeBase e "values" X.env (eval e X.env) = eval e X.env := by rfl) (hline : (apos.endLine == cpos.line) = true := by rfl) : PE X (.Call (.Attribute e "values" apos) [] [] cpos) (tVals td) := by
  refine ⟨fun pins s σ H Q I h => ?_⟩
  refine wpAny_Call_method (T := "dict") (id := "dict.values") hbase rfl hline F.plainAttrs_dict F.slot_dict_values F.type_dict_values (thn (he.run pins s σ H _ I h) fun u s1 ⟨x, H1, I1, rx, d, kvs, ex, hd, q⟩ => ?_)
  subst ex
  obtain rfl : u = Value.ref d := rx
  obtain ⟨z, hs, vs, kv, hm⟩ := dk_rd I1.hok hd
  refine ⟨hm.typeIs, hm.mapOf.noDict, ?_⟩
  show wpAny _ _ (callWith cpos (.builtin "dict.values") [.ref d] [] []) _ X.xe s1
  refine method_meetsIn F.slot_dict_values F.entry_dict_values rfl (PySem.evalArgs_none ⟨rfl, hm.typeIs, F.args_dict_values_1 _, _, meets_dict_values (mixKind X.prog X.w) d hs, ⟨vs, hm⟩, ?_⟩)
  exact ⟨.ref s1.heap.objs.size, _, I1.laid (t' := s1.toks) (fun b o q => Heap.get?_push_of_some _ q) (Nat.le_refl _) (viewO_ok (Heap.get?_push_size _ rfl)), rfl, q _ (I1.hok.fresh (Nat.le_refl _))⟩
end
end L3

set_option Elab.async false
set_option linter.all false
set_option maxRecDepth 100000
set_option maxHeartbeats 2000000
namespace L3
open PySem PySem.Spec PyProof.Rows L2
/-! *d.values() in a display -/
def tStarV (te : TE) (t : TA) : TA := fun σ H Q => te σ H fun x H1 => ∃ p d kvs, x = V.ref p ∧ H1 p = some (viewO "dict_values" p d) ∧ Rd H1 d (.dK kvs) ∧ t σ H1 fun ys H2 => Q (kvs.map (·.2) ++ ys) H2
section
variable {X : Cx} {e : Expr} {es : List Expr} {te : TE} {t : TA} {p : Pos}
theorem pa_starV (hc : X.calm = true) (he : PE X e te) (hr : PA X es t) (hs : starEach (.Starred e p :: es) X.env = (true, eval e X.env) :: starEach es X.env := by rfl) : PA X (.Starred e p :: es) (tStarV te t) where
  run pos pins s σ H Q I h := by
    apply PySem.W.items_star _ hs
    refine thn (he.run pins s σ H _ I h) fun v s1 z => ?_
    obtain ⟨_, H1, I1, rv, a, d, kvs, rfl, hp, hd, q⟩ := z
    obtain rfl : v = Value.ref a := rv
    obtain ⟨z, lo, vs, rel, dd⟩ := dk_rd I1.hok hd
    obtain ⟨ep, hat⟩ := dd.dictAt
    have hv : s1.heap.get? a = some (DSub.viewOb "dict_values" d) := (show ObjOk X.prog X.w H1 s1.heap a (viewO "dict_values" a d) from I1.hok a _ hp).1
    have S := PySem.W.kdl_values (prog := X.prog) (w := X.w) (knd := mixKind X.prog X.w) (r := a) (d := d) (kvs := vs) (ep := ep)
    have at_ : s1.heap.IsValuesView a d ∧ s1.heap.DictAt (mixKind X.prog X.w) d vs ep := ⟨⟨_, hv, rfl, rfl⟩, hat⟩
    have n1 : kvs.length = vs.length := Paired.length rel
    unfold PySem.W.StarOf notIterableAtAll
    refine wpAny_bind (wpAny_specialOf (S.type s1 at_) PySem.F.slot_dict_values_iter.lookup (wpAny_pure ⟨rfl, PySem.W.kdu_collect S (I1.ok.hd hc) at_ (by omega) fun h' tk acc kp it => ?_⟩))
    have I2 : Inv X pins σ H1 { s1 with heap := h', toks := tk } := I1.kept kp
    have ea : acc.toList = vs.map (·.2) := PySem.W.kdl_vals_eq _ (by rw [Array.length_toList]; exact it.1) fun j v e => it.2 j v (by rw [← Array.getElem?_toList]; exact e)
    have rl : Vals (kvs.map (·.2)) acc.toList := by rw [ea]; exact kv_vals rel
    exact thn (hr.run pos pins _ σ H1 _ I2 q) fun ws s3 ⟨us, H3, I3, r3, q3⟩ => ⟨_, H3, I3, rl.append r3, q3⟩
end
end L3

set_option Elab.async false
set_option linter.all false
set_option maxRecDepth 100000
set_option maxHeartbeats 2000000
namespace L3
open PySem PySem.Spec PyProof.Rows PySem.Calls L2
/-! raise X(): an own exception class without __init__ -/
section
variable {X : Cx} {C : Addr} {bmB : List Value} {B newId initId : String}
theorem pmk_own0 {x : Str} {p pos : Pos} (F : ExcBaseFacts B newId initId bmB) (q : PySem.W.excIn X.K C bmB newId = true) (gC : X.mg x = some (.ref C)) (kC : PySem.W.keepIn X.K (.ref C) = true) (r : Raises X (.ref C)) (hg : Gl X x)
    (hdb : (x == ("__debug__" : Str)) = false := by decide) : PMk X (.Call (.Name x p) [] [] pos) (fun _ H Q => Q (.ref C) none H) := by
  intro pins s σ H Q I h
  refine wpAny_Call_Name_kw (ld_glob I hg gC ?_ hdb)
  refine PySem.W.callWith_K0 I.kIn kC ?_
  show wpAny _ _ (call (.ref C) []) _ _ _
  obtain ⟨bm, N, nm, qn, bs, hdct, sn, sub, ab, col, dd, k0, k1, k2, k3, k5, mN, hC, hN, hni, T⟩ := exc_obj I.kIn q
  refine wpAny_call_exc_subT F T hC hN hni (fun h' e hm => ?_) (Nat.zero_le _)
  exact mk_of I hm r h (I.hok.gone hm.new)
end
/-- what the written part says of such a class -/
structure RawC (K : PySem.W.Frag) (mg : Str → Option Value) (x : Str) (C : Addr) : Prop where
  gl : mg x = some (.ref C)
  kC : PySem.W.keepIn K (.ref C) = true
  q : PySem.W.excIn K C PySem.HandSPX.veTail "ValueError.__new__" = true
  s : PySem.W.subIn K (.ref C) (.type "BaseException") = some true
  t : PySem.W.typeIn K (.ref C) = some (.type "type")
def tRaw (C : Addr) (W : WX) : TS := fun _ σ H => W (.ref C) none σ H
theorem ps_raw {X : Cx} {W : WX} {x : Str} {C : Addr} {p p2 p3 : Pos} (R : RawC X.K X.mg x C) (hc : X.calm = true) (tk : Takes X W) (hg : Gl X x := by rfl) (hdb : (x == ("__debug__" : Str)) = false := by decide) : PS X (.Raise (some (.Call (.Name x p) [] [] p2)) none p3) (tRaw C W) :=
  ps_raise hc tk (pmk_own0 PySem.F.excBase_ValueError R.q R.gl R.kC (raises_own R.s R.t) hg hdb)
/-! == of two dicts with the same three keys -/
def rEq3 (K : PySem.W.Frag) (k1 k2 k3 : Str) : R2 := fun x y H Q => ∃ (a b : Addr) (x1 x2 x3 y1 y2 y3 : V) (d1 d2 d3 e1 e2 e3 : PyData), x = .ref a ∧ y = .ref b ∧ Rd H a (.dK [(Sum.inr k1, x1), (Sum.inr k2, x2), (Sum.inr k3, x3)]) ∧ Rd H b (.dK [(Sum.inr k1, y1), (Sum.inr k2, y2), (Sum.inr k3, y3)]) ∧
  (Dp K H x1 d1 ∧ Dp K H x2 d2 ∧ Dp K H x3 d3) ∧ (Dp K H y1 e1 ∧ Dp K H y2 e2 ∧ Dp K H y3 e3) ∧ (d1.depth ≤ 60 ∧ d2.depth ≤ 60 ∧ d3.depth ≤ 60) ∧ ∀ r : Bool, (r = true → PyData.eqv d1 e1 = true ∧ PyData.eqv d2 e2 = true ∧ PyData.eqv d3 e3 = true) → Q (.bl r) H
theorem kv_three {k1 k2 k3 : Key} {x1 x2 x3 : V} {vs : List (Key × Value)} (h : KV [(k1, x1), (k2, x2), (k3, x3)] vs) : ∃ v1 v2 v3, vs = [(k1, v1), (k2, v2), (k3, v3)] ∧ RelV x1 v1 ∧ RelV x2 v2 ∧ RelV x3 v3 := by
  cases h with
  | cons r1 h =>
    cases h with
    | cons r2 h =>
      cases h with
      | cons r3 h =>
        cases h
        rename_i a b c
        obtain ⟨a1, a2⟩ := a
        obtain ⟨b1, b2⟩ := b
        obtain ⟨c1, c2⟩ := c
        obtain ⟨e1, r1⟩ := r1
        obtain ⟨e2, r2⟩ := r2
        obtain ⟨e3, r3⟩ := r3
        dsimp only at e1 e2 e3
        subst e1
        subst e2
        subst e3
        exact ⟨a2, b2, c2, rfl, r1, r2, r3⟩
theorem op_eq3 {X : Cx} {k1 k2 k3 : Str} (n12 : k1 ≠ k2) (n13 : k1 ≠ k3) (n23 : k2 ≠ k3) (hu : X.A.units + 65 < cLine) : OpR X (compareOp .Eq) (rEq3 X.K k1 k2 k3) := by
  intro pins s σ H x y v u Q I rx ry h
  unfold rEq3 at h
  obtain ⟨a, b, x1, x2, x3, y1, y2, y3, d1, d2, d3, e1, e2, e3, ex, ey, ha, hb, hp, hq, hz, q⟩ := h
  obtain ⟨p1, p2, p3⟩ := hp
  obtain ⟨q1, q2, q3⟩ := hq
  obtain ⟨z1, z2, z3⟩ := hz
  subst ex
  subst ey
  obtain rfl : v = Value.ref a := rx
  obtain rfl : u = Value.ref b := ry
  obtain ⟨_, la, va, ka, da⟩ := dk_rd I.hok ha
  obtain ⟨_, lb, vb, kb, db⟩ := dk_rd I.hok hb
  obtain ⟨v1, v2, v3, eva, r1, r2, r3⟩ := kv_three ka
  obtain ⟨w1, w2, w3, evb, t1, t2, t3⟩ := kv_three kb
  subst eva
  subst evb
  obtain ⟨_, s1⟩ := Dp.reads I d1 x1 v1 p1 r1
  obtain ⟨_, s2⟩ := Dp.reads I d2 x2 v2 p2 r2
  obtain ⟨_, s3⟩ := Dp.reads I d3 x3 v3 p3 r3
  obtain ⟨_, m1⟩ := Dp.reads I e1 y1 w1 q1 t1
  obtain ⟨_, m2⟩ := Dp.reads I e2 y2 w2 q2 t2
  obtain ⟨_, m3⟩ := Dp.reads I e3 y3 w3 q3 t3
  have un : X.A.in1.units = X.A.units + 1 := rfl
  have E1 := (SeqAt.eqAt_plain d1 e1 X.A.in1 s v1 w1 _ _ s1 m1 (dp_plain p1) (dp_plain q1) (by rw [un]; omega)).eqP (prog := X.prog) (w := X.w)
  have E2 := (SeqAt.eqAt_plain d2 e2 X.A.in1 s v2 w2 _ _ s2 m2 (dp_plain p2) (dp_plain q2) (by rw [un]; omega)).eqP (prog := X.prog) (w := X.w)
  have E3 := (SeqAt.eqAt_plain d3 e3 X.A.in1 s v3 w3 _ _ s3 m3 (dp_plain p3) (dp_plain q3) (by rw [un]; omega)).eqP (prog := X.prog) (w := X.w)
  have h1 : valueAt [((Sum.inr k1 : Key), w1), (Sum.inr k2, w2), (Sum.inr k3, w3)] (Sum.inr k1) = some w1 := by simp [valueAt]
  have h2 : valueAt [((Sum.inr k1 : Key), w1), (Sum.inr k2, w2), (Sum.inr k3, w3)] (Sum.inr k2) = some w2 := by simp [valueAt, n12]
  have h3 : valueAt [((Sum.inr k1 : Key), w1), (Sum.inr k2, w2), (Sum.inr k3, w3)] (Sum.inr k3) = some w3 := by simp [valueAt, n13, n23]
  refine PySem.W.rcP_dicts la lb da db (by omega) (fun _ => .hit h1 E1 (.hit h2 E2 (.hit h3 E3 .nil))) X.xe _ ⟨.bl _, H, I, rfl, q _ fun h => ?_⟩
  simp only [Bool.and_eq_true] at h
  exact ⟨h.2.1, h.2.2.1, h.2.2.2.1⟩
end L3

set_option Elab.async false
set_option linter.all false
set_option maxRecDepth 100000
set_option maxHeartbeats 1000000
namespace My
open PySem PySem.Spec PyProof.Rows L2 L3
/-! settings as lists of literals, and as sides (of k63's Z2, Z3) -/
def sd (b : Bool) (n : Str) : Str := if b = true then n else ("-" : Str) ++ n
def setOf (α : Str → Bool) (ns : List Str) : List Str := ns.map fun n => sd (α n) n
theorem sd_name {b : Bool} {n : Str} (h : isNm n = true) : nameOf (sd b n) = n := by
  cases b
  · exact nameOf_neg h
  · exact nameOf_nm h
theorem sd_inj {b c : Bool} {n m : Str} (hn : isNm n = true) (hm : isNm m = true) (h : sd b n = sd c m) : n = m ∧ b = c := by
  have e : n = m := by rw [← sd_name (b := b) hn, h, sd_name hm]
  subst e
  refine ⟨rfl, ?_⟩
  cases b <;> cases c
  · rfl
  · exact absurd h.symm (neg_ne hn)
  · exact absurd h (neg_ne hn)
  · rfl
theorem paired_map {α β : Type} {F : α → β → Prop} {f : α → β} (h : ∀ x, F x (f x)) : ∀ xs : List α, Paired F xs (xs.map f)
  | [] => .nil
  | x :: xs => .cons (h x) (paired_map h xs)
theorem setOf_mem (α : Str → Bool) (ns : List Str) : setOf α ns ∈ fulls ns := fulls_mem (paired_map (fun n => by
  show sd (α n) n = n ∨ sd (α n) n = ("-" : Str) ++ n
  cases α n
  · exact .inr rfl
  · exact .inl rfl) ns)
theorem setOf_eq {α β : Str → Bool} {ns : List Str} (h : ∀ x ∈ ns, α x = β x) : setOf α ns = setOf β ns := List.map_congr_left fun x hx => by rw [h x hx]
theorem side_sd {n l : Str} (h : Side n l) : ∃ b, l = sd b n := by
  rcases h with rfl | rfl
  · exact ⟨true, rfl⟩
  · exact ⟨false, rfl⟩
theorem paired_set {ns s : List Str} (h : Paired Side ns s) (nd : ns.Nodup) : ∃ α, s = setOf α ns := by
  induction h with
  | nil => exact ⟨fun _ => true, rfl⟩
  | @cons n l ns s hs _ ih =>
    obtain ⟨hn, nd⟩ := List.nodup_cons.mp nd
    obtain ⟨α, rfl⟩ := ih nd
    obtain ⟨b, rfl⟩ := side_sd hs
    refine ⟨fun y => if y = n then b else α y, ?_⟩
    show sd b n :: setOf α ns = sd (if n = n then b else α n) n :: setOf _ ns
    rw [if_pos rfl]
    congr 1
    exact setOf_eq fun x hx => by rw [if_neg fun e => hn (by rw [← e]; exact hx)]
theorem full_set {ns s : List Str} (nd : ns.Nodup) (h : s ∈ fulls ns) : ∃ α, s = setOf α ns := paired_set (fulls_paired h) nd
theorem sd_in {α : Str → Bool} {ns : List Str} (nm : NmL ns) {x : Str} (hx : x ∈ ns) {b : Bool} : sd b x ∈ setOf α ns ↔ α x = b := by
  constructor
  · intro h
    obtain ⟨n, hn, e⟩ := List.mem_map.mp h
    obtain ⟨e1, e2⟩ := sd_inj (nm.nm x hx) (nm.nm n hn) e.symm
    rw [e1]
    exact e2.symm
  · rintro rfl
    exact List.mem_map_of_mem (f := fun n => sd (α n) n) hx
theorem lits_sd {ns : List Str} {l : Str} : l ∈ litsOf ns ↔ ∃ n ∈ ns, ∃ b, l = sd b n := by
  rw [mem_litsOf]
  constructor
  · rintro ⟨n, hn, h⟩
    obtain ⟨b, e⟩ := side_sd h
    exact ⟨n, hn, b, e⟩
  · rintro ⟨n, hn, b, rfl⟩
    refine ⟨n, hn, ?_⟩
    cases b
    · exact .inr rfl
    · exact .inl rfl
theorem setOf_lits {α : Str → Bool} {ns : List Str} {l : Str} (h : l ∈ setOf α ns) : l ∈ litsOf ns := by
  obtain ⟨n, hn, rfl⟩ := List.mem_map.mp h
  exact lits_sd.mpr ⟨n, hn, _, rfl⟩
theorem forced_cases {ss : List (List Str)} {h : List Str} : (forcedL ss h = none ∧ fits ss h = []) ∨ ∃ s r f, fits ss h = s :: r ∧ forcedL ss h = some f ∧ ∀ l, l ∈ f ↔ l ∈ s ∧ l ∉ h ∧ ∀ z ∈ s :: r, l ∈ z := by
  unfold forcedL
  cases e : fits ss h with
  | nil => exact .inl ⟨rfl, rfl⟩
  | cons s r =>
    refine .inr ⟨s, r, _, rfl, rfl, fun l => ?_⟩
    rw [List.mem_filter, Bool.and_eq_true, decide_eq_true_eq, List.all_eq_true]
    simp only [decide_eq_true_eq]
theorem in_fits {ss : List (List Str)} {h s : List Str} (h1 : s ∈ ss) (h2 : ∀ l ∈ h, l ∈ s) : s ∈ fits ss h := by
  unfold fits
  exact List.mem_filter.mpr ⟨h1, List.all_eq_true.mpr fun l hl => decide_eq_true (h2 l hl)⟩
end My

set_option Elab.async false
set_option linter.all false
set_option maxRecDepth 100000
set_option maxHeartbeats 1000000
namespace My
open PySem PySem.Spec PyProof.Rows L2 L3
/-! copies of a code, plainly: helpers that tell which literals are denied in it -/
theorem opp_sd {n : Str} {b : Bool} (h : isNm n = true) : opp (sd b n) = sd (!b) n := by
  cases b
  · show opp (("-" : Str) ++ n) = n
    exact opp_neg h
  · show opp n = ("-" : Str) ++ n
    exact opp_nm h
theorem litN_sd {ns : List Str} {l : Str} : LitN ns l ↔ ∃ n ∈ ns, ∃ b, l = sd b n := by rw [← mem_litsOf]; exact lits_sd
theorem opp_lit {ns : List Str} (nm : NmL ns) {l : Str} (h : l ∈ litsOf ns) : opp l ∈ litsOf ns ∧ opp (opp l) = l := by
  obtain ⟨n, hn, b, rfl⟩ := lits_sd.mp h
  rw [opp_sd (nm.nm n hn), opp_sd (nm.nm n hn), Bool.not_not]
  exact ⟨lits_sd.mpr ⟨n, hn, _, rfl⟩, rfl⟩
def drawK (d : Str → Str) (k : List Str) (l : Str) : List Str := ((k.filter fun m => decide (m ≠ l)).map fun m => ("-" : Str) ++ d m) ++ [d (opp l)]
def laidC (c : CodeD) (o : Str) (d : Str → Str) : List (List Str) :=
  ((c.clauses.filter fun k => decide (k = [])).map fun _ => [o]) ++ (c.clauses.flatMap fun k => k.map (drawK d k)) ++ (c.names.map fun n => [("-" : Str) ++ d n, ("-" : Str) ++ d (("-" : Str) ++ n), o]) ++ (litsOf c.signs).map fun l => [l, d l]
theorem mem_laid {c : CodeD} {o : Str} {d : Str → Str} {k : List Str} : k ∈ laidC c o d ↔ ([] ∈ c.clauses ∧ k = [o]) ∨ (∃ q ∈ c.clauses, ∃ l ∈ q, k = drawK d q l) ∨ (∃ n ∈ c.names, k = [("-" : Str) ++ d n, ("-" : Str) ++ d (("-" : Str) ++ n), o]) ∨ ∃ l ∈ litsOf c.signs, k = [l, d l] := by
  unfold laidC
  simp only [List.mem_append, List.mem_map, List.mem_filter, List.mem_flatMap, decide_eq_true_eq]
  constructor
  · rintro (((⟨q, ⟨h1, h2⟩, h3⟩ | ⟨q, h1, l, h2, h3⟩) | ⟨n, h1, h2⟩) | ⟨l, h1, h2⟩)
    · subst h2; exact .inl ⟨h1, h3.symm⟩
    · exact .inr (.inl ⟨q, h1, l, h2, h3.symm⟩)
    · exact .inr (.inr (.inl ⟨n, h1, h2.symm⟩))
    · exact .inr (.inr (.inr ⟨l, h1, h2.symm⟩))
  · rintro (⟨h1, h2⟩ | ⟨q, h1, l, h2, h3⟩ | ⟨n, h1, h2⟩ | ⟨l, h1, h2⟩)
    · exact .inl (.inl (.inl ⟨[], ⟨h1, rfl⟩, h2.symm⟩))
    · exact .inl (.inl (.inr ⟨q, h1, l, h2, h3.symm⟩))
    · exact .inl (.inr ⟨n, h1, h2.symm⟩)
    · exact .inr ⟨l, h1, h2.symm⟩
/-- the copy follows: what the code derives, the copy denies -/
structure CopyIn (c : CodeD) (o : Str) (d : Str → Str) (L : List (List Str)) : Prop where
  nm : NmL c.names
  l : ∀ k ∈ c.clauses, Lits c.names k
  sub : ∀ k ∈ laidC c o d, k ∈ L
  dn : ∀ x ∈ litsOf c.names, isNm (d x) = true
theorem opp_min {n : Str} (h : isNm n = true) : opp (("-" : Str) ++ n) = n := opp_neg h
section
variable {c : CodeD} {o : Str} {d : Str → Str} {L : List (List Str)} {h g : List Str}
/-- a start of the copy: signs that are so, and literals that are denied outright -/
theorem copy_der (X : CopyIn c o d L) (hg : ∀ y ∈ g, y ∈ litsOf c.names ∧ Der L h (d (opp y))) {x : Str} (dx : Der c.clauses g x) : x ∈ litsOf c.names ∧ Der L h (d (opp x)) := by
  induction dx with
  | base hy => exact hg _ hy
  | @step k x hk hx _ ih =>
    have lit : ∀ m ∈ k, m ∈ litsOf c.names := fun m hm => mem_litsOf.mpr ((X.l k hk).of m hm)
    refine ⟨lit x hx, ?_⟩
    refine .step (X.sub _ (mem_laid.mpr (.inr (.inl ⟨k, hk, x, hx, rfl⟩)))) (by unfold drawK; exact List.mem_append_right _ (List.mem_singleton_self _)) fun m hm ne => ?_
    unfold drawK at hm
    rcases List.mem_append.mp hm with hm | hm
    · obtain ⟨y, hy, rfl⟩ := List.mem_map.mp hm
      obtain ⟨hy, hyx⟩ := List.mem_filter.mp hy
      have := (ih y hy (of_decide_eq_true hyx)).2
      rw [(opp_lit X.nm (lit y hy)).2] at this
      rw [opp_min (X.dn y (lit y hy))]
      exact this
    · exact absurd (List.mem_singleton.mp hm) ne
theorem copy_dead (X : CopyIn c o d L) (hg : ∀ y ∈ g, y ∈ litsOf c.names ∧ Der L h (d (opp y))) (dd : Dead c.clauses g) : Der L h o := by
  obtain ⟨k, hk, hm⟩ := dd
  have lit : ∀ m ∈ k, m ∈ litsOf c.names := fun m hm => mem_litsOf.mpr ((X.l k hk).of m hm)
  have den : ∀ m ∈ k, Der L h (d m) := fun m hmk => by
    have := (copy_der X hg (hm m hmk)).2
    rw [(opp_lit X.nm (lit m hmk)).2] at this
    exact this
  cases k with
  | nil => exact .step (X.sub _ (mem_laid.mpr (.inl ⟨hk, rfl⟩))) (List.mem_singleton_self _) fun m hm ne => absurd (List.mem_singleton.mp hm) ne
  | cons m r =>
    have hmk : m ∈ m :: r := List.mem_cons_self ..
    have d1 := den m hmk
    have d2 : Der L h (d (opp m)) := by
      refine .step (X.sub _ (mem_laid.mpr (.inr (.inl ⟨m :: r, hk, m, hmk, rfl⟩)))) (by unfold drawK; exact List.mem_append_right _ (List.mem_singleton_self _)) fun y hy ne => ?_
      unfold drawK at hy
      rcases List.mem_append.mp hy with hy | hy
      · obtain ⟨z, hz, rfl⟩ := List.mem_map.mp hy
        have hz := (List.mem_filter.mp hz).1
        rw [opp_min (X.dn z (lit z hz))]
        exact den z hz
      · exact absurd (List.mem_singleton.mp hy) ne
    obtain ⟨n, hn, b, rfl⟩ := lits_sd.mp (lit m hmk)
    have nn := X.nm.nm n hn
    rw [opp_sd nn] at d2
    have both : Der L h (d n) ∧ Der L h (d (("-" : Str) ++ n)) := by
      cases b
      · exact ⟨d2, d1⟩
      · exact ⟨d1, d2⟩
    have l1 : n ∈ litsOf c.names := lits_sd.mpr ⟨n, hn, true, rfl⟩
    have l2 : ("-" : Str) ++ n ∈ litsOf c.names := lits_sd.mpr ⟨n, hn, false, rfl⟩
    refine .step (X.sub _ (mem_laid.mpr (.inr (.inr (.inl ⟨n, hn, rfl⟩))))) (by simp) fun y hy ne => ?_
    simp only [List.mem_cons, List.not_mem_nil, or_false] at hy
    rcases hy with rfl | rfl | rfl
    · rw [opp_min (X.dn _ l1)]; exact both.1
    · rw [opp_min (X.dn _ l2)]; exact both.2
    · exact absurd rfl ne
end
/-! the lifted code -/
def liftC (c : CodeD) (out : Str → Str) (dl : Str → Str → Str) : List (List Str) := c.clauses ++ (litsOf c.signs).flatMap fun l => laidC c (out l) (dl l) ++ [[dl l (opp l)], [("-" : Str) ++ out l, opp l]]
theorem mem_lift {c : CodeD} {out : Str → Str} {dl : Str → Str → Str} {k : List Str} : k ∈ liftC c out dl ↔ k ∈ c.clauses ∨ ∃ l ∈ litsOf c.signs, k ∈ laidC c (out l) (dl l) ∨ k = [dl l (opp l)] ∨ k = [("-" : Str) ++ out l, opp l] := by
  unfold liftC
  simp only [List.mem_append, List.mem_flatMap, List.mem_cons, List.not_mem_nil, or_false]
/-- the names of the copies are new and unlike -/
structure NewN (c : CodeD) (out : Str → Str) (dl : Str → Str → Str) : Prop where
  o : ∀ l ∈ litsOf c.signs, isNm (out l) = true ∧ out l ∉ c.names
  d : ∀ l ∈ litsOf c.signs, ∀ x ∈ litsOf c.names, isNm (dl l x) = true ∧ dl l x ∉ c.names
  oo : ∀ l ∈ litsOf c.signs, ∀ l' ∈ litsOf c.signs, out l = out l' → l = l'
  dd : ∀ l ∈ litsOf c.signs, ∀ l' ∈ litsOf c.signs, ∀ x ∈ litsOf c.names, ∀ x' ∈ litsOf c.names, dl l x = dl l' x' → l = l' ∧ x = x'
  od : ∀ l ∈ litsOf c.signs, ∀ l' ∈ litsOf c.signs, ∀ x ∈ litsOf c.names, out l ≠ dl l' x
theorem signs_lits {c : CodeD} {l : Str} (h : l ∈ litsOf c.signs) : l ∈ litsOf c.names := by
  obtain ⟨n, hn, b, rfl⟩ := lits_sd.mp h
  exact lits_sd.mpr ⟨n, List.mem_append_left _ hn, b, rfl⟩
section
variable {c : CodeD} {out : Str → Str} {dl : Str → Str → Str} {h : List Str}
/-- what leads to a dead end in the code is drawn the other way in the lifted one -/
theorem lift_der (nm : NmL c.names) (sn : NmL c.signs) (lc : ∀ k ∈ c.clauses, Lits c.names k) (N : NewN c out dl) {a : Str} (ha : a ∈ litsOf c.signs) (hh : ∀ y ∈ h, y ∈ litsOf c.signs) (dd : Dead c.clauses (h ++ [a])) : Der (liftC c out dl) h (opp a) := by
  have X : CopyIn c (out a) (dl a) (liftC c out dl) := ⟨nm, lc, fun k hk => mem_lift.mpr (.inr ⟨a, ha, .inl hk⟩), fun x hx => (N.d a ha x hx).1⟩
  have st : ∀ y ∈ h ++ [a], y ∈ litsOf c.names ∧ Der (liftC c out dl) h (dl a (opp y)) := fun y hy => by
    rcases List.mem_append.mp hy with hy | hy
    · have hs := hh y hy
      refine ⟨signs_lits hs, ?_⟩
      have ho := opp_lit sn hs
      refine .step (mem_lift.mpr (.inr ⟨a, ha, .inl (mem_laid.mpr (.inr (.inr (.inr ⟨opp y, ho.1, rfl⟩))))⟩)) (by simp) fun m hm ne => ?_
      simp only [List.mem_cons, List.not_mem_nil, or_false] at hm
      rcases hm with rfl | rfl
      · rw [ho.2]; exact .base hy
      · exact absurd rfl ne
    · rw [List.mem_singleton.mp hy]
      exact ⟨signs_lits ha, .step (mem_lift.mpr (.inr ⟨a, ha, .inr (.inl rfl)⟩)) (List.mem_singleton_self _) fun m hm ne => absurd (List.mem_singleton.mp hm) ne⟩
  have od := copy_dead X st dd
  refine .step (mem_lift.mpr (.inr ⟨a, ha, .inr (.inr rfl)⟩)) (by simp) fun m hm ne => ?_
  simp only [List.mem_cons, List.not_mem_nil, or_false] at hm
  rcases hm with rfl | rfl
  · rw [opp_min (N.o a ha).1]; exact od
  · exact absurd rfl ne
end
end My

set_option Elab.async false
set_option linter.all false
set_option maxRecDepth 100000
set_option maxHeartbeats 8000000
namespace My
open PySem PySem.Spec PyProof.Rows L2 L3
/-! new names -/
theorem gvl_is {σ : Sl} {M : Hp} {te : TE} {P P' : Hp → List V → Prop} (h : GvL te σ M P) (i : ∀ M ws, P M ws → P' M ws) : GvL te σ M P' := fun H mh Q q => h H mh Q fun p vs M' H' g h0 m0 hp pd => q p vs M' H' g h0 m0 hp (i _ _ pd)
abbrev letC : List Nat := g_LETTERS.cps.toList
def lvN : Nat → List Str
  | 0 => [""]
  | n + 1 => (lvN n).flatMap fun w => letC.map fun c => w ++ ⟨#[c]⟩
def fdN (tk : List Str) : Nat → List Str
  | 0 => []
  | n + 1 => fdN tk n ++ (lvN (n + 1)).filter fun w => decide (w ∉ tk)
theorem lv_1 : lvN 1 = letC.map fun c => (⟨#[c]⟩ : Str) := by
  show (([""] : List Str).flatMap fun w => letC.map fun c => w ++ ⟨#[c]⟩) = _
  rw [List.flatMap_cons, List.flatMap_nil, List.append_nil]
  refine List.map_congr_left fun c _ => ?_
  rw [show (("" : String) : Str) = ⟨#[]⟩ by decide +kernel]
  rfl
theorem lv_2 : lvN 2 = letC.flatMap fun a => letC.map fun c => (⟨#[a, c]⟩ : Str) := by
  show (lvN 1).flatMap (fun w => letC.map fun c => w ++ ⟨#[c]⟩) = _
  rw [lv_1, List.flatMap_map]
  rfl
theorem letC_len : letC.length = 26 := by decide +kernel
theorem letC_nodup : letC.Nodup := by decide +kernel
theorem flat26 {α β : Type} {f : α → List β} : ∀ {xs : List α}, (∀ x ∈ xs, (f x).length = 26) → (xs.flatMap f).length = 26 * xs.length
  | [], _ => rfl
  | x :: xs, h => by
    rw [List.flatMap_cons, List.length_append, h x (List.mem_cons_self ..), flat26 fun y hy => h y (List.mem_cons_of_mem _ hy), List.length_cons]
    omega
theorem lv_len : ∀ {n : Nat}, n ≤ 2 → (lvN n).length ≤ 676
  | 0, _ => by decide
  | 1, _ => by rw [lv_1, List.length_map, letC_len]; decide
  | 2, _ => by rw [lv_2, flat26 fun x _ => by rw [List.length_map, letC_len], letC_len]; decide
theorem lv2_len : (lvN 2).length = 676 := by rw [lv_2, flat26 fun x _ => by rw [List.length_map, letC_len], letC_len]
theorem nodup_map_inj {α β : Type} {f : α → β} : ∀ {xs : List α}, xs.Nodup → (∀ x ∈ xs, ∀ y ∈ xs, f x = f y → x = y) → (xs.map f).Nodup
  | [], _, _ => List.nodup_nil
  | x :: xs, nd, h => by
    obtain ⟨h1, h2⟩ := List.nodup_cons.mp nd
    refine List.nodup_cons.mpr ⟨fun z => ?_, nodup_map_inj h2 fun a ha b hb => h a (List.mem_cons_of_mem _ ha) b (List.mem_cons_of_mem _ hb)⟩
    obtain ⟨y, hy, e⟩ := List.mem_map.mp z
    rw [h x (List.mem_cons_self ..) y (List.mem_cons_of_mem _ hy) e.symm] at h1
    exact h1 hy
theorem nodup_flat_inj {α β : Type} {f : α → List β} : ∀ {xs : List α}, xs.Nodup → (∀ x ∈ xs, (f x).Nodup) → (∀ x ∈ xs, ∀ y ∈ xs, ∀ b, b ∈ f x → b ∈ f y → x = y) → (xs.flatMap f).Nodup
  | [], _, _, _ => List.nodup_nil
  | x :: xs, nd, hn, h => by
    obtain ⟨h1, h2⟩ := List.nodup_cons.mp nd
    rw [List.flatMap_cons]
    refine List.nodup_append.mpr ⟨hn x (List.mem_cons_self ..), nodup_flat_inj h2 (fun y hy => hn y (List.mem_cons_of_mem _ hy)) fun a ha b hb => h a (List.mem_cons_of_mem _ ha) b (List.mem_cons_of_mem _ hb), fun a ha b hb e => ?_⟩
    subst e
    obtain ⟨y, hy, hb⟩ := List.mem_flatMap.mp hb
    exact h1 (by rw [h x (List.mem_cons_self ..) y (List.mem_cons_of_mem _ hy) a ha hb]; exact hy)
theorem lv1_nodup : (lvN 1).Nodup := by
  rw [lv_1]
  refine nodup_map_inj letC_nodup fun x _ y _ e => ?_
  injection e with e
  injection e with e
  injection e
theorem lv2_nodup : (lvN 2).Nodup := by
  rw [lv_2]
  refine nodup_flat_inj letC_nodup (fun a _ => nodup_map_inj letC_nodup fun x _ y _ e => ?_) fun a _ b _ w h1 h2 => ?_
  · injection e with e
    injection e with e
    injection e with _ e
    injection e
  · obtain ⟨c, _, e1⟩ := List.mem_map.mp h1
    obtain ⟨d, _, e2⟩ := List.mem_map.mp h2
    rw [← e2] at e1
    injection e1 with e
    injection e with e
    injection e
theorem lv1_nm {w : Str} (h : w ∈ lvN 1) : isNm w = true := by
  rw [lv_1] at h
  obtain ⟨c, hc, rfl⟩ := List.mem_map.mp h
  unfold isNm
  rw [Bool.and_eq_true, Bool.and_eq_true]
  refine ⟨⟨rfl, rfl⟩, ?_⟩
  show ([c].all fun c => decide (c ∈ g_LETTERS.cps.toList)) = true
  rw [List.all_cons, decide_eq_true hc]
  rfl
theorem lv2_nm {w : Str} (h : w ∈ lvN 2) : isNm w = true := by
  rw [lv_2] at h
  obtain ⟨a, ha, h⟩ := List.mem_flatMap.mp h
  obtain ⟨c, hc, rfl⟩ := List.mem_map.mp h
  unfold isNm
  rw [Bool.and_eq_true, Bool.and_eq_true]
  refine ⟨⟨rfl, rfl⟩, ?_⟩
  show ([a, c].all fun c => decide (c ∈ g_LETTERS.cps.toList)) = true
  rw [List.all_cons, decide_eq_true ha, List.all_cons, decide_eq_true hc]
  rfl
theorem lv12 {w : Str} (h1 : w ∈ lvN 1) (h2 : w ∈ lvN 2) : False := by
  rw [lv_1] at h1
  rw [lv_2] at h2
  obtain ⟨c, _, rfl⟩ := List.mem_map.mp h1
  obtain ⟨a, _, h⟩ := List.mem_flatMap.mp h2
  obtain ⟨d, _, e⟩ := List.mem_map.mp h
  injection e with e
  injection e with e
  injection e with _ e
  cases e
/-- new names: unlike, none taken -/
structure NewNm (tk : List Str) (n : Nat) (xs : List Str) : Prop where
  n : xs.length = n
  nd : xs.Nodup
  nm : ∀ x ∈ xs, isNm x = true ∧ x ∉ tk
theorem fd_ok (tk : List Str) : ∀ {r : Nat}, r ≤ 2 → (fdN tk r).Nodup ∧ ∀ x ∈ fdN tk r, isNm x = true ∧ x ∉ tk
  | 0, _ => ⟨List.nodup_nil, fun _ h => nomatch h⟩
  | 1, _ => by
    show ([] ++ (lvN 1).filter _).Nodup ∧ _
    rw [List.nil_append]
    refine ⟨lv1_nodup.sublist List.filter_sublist, fun x hx => ?_⟩
    have hx : x ∈ ([] : List Str) ++ (lvN 1).filter fun w => decide (w ∉ tk) := hx
    rw [List.nil_append] at hx
    obtain ⟨h1, h2⟩ := List.mem_filter.mp hx
    exact ⟨lv1_nm h1, of_decide_eq_true h2⟩
  | 2, _ => by
    have e : fdN tk 2 = ((lvN 1).filter fun w => decide (w ∉ tk)) ++ (lvN 2).filter fun w => decide (w ∉ tk) := by
      show ([] ++ (lvN 1).filter _) ++ (lvN 2).filter _ = _
      rw [List.nil_append]
    rw [e]
    refine ⟨List.nodup_append.mpr ⟨lv1_nodup.sublist List.filter_sublist, lv2_nodup.sublist List.filter_sublist, fun a ha b hb e => ?_⟩, fun x hx => ?_⟩
    · subst e
      exact lv12 (List.mem_filter.mp ha).1 (List.mem_filter.mp hb).1
    · rcases List.mem_append.mp hx with hx | hx
      · obtain ⟨h1, h2⟩ := List.mem_filter.mp hx
        exact ⟨lv1_nm h1, of_decide_eq_true h2⟩
      · obtain ⟨h1, h2⟩ := List.mem_filter.mp hx
        exact ⟨lv2_nm h1, of_decide_eq_true h2⟩
theorem filt_split {α : Type} (p : α → Bool) : ∀ xs : List α, xs.length = (xs.filter p).length + (xs.filter fun x => !p x).length
  | [] => rfl
  | x :: xs => by
    have := filt_split p xs
    rw [List.filter_cons, List.filter_cons]
    cases e : p x with
    | true => simp only [if_pos, Bool.not_true, List.length_cons]; simp; omega
    | false => simp only [Bool.not_false, List.length_cons]; simp; omega
theorem fd2_len {tk : List Str} : 676 ≤ (fdN tk 2).length + tk.length := by
  have e : fdN tk 2 = fdN tk 1 ++ (lvN 2).filter fun w => decide (w ∉ tk) := rfl
  rw [e, List.length_append]
  have h1 := filt_split (fun w => decide (w ∉ tk)) (lvN 2)
  have h2 : ((lvN 2).filter fun w => !decide (w ∉ tk)).length ≤ tk.length := nodup_le (lv2_nodup.sublist List.filter_sublist) fun x hx => by
    have := (List.mem_filter.mp hx).2
    simpa using this
  rw [lv2_len] at h1
  omega
theorem fd_len (tk : List Str) : ∀ {r : Nat}, r ≤ 2 → (fdN tk r).length ≤ 1352
  | 0, _ => Nat.zero_le _
  | 1, _ => by
    show ([] ++ (lvN 1).filter _).length ≤ _
    rw [List.nil_append]
    exact Nat.le_trans (List.length_filter_le _ _) (Nat.le_trans (lv_len (by decide)) (by decide))
  | 2, _ => by
    have e : fdN tk 2 = ([] ++ (lvN 1).filter fun w => decide (w ∉ tk)) ++ (lvN 2).filter fun w => decide (w ∉ tk) := rfl
    rw [e, List.nil_append, List.length_append]
    have h1 := Nat.le_trans (List.length_filter_le (fun w => decide (w ∉ tk)) (lvN 1)) (lv_len (n := 1) (by decide))
    have h2 := Nat.le_trans (List.length_filter_le (fun w => decide (w ∉ tk)) (lvN 2)) (lv_len (n := 2) (by decide))
    omega
theorem fd_new {tk : List Str} {r n : Nat} (hr : r ≤ 2) (h : ¬ (fdN tk r).length < n) : NewNm tk n ((fdN tk r).take n) := by
  obtain ⟨h1, h2⟩ := fd_ok tk hr
  exact ⟨by rw [List.length_take]; omega, h1.sublist (List.take_sublist _ _), fun x hx => h2 x (List.mem_of_mem_take hx)⟩
theorem lv_short : ∀ {r : Nat}, r ≤ 2 → ∀ w ∈ lvN r, w.length ≤ 8
  | 0, _ => fun w h => by rw [List.mem_singleton.mp (show w ∈ ([""] : List Str) from h)]; decide +kernel
  | 1, _ => fun w h => isNm_len (lv1_nm h)
  | 2, _ => fun w h => isNm_len (lv2_nm h)
section
variable {P : Program} {w : World} {K : PySem.W.Frag} {mg : Str → Option Value} {base : Heap}
abbrev s_new_names : Stmt := topS 36
theorem sc_new_names : FnScope ["many", "taken", "found", "level", "word", "sign"] ["many", "taken"] (defScope s_new_names) := ⟨rfl, rfl, rfl, by decide +kernel, rfl, by decide +kernel, by decide +kernel⟩
def sp_new_names (K : PySem.W.Frag) : Sp := fun vs H Q _ => ∃ (n : Nat) (tk : List Str) (M : Hp) (v : V), vs = [.int (n : Nat), v] ∧ Same M H ∧ SqR K Tx tk M v ∧ (n ≤ 500 ∧ tk.length ≤ 100) ∧
  ∀ xs p M' H', Gr M H M' H' → H p = none → M' p = none → H' p = some (.lst (xs.map V.str)) → NewNm tk n xs → Q (.ref p) H'
theorem ok_new_names {f : Addr} {fd : FuncData} (F : Fun K "new_names" "new_names" s_new_names f fd) (T : Gc mg) : FnOk P w K mg base CX0 1 f fd ["many", "taken"] (sp_new_names K) := by
  refine F.ok sc_new_names (fun vs H Q E h => ?_) (fun cdv A outer s H vs Q E hr h => ?_)
  · obtain ⟨_, _, _, _, rfl, _⟩ := h
    rfl
  · obtain ⟨n, tk, M, v, rfl, mh, r1, ⟨hn, ht⟩, q⟩ := h
    have hu := hr.units
    obtain ⟨tok, hL⟩ := T.g_LETTERS
    refine ⟨_, (pss_cons (ps_par (i := 2) (j := 3) (by rfl) sc_new_names.nd rfl rfl (by decide) rfl rfl (pa_cons (pe_lst pa_nil) (pa_cons (pe_lst (pa_cons pe_str pa_nil)) pa_nil)) (by rfl))
      (pss_cons (ps_while PassesOwn.never (pt_cmpR op_lt (pe_callB call_lenA (by rfl) T.len boot_len (pa_cons (pv 2) pa_nil)) (pv 0) (nomark _)) (pss_cons (ps_setLc2 (i := 3) (own := [("word", 4), ("sign", 5)]) (vs1 := [5]) (g := (gName 4)) (tt := tYes) (wi1 := (iStr (tC (.str g_LETTERS)))) (g1 := (gName 5)) (tt1 := tYes) (te := (tOp (rAddA K) (tVar 4) (tVar 5))) (by rfl) sc_new_names.nd rfl rfl (sw_true rfl rfl rfl (by decide +kernel)) (pi_sq (pv 3)) (blkOk_by (by rfl)) (by decide) (fun _ _ _ _ _ => (pg_name (i := 4) sc_new_names.nd rfl (by first | exact .inl rfl | exact .inr rfl))) (fun _ _ _ _ _ => pts_nil) (fun _ _ _ _ _ => (pi_str (pe_glob (by rfl) hL ⟨_, rfl⟩))) (fun _ _ _ _ _ => (pg_name (i := 5) sc_new_names.nd rfl (by first | exact .inl rfl | exact .inr rfl))) (fun _ _ _ _ _ => pts_nil) (fun _ _ _ _ _ => (pe_op op_addA (pv 4) (pv 5))))
      (pss_one (ps_expr (pe_bm PySem.F.plainAttrs_list PySem.F.slot_list_extend PySem.F.type_list_extend mt_extend (pv 2) (pa_cons (pe_lc (own := [("word", 4)]) (g := (gName 4)) (tt := (tTest (tOp (rInA K true) (tVar 4) (tVar 1)))) (te := (tVar 4)) (by rfl) sc_new_names.nd (pi_sq (pv 3)) (blkOk_by (by rfl)) (fun _ _ _ _ _ => (pg_name (i := 4) sc_new_names.nd rfl (by first | exact .inl rfl | exact .inr rfl))) (fun _ _ _ _ _ => (pts_one (pt_cmpR (op_niA hu) (pv 4) (pv 1) (by rfl)))) (fun _ _ _ _ _ => (pv 4))) pa_nil))))))
      (pss_one (ps_ret (pe_slice sl_X (pv 2) po_none (po_some (pv 0))))))), ?_⟩
    refine q_par2 (a_L mh gl_nil fun p vs M1 H1 g1 h01 m01 hp1 ev => ?_)
    subst ev
    refine a_V (P := LiR Tx [""]) g1.mh (gl_one (R := Tx) (x := "") (gv_c rfl)).li fun vl M2 H2 g2 r2 => ⟨_, _, rfl, ?_⟩
    have ow2 : Own H M2 H2 p [] := Own.step ⟨h01, m01, hp1⟩ g2
    refine q_while (M := M2) (m0 := 2) (fun m σ' M' H' => ∃ (r : Nat) (y4 y5 : Option V) (vl : V), m = 2 - r ∧ r ≤ 2 ∧ Gr M H M' H' ∧ Own H M' H' p ((fdN tk r).map V.str) ∧ LiR Tx (lvN r) M' vl ∧ σ' = [some (.int (n : Nat)), some v, some (.ref p), some vl, y4, y5])
      ⟨0, _, _, vl, rfl, by decide, g1.trans g2, ow2, r2, rfl⟩ ?_
    rintro m σ' M' H' ⟨r, y4, y5, vl, em, hr2, g, ow, rl, rfl⟩
    have fl := fd_len tk hr2
    refine ⟨decide (((fdN tk r).length : Int) < (n : Int)), _, ow.fr g.mh, gt_test (gv_lt (gv_lenA (K := K) (R := Tx) (xs := fdN tk r) (gv_var rfl (.inl ⟨p, _, rfl, .inl (.inl upd_same), pd_of_tx _⟩))) (gv_var rfl rfl)), fun hb H5 hh5 => ?_, fun hb H5 hh5 => ?_⟩
    · have hlt : (fdN tk r).length < n := by have := of_decide_eq_true hb; omega
      have r1' : r ≤ 1 := by
        rcases (by omega : r ≤ 1 ∨ r = 2) with h | h
        · exact h
        · subst h
          have := fd2_len (tk := tk)
          omega
      have g5 := g.trans (.idle g.mh hh5)
      have ow5 := ow.idle hh5
      have ll := lv_len (n := r + 1) (by omega)
      refine q_asg (P := LiR Tx (lvN (r + 1))) g5.mh (gl_two (R := Tx) (R1 := fun c => Tx (⟨#[c]⟩ : Str)) (T := Tx) (i := 4) (j := 5) (xs := lvN r) (ys := fun _ => letC) (f := fun w c => w ++ (⟨#[c]⟩ : Str)) (gi_sq (K := K) (gv_var rfl rl.sq)) (szM (by rw [flat26 fun x _ => letC_len]; have := lv_len hr2; omega))
        (fun w hw M3 u sm ru => gi_str (gv_c rfl)) fun w hw c hc M3 u z sm ru rz => gv_addSt (K := K) (gv_var rfl ru) (gv_var rfl rz) (szM (by have := lv_short hr2 w hw; show w.length + 1 ≤ _; omega))).li fun v6 M6 H6 g6 r6 => ?_
      have G6 := g5.trans g6
      have ow6 := ow5.step g6
      refine s_ext (K := K) (P := fun M ws => Pd Tx M ((lvN (r + 1)).filter fun w => decide (w ∉ tk)) ws) G6.mh rfl ow6.h (gvl_is (gl_c1 (S := Tx) (R := Tx) (xs := lvN (r + 1)) (gi_sq (K := K) (gv_var rfl r6.sq)) (szM (by omega)) (fun x => decide (x ∉ tk)) id
        (fun x hx M7 u7 sm ru => gt_is (gt_test (gv_inA (K := K) (neg := true) (x := x) (xs := tk) (gv_var rfl ru) (gv_var rfl (.inl (Mon.mono (G6.mm.trans sm) r1))))) (by simp)) fun x hx _ M7 u7 sm ru => gv_var rfl ru) fun M ws h => by rw [List.map_id] at h; exact h) (fun M7 ws h => ?_) fun ws M7 H7 g7 h7 => ?_
      · have := h.length
        have h2 := List.length_filter_le (fun w => decide (w ∉ tk)) (lvN (r + 1))
        rw [List.length_map]
        exact szM (by omega)
      · have e := pd_tx h7
        subst e
        have ow7 := ow6.step g7
        refine ⟨2 - (r + 1), M7, by omega, r + 1, _, _, v6, rfl, by omega, (G6.trans g7).mut ow7.h0 ow7.m, ?_, Mon.mono g7.mm r6, rfl⟩
        rw [← List.map_append]
        exact ow7.put
    · have hge : ¬ (fdN tk r).length < n := by have := of_decide_eq_false hb; omega
      have g5 := g.trans (.idle g.mh hh5)
      have ow5 := ow.idle hh5
      have GL := g5.freeze ow5.h0 ow5.m ow5.h
      refine gl_cut (K := K) (R := Tx) (xs := fdN tk r) (lo := none) (hi := some (n : Int)) (gv_var rfl ⟨p, _, rfl, .inl (.inl upd_same), pd_of_tx _⟩) (fun _ _ h => h) (fun _ _ h => ⟨_, rfl, _, rfl, h⟩) H5 GL.mh _ fun b ws M' H' g' h0 m0 hb pd => ?_
      rw [cut_take] at pd
      have e := pd_tx pd
      subst e
      exact q _ b M' H' (GL.trans g') (GL.hh.free h0) m0 hb (fd_new hr2 hge)
end
end My

set_option Elab.async false
set_option linter.all false
set_option maxRecDepth 100000
set_option maxHeartbeats 8000000
namespace My
open PySem PySem.Spec PyProof.Rows L2 L3
/-! dicts from texts to texts -/
abbrev Ren := List (Str × Str)
def mapK (m : Ren) : List (Key × V) := m.map fun e => ((Sum.inr e.1 : Key), V.str e.2)
def MapR : Rl Ren := fun m M v => ∃ p, v = .ref p ∧ M p = some (.dK (mapK m))
instance : Mon MapR := ⟨fun e ⟨p, h1, h2⟩ => ⟨p, h1, e _ _ h2⟩⟩
def ren (m : Ren) (x : Str) : Str := ((m.find? fun e => decide (e.1 = x)).map (·.2)).getD x
theorem valV_map (m : Ren) (x : Str) : valV (mapK m) (Sum.inr x) = (m.find? fun e => decide (e.1 = x)).map fun e => V.str e.2 := by
  unfold valV mapK
  induction m with
  | nil => rfl
  | cons e r ih =>
    rw [List.map_cons, List.find?_cons, List.find?_cons]
    by_cases h : e.1 = x
    · rw [decide_eq_true (show (Sum.inr e.1 : Key) = Sum.inr x by rw [h]), decide_eq_true h]
      rfl
    · rw [decide_eq_false (fun z => h (Sum.inr.inj z)), decide_eq_false h]
      exact ih
theorem ren_mem {m : Ren} {x : Str} (h : x ∈ m.map (·.1)) : (m.find? fun e => decide (e.1 = x)) = some (x, ren m x) ∧ (x, ren m x) ∈ m := by
  cases e : m.find? fun e => decide (e.1 = x) with
  | none =>
    obtain ⟨p, hp, rfl⟩ := List.mem_map.mp h
    have := List.find?_eq_none.mp e p hp
    simp at this
  | some p =>
    have h1 := List.find?_some e
    have h2 := List.mem_of_find?_eq_some e
    have e1 : p.1 = x := of_decide_eq_true h1
    have e2 : ren m x = p.2 := by unfold ren; rw [e]; rfl
    rw [e2, ← e1]
    exact ⟨rfl, h2⟩
theorem ren_at {m : Ren} {x : Str} (h : x ∈ m.map (·.1)) : valV (mapK m) (Sum.inr x) = some (.str (ren m x)) := by
  rw [valV_map, (ren_mem h).1]
  rfl
theorem put_map {m : Ren} {n y : Str} (h : n ∉ m.map (·.1)) : putK (mapK m) (Sum.inr n) (.str y) = mapK (m ++ [(n, y)]) := by
  unfold putK
  rw [if_neg]
  · unfold mapK; rw [List.map_append]; rfl
  · intro z
    obtain ⟨e, he, z⟩ := List.any_eq_true.mp z
    obtain ⟨f, hf, rfl⟩ := List.mem_map.mp (show e ∈ m.map _ from he)
    have := of_decide_eq_true z
    exact h (List.mem_map.mpr ⟨f, hf, Sum.inr.inj this⟩)
section
variable {K : PySem.W.Frag} {σ : Sl} {M : Hp} {td te ts tx : TE} {m : Ren} {x o : Str} {xs : List Str} {CC : Addr} {mg : Str → Option Value} {vl : V}
theorem gv_at (h1 : Gv td σ M (MapR m)) (h2 : Gv tx σ M (Tx x)) (hx : x ∈ m.map (·.1)) : Gv (tDGet td tx) σ M (Tx (ren m x)) := fun H mh Q q =>
  h1 H mh _ fun v M1 H1 g1 ⟨p, e, r⟩ => h2.le g1.mm H1 g1.mh _ fun u M2 H2 g2 r2 => by
    cases (show u = V.str x from r2)
    exact ⟨p, .str (ren m x), e, .inl ⟨_, Sum.inr x, .inl (g2.mh _ _ (g2.mm _ _ r)), rfl, (ren_at hx).symm⟩, q _ M2 H2 (g1.trans g2) rfl⟩
/-- (*xs, x) -/
theorem gv_starT (h2 : Gv ts σ M (SqR K Tx xs)) (h1 : Gv te σ M (Tx x)) (hz : xs.length ≤ 1000000) : Gv (tTup (StX.tStar K ts (tCons te tNil))) σ M (TT (xs ++ [x])) := fun H mh Q q =>
  h2 H mh _ fun w M1 H1 g1 r1 => by
    have fin : ∀ (vs : List V), Pd Tx M1 xs vs → tCons te tNil σ H1 fun ys H2 => (vs ++ ys).length ≤ sizeLine ∧ ∀ p, H2 p = none → Q (.ref p) (upd H2 p (.tup (vs ++ ys))) := fun vs pd => by
      have e := pd_tx pd
      subst e
      refine h1.le g1.mm H1 g1.mh _ fun u M2 H2 g2 r2 => ?_
      cases (show u = _ from r2)
      refine ⟨szM (by rw [List.length_append, List.length_map]; simp only [List.length_cons, List.length_nil]; omega), fun p np => q _ _ _ ((g1.trans g2).trans (.new g2.mh np)) ?_⟩
      refine ⟨p, rfl, ?_⟩
      rw [upd_same, List.map_append]
      rfl
    rcases r1 with ⟨a, vs, rfl, hs, pd⟩ | ⟨a, vs, rfl, hs, pd⟩
    · exact ⟨a, vs, rfl, .inr (sl_mono g1.mh hs), fin vs pd⟩
    · exact ⟨a, vs, rfl, .inl (st_mono g1.mh hs), fin vs pd⟩
/-- [x, *d.values()] -/
theorem gv_starV (h1 : Gv te σ M (Tx x)) (h2 : Gv td σ M (MapR m)) (hz : m.length ≤ 1000000) : Gv (tLst (tCons te (tStarV (tVals td) tNil))) σ M (LiR Tx (x :: m.map (·.2))) := fun H mh Q q =>
  h1 H mh _ fun v M1 H1 g1 e1 => h2.le g1.mm H1 g1.mh _ fun w M2 H2 g2 ⟨d, e, r⟩ => by
    cases (show v = _ from e1)
    refine ⟨d, mapK m, e, .inl (g2.mh _ _ r), fun p np => ⟨p, d, mapK m, rfl, upd_same, .inl (by
      rw [upd_ne (fun z => by rw [← z, g2.mh _ _ r] at np; cases np)]
      exact g2.mh _ _ r), ?_⟩⟩
    have ev : (mapK m).map (·.2) = (m.map (·.2)).map V.str := by unfold mapK; rw [List.map_map, List.map_map]; rfl
    show (V.str x :: ((mapK m).map (·.2) ++ [])).length ≤ sizeLine ∧ ∀ l, _ → Q (.ref l) (upd _ l (.lst (V.str x :: ((mapK m).map (·.2) ++ []))))
    rw [List.append_nil, ev]
    have gW : Gr M2 H2 M2 (upd H2 p (viewO "dict_values" p d)) := .own g2.mh np
    refine ⟨szM (by simp only [List.length_cons, List.length_map]; omega), fun l nl => q _ _ _ (((g1.trans g2).trans gW).trans (.new gW.mh nl)) ?_⟩
    exact ⟨l, _, rfl, upd_same, pd_of_tx (x :: m.map (·.2))⟩
/-! the class of copies -/
structure CopyT (K : PySem.W.Frag) (mg : Str → Option Value) (CC : Addr) : Prop where
  cl : Cls K CC
  nO : NoAttr K CC "out"
  nD : NoAttr K CC "denied"
  nL : NoAttr K CC "laid"
abbrev copyF (o : Str) (D : Addr) (vl : V) : List (Str × V) := [("out", .str o), ("denied", .ref D), ("laid", vl)]
/-- a copy; its list told as it lies -/
def CopyQ (CC : Addr) (o : Str) (m : Ren) (vl : V) : Pr := fun M v => ∃ x dx D, v = .ref x ∧ M x = some (.ins CC dx (copyF o D vl)) ∧ M D = some (.dK (mapK m))
instance : Mono (CopyQ CC o m vl) := ⟨fun e ⟨x, dx, D, h1, h2, h3⟩ => ⟨x, dx, D, h1, e _ _ h2, e _ _ h3⟩⟩
def CopyR (CC : Addr) (o : Str) (m : Ren) (ls : List (List Str)) : Pr := fun M v => ∃ vl, CopyQ CC o m vl M v ∧ LiR TT ls M vl
instance {ls : List (List Str)} : Mono (CopyR CC o m ls) := ⟨fun e ⟨vl, h1, h2⟩ => ⟨vl, Mono.mono e h1, Mono.mono e h2⟩⟩
theorem gv_out (T : CopyT K mg CC) (h : Gv te σ M (CopyQ CC o m vl)) : Gv (tFld K te "out") σ M (Tx o) := gv_fld h fun M' v ⟨x, dx, D, h1, h2, h3⟩ => ⟨x, CC, dx, _, _, h1, h2, T.cl, T.nO, rfl, rfl⟩
theorem gv_den (T : CopyT K mg CC) (h : Gv te σ M (CopyQ CC o m vl)) : Gv (tFld K te "denied") σ M (MapR m) := gv_fld h fun M' v ⟨x, dx, D, h1, h2, h3⟩ => ⟨x, CC, dx, _, .ref D, h1, h2, T.cl, T.nD, rfl, ⟨D, rfl, h3⟩⟩
theorem gv_laid (T : CopyT K mg CC) {ls : List (List Str)} (h : Gv te σ M (CopyR CC o m ls)) : Gv (tFld K te "laid") σ M (LiR TT ls) := gv_fld h fun M' v ⟨vl, ⟨x, dx, D, h1, h2, h3⟩, h4⟩ => ⟨x, CC, dx, _, vl, h1, h2, T.cl, T.nL, rfl, h4⟩
theorem CopyR.q {ls : List (List Str)} {v : V} (h : CopyR CC o m ls M v) : ∃ vl, CopyQ CC o m vl M v := ⟨h.choose, h.choose_spec.1⟩
end
structure DrawPre (m : Ren) (k : List Str) (l : Str) : Prop where
  n : k.length ≤ 1000
  s : ∀ x ∈ k, x ∈ m.map (·.1)
  t : l.length ≤ 1000
  o : opp l ∈ m.map (·.1)
  y : ∀ e ∈ m, e.2.length ≤ 8
section
variable {P : Program} {w : World} {K : PySem.W.Frag} {mg : Str → Option Value} {base : Heap}
abbrev s_Copy_drawing : Stmt := inClass (topS 37) 1
theorem sc_Copy_drawing : FnScope ["self", "clause", "literal", "others", "other"] ["self", "clause", "literal"] (defScope s_Copy_drawing) := ⟨rfl, rfl, rfl, by decide +kernel, rfl, by decide +kernel, by decide +kernel⟩
def sp_Copy_drawing (K : PySem.W.Frag) (CC : Addr) : Sp := fun vs H Q _ => ∃ o m vl k l M v u, vs = [v, u, .str l] ∧ Same M H ∧ CopyQ CC o m vl M v ∧ SqR K Tx k M u ∧ DrawPre m k l ∧ ∀ z M' H', Gr M H M' H' → TT (drawK (ren m) k l) M' z → Q z H'
theorem ok_Copy_drawing {f CC : Addr} {fd : FuncData} (F : Fun K "drawing" "Copy.drawing" s_Copy_drawing f fd) (T : Gc mg) (TC : CopyT K mg CC) (c_opposite : Cal P w K mg base 1 "opposite" ["literal"] (sp_opposite K)) : FnOk P w K mg base CX0 2 f fd ["self", "clause", "literal"] (sp_Copy_drawing K CC) := by
  refine F.ok sc_Copy_drawing (fun vs H Q E h => ?_) (fun cdv A outer s H vs Q E hr h => ?_)
  · obtain ⟨_, _, _, _, _, _, _, _, rfl, _⟩ := h
    rfl
  · obtain ⟨o, m, vl, k, l, M, v, u, rfl, mh, r1, r2, X, q⟩ := h
    have hu := hr.units
    refine ⟨_, (pss_cons (ps_setLc (i := 3) (own := [("other", 4)]) (g := (gName 4)) (tt := (tTest (tOp (rEqP K true) (tVar 4) (tVar 2)))) (te := (tOp (rAddA K) (tC (.str "-")) (tDGet (tFld K (tVar 0) "denied") (tVar 4)))) (by rfl) sc_Copy_drawing.nd rfl rfl (sw_true rfl rfl rfl (by decide +kernel)) (pi_sq (pv 1)) (blkOk_by (by rfl)) (fun _ _ _ _ _ => (pg_name (i := 4) sc_Copy_drawing.nd rfl (by first | exact .inl rfl | exact .inr rfl))) (fun _ _ _ _ _ => (pts_one (pt_cmpR (op_neP hu) (pv 4) (pv 2) (nomark _)))) (fun _ _ _ _ _ => (pe_op op_addA pe_str (pe_dget (Nat.lt_of_le_of_lt (Nat.add_le_add_left (by decide) _) hu) (pe_fld (pv 0) rfl) (pv 4) (fun _ _ => rfl)))))
      (pss_one (ps_ret (pe_tup (StX.pa_star (pv 3) (pa_cons (pe_dget (Nat.lt_of_le_of_lt (Nat.add_le_add_left (by decide) _) hu) (pe_fld (pv 0) rfl) (pe_f c_opposite (hr.mono (by decide)) (pa_cons (pv 2) pa_nil)) (fun _ _ => rfl)) pa_nil)))))), ?_⟩
    have hk := X.n
    refine q_asg (P := LiR Tx ((k.filter fun x => decide (x ≠ l)).map fun x => ("-" : Str) ++ ren m x)) mh (gl_c1 (S := Tx) (R := Tx) (xs := k) (gi_sq (K := K) (gv_var rfl r2)) (szK (by omega)) (fun x => decide (x ≠ l)) (fun x => ("-" : Str) ++ ren m x)
      (fun x hx M1 u1 sm ru => gt_is (gt_test (gv_eqT (K := K) (neg := true) py_str inj_str (gv_var rfl ru) (gv_var rfl rfl) (by simp [PyData.depth]))) (by simp)) fun x hx _ M1 u1 sm ru => gv_addSt (K := K) (gv_c rfl) (gv_at (gv_den TC (gv_var rfl (Mono.mono sm r1))) (gv_var rfl ru) (X.s x hx)) (szM (by
        have := X.y _ (ren_mem (X.s x hx)).2
        show 1 + (ren m x).length ≤ _
        have this : (ren m x).length ≤ 8 := this
        omega))).li fun v3 M1 H1 g1 r3 => ?_
    exact s_ret g1.mh (gv_starT (K := K) (gv_var rfl r3.sq) (gv_at (gv_den TC (gv_var rfl (Mono.mono g1.mm r1))) (gv_call1 (R1 := Tx) (pre := fun x => x.length ≤ 1000) (R := fun x => Tx (opp x)) (x := l) (gv_var rfl rfl) X.t) X.o) (by rw [List.length_map]; exact Nat.le_trans (List.length_filter_le _ _) (by omega))) fun z M' H' g r => q z M' H' (g1.trans g) r
abbrev s_Copy_helpers : Stmt := inClass (topS 37) 2
theorem sc_Copy_helpers : FnScope ["self"] ["self"] (defScope s_Copy_helpers) := ⟨rfl, rfl, rfl, by decide +kernel, rfl, by decide +kernel, by decide +kernel⟩
def sp_Copy_helpers (K : PySem.W.Frag) (CC : Addr) : Sp := fun vs H Q _ => ∃ o m vl M v, vs = [v] ∧ Same M H ∧ CopyQ CC o m vl M v ∧ m.length ≤ 1000 ∧ ∀ z M' H', Gr M H M' H' → LiR Tx (o :: m.map (·.2)) M' z → Q z H'
theorem ok_Copy_helpers {f CC : Addr} {fd : FuncData} (F : Fun K "helpers" "Copy.helpers" s_Copy_helpers f fd) (T : Gc mg) (TC : CopyT K mg CC) : FnOk P w K mg base CX0 1 f fd ["self"] (sp_Copy_helpers K CC) := by
  refine F.ok sc_Copy_helpers (fun vs H Q E h => ?_) (fun cdv A outer s H vs Q E hr h => ?_)
  · obtain ⟨_, _, _, _, _, rfl, _⟩ := h
    rfl
  · obtain ⟨o, m, vl, M, v, rfl, mh, r1, hl, q⟩ := h
    have hu := hr.units
    refine ⟨_, (pss_one (ps_ret (pe_lst (pa_cons (pe_fld (pv 0) rfl) (pa_starV (by rfl) (pe_vals (pe_fld (pv 0) rfl)) pa_nil))))), ?_⟩
    exact s_ret mh (gv_starV (gv_out TC (gv_var rfl r1)) (gv_den TC (gv_var rfl r1)) (by omega)) q
end
end My

set_option Elab.async false
set_option linter.all false
set_option maxRecDepth 100000
set_option maxHeartbeats 8000000
namespace My
open PySem PySem.Spec PyProof.Rows L2 L3
/-! a copy is made -/
section
variable {K : PySem.W.Frag} {σ : Sl} {M H : Hp} {D : Ends} {te to ts tx : TE} {tz : TS}
theorem q_fldRaw {i : Nat} {f : Str} (h : te σ H fun y H1 => ∃ x, σ[i]? = some (some x) ∧ ∃ a C dx fs, x = .ref a ∧ H1 a = some (.ins C dx fs) ∧ Cls K C ∧ NoAttr K C f ∧ fs.length < 1000 ∧ tz D σ (upd H1 a (.ins C dx (putF f y fs)))) : tSeq (sFld K (tVar i) te f) tz D σ H := h
/-- xs.pop(0) -/
theorem t_pop0 {i : Nat} {p : Addr} {w : Str} {ws : List Str} {Q : VK} (hi : σ[i]? = some (some (.ref p))) (hp : H p = some (.lst ((w :: ws).map V.str))) (q : Q (.str w) (upd H p (.lst (ws.map V.str)))) : tBM K "list" rPopAt (tVar i) (tCons (tC (.int 0)) tNil) σ H Q :=
  ⟨.ref p, hi, .inl ⟨rfl, _, .inl (.inl hp)⟩, p, _, 0, 0, .str w, rfl, rfl, hp, by decide, by decide, by rw [List.length_map, seqIndex_of (by decide) (by rw [List.length_cons]; omega)]; rfl, rfl, q⟩
/-- xs.extend(e), xs told by its address alone -/
theorem s_extAtG {p : Addr} {vs : List V} {P : Hp → List V → Prop} (mh : Same M H) (h : Gv to σ M fun _ v => v = .ref p) (hp : H p = some (.lst vs)) (he : ∀ M1, Same M M1 → GvL te σ M1 P) (hz : ∀ M' ws, P M' ws → vs.length + ws.length ≤ sizeLine)
    (k : ∀ ws M' H', Gr M H M' H' → P M' ws → D.nx σ (upd H' p (.lst (vs ++ ws)))) : tDrop (tBM K "list" rExtend to (tCons te tNil)) D σ H := h H mh _ fun v M1 H1 g1 e => by
  subst e
  exact ⟨.inl ⟨rfl, vs, .inl (.inl (g1.hh _ _ hp))⟩, he M1 g1.mm H1 g1.mh _ fun b ws M' H' g h0 m0 hb r => ⟨p, b, vs, ws, rfl, rfl, g.hh _ _ (g1.hh _ _ hp), hb, hz M' ws r, k ws M' H' (g1.trans g) r⟩⟩
theorem s_appAtG {p : Addr} {vs : List V} {P : Pr} (mh : Same M H) (h : Gv to σ M fun _ v => v = .ref p) (hp : H p = some (.lst vs)) (hz : vs.length < sizeLine) (he : ∀ M1, Same M M1 → Gv te σ M1 P)
    (k : ∀ v M' H', Gr M H M' H' → P M' v → D.nx σ (upd H' p (.lst (vs ++ [v])))) : tDrop (tBM K "list" rAppend to (tCons te tNil)) D σ H := h H mh _ fun v M1 H1 g1 e => by
  subst e
  exact ⟨.inl ⟨rfl, vs, .inl (.inl (g1.hh _ _ hp))⟩, he M1 g1.mm H1 g1.mh _ fun v M' H' g r => ⟨p, vs, v, rfl, rfl, g.hh _ _ (g1.hh _ _ hp), hz, k v M' H' (g1.trans g) r⟩⟩
theorem gv_tup2T {ta tb : TE} {x y : Str} (h1 : Gv ta σ M (Tx x)) (h2 : Gv tb σ M (Tx y)) : Gv (tTup (tCons ta (tCons tb tNil))) σ M (TT [x, y]) := fun H mh Q q =>
  h1 H mh _ fun v M1 H1 g1 e1 => h2.le g1.mm H1 g1.mh _ fun u M2 H2 g2 e2 => by
    cases (show v = _ from e1)
    cases (show u = _ from e2)
    exact ⟨by show 2 ≤ sizeLine; decide, fun p np => q _ _ _ ((g1.trans g2).trans (.new g2.mh np)) ⟨p, rfl, by rw [upd_same]; rfl⟩⟩
theorem gv_tup3T {ta tb tc : TE} {x y z : Str} (h1 : Gv ta σ M (Tx x)) (h2 : Gv tb σ M (Tx y)) (h3 : Gv tc σ M (Tx z)) : Gv (tTup (tCons ta (tCons tb (tCons tc tNil)))) σ M (TT [x, y, z]) := fun H mh Q q =>
  h1 H mh _ fun v M1 H1 g1 e1 => h2.le g1.mm H1 g1.mh _ fun u M2 H2 g2 e2 => h3.le (g1.mm.trans g2.mm) H2 g2.mh _ fun w M3 H3 g3 e3 => by
    cases (show v = _ from e1)
    cases (show u = _ from e2)
    cases (show w = _ from e3)
    exact ⟨by show 3 ≤ sizeLine; decide, fun p np => q _ _ _ (((g1.trans g2).trans g3).trans (.new g3.mh np)) ⟨p, rfl, by rw [upd_same]; rfl⟩⟩
/-- a new list is made while an instance of ours is read -/
theorem gvl_lendT {C dx x : Addr} {fs : List (Str × V)} {xs : List (List Str)} {Q : VK} (h : GvL te σ (upd M x (.ins C dx fs)) fun M ws => Pd TT M xs ws) (hm : M x = none) (mh : Same M H) (hx : H x = some (.ins C dx fs))
    (q : ∀ b us M' H', Gr M H M' H' → M' x = none → H' x = some (.ins C dx fs) → H b = none → M' b = none → H' b = some (.lst us) → Pd TT M' xs us → Q (.ref b) H') : te σ H Q :=
  h H (same_lent mh hx) _ fun b vs M1 H1 g h0 m0 hb pd => by
    refine q b vs (L3.del M1 x) H1 (g.back hm) L3.del_at (g.hh _ _ hx) h0 ?_ hb (Paired.mapP pd fun _ _ r => Stl.del (R := TT) (o := .ins C dx fs) (by intro _ z; cases z) (g.mm _ _ upd_same) r)
    unfold L3.del
    split
    · rfl
    · exact m0
end
section
variable {bs : List Addr} {M H M' H' : Hp}
theorem cutS_same (mh : Same M (delS H bs)) : Same M H := fun x o e => by
  have := mh x o e
  by_cases z : x ∈ bs
  · rw [delS_off z] at this; cases this
  · rw [delS_on z] at this; exact this
theorem Gr.cutS (g : Gr M H M' H') (hn : ∀ b ∈ bs, M b = none) (ht : ∀ b ∈ bs, ∃ o, H b = some o ∧ ∀ xs, o ≠ HO.tup xs) : Gr M (delS H bs) M' (delS H' bs) := by
  have nb' : ∀ {x o}, M' x = some o → x ∉ bs := fun {x o} e z => by
    obtain ⟨u, hu, nt⟩ := ht x z
    rw [g.keep (hn x z) hu nt] at e
    cases e
  refine ⟨g.mm, fun x o e => ?_, fun x o e => ?_, fun x o e => ?_, g.nt⟩
  · by_cases z : x ∈ bs
    · rw [delS_off z] at e; cases e
    · rw [delS_on z] at e ⊢; exact g.hh _ _ e
  · rw [delS_on (nb' e)]; exact g.mh _ _ e
  · rcases g.nw x o e with h | h | h
    · exact .inl h
    · exact .inr (.inl (by rw [delS_on (nb' e)]; exact h))
    · exact .inr (.inr h)
theorem delS_upd {p : Addr} {o : HO} (h : p ∈ bs) : delS (upd H p o) bs = delS H bs := by
  funext x
  by_cases z : x ∈ bs
  · rw [delS_off z, delS_off z]
  · rw [delS_on z, delS_on z, upd_ne (fun (e : x = p) => z (e ▸ h))]
theorem delS_updN {p : Addr} {o : HO} (h : p ∉ bs) : delS (upd H p o) bs = upd (delS H bs) p o := by
  funext x
  by_cases z : x ∈ bs
  · rw [delS_off z, upd_ne (fun (e : x = p) => h (e ▸ z)), delS_off z]
  · rw [delS_on z]
    by_cases e : x = p
    · subst e; rw [upd_same, upd_same]
    · rw [upd_ne e, upd_ne e, delS_on z]
end
/-- a list of somebody else's from which we take, while we make new things -/
structure TakeAt (M Hb M' H' : Hp) (f : Addr) (ws : List Str) : Prop where
  g : Gr M (delS Hb [f]) M' (delS H' [f])
  f : H' f = some (.lst (ws.map V.str))
section
variable {M Hb M' H' M2 H2 : Hp} {f x : Addr} {w : Str} {ws : List Str} {o : HO}
theorem TakeAt.mh (t : TakeAt M Hb M' H' f ws) : Same M' H' := cutS_same t.g.mh
theorem TakeAt.mf (t : TakeAt M Hb M' H' f ws) : M' f = none := by
  cases e : M' f with
  | none => rfl
  | some o => have := t.g.mh f o e; rw [delS_off (by simp)] at this; cases this
theorem TakeAt.step (t : TakeAt M Hb M' H' f ws) (g : Gr M' H' M2 H2) : TakeAt M Hb M2 H2 f ws :=
  ⟨t.g.trans (Gr.cutS g (fun b hb => by rw [List.mem_singleton.mp hb]; exact t.mf) fun b hb => ⟨.lst (ws.map V.str), by rw [List.mem_singleton.mp hb]; exact t.f, fun xs z => by cases z⟩), g.hh _ _ t.f⟩
theorem TakeAt.pop (t : TakeAt M Hb M' H' f (w :: ws)) : TakeAt M Hb M' (upd H' f (.lst (ws.map V.str))) f ws := ⟨by rw [delS_upd (by simp)]; exact t.g, upd_same⟩
/-- a thing of ours changes -/
theorem TakeAt.mut (t : TakeAt M Hb M' H' f ws) (hf : x ≠ f) (h0 : Hb x = none) (hm : M' x = none) : TakeAt M Hb M' (upd H' x o) f ws :=
  ⟨by rw [delS_updN (by simpa using hf)]; exact t.g.mut (by rw [delS_on (by simpa using hf)]; exact h0) hm, by rw [upd_ne (Ne.symm hf)]; exact t.f⟩
theorem TakeAt.freeze (t : TakeAt M Hb M' H' f ws) (hf : x ≠ f) (h0 : Hb x = none) (hm : M' x = none) (hx : H' x = some o) (hn : ∀ ps, o ≠ HO.tbl ps := by intro _ z; cases z) : TakeAt M Hb (upd M' x o) H' f ws :=
  ⟨t.g.freeze (by rw [delS_on (by simpa using hf)]; exact h0) hm (by rw [delS_on (by simpa using hf)]; exact hx) hn, t.f⟩
/-- what is not there now was not there -/
theorem TakeAt.new (t : TakeAt M Hb M' H' f ws) (h : H' x = none) : x ≠ f ∧ Hb x = none := by
  have ne : x ≠ f := fun e => by subst e; rw [t.f] at h; cases h
  refine ⟨ne, ?_⟩
  have e1 : (delS H' [f]) x = none := by rw [delS_on (by simpa using ne)]; exact h
  have := t.g.hh.free e1
  rw [delS_on (by simpa using ne)] at this
  exact this
end
structure CopyPre (c : CodeD) (ws : List Str) : Prop where
  nm : NmL c.names
  l : ∀ k ∈ c.clauses, Lits c.names k
  n : c.names.length ≤ 20
  k : c.clauses.length ≤ 60
  w : 1 + 2 * c.names.length ≤ ws.length
  y : ∀ y ∈ ws, y.length ≤ 8
theorem litsOf_len (ns : List Str) : (litsOf ns).length = 2 * ns.length := by
  unfold litsOf
  rw [flat2_len]
section
variable {K : PySem.W.Frag} {σ : Sl} {M : Hp} {te to t t3 : TE} {m : Ren} {o : Str} {CC : Addr} {mg : Str → Option Value} {vl : V} {k : List Str} {l : Str}
theorem gv_laidV (T : CopyT K mg CC) (h : Gv te σ M (CopyQ CC o m vl)) : Gv (tFld K te "laid") σ M (fun _ v => v = vl) := gv_fld h fun M' v ⟨x, dx, D, h1, h2, h3⟩ => ⟨x, CC, dx, _, vl, h1, h2, T.cl, T.nL, rfl, rfl⟩
theorem gv_drawing (h1 : Gv to σ M (CopyQ CC o m vl)) (h2 : Gv t σ M (SqR K Tx k)) (h3 : Gv t3 σ M (Tx l)) (X : DrawPre m k l) : Gv (tMeth CC "drawing" (sp_Copy_drawing K CC) [] E0 to (tCons t (tCons t3 tNil))) σ M (TT (drawK (ren m) k l)) := fun H mh Q q =>
  h1 H mh _ fun v M1 H1 g1 r1 => by
    obtain ⟨x, dx, D, e, hx, hd⟩ := r1
    refine ⟨x, dx, _, e, g1.mh _ _ hx, rfl, h2.le g1.mm H1 g1.mh _ fun u M2 H2 g2 r2 => h3.le (g1.mm.trans g2.mm) H2 g2.mh _ fun z M3 H3 g3 r3 => ?_⟩
    cases (show z = _ from r3)
    exact ⟨o, m, vl, k, l, M3, v, u, rfl, g3.mh, ⟨x, dx, D, e, g3.mm _ _ (g2.mm _ _ hx), g3.mm _ _ (g2.mm _ _ hd)⟩, Mon.mono g3.mm r2, X, fun z M' H' g r => q z M' H' (((g1.trans g2).trans g3).trans g) r⟩
end
section
variable {P : Program} {w : World} {K : PySem.W.Frag} {mg : Str → Option Value} {base : Heap}
abbrev s_literals_of : Stmt := topS 21
theorem sc_literals_of : FnScope ["names", "name", "literal"] ["names"] (defScope s_literals_of) := ⟨rfl, rfl, rfl, by decide +kernel, rfl, by decide +kernel, by decide +kernel⟩
def sp_literals_of (K : PySem.W.Frag) : Sp := sp1 (SqR K Tx) Shorts fun ns => LiR Tx (litsOf ns)
theorem ok_literals_of {f : Addr} {fd : FuncData} (F : Fun K "literals_of" "literals_of" s_literals_of f fd) : FnOk P w K mg base CX0 1 f fd ["names"] (sp_literals_of K) := by
  refine F.ok sc_literals_of (fun vs H Q E h => ?_) (fun cdv A outer s H vs Q E hr h => ?_)
  · obtain ⟨x, M, v, rfl, _⟩ := h
    rfl
  · obtain ⟨ns, M, v, rfl, mh, r1, hsh, q⟩ := h
    have hu := hr.units
    refine ⟨_, (pss_one (ps_ret (pe_lc2 (own := [("name", 1), ("literal", 2)]) (vs1 := [2]) (g := (gName 1)) (tt := tYes) (wi1 := (iSq K (tTup (tCons (tVar 1) (tCons (tOp (rAddA K) (tC (.str "-")) (tVar 1)) tNil))))) (g1 := (gName 2)) (tt1 := tYes) (te := (tVar 2)) (by rfl) sc_literals_of.nd (pi_sq (pv 0)) (blkOk_by (by rfl)) (by decide) (fun _ _ _ _ _ => (pg_name (i := 1) sc_literals_of.nd rfl (by first | exact .inl rfl | exact .inr rfl))) (fun _ _ _ _ _ => pts_nil) (fun _ _ _ _ _ => (pi_sq (pe_tup (pa_cons (pv 1) (pa_cons (pe_op op_addA pe_str (pv 1)) pa_nil))))) (fun _ _ _ _ _ => (pg_name (i := 2) sc_literals_of.nd rfl (by first | exact .inl rfl | exact .inr rfl))) (fun _ _ _ _ _ => pts_nil) (fun _ _ _ _ _ => (pv 2))))), ?_⟩
    have hl := hsh.1
    refine s_ret mh (gv_is (gl_two (R := Tx) (R1 := Tx) (T := Tx) (xs := ns) (ys := fun n => [n, ("-" : Str) ++ n]) (f := fun _ l => l) (gi_sq (K := K) (gv_var rfl r1)) (szM (by rw [flat2_len]; omega))
      (fun n hn M3 u3 sm r3 => gi_sq (K := K) (gv_is (gv_tup2 (K := K) (gv_var rfl r3) (gv_addSt (K := K) (gv_c rfl) (gv_var rfl r3) (szM (by have := hsh.2 n hn; show 1 + n.length ≤ _; omega)))) fun _ _ h => .inr h))
      fun z hz l _ M3 u3 w3 sm r3 q3 => gv_var rfl q3).li fun M' v' h => by unfold litsOf; simpa using h) q
theorem gv_litsOf {σ : Sl} {M : Hp} {te : TE} {ns : List Str} (h : Gv te σ M (SqR K Tx ns)) (hs : Shorts ns) : Gv (tCall (sp_literals_of K) [] E0 (tCons te tNil)) σ M (LiR Tx (litsOf ns)) :=
  gv_call1 (R1 := SqR K Tx) (pre := Shorts) (R := fun ns => LiR Tx (litsOf ns)) h hs
abbrev s_Copy_init : Stmt := inClass (topS 37) 0
theorem sc_Copy_init : FnScope ["self", "code", "fresh", "literal", "clause", "name"] ["self", "code", "fresh"] (defScope s_Copy_init) := ⟨rfl, rfl, rfl, by decide +kernel, rfl, by decide +kernel, by decide +kernel⟩
def sp_Copy_init (K : PySem.W.Frag) (C CC : Addr) : Sp := fun vs H Q _ => ∃ c ws M Hb x dx vc f, vs = [.ref x, vc, .ref f] ∧ TakeAt M Hb M H f ws ∧ Hb x = none ∧ x ≠ f ∧ M x = none ∧ H x = some (.ins CC dx []) ∧ CodeR C c M vc ∧ CopyPre c ws ∧
  ∀ o m M' H', TakeAt M Hb M' H' f (ws.drop (1 + 2 * c.names.length)) → o :: m.map (·.2) = ws.take (1 + 2 * c.names.length) → m.map (·.1) = litsOf c.names → CopyR CC o m (laidC c o (ren m)) M' (.ref x) → Q .non H'
theorem ok_Copy_init {f0 C CC : Addr} {fd : FuncData} (F : Fun K "__init__" "Copy.__init__" s_Copy_init f0 fd) (T : Gc mg) (TC : CodeT K mg C) (TK : CopyT K mg CC) (c_literals_of : Cal P w K mg base 1 "literals_of" ["names"] (sp_literals_of K)) (m_drawing : Met P w K mg base 2 CC "drawing" ["self", "clause", "literal"] (sp_Copy_drawing K CC)) :
    FnOk P w K mg base CX0 3 f0 fd ["self", "code", "fresh"] (sp_Copy_init K C CC) := by
  refine F.ok sc_Copy_init (fun vs H Q E h => ?_) (fun cdv A outer s H vs Q E hr h => ?_)
  · obtain ⟨_, _, _, _, _, _, _, _, rfl, _⟩ := h
    rfl
  · obtain ⟨c, ws, M, Hb, x, dx, vc, f, rfl, t0, hb, xf, mx, hx, rc, X, q⟩ := h
    have hu := hr.units
    refine ⟨_, (pss_cons (ps_fld (pv 0) (pe_bm PySem.F.plainAttrs_list PySem.F.slot_list_pop PySem.F.type_list_pop mt_popAt (pv 2) (pa_cons pe_int pa_nil)) rfl)
      (pss_cons (ps_fld (pv 0) pe_dnewK rfl)
      (pss_cons (ps_for PassesOwn.never (by rfl) (pi_sq (pe_f c_literals_of (hr.mono (by decide)) (pa_cons (pe_fld (pv 1) rfl) pa_nil))) (pg_name (i := 3) sc_Copy_init.nd rfl (by first | exact .inl rfl | exact .inr rfl)) (pss_one (ps_dput (Nat.lt_of_le_of_lt (Nat.add_le_add_left (by decide) _) hu) (pe_fld (pv 0) rfl) (pv 3) (pe_bm PySem.F.plainAttrs_list PySem.F.slot_list_pop PySem.F.type_list_pop mt_popAt (pv 2) (pa_cons pe_int pa_nil)) rfl)))
      (pss_cons (ps_fld (pv 0) (pe_lc (own := [("clause", 4)]) (g := (gName 4)) (tt := (tTest (tOp (rEqP K false) (tVar 4) (tTup tNil)))) (te := (tTup (tCons (tFld K (tVar 0) "out") tNil))) (by rfl) sc_Copy_init.nd (pi_sq (pe_fld (pv 1) rfl)) (blkOk_by (by rfl)) (fun _ _ _ _ _ => (pg_name (i := 4) sc_Copy_init.nd rfl (by first | exact .inl rfl | exact .inr rfl))) (fun _ _ _ _ _ => (pts_one (pt_cmpR (op_eqP hu) (pv 4) (pe_tup pa_nil) (nomark _)))) (fun _ _ _ _ _ => (pe_tup (pa_cons (pe_fld (pv 0) rfl) pa_nil)))) rfl)
      (pss_cons (ps_for PassesOwn.never (by rfl) (pi_sq (pe_fld (pv 1) rfl)) (pg_name (i := 4) sc_Copy_init.nd rfl (by first | exact .inl rfl | exact .inr rfl)) (pss_one (ps_expr (pe_bm PySem.F.plainAttrs_list PySem.F.slot_list_extend PySem.F.type_list_extend mt_extend (pe_fld (pv 0) rfl) (pa_cons (pe_lc (own := [("literal", 3)]) (g := (gName 3)) (tt := tYes) (te := (tMeth CC "drawing" (sp_Copy_drawing K CC) [] E0 (tVar 0) (tCons (tVar 4) (tCons (tVar 3) tNil)))) (by rfl) sc_Copy_init.nd (pi_sq (pv 4)) (blkOk_by (by rfl)) (fun _ _ _ _ _ => (pg_name (i := 3) sc_Copy_init.nd rfl (by first | exact .inl rfl | exact .inr rfl))) (fun _ _ _ _ _ => pts_nil) (fun _ _ _ _ _ => (pe_m m_drawing (hr.mono (by decide)) (pv 0) (pa_cons (pv 4) (pa_cons (pv 3) pa_nil))))) pa_nil)))))
      (pss_cons (ps_for PassesOwn.never (by rfl) (pi_sq (pe_fld (pv 1) rfl)) (pg_name (i := 5) sc_Copy_init.nd rfl (by first | exact .inl rfl | exact .inr rfl)) (pss_one (ps_expr (pe_bm PySem.F.plainAttrs_list PySem.F.slot_list_append PySem.F.type_list_append mt_append (pe_fld (pv 0) rfl) (pa_cons (pe_tup (pa_cons (pe_op op_addA pe_str (pe_dget (Nat.lt_of_le_of_lt (Nat.add_le_add_left (by decide) _) hu) (pe_fld (pv 0) rfl) (pv 5) (fun _ _ => rfl))) (pa_cons (pe_op op_addA pe_str (pe_dget (Nat.lt_of_le_of_lt (Nat.add_le_add_left (by decide) _) hu) (pe_fld (pv 0) rfl) (pe_op op_addA pe_str (pv 5)) (fun _ _ => rfl))) (pa_cons (pe_fld (pv 0) rfl) pa_nil)))) pa_nil)))))
      (pss_one (ps_for PassesOwn.never (by rfl) (pi_sq (pe_f c_literals_of (hr.mono (by decide)) (pa_cons (pe_fld (pv 1) rfl) pa_nil))) (pg_name (i := 3) sc_Copy_init.nd rfl (by first | exact .inl rfl | exact .inr rfl)) (pss_one (ps_expr (pe_bm PySem.F.plainAttrs_list PySem.F.slot_list_append PySem.F.type_list_append mt_append (pe_fld (pv 0) rfl) (pa_cons (pe_tup (pa_cons (pv 3) (pa_cons (pe_dget (Nat.lt_of_le_of_lt (Nat.add_le_add_left (by decide) _) hu) (pe_fld (pv 0) rfl) (pv 3) (fun _ _ => rfl)) pa_nil))) pa_nil)))))))))))), ?_⟩
    have Xn := X.n
    have Xk := X.k
    have Xw := X.w
    have S := nm_shorts X.nm
    have sg : NmL c.signs := ⟨(List.nodup_append.mp (show (c.signs ++ c.helpers).Nodup from X.nm.nd)).1, fun n hn => X.nm.nm n (List.mem_append_left _ hn), Nat.le_trans (by show c.signs.length ≤ (c.signs ++ c.helpers).length; rw [List.length_append]; omega) X.nm.n⟩
    -- out
    obtain ⟨o, ws1, rfl⟩ : ∃ o ws1, ws = o :: ws1 := by
      cases ws with
      | nil => simp at Xw
      | cons o r => exact ⟨o, r, rfl⟩
    have w1 : 2 * c.names.length ≤ ws1.length := by rw [List.length_cons] at Xw; omega
    have oy : o.length ≤ 8 := X.y o (List.mem_cons_self ..)
    refine q_fldRaw (t_pop0 (p := f) rfl t0.f ⟨.ref x, rfl, x, CC, dx, [], rfl, by rw [upd_ne xf]; exact hx, TK.cl, TK.nO, by decide, ?_⟩)
    have t1 := t0.pop.mut (x := x) (o := .ins CC dx [("out", .str o)]) xf hb mx
    have hx1 : upd (upd H f (.lst (ws1.map V.str))) x (.ins CC dx [("out", .str o)]) x = some (.ins CC dx [("out", .str o)]) := upd_same
    revert t1 hx1
    show TakeAt M Hb M (upd (upd H f (.lst (ws1.map V.str))) x (.ins CC dx (putF "out" (.str o) []))) f ws1 → (upd (upd H f (.lst (ws1.map V.str))) x (.ins CC dx (putF "out" (.str o) []))) x = _ → _
    generalize upd (upd H f (.lst (ws1.map V.str))) x (.ins CC dx (putF "out" (.str o) [])) = H1
    intro t1 hx1
    -- denied
    refine q_fldRaw fun D nD => ⟨.ref x, rfl, x, CC, dx, _, rfl, by rw [upd_ne (fun e => by rw [← e, hx1] at nD; cases nD)]; exact hx1, TK.cl, TK.nD, by show 1 < 1000; decide, ?_⟩
    obtain ⟨Df, hbD⟩ := t1.new nD
    have xD : x ≠ D := fun e => by rw [← e, hx1] at nD; cases nD
    have mD : M D = none := t1.mh.free nD
    have t2 := (t1.mut (x := D) (o := .dK []) Df hbD mD).mut (x := x) (o := .ins CC dx [("out", .str o), ("denied", .ref D)]) xf hb mx
    have hx2 : upd (upd H1 D (.dK [])) x (.ins CC dx [("out", .str o), ("denied", .ref D)]) x = some (.ins CC dx [("out", .str o), ("denied", .ref D)]) := upd_same
    have hD2 : upd (upd H1 D (.dK [])) x (.ins CC dx [("out", .str o), ("denied", .ref D)]) D = some (.dK (mapK [])) := by rw [upd_ne (Ne.symm xD), upd_same]; rfl
    revert t2 hx2 hD2
    show TakeAt M Hb M (upd (upd H1 D (.dK [])) x (.ins CC dx (putF "denied" (.ref D) [("out", .str o)]))) f ws1 → (upd (upd H1 D (.dK [])) x (.ins CC dx (putF "denied" (.ref D) [("out", .str o)]))) x = _ → (upd (upd H1 D (.dK [])) x (.ins CC dx (putF "denied" (.ref D) [("out", .str o)]))) D = _ → _
    generalize upd (upd H1 D (.dK [])) x (.ins CC dx (putF "denied" (.ref D) [("out", .str o)])) = H2
    intro t2 hx2 hD2
    -- the dict is filled
    have ll := litsOf_len c.names
    have lnd := litsOf_nodup X.nm.nd X.nm.nm
    refine q_for (R1 := Tx) (xs := litsOf c.names) t2.mh (gv_is (gv_litsOf (gv_is (gv_names TC (gv_var rfl rc)) fun _ _ h => h.sq) S) fun _ _ h => h.sq)
      (fun M1' i σ' M' H' => ∃ y3, TakeAt M Hb M' H' f (ws1.drop i) ∧ Same M1' M' ∧ M' x = none ∧ M' D = none ∧ H' x = some (.ins CC dx [("out", .str o), ("denied", .ref D)]) ∧ H' D = some (.dK (mapK (((litsOf c.names).take i).zip (ws1.take i)))) ∧ σ' = [some (.ref x), some vc, some (.ref f), y3, none, none])
      (fun M3 H3 g3 => ⟨_, t2.step g3, Same.refl _, g3.keep mx hx2, g3.keep mD hD2, g3.hh _ _ hx2, g3.hh _ _ hD2, rfl⟩) (fun M3 i σ' M' H' ⟨_, t, s1, _⟩ => ⟨s1, t.mh⟩) ?_ ?_
    · rintro M3 i l vl σ' M' H' sM hl ⟨y3, t, s1, mx', mD', hx', hD', rfl⟩ rl
      cases (show vl = _ from rl)
      have hi : i < (litsOf c.names).length := (List.getElem?_eq_some_iff.mp hl).1
      obtain ⟨y, hy⟩ : ∃ y, ws1[i]? = some y := ⟨ws1[i]'(by omega), List.getElem?_eq_getElem _⟩
      have ed : ws1.drop i = y :: ws1.drop (i + 1) := by
        obtain ⟨h1, h2⟩ := List.getElem?_eq_some_iff.mp hy
        rw [List.drop_eq_getElem_cons h1, h2]
      rw [ed] at t
      have fx : f ≠ x := Ne.symm xf
      refine t_pop0 (p := f) rfl t.f ⟨.ref x, rfl, x, CC, dx, _, .ref D, rfl, by rw [upd_ne xf]; exact hx', TK.cl, TK.nD, rfl, .str l, rfl, D, _, rfl, .inl ⟨_, Sum.inr l, by rw [upd_ne Df]; exact hD', rfl, by
        unfold mapK
        rw [List.length_map, List.length_zip, List.length_take, List.length_take]
        exact szL (by omega), rfl⟩, ?_⟩
      have key : l ∉ ((((litsOf c.names).take i).zip (ws1.take i)).map (·.1)) := fun z => by
        obtain ⟨p, hp, e⟩ := List.mem_map.mp z
        have h1 := (List.of_mem_zip (show (p.1, p.2) ∈ _ from hp)).1
        rw [e] at h1
        have spl := List.take_append_drop i (litsOf c.names)
        rw [List.drop_eq_getElem_cons hi, (List.getElem?_eq_some_iff.mp hl).2] at spl
        rw [← spl] at lnd
        exact (List.nodup_append.mp lnd).2.2 l h1 l (List.mem_cons_self ..) rfl
      refine ⟨M', some (.str l), (t.pop.mut Df hbD mD'), s1, mx', mD', by rw [upd_ne xD, upd_ne xf]; exact hx', ?_, rfl⟩
      rw [upd_same, put_map key, List.take_add_one, hl, List.take_add_one, hy]
      congr 2
      rw [List.zip_append (by rw [List.length_take, List.length_take]; omega)]
      rfl
    rintro M3 σ' M4 H4 sM ⟨y3, t4, s1, mx4, mD4, hx4, hD4, rfl⟩
    rw [ll] at t4 hD4
    have et : (litsOf c.names).take (2 * c.names.length) = litsOf c.names := List.take_of_length_le (by omega)
    rw [et] at hD4
    let m : Ren := (litsOf c.names).zip (ws1.take (2 * c.names.length))
    have mk : m.map (·.1) = litsOf c.names := List.map_fst_zip (by rw [List.length_take]; omega)
    have mv : m.map (·.2) = ws1.take (2 * c.names.length) := List.map_snd_zip (by rw [List.length_take]; omega)
    have my : ∀ e ∈ m, e.2.length ≤ 8 := fun e he => X.y _ (List.mem_cons_of_mem _ (List.mem_of_mem_take (by rw [← mv]; exact List.mem_map_of_mem he)))
    have dy : ∀ {l}, l ∈ litsOf c.names → (ren m l).length ≤ 8 := fun {l} h => my _ (ren_mem (by rw [mk]; exact h)).2
    have hD4 : H4 D = some (.dK (mapK m)) := hD4
    have t5 := t4.freeze Df hbD mD4 hD4
    have s5 : Same M3 (upd M4 D (.dK (mapK m))) := s1.trans (same_new mD4)
    have hmD : upd M4 D (.dK (mapK m)) D = some (.dK (mapK m)) := upd_same
    have mx5 : upd M4 D (.dK (mapK m)) x = none := by rw [upd_ne xD]; exact mx4
    have rc5 : CodeR C c (upd M4 D (.dK (mapK m))) vc := Mon.mono (sM.trans s5) rc
    revert t5 hmD mx5 rc5
    generalize upd M4 D (.dK (mapK m)) = M5
    intro t5 hmD mx5 rc5
    -- laid
    refine q_fldRaw (gvl_lendT (x := x) (xs := (c.clauses.filter fun k => decide (k = [])).map fun _ => [o]) (gl_c1 (S := TT) (R := TT) (xs := c.clauses) (gi_sq (K := K) (gv_is (gv_clause TC (gv_var rfl (Mon.mono (same_new mx5) rc5))) fun _ _ h => h.sq)) (szK (by omega)) (fun k => decide (k = [])) (fun _ => [o])
      (fun k hk M6 u6 sm ru => gt_is (gt_test (gv_eqT (K := K) (R := TT) (neg := false) py_TT inj_TT (gv_var rfl ru) gv_nilT (by simp [PyData.depth, depthS]))) (by simp)) fun k hk _ M6 u6 sm ru => gv_tup1 (gv_self (P := Tx o) (by rfl) (sm _ _ upd_same) TK.cl TK.nO rfl rfl)) mx5 t5.mh hx4
      fun L us M6 H6 g6 mx6 hx6 hL0 mL hL pd6 => ⟨.ref x, rfl, x, CC, dx, _, rfl, hx6, TK.cl, TK.nL, by show 2 < 1000; decide, ?_⟩)
    obtain ⟨Lf, hbL⟩ := t5.new hL0
    have xL : x ≠ L := fun e => by rw [← e, hx4] at hL0; cases hL0
    have t6 := ((t5.step g6).mut (x := x) (o := .ins CC dx (copyF o D (.ref L))) xf hb mx6)
    have hx7 : upd H6 x (.ins CC dx (copyF o D (.ref L))) x = some (.ins CC dx (copyF o D (.ref L))) := upd_same
    have hL7 : upd H6 x (.ins CC dx (copyF o D (.ref L))) L = some (.lst us) := by rw [upd_ne (Ne.symm xL)]; exact hL
    revert t6 hx7 hL7
    show TakeAt M Hb M6 (upd H6 x (.ins CC dx (putF "laid" (.ref L) [("out", .str o), ("denied", .ref D)]))) f _ → (upd H6 x (.ins CC dx (putF "laid" (.ref L) [("out", .str o), ("denied", .ref D)]))) x = _ → (upd H6 x (.ins CC dx (putF "laid" (.ref L) [("out", .str o), ("denied", .ref D)]))) L = _ → _
    generalize upd H6 x (.ins CC dx (putF "laid" (.ref L) [("out", .str o), ("denied", .ref D)])) = H7
    intro t6 hx7 hL7
    have t7 := t6.freeze xf hb mx6 hx7
    have s7 := same_new (o := .ins CC dx (copyF o D (.ref L))) mx6
    have CQ : CopyQ CC o m (.ref L) (upd M6 x (.ins CC dx (copyF o D (.ref L)))) (.ref x) := ⟨x, dx, D, rfl, upd_same, s7 _ _ (g6.mm _ _ hmD)⟩
    have mL7 : upd M6 x (.ins CC dx (copyF o D (.ref L))) L = none := by rw [upd_ne (Ne.symm xL)]; exact mL
    have rc7 : CodeR C c (upd M6 x (.ins CC dx (copyF o D (.ref L)))) vc := Mon.mono (g6.mm.trans s7) rc5
    have pd7 : Pd TT (upd M6 x (.ins CC dx (copyF o D (.ref L)))) ((c.clauses.filter fun k => decide (k = [])).map fun _ => [o]) us := pd6.mono s7
    revert t7 CQ mL7 rc7 pd7
    generalize upd M6 x (.ins CC dx (copyF o D (.ref L))) = M7
    intro t7 CQ mL7 rc7 pd7
    let E : List (List Str) := (c.clauses.filter fun k => decide (k = [])).map fun _ => [o]
    have pd7 : Pd TT M7 E us := pd7
    have El : E.length ≤ 60 := by
      show ((c.clauses.filter _).map _).length ≤ 60
      rw [List.length_map]
      exact Nat.le_trans (List.length_filter_le _ _) Xk
    have clen : ∀ k ∈ c.clauses, k.length ≤ 20 := fun k hk => Nat.le_trans (lits_len (X.l k hk) X.nm) Xn
    -- drawings
    let G5 : List (List Str) → List (List Str) := fun ks => ks.flatMap fun k => k.map (drawK (ren m) k)
    have G5l : ∀ {ks : List (List Str)}, (∀ k ∈ ks, k.length ≤ 20) → (G5 ks).length ≤ 20 * ks.length := fun {ks} => by
      show _ → (ks.flatMap _).length ≤ _
      induction ks with
      | nil => intro _; exact Nat.zero_le _
      | cons k ks ih =>
        intro h
        have h1 := h k (List.mem_cons_self ..)
        have h2 := ih fun k hk => h k (List.mem_cons_of_mem _ hk)
        rw [List.flatMap_cons, List.length_append, List.length_map, List.length_cons]
        omega
    have ws2 : List Str := ws1.drop (2 * c.names.length)
    refine q_for (R1 := TT) (xs := c.clauses) t7.mh (gv_is (gv_clause TC (gv_var rfl rc7)) fun _ _ h => h.sq)
      (fun M1' i σ' M' H' => ∃ y3 y4 us', TakeAt M Hb M' H' f (ws1.drop (2 * c.names.length)) ∧ Same M1' M' ∧ M' L = none ∧ H' L = some (.lst us') ∧ Pd TT M' (E ++ G5 (c.clauses.take i)) us' ∧ CopyQ CC o m (.ref L) M' (.ref x) ∧ σ' = [some (.ref x), some vc, some (.ref f), y3, y4, none])
      (fun M8 H8 g8 => ⟨_, _, us, t7.step g8, Same.refl _, g8.keep mL7 hL7, g8.hh _ _ hL7, by show Pd TT M8 (E ++ []) us; rw [List.append_nil]; exact pd7.mono g8.mm, Mono.mono g8.mm CQ, rfl⟩) (fun M8 i σ' M' H' ⟨_, _, _, t, s1, _⟩ => ⟨s1, t.mh⟩) ?_ ?_
    · rintro M8 i k vk σ' M' H' sM8 hk ⟨y3', y4, us', t, s1', mL', hL', pd', CQ', rfl⟩ rk
      have hkm := List.mem_of_getElem? hk
      have hil : i < c.clauses.length := (List.getElem?_eq_some_iff.mp hk).1
      have k20 := clen k hkm
      have ul := pd'.length
      have gl : (G5 (c.clauses.take i)).length ≤ 20 * 60 := Nat.le_trans (G5l fun k hk => clen k (List.mem_of_mem_take hk)) (by rw [List.length_take]; omega)
      rw [List.length_append] at ul
      refine s_extAtG (p := L) (P := fun M ws => Pd TT M (k.map (drawK (ren m) k)) ws) t.mh (gv_laidV TK (gv_var rfl CQ')) hL' (fun M9 s9 => gl_m1 (S := TT) (R := Tx) (xs := k) (gi_sq (K := K) (gv_var rfl (Mon.mono s9 rk.sq))) (szK (by omega)) (drawK (ren m) k) fun l hl M10 u10 sm ru =>
        gv_drawing (gv_var rfl (Mono.mono (s9.trans sm) CQ')) (gv_var rfl (Mon.mono (s9.trans sm) rk.sq)) (gv_var rfl ru) ⟨by omega, fun y hy => by rw [mk]; exact mem_litsOf.mpr ((X.l k hkm).of y hy), Nat.le_trans (lits_short (X.l k hkm) X.nm l hl) (by decide), by rw [mk]; exact (opp_lit X.nm (mem_litsOf.mpr ((X.l k hkm).of l hl))).1, my⟩) (fun M9 ws9 h9 => by
          have := h9.length
          rw [List.length_map] at this
          exact szM (by omega)) fun ws9 M9 H9 g9 pd9 => ?_
      refine ⟨M9, _, _, us' ++ ws9, (t.step g9).mut Lf hbL (g9.keep mL' hL'), s1'.trans g9.mm, g9.keep mL' hL', upd_same, ?_, Mono.mono g9.mm CQ', rfl⟩
      have e5 : G5 (c.clauses.take (i + 1)) = G5 (c.clauses.take i) ++ k.map (drawK (ren m) k) := take_flat (fun k => k.map (drawK (ren m) k)) hk
      rw [e5, ← List.append_assoc]
      exact pd_app (pd'.mono g9.mm) pd9
    rintro M8 σ' M9 H9 sM8 ⟨y3', y4, us9, t9, s9, mL9, hL9, pd9, CQ9, rfl⟩
    rw [List.take_length] at pd9
    have l5 : (E ++ G5 c.clauses).length ≤ 2000 := by
      have := G5l clen
      rw [List.length_append]
      omega
    have rc9 : CodeR C c M9 vc := Mon.mono (sM8.trans s9) rc7
    -- both sides denied
    let f6 : Str → List Str := fun n => [("-" : Str) ++ ren m n, ("-" : Str) ++ ren m (("-" : Str) ++ n), o]
    refine q_for (R1 := Tx) (xs := c.names) t9.mh (gv_is (gv_names TC (gv_var rfl rc9)) fun _ _ h => h.sq)
      (fun M1' i σ' M' H' => ∃ y5 us', TakeAt M Hb M' H' f (ws1.drop (2 * c.names.length)) ∧ Same M1' M' ∧ M' L = none ∧ H' L = some (.lst us') ∧ Pd TT M' ((E ++ G5 c.clauses) ++ (c.names.take i).map f6) us' ∧ CopyQ CC o m (.ref L) M' (.ref x) ∧ σ' = [some (.ref x), some vc, some (.ref f), y3', y4, y5])
      (fun M10 H10 g10 => ⟨_, us9, t9.step g10, Same.refl _, g10.keep mL9 hL9, g10.hh _ _ hL9, by show Pd TT M10 ((E ++ G5 c.clauses) ++ []) us9; rw [List.append_nil]; exact pd9.mono g10.mm, Mono.mono g10.mm CQ9, rfl⟩) (fun M8 i σ' M' H' ⟨_, _, t, s1, _⟩ => ⟨s1, t.mh⟩) ?_ ?_
    · rintro M10 i n vn σ' M' H' sM10 hn ⟨y5, us', t, s1', mL', hL', pd', CQ', rfl⟩ rn
      cases (show vn = _ from rn)
      have hnm := List.mem_of_getElem? hn
      have hil : i < c.names.length := (List.getElem?_eq_some_iff.mp hn).1
      have nl := nm_len (X.nm.nm n hnm)
      have l1 : n ∈ litsOf c.names := lits_sd.mpr ⟨n, hnm, true, rfl⟩
      have l2 : ("-" : Str) ++ n ∈ litsOf c.names := lits_sd.mpr ⟨n, hnm, false, rfl⟩
      have ul := pd'.length
      rw [List.length_append, List.length_map, List.length_take] at ul
      refine s_appAtG (p := L) (P := TT (f6 n)) t.mh (gv_laidV TK (gv_var rfl CQ')) hL' (szL (by omega)) (fun M11 s11 => gv_tup3T (gv_addSt (K := K) (gv_c rfl) (gv_at (gv_den TK (gv_var rfl (Mono.mono s11 CQ'))) (gv_var rfl rfl) (by rw [mk]; exact l1)) (szM (by have := dy l1; show 1 + (ren m n).length ≤ _; omega)))
        (gv_addSt (K := K) (gv_c rfl) (gv_at (gv_den TK (gv_var rfl (Mono.mono s11 CQ'))) (gv_addSt (K := K) (gv_c rfl) (gv_var rfl rfl) (szM (by show 1 + n.length ≤ _; omega))) (by rw [mk]; exact l2)) (szM (by have := dy l2; show 1 + (ren m (("-" : Str) ++ n)).length ≤ _; omega))) (gv_out TK (gv_var rfl (Mono.mono s11 CQ')))) fun v11 M11 H11 g11 r11 => ?_
      refine ⟨M11, _, us' ++ [v11], (t.step g11).mut Lf hbL (g11.keep mL' hL'), s1'.trans g11.mm, g11.keep mL' hL', upd_same, ?_, Mono.mono g11.mm CQ', rfl⟩
      rw [List.take_add_one, hn, List.map_append, ← List.append_assoc]
      exact pd_app (pd'.mono g11.mm) (.cons r11 .nil)
    rintro M10 σ' M11 H11 sM10 ⟨y5, us11, t11, s11, mL11, hL11, pd11, CQ11, rfl⟩
    rw [List.take_length] at pd11
    have rc11 : CodeR C c M11 vc := Mon.mono (sM10.trans s11) rc9
    have l6 : ((E ++ G5 c.clauses) ++ c.names.map f6).length ≤ 2020 := by rw [List.length_append, List.length_map]; omega
    -- the signs
    let f7 : Str → List Str := fun l => [l, ren m l]
    refine s_for (R1 := Tx) (xs := litsOf c.signs) t11.mh (gv_is (gv_litsOf (gv_is (gv_sign TC (gv_var rfl rc11)) fun _ _ h => h.sq) (nm_shorts sg)) fun _ _ h => h.sq)
      (fun M1' i σ' M' H' => ∃ y3 us', TakeAt M Hb M' H' f (ws1.drop (2 * c.names.length)) ∧ Same M1' M' ∧ M' L = none ∧ H' L = some (.lst us') ∧ Pd TT M' (((E ++ G5 c.clauses) ++ c.names.map f6) ++ ((litsOf c.signs).take i).map f7) us' ∧ CopyQ CC o m (.ref L) M' (.ref x) ∧ σ' = [some (.ref x), some vc, some (.ref f), y3, y4, y5])
      (fun M12 H12 g12 => ⟨_, us11, t11.step g12, Same.refl _, g12.keep mL11 hL11, g12.hh _ _ hL11, by show Pd TT M12 (((E ++ G5 c.clauses) ++ c.names.map f6) ++ []) us11; rw [List.append_nil]; exact pd11.mono g12.mm, Mono.mono g12.mm CQ11, rfl⟩) (fun M8 i σ' M' H' ⟨_, _, t, s1, _⟩ => ⟨s1, t.mh⟩) ?_ ?_
    · rintro M12 i l vl σ' M' H' sM12 hl ⟨y3, us', t, s1', mL', hL', pd', CQ', rfl⟩ rl
      cases (show vl = _ from rl)
      have hlm := List.mem_of_getElem? hl
      have hil : i < (litsOf c.signs).length := (List.getElem?_eq_some_iff.mp hl).1
      have sl := litsOf_len c.signs
      have sn : c.signs.length ≤ c.names.length := by show _ ≤ (c.signs ++ c.helpers).length; rw [List.length_append]; omega
      have ul := pd'.length
      rw [List.length_append, List.length_map, List.length_take] at ul
      refine s_appAtG (p := L) (P := TT (f7 l)) t.mh (gv_laidV TK (gv_var rfl CQ')) hL' (szL (by omega)) (fun M13 s13 => gv_tup2T (gv_var rfl rfl) (gv_at (gv_den TK (gv_var rfl (Mono.mono s13 CQ'))) (gv_var rfl rfl) (by rw [mk]; exact signs_lits hlm))) fun v13 M13 H13 g13 r13 => ?_
      refine ⟨M13, _, us' ++ [v13], (t.step g13).mut Lf hbL (g13.keep mL' hL'), s1'.trans g13.mm, g13.keep mL' hL', upd_same, ?_, Mono.mono g13.mm CQ', rfl⟩
      rw [List.take_add_one, hl, List.map_append, ← List.append_assoc]
      exact pd_app (pd'.mono g13.mm) (.cons r13 .nil)
    rintro M12 σ' M13 H13 sM12 ⟨y3, us13, t13, s13, mL13, hL13, pd13, CQ13, rfl⟩
    rw [List.take_length] at pd13
    have t14 := t13.freeze Lf hbL mL13 hL13
    refine q o m _ H13 ?_ ?_ mk ⟨.ref L, Mono.mono (same_new mL13) CQ13, L, us13, rfl, upd_same, pd13.mono (same_new mL13)⟩
    · have e : (o :: ws1).drop (1 + 2 * c.names.length) = ws1.drop (2 * c.names.length) := by rw [Nat.add_comm]; rfl
      rw [e]
      exact t14
    · rw [mv, Nat.add_comm 1]
      rfl
end
end My

set_option Elab.async false
set_option linter.all false
set_option maxRecDepth 100000
set_option maxHeartbeats 2000000
namespace My
open PySem PySem.Spec PyProof.Rows L2 L3
/-! the names of the copies, as they are taken off a list of new ones -/
theorem nodup_at {α : Type} : ∀ {xs : List α} {i j : Nat} {x : α}, xs.Nodup → xs[i]? = some x → xs[j]? = some x → i = j
  | [], _, _, _, _, h, _ => by cases h
  | y :: ys, 0, 0, _, _, _, _ => rfl
  | y :: ys, 0, j + 1, x, nd, h1, h2 => by
    have e : y = x := Option.some.inj h1
    exact absurd (List.mem_of_getElem? (show ys[j]? = some x from h2)) (by rw [← e]; exact (List.nodup_cons.mp nd).1)
  | y :: ys, i + 1, 0, x, nd, h1, h2 => by
    have e : y = x := Option.some.inj h2
    exact absurd (List.mem_of_getElem? (show ys[i]? = some x from h1)) (by rw [← e]; exact (List.nodup_cons.mp nd).1)
  | y :: ys, i + 1, j + 1, x, nd, h1, h2 => by rw [nodup_at (List.nodup_cons.mp nd).2 (show ys[i]? = some x from h1) (show ys[j]? = some x from h2)]
def posn : List Str → Str → Nat
  | [], _ => 0
  | y :: ys, x => if y = x then 0 else posn ys x + 1
theorem posn_at : ∀ {xs : List Str} {x : Str}, x ∈ xs → xs[posn xs x]? = some x
  | y :: ys, x, h => by
    unfold posn
    by_cases e : y = x
    · rw [if_pos e, e]; rfl
    · rw [if_neg e]
      show ys[posn ys x]? = some x
      rcases List.mem_cons.mp h with h | h
      · exact absurd h.symm e
      · exact posn_at h
theorem posn_lt {xs : List Str} {x : Str} (h : x ∈ xs) : posn xs x < xs.length := (List.getElem?_eq_some_iff.mp (posn_at h)).1
theorem posn_of {xs : List Str} {i : Nat} {x : Str} (nd : xs.Nodup) (h : xs[i]? = some x) : posn xs x = i := nodup_at nd (posn_at (List.mem_of_getElem? h)) h
def kN (c : CodeD) : Nat := 1 + 2 * c.names.length
def outW (c : CodeD) (ws : List Str) (l : Str) : Str := ws.getD (posn (litsOf c.signs) l * kN c) ""
def dlW (c : CodeD) (ws : List Str) (l x : Str) : Str := ws.getD (posn (litsOf c.signs) l * kN c + (1 + posn (litsOf c.names) x)) ""
theorem mul_in {i L k a : Nat} (hi : i < L) (ha : a < k) : i * k + a < L * k := by
  have h := Nat.mul_le_mul_right k (show i + 1 ≤ L from hi)
  rw [Nat.add_mul, Nat.one_mul] at h
  omega
theorem mul_inj {i j k a b : Nat} (ha : a < k) (hb : b < k) (e : i * k + a = j * k + b) : i = j ∧ a = b := by
  have hk : 0 < k := Nat.lt_of_le_of_lt (Nat.zero_le _) ha
  have h1 : (i * k + a) / k = i := by rw [Nat.mul_comm, Nat.mul_add_div hk, Nat.div_eq_of_lt ha, Nat.add_zero]
  have h2 : (j * k + b) / k = j := by rw [Nat.mul_comm, Nat.mul_add_div hk, Nat.div_eq_of_lt hb, Nat.add_zero]
  have h3 : i = j := by rw [← h1, e, h2]
  subst h3
  exact ⟨rfl, by omega⟩
theorem getD_atW {ws : List Str} {i : Nat} (h : i < ws.length) : ws[i]? = some (ws.getD i "") := by
  rw [List.getD_eq_getElem?_getD, List.getElem?_eq_getElem h]
  rfl
theorem getD_mem {ws : List Str} {i : Nat} (h : i < ws.length) : ws.getD i "" ∈ ws := List.mem_of_getElem? (getD_atW h)
structure LiftW (c : CodeD) (ws : List Str) : Prop where
  nm : NmL c.names
  w : NewNm c.names ((litsOf c.signs).length * kN c) ws
section
variable {c : CodeD} {ws : List Str}
theorem LiftW.sg (W : LiftW c ws) : NmL c.signs := ⟨(List.nodup_append.mp (show (c.signs ++ c.helpers).Nodup from W.nm.nd)).1, fun n hn => W.nm.nm n (List.mem_append_left _ hn), Nat.le_trans (by show c.signs.length ≤ (c.signs ++ c.helpers).length; rw [List.length_append]; omega) W.nm.n⟩
theorem LiftW.sn (W : LiftW c ws) : (litsOf c.signs).Nodup := litsOf_nodup W.sg.nd W.sg.nm
theorem LiftW.nn (W : LiftW c ws) : (litsOf c.names).Nodup := litsOf_nodup W.nm.nd W.nm.nm
theorem LiftW.ol (W : LiftW c ws) {l : Str} (h : l ∈ litsOf c.signs) : posn (litsOf c.signs) l * kN c < ws.length := by
  rw [W.w.n]
  exact mul_in (a := 0) (posn_lt h) (by unfold kN; omega)
theorem LiftW.dl (W : LiftW c ws) {l x : Str} (h : l ∈ litsOf c.signs) (hx : x ∈ litsOf c.names) : posn (litsOf c.signs) l * kN c + (1 + posn (litsOf c.names) x) < ws.length := by
  rw [W.w.n]
  refine mul_in (posn_lt h) ?_
  have := posn_lt hx
  rw [litsOf_len] at this
  unfold kN
  omega
theorem LiftW.ap (W : LiftW c ws) {i j : Nat} (hi : i < ws.length) (hj : j < ws.length) (e : ws.getD i "" = ws.getD j "") : i = j := nodup_at W.w.nd (getD_atW hi) (by rw [e]; exact getD_atW hj)
theorem LiftW.pin {x : Str} (hx : x ∈ litsOf c.names) : 1 + posn (litsOf c.names) x < kN c := by
  have := posn_lt hx
  rw [litsOf_len] at this
  unfold kN
  omega
theorem LiftW.pl {ys : List Str} {a b : Str} (ha : a ∈ ys) (hb : b ∈ ys) (e : posn ys a = posn ys b) : a = b := by
  have h1 := posn_at ha
  rw [e, posn_at hb] at h1
  exact (Option.some.inj h1).symm
theorem LiftW.new (W : LiftW c ws) : NewN c (outW c ws) (dlW c ws) := by
  refine ⟨fun l hl => W.w.nm _ (getD_mem (W.ol hl)), fun l hl x hx => W.w.nm _ (getD_mem (W.dl hl hx)), fun l hl l' hl' e => ?_, fun l hl l' hl' x hx x' hx' e => ?_, fun l hl l' hl' x hx e => ?_⟩
  · have := W.ap (W.ol hl) (W.ol hl') e
    have hk : 0 < kN c := by unfold kN; omega
    exact LiftW.pl hl hl' (mul_inj (a := 0) (b := 0) hk hk this).1
  · obtain ⟨h1, h2⟩ := mul_inj (LiftW.pin hx) (LiftW.pin hx') (W.ap (W.dl hl hx) (W.dl hl' hx') e)
    exact ⟨LiftW.pl hl hl' h1, LiftW.pl hx hx' (by omega)⟩
  · have hk : 0 < kN c := by unfold kN; omega
    have := (mul_inj (a := 0) hk (LiftW.pin hx) (W.ap (W.ol hl) (W.dl hl' hx) e)).2
    omega
theorem LiftW.mem (W : LiftW c ws) (n : Str) : n ∈ ws ↔ (∃ l ∈ litsOf c.signs, n = outW c ws l) ∨ ∃ l ∈ litsOf c.signs, ∃ x ∈ litsOf c.names, n = dlW c ws l x := by
  constructor
  · intro h
    obtain ⟨p, hp, rfl⟩ := List.getElem_of_mem h
    have hk : 0 < kN c := by unfold kN; omega
    have hp2 := hp
    rw [W.w.n] at hp2
    have hi : p / kN c < (litsOf c.signs).length := Nat.div_lt_of_lt_mul (by rw [Nat.mul_comm]; exact hp2)
    have ha := Nat.mod_lt p hk
    have ep : p / kN c * kN c + p % kN c = p := by rw [Nat.mul_comm]; exact Nat.div_add_mod p (kN c)
    have hg : (litsOf c.signs)[p / kN c]? = some (litsOf c.signs)[p / kN c] := List.getElem?_eq_getElem hi
    have hl := List.mem_of_getElem? hg
    have e1 := posn_of W.sn hg
    have eg : ws.getD p "" = ws[p] := by rw [List.getD_eq_getElem?_getD, List.getElem?_eq_getElem hp]; rfl
    cases e : p % kN c with
    | zero =>
      refine .inl ⟨_, hl, ?_⟩
      unfold outW
      rw [e1, ← eg]
      congr 1
      omega
    | succ j =>
      have hj : j < (litsOf c.names).length := by
        rw [litsOf_len]
        have h2 : kN c = 1 + 2 * c.names.length := rfl
        omega
      have hg2 : (litsOf c.names)[j]? = some (litsOf c.names)[j] := List.getElem?_eq_getElem hj
      refine .inr ⟨_, hl, _, List.mem_of_getElem? hg2, ?_⟩
      unfold dlW
      rw [e1, posn_of W.nn hg2, ← eg]
      congr 1
      omega
  · rintro (⟨l, hl, rfl⟩ | ⟨l, hl, x, hx, rfl⟩)
    · exact getD_mem (W.ol hl)
    · exact getD_mem (W.dl hl hx)
/-- a copy's names are those of its place -/
theorem LiftW.blk (W : LiftW c ws) {i : Nat} {l o : Str} {m : Ren} (hl : (litsOf c.signs)[i]? = some l) (hv : o :: m.map (·.2) = (ws.drop (i * kN c)).take (kN c)) (hk : m.map (·.1) = litsOf c.names) : o = outW c ws l ∧ ∀ x ∈ litsOf c.names, ren m x = dlW c ws l x := by
  have e1 := posn_of W.sn hl
  have at_ : ∀ j, j < kN c → (o :: m.map (·.2))[j]? = ws[i * kN c + j]? := fun j hj => by
    rw [hv, List.getElem?_take, if_pos hj, List.getElem?_drop]
  constructor
  · have := at_ 0 (by unfold kN; omega)
    have hlt := W.ol (List.mem_of_getElem? hl)
    rw [e1] at hlt
    rw [Nat.add_zero, getD_atW hlt] at this
    unfold outW
    rw [e1]
    exact Option.some.inj this
  · intro x hx
    have hm := (ren_mem (m := m) (by rw [hk]; exact hx)).2
    obtain ⟨j, hj, ej⟩ := List.getElem_of_mem hm
    have g : m[j]? = some (x, ren m x) := by rw [← ej]; exact List.getElem?_eq_getElem hj
    have g1 : (litsOf c.names)[j]? = some x := by rw [← hk, List.getElem?_map, g]; rfl
    have g2 : (o :: m.map (·.2))[j + 1]? = some (ren m x) := by
      show (m.map (·.2))[j]? = _
      rw [List.getElem?_map, g]; rfl
    have e2 := posn_of W.nn g1
    have hlt := W.dl (List.mem_of_getElem? hl) hx
    rw [e1, e2] at hlt
    have hpin := LiftW.pin hx
    rw [e2] at hpin
    rw [at_ (j + 1) (by omega), show i * kN c + (j + 1) = i * kN c + (1 + j) by omega, getD_atW hlt] at g2
    unfold dlW
    rw [e1, e2]
    exact (Option.some.inj g2).symm
theorem draw_congr {d d' : Str → Str} {k : List Str} {l : Str} (h : ∀ x ∈ k, d x = d' x) (ho : d (opp l) = d' (opp l)) : drawK d k l = drawK d' k l := by
  unfold drawK
  rw [ho]
  congr 1
  exact List.map_congr_left fun x hx => by rw [h x (List.mem_filter.mp hx).1]
theorem laid_congr (nm : NmL c.names) (lc : ∀ k ∈ c.clauses, Lits c.names k) {o : Str} {d d' : Str → Str} (h : ∀ x ∈ litsOf c.names, d x = d' x) : laidC c o d = laidC c o d' := by
  unfold laidC
  have lit : ∀ k ∈ c.clauses, ∀ x ∈ k, x ∈ litsOf c.names := fun k hk x hx => mem_litsOf.mpr ((lc k hk).of x hx)
  have e1 : c.clauses.flatMap (fun k => k.map (drawK d k)) = c.clauses.flatMap fun k => k.map (drawK d' k) := by
    rw [List.flatMap_def, List.flatMap_def]
    congr 1
    exact List.map_congr_left fun k hk => List.map_congr_left fun l hl => draw_congr (fun x hx => h x (lit k hk x hx)) (h _ (opp_lit nm (lit k hk l hl)).1)
  have e2 : c.names.map (fun n => [("-" : Str) ++ d n, ("-" : Str) ++ d (("-" : Str) ++ n), o]) = c.names.map fun n => [("-" : Str) ++ d' n, ("-" : Str) ++ d' (("-" : Str) ++ n), o] := List.map_congr_left fun n hn => by
    rw [h n (lits_sd.mpr ⟨n, hn, true, rfl⟩), h (("-" : Str) ++ n) (lits_sd.mpr ⟨n, hn, false, rfl⟩)]
  have e3 : (litsOf c.signs).map (fun l => [l, d l]) = (litsOf c.signs).map fun l => [l, d' l] := List.map_congr_left fun l hl => by rw [h l (signs_lits hl)]
  rw [e1, e2, e3]
/-! the lifted code is one that can be made -/
structure LiftPre (c : CodeD) : Prop where
  nm : NmL c.names
  l : ∀ k ∈ c.clauses, Lits c.names k
  n : c.names.length ≤ 5
  s : c.signs.length ≤ 3
  k : c.clauses.length ≤ 29
  nf : Nf c
def liftD (c : CodeD) (ws : List Str) : CodeD := ⟨c.signs, c.helpers ++ ws, liftC c (outW c ws) (dlW c ws)⟩
def addL (c : CodeD) (ws : List Str) (l : Str) : List (List Str) := laidC c (outW c ws l) (dlW c ws l) ++ [[dlW c ws l (opp l)], [("-" : Str) ++ outW c ws l, opp l]]
theorem liftC_eq (c : CodeD) (ws : List Str) : liftC c (outW c ws) (dlW c ws) = c.clauses ++ (litsOf c.signs).flatMap (addL c ws) := by
  unfold liftC addL
  rfl
theorem laid_len {o : Str} {d : Str → Str} : (laidC c o d).length = (c.clauses.filter fun k => decide (k = [])).length + c.clauses.flatten.length + c.names.length + 2 * c.signs.length := by
  have e : (c.clauses.flatMap fun k => k.map (drawK d k)).length = c.clauses.flatten.length := by
    induction c.clauses with
    | nil => rfl
    | cons k ks ih => rw [List.flatMap_cons, List.length_append, List.length_map, ih, List.flatten_cons, List.length_append]
  unfold laidC
  rw [List.length_append, List.length_append, List.length_append, List.length_map, List.length_map, List.length_map, e, litsOf_len]
theorem nil_one {cs : List (List Str)} (nd : cs.Nodup) : (cs.filter fun k => decide (k = [])).length ≤ 1 := nodup_leE (ys := [[]]) (nd.sublist List.filter_sublist) fun x hx => by
  rw [of_decide_eq_true (List.mem_filter.mp hx).2]
  exact List.mem_singleton.mpr rfl
where
  nodup_leE {α : Type} [DecidableEq α] : ∀ {xs ys : List α}, xs.Nodup → (∀ x ∈ xs, x ∈ ys) → xs.length ≤ ys.length
    | [], _, _, _ => Nat.zero_le _
    | x :: xs, ys, nd, h => by
      obtain ⟨h1, h2⟩ := List.nodup_cons.mp nd
      have hx := h x (List.mem_cons_self ..)
      have := nodup_leE (xs := xs) (ys := ys.erase x) h2 fun y hy => (List.mem_erase_of_ne (fun e => h1 (by rw [← e]; exact hy))).mpr (h y (List.mem_cons_of_mem _ hy))
      rw [List.length_erase_of_mem hx] at this
      have hp : 0 < ys.length := List.length_pos_of_mem hx
      rw [List.length_cons]
      omega
theorem flat_same {α β : Type} {f : α → List β} {n : Nat} : ∀ {xs : List α}, (∀ x ∈ xs, (f x).length = n) → (xs.flatMap f).length = xs.length * n
  | [], _ => by rw [List.flatMap_nil, List.length_nil, List.length_nil, Nat.zero_mul]
  | x :: xs, h => by
    rw [List.flatMap_cons, List.length_append, h x (List.mem_cons_self ..), flat_same fun y hy => h y (List.mem_cons_of_mem _ hy), List.length_cons, Nat.add_mul, Nat.one_mul, Nat.add_comm]
theorem lift_len (ws : List Str) : (liftD c ws).clauses.length = c.clauses.length + 2 * c.signs.length * ((c.clauses.filter fun k => decide (k = [])).length + c.clauses.flatten.length + c.names.length + 2 * c.signs.length + 2) := by
  show (liftC c (outW c ws) (dlW c ws)).length = _
  rw [liftC_eq, List.length_append, flat_same (n := (c.clauses.filter fun k => decide (k = [])).length + c.clauses.flatten.length + c.names.length + 2 * c.signs.length + 2) fun l _ => by
    unfold addL
    rw [List.length_append, laid_len]
    rfl, litsOf_len]
/-- literals of unlike names of the lifted code -/
theorem lits_two2 {ns : List Str} (nm : NmL ns) {a b : Str} {s t : Bool} (ha : a ∈ ns) (hb : b ∈ ns) (ne : a ≠ b) : Lits ns [sd s a, sd t b] := by
  refine ⟨?_, fun x hx => ?_⟩
  · simp only [List.map_cons, List.map_nil, sd_name (nm.nm a ha), sd_name (nm.nm b hb)]
    simp [ne]
  · simp only [List.mem_cons, List.not_mem_nil, or_false] at hx
    rcases hx with rfl | rfl
    · exact litN_sd.mpr ⟨a, ha, s, rfl⟩
    · exact litN_sd.mpr ⟨b, hb, t, rfl⟩
theorem lits_one1 {ns : List Str} (nm : NmL ns) {a : Str} {s : Bool} (ha : a ∈ ns) : Lits ns [sd s a] := by
  refine ⟨?_, fun x hx => ?_⟩
  · simp
  · rw [List.mem_singleton.mp hx]
    exact litN_sd.mpr ⟨a, ha, s, rfl⟩
theorem lits_up {ns ms k : List Str} (L : Lits ns k) (h : ∀ n ∈ ns, n ∈ ms) : Lits ms k := ⟨L.nd, fun x hx => by obtain ⟨n, hn, e⟩ := L.of x hx; exact ⟨n, h n hn, e⟩⟩
theorem LiftW.names (W : LiftW c ws) : (liftD c ws).names = c.names ++ ws := by
  show c.signs ++ (c.helpers ++ ws) = (c.signs ++ c.helpers) ++ ws
  rw [List.append_assoc]
theorem LiftW.nmL (W : LiftW c ws) (n5 : c.names.length ≤ 5) (s3 : c.signs.length ≤ 3) : NmL (liftD c ws).names := by
  rw [W.names]
  refine ⟨List.nodup_append.mpr ⟨W.nm.nd, W.w.nd, fun a ha b hb e => (W.w.nm b hb).2 (e ▸ ha)⟩, fun n hn => ?_, ?_⟩
  · rcases List.mem_append.mp hn with hn | hn
    · exact W.nm.nm n hn
    · exact (W.w.nm n hn).1
  · have hw := W.w.n
    rw [litsOf_len] at hw
    have h2 : 2 * c.signs.length * kN c ≤ 6 * 11 := Nat.mul_le_mul (by omega) (by unfold kN; omega)
    rw [List.length_append]
    omega
theorem LiftW.lits (W : LiftW c ws) (lc : ∀ k ∈ c.clauses, Lits c.names k) (n5 : c.names.length ≤ 5) (s3 : c.signs.length ≤ 3) : ∀ k ∈ (liftD c ws).clauses, Lits (liftD c ws).names k := by
  have N := W.new
  have nm := W.nmL n5 s3
  have inC : ∀ n ∈ c.names, n ∈ (liftD c ws).names := fun n hn => by rw [W.names]; exact List.mem_append_left _ hn
  have inO : ∀ l ∈ litsOf c.signs, outW c ws l ∈ (liftD c ws).names := fun l hl => by rw [W.names]; exact List.mem_append_right _ ((W.mem _).mpr (.inl ⟨l, hl, rfl⟩))
  have inD : ∀ l ∈ litsOf c.signs, ∀ x ∈ litsOf c.names, dlW c ws l x ∈ (liftD c ws).names := fun l hl x hx => by rw [W.names]; exact List.mem_append_right _ ((W.mem _).mpr (.inr ⟨l, hl, x, hx, rfl⟩))
  intro k hk
  rcases mem_lift.mp (show k ∈ liftC c (outW c ws) (dlW c ws) from hk) with hk | ⟨l, hl, hk | rfl | rfl⟩
  · exact lits_up (lc k hk) inC
  · rcases mem_laid.mp hk with ⟨_, rfl⟩ | ⟨r, hr, x, hx, rfl⟩ | ⟨n, hn, rfl⟩ | ⟨x, hx, rfl⟩
    · exact lits_one1 nm (s := true) (inO l hl)
    · have lit : ∀ m ∈ r, m ∈ litsOf c.names := fun m hm => mem_litsOf.mpr ((lc r hr).of m hm)
      have hox := (opp_lit W.nm (lit x hx)).1
      have dn : ∀ y ∈ litsOf c.names, isNm (dlW c ws l y) = true := fun y hy => (N.d l hl y hy).1
      have nr := lits_nodup (lc r hr)
      have no : opp x ∉ r := fun ho => by
        obtain ⟨n, hn, b, rfl⟩ := lits_sd.mp (lit x hx)
        rw [opp_sd (W.nm.nm n hn)] at ho
        have hb := (lc r hr).nd
        have inj : ∀ {ys : List Str} {a b : Str}, (ys.map nameOf).Nodup → a ∈ ys → b ∈ ys → nameOf a = nameOf b → a = b := by
          intro ys
          induction ys with
          | nil => intro a b _ ha; cases ha
          | cons y ys ih =>
            intro a b nd ha hb e
            rw [List.map_cons, List.nodup_cons] at nd
            rcases List.mem_cons.mp ha with ea | ha1 <;> rcases List.mem_cons.mp hb with eb | hb1
            · rw [ea, eb]
            · exact absurd (by rw [← ea, e]; exact List.mem_map_of_mem (f := nameOf) hb1) nd.1
            · exact absurd (by rw [← eb, ← e]; exact List.mem_map_of_mem (f := nameOf) ha1) nd.1
            · exact ih nd.2 ha1 hb1 e
        have e := inj hb hx ho (by rw [sd_name (W.nm.nm n hn), sd_name (W.nm.nm n hn)])
        have := (sd_inj (W.nm.nm n hn) (W.nm.nm n hn) e).2
        cases b <;> cases this
      unfold drawK
      refine ⟨?_, fun y hy => ?_⟩
      · rw [List.map_append, List.map_map]
        refine List.nodup_append.mpr ⟨?_, by simp, fun a ha b hb e => ?_⟩
        · refine nodup_map_inj (nr.sublist List.filter_sublist) fun y hy z hz e => ?_
          have hy := lit y (List.mem_filter.mp hy).1
          have hz := lit z (List.mem_filter.mp hz).1
          have e : nameOf (("-" : Str) ++ dlW c ws l y) = nameOf (("-" : Str) ++ dlW c ws l z) := e
          rw [nameOf_neg (dn y hy), nameOf_neg (dn z hz)] at e
          exact (N.dd l hl l hl y hy z hz e).2
        · obtain ⟨y, hy, rfl⟩ := List.mem_map.mp ha
          have hyr := (List.mem_filter.mp hy).1
          rw [List.map_cons, List.map_nil, List.mem_singleton] at hb
          subst hb
          have e : nameOf (("-" : Str) ++ dlW c ws l y) = nameOf (dlW c ws l (opp x)) := e
          rw [nameOf_neg (dn y (lit y hyr)), nameOf_nm (dn _ hox)] at e
          have := (N.dd l hl l hl y (lit y hyr) _ hox e).2
          exact no (this ▸ hyr)
      · rcases List.mem_append.mp hy with hy | hy
        · obtain ⟨z, hz, rfl⟩ := List.mem_map.mp hy
          exact litN_sd.mpr ⟨_, inD l hl z (lit z (List.mem_filter.mp hz).1), false, rfl⟩
        · rw [List.mem_singleton.mp hy]
          exact litN_sd.mpr ⟨_, inD l hl _ hox, true, rfl⟩
    · have l1 : n ∈ litsOf c.names := lits_sd.mpr ⟨n, hn, true, rfl⟩
      have l2 : ("-" : Str) ++ n ∈ litsOf c.names := lits_sd.mpr ⟨n, hn, false, rfl⟩
      have ne : n ≠ ("-" : Str) ++ n := neg_ne (W.nm.nm n hn)
      refine ⟨?_, fun y hy => ?_⟩
      · simp only [List.map_cons, List.map_nil, nameOf_neg (N.d l hl n l1).1, nameOf_neg (N.d l hl _ l2).1, nameOf_nm (N.o l hl).1]
        have d1 : dlW c ws l n ≠ dlW c ws l (("-" : Str) ++ n) := fun e => ne (N.dd l hl l hl _ l1 _ l2 e).2
        have d2 : dlW c ws l n ≠ outW c ws l := fun e => N.od l hl l hl n l1 e.symm
        have d3 : dlW c ws l (("-" : Str) ++ n) ≠ outW c ws l := fun e => N.od l hl l hl _ l2 e.symm
        simp [d1, d2, d3]
      · simp only [List.mem_cons, List.not_mem_nil, or_false] at hy
        rcases hy with rfl | rfl | rfl
        · exact litN_sd.mpr ⟨_, inD l hl n l1, false, rfl⟩
        · exact litN_sd.mpr ⟨_, inD l hl _ l2, false, rfl⟩
        · exact litN_sd.mpr ⟨_, inO l hl, true, rfl⟩
    · obtain ⟨n, hn, b, rfl⟩ := lits_sd.mp hx
      have hnn : n ∈ c.names := List.mem_append_left _ hn
      exact lits_two2 nm (a := n) (b := dlW c ws l (sd b n)) (s := b) (t := true) (inC n hnn) (inD l hl _ (signs_lits hx)) fun e => (N.d l hl _ (signs_lits hx)).2 (by rw [← e]; exact hnn)
  · exact lits_one1 nm (s := true) (inD l hl _ (opp_lit W.nm (signs_lits hl)).1)
  · obtain ⟨n, hn, b, rfl⟩ := lits_sd.mp hl
    have hnn : n ∈ c.names := List.mem_append_left _ hn
    rw [opp_sd (W.nm.nm n hnn)]
    exact lits_two2 nm (a := outW c ws (sd b n)) (b := n) (s := false) (t := !b) (inO _ hl) (inC n hnn) fun e => (N.o _ hl).2 (by rw [e]; exact hnn)
theorem LiftPre.flat (X : LiftPre c) : c.clauses.flatten.length ≤ 145 := by
  have := flat_len fun x hx => Nat.le_trans (lits_len (X.l x hx) X.nm) X.n
  have := X.k
  omega
theorem LiftPre.p (X : LiftPre c) (W : LiftW c ws) : CodeP (liftD c ws) := by
  refine ⟨W.nmL X.n X.s, W.lits X.l X.n X.s, ?_, ?_⟩
  · have hw := W.w.n
    rw [litsOf_len] at hw
    have s3 := X.s
    have n5 := X.n
    have h2 : 2 * c.signs.length * kN c ≤ 6 * 11 := Nat.mul_le_mul (by omega) (by unfold kN; omega)
    rw [W.names, List.length_append]
    omega
  · rw [lift_len]
    have h1 := nil_one X.nf.nd
    have h2 := X.flat
    have s3 := X.s
    have n5 := X.n
    have k9 := X.k
    have : 2 * c.signs.length * ((c.clauses.filter fun k => decide (k = [])).length + c.clauses.flatten.length + c.names.length + 2 * c.signs.length + 2) ≤ 6 * 159 := Nat.mul_le_mul (by omega) (by omega)
    omega
end
end My

set_option Elab.async false
set_option linter.all false
set_option maxRecDepth 100000
set_option maxHeartbeats 8000000
namespace My
open PySem PySem.Spec PyProof.Rows L2 L3
/-! lifted -/
section
variable {bs : List Addr} {M H M' H' : Hp}
/-- from what a deed does beside the things of ours to what it does to all -/
theorem Gr.unS {M0 H0 : Hp} (g : Gr M0 H0 M H) (g' : Gr M (delS H bs) M' (delS H' bs)) (f : ∀ b ∈ bs, H0 b = none) : Gr M0 H0 M' H' := by
  refine ⟨g.mm.trans g'.mm, fun x o e => ?_, cutS_same g'.mh, fun x o e => ?_, fun x ps e => g.nt x ps (g'.nt x ps e)⟩
  · have z : x ∉ bs := fun z => by rw [f x z] at e; cases e
    have := g'.hh x o (by rw [delS_on z]; exact g.hh _ _ e)
    rw [delS_on z] at this
    exact this
  · rcases g'.nw x o e with h | h | h
    · exact g.nw x o h
    · by_cases z : x ∈ bs
      · exact .inr (.inl (f x z))
      · rw [delS_on z] at h
        exact .inr (.inl (g.hh.free h))
    · exact .inr (.inr h)
theorem Own.take {H0 : Hp} {f p : Addr} {ws : List Str} {vs : List V} (o : Own H0 M H p vs) (t : TakeAt M H M' H' f ws) (ne : p ≠ f) : Own H0 M' H' p vs := by
  have hp : (delS H [f]) p = some (.lst vs) := by rw [delS_on (by simpa using ne)]; exact o.h
  refine ⟨o.h0, t.g.keep o.m hp, ?_⟩
  have := t.g.hh _ _ hp
  rw [delS_on (by simpa using ne)] at this
  exact this
end
section
variable {K : PySem.W.Frag} {σ : Sl} {M H : Hp} {te : TE} {D : Ends} {tz : TS}
/-- xs.extend(e), e a known list -/
theorem s_extV {i : Nat} {p : Addr} {vs : List V} {P : Hp → List V → Prop} (mh : Same M H) (hi : σ[i]? = some (some (.ref p))) (hp : H p = some (.lst vs)) (h : Gv te σ M fun M v => ∃ b ws, v = .ref b ∧ M b = some (.lst ws) ∧ P M ws)
    (hz : ∀ M' ws, P M' ws → vs.length + ws.length ≤ sizeLine) (k : ∀ ws M' H', Gr M H M' H' → P M' ws → D.nx σ (upd H' p (.lst (vs ++ ws)))) : tDrop (tBM K "list" rExtend (tVar i) (tCons te tNil)) D σ H :=
  ⟨.ref p, hi, .inl ⟨rfl, _, .inl (.inl hp)⟩, h H mh _ fun v M' H' g ⟨b, ws, e, hb, r⟩ => ⟨p, b, vs, ws, rfl, by rw [e], g.hh _ _ hp, g.mh _ _ hb, hz M' ws r, k ws M' H' g r⟩⟩
theorem gv_mulI {ta tb : TE} {i j : Nat} (ha : Gv ta σ M (It' (i : Nat))) (hb : Gv tb σ M (It' (j : Nat))) (h : i ≤ 1000) : Gv (tOp (rI CMul fun i j => .int (i * j)) ta tb) σ M (It' ((i * j : Nat) : Int)) := gv_is (gv_mul ha hb (.inl ⟨by omega, by omega⟩)) fun M v h => (show v = _ from h).trans (congrArg V.int (Int.natCast_mul i j).symm)
theorem q_extV {i : Nat} {p : Addr} {vs : List V} {P : Hp → List V → Prop} (mh : Same M H) (hi : σ[i]? = some (some (.ref p))) (hp : H p = some (.lst vs)) (h : Gv te σ M fun M v => ∃ b ws, v = .ref b ∧ M b = some (.lst ws) ∧ P M ws)
    (hz : ∀ M' ws, P M' ws → vs.length + ws.length ≤ sizeLine) (k : ∀ ws M' H', Gr M H M' H' → P M' ws → tz D σ (upd H' p (.lst (vs ++ ws)))) : tSeq (tDrop (tBM K "list" rExtend (tVar i) (tCons te tNil))) tz D σ H := s_extV (D := { D with nx := tz D }) mh hi hp h hz k
end
section
end
end My

set_option Elab.async false
set_option linter.all false
set_option maxRecDepth 100000
set_option maxHeartbeats 2000000
namespace My
open PySem PySem.Spec PyProof.Rows L2 L3
/-! the law's codes: what they allow -/
def Csq (al : List (List Str)) (x : List Str) : Prop := ∀ s ∈ al, ∃ l ∈ x, l ∈ s
theorem isConsC_iff {al : List (List Str)} {x : List Str} : isCons x al = true ↔ Csq al x := by
  unfold isCons Csq meets
  simp
theorem short_csq {ns : List Str} {al : List (List Str)} {x : List Str} (h : x ∈ shortestL ns al) : Csq al x := isConsC_iff.mp ((short_ok al (halves ns)).1 x h)
/-- the opposite of a full setting meets each other one -/
theorem neg_full {ns s t : List Str} (nm : NmL ns) (hs : s ∈ fulls ns) (ht : t ∈ fulls ns) (ne : s ≠ t) : ∃ l ∈ s.map opp, l ∈ t := by
  obtain ⟨α, rfl⟩ := full_set nm.nd hs
  obtain ⟨β, rfl⟩ := full_set nm.nd ht
  obtain ⟨x, hx, e⟩ : ∃ x ∈ ns, α x ≠ β x := Classical.byContradiction fun z => ne (setOf_eq fun x hx => Classical.byContradiction fun e => z ⟨x, hx, e⟩)
  refine ⟨sd (!(α x)) x, List.mem_map.mpr ⟨sd (α x) x, (sd_in nm hx).mpr rfl, opp_sd (nm.nm x hx)⟩, (sd_in nm hx).mpr ?_⟩
  cases ea : α x <;> cases eb : β x <;> simp_all
theorem full_con {ns s : List Str} (nm : NmL ns) (hs : s ∈ fulls ns) {l : Str} (h : l ∈ s) : opp l ∉ s := fun h2 => by
  obtain ⟨α, rfl⟩ := full_set nm.nd hs
  obtain ⟨n, hn, b, rfl⟩ := lits_sd.mp (setOf_lits h)
  rw [opp_sd (nm.nm n hn)] at h2
  have e1 := (sd_in nm hn).mp h
  have e2 := (sd_in nm hn).mp h2
  rw [e1] at e2
  cases b <;> cases e2
theorem full_lits {ns s : List Str} (nm : NmL ns) (hs : s ∈ fulls ns) : Lits ns s := side_lits nm (fulls_paired hs)
/-- a full setting that is not allowed denies a shortest consequence -/
theorem full_out {ns s : List Str} {al : List (List Str)} (nm : NmL ns) (ha : ∀ t ∈ al, t ∈ fulls ns) (hs : s ∈ fulls ns) (h : s ∉ al) : ∃ x ∈ shortestL ns al, ∀ l ∈ x, opp l ∈ s := by
  have L := full_lits nm hs
  have key := short_any (ns := ns) (ss := al) (d := s.map opp) (fun t ht l hl _ => (full_lits nm (ha t ht)).of l hl) fun n hn ⟨h1, h2⟩ => by
    obtain ⟨a, ha, e1⟩ := List.mem_map.mp h1
    obtain ⟨b, hb, e2⟩ := List.mem_map.mp h2
    obtain ⟨p, hp, x, rfl⟩ := litN_sd.mp (L.of a ha)
    obtain ⟨q, hq, y, rfl⟩ := litN_sd.mp (L.of b hb)
    rw [opp_sd (nm.nm p hp)] at e1
    rw [opp_sd (nm.nm q hq)] at e2
    obtain ⟨e3, e4⟩ := sd_inj (b := !x) (c := true) (nm.nm p hp) (nm.nm n hn) e1
    obtain ⟨e5, e6⟩ := sd_inj (b := !y) (c := false) (nm.nm q hq) (nm.nm n hn) e2
    subst e3
    subst e5
    have := full_con nm hs ha
    rw [opp_sd (nm.nm q hq)] at this
    cases x <;> cases y <;> simp_all
  have c1 : isCons (s.map opp) al = true := isConsC_iff.mpr fun t ht => neg_full nm hs (ha t ht) fun e => h (e ▸ ht)
  rw [c1] at key
  obtain ⟨x, hx, hl⟩ := List.any_eq_true.mp key
  refine ⟨x, hx, fun l hlx => ?_⟩
  have h1 := List.all_eq_true.mp hl l hlx
  obtain ⟨m, hm, e⟩ := List.mem_map.mp (of_decide_eq_true h1)
  obtain ⟨p, hp, b, rfl⟩ := litN_sd.mp (L.of m hm)
  rw [← e, opp_sd (nm.nm p hp), opp_sd (nm.nm p hp), Bool.not_not]
  exact hm
/-- no full setting that denies all of x fits -/
def NoFit (ns : List Str) (ds : List (List Str)) (x : List Str) : Prop := ∀ s ∈ fulls ns, (∀ l ∈ x, opp l ∈ s) → ¬ Fits ds s
theorem NoFit.mono {ns : List Str} {ds es : List (List Str)} {x : List Str} (h : NoFit ns ds x) (sub : ∀ k ∈ ds, k ∈ es) : NoFit ns es x := fun s hs hx f => h s hs hx fun k hk => f k (sub k hk)
theorem NoFit.mem {ns : List Str} {ds : List (List Str)} {x : List Str} (nm : NmL ns) (h : x ∈ ds) : NoFit ns ds x := fun s hs hx f => by
  obtain ⟨l, hl, hs2⟩ := f x h
  exact full_con nm hs hs2 (hx l hl)
theorem NoFit.dead {ns : List Str} {ds : List (List Str)} {x : List Str} (X : Ctx ns ds (x.map opp)) (h : Dead ds (x.map opp)) : NoFit ns ds x := fun s hs hx f => dead_unsat X h ⟨s, fulls_paired hs, fun y hy => by
  obtain ⟨l, hl, rfl⟩ := List.mem_map.mp hy
  exact hx l hl, f⟩
theorem neg_lits {ns x : List Str} (nm : NmL ns) (L : Lits ns x) : Lits ns (x.map opp) := by
  refine ⟨?_, fun y hy => ?_⟩
  · have e : (x.map opp).map nameOf = x.map nameOf := by
      rw [List.map_map]
      refine List.map_congr_left fun y hy => ?_
      obtain ⟨p, hp, b, rfl⟩ := litN_sd.mp (L.of y hy)
      show nameOf (opp (sd b p)) = _
      rw [opp_sd (nm.nm p hp), sd_name (nm.nm p hp), sd_name (nm.nm p hp)]
    rw [e]
    exact L.nd
  · obtain ⟨z, hz, rfl⟩ := List.mem_map.mp hy
    obtain ⟨p, hp, b, rfl⟩ := litN_sd.mp (L.of z hz)
    rw [opp_sd (nm.nm p hp)]
    exact litN_sd.mpr ⟨p, hp, _, rfl⟩
theorem fulls_nd {ns : List Str} (nm : NmL ns) : (fulls ns).Nodup := fulls_nodup nm.nm
theorem subl_filter {xs ys : List (List Str)} (h : xs.Sublist ys) (nd : ys.Nodup) : ys.filter (fun y => decide (y ∈ xs)) = xs := by
  induction h with
  | slnil => rfl
  | @cons xs ys y h ih =>
    obtain ⟨h1, h2⟩ := List.nodup_cons.mp nd
    rw [List.filter_cons, if_neg (by rw [decide_eq_true_eq]; exact fun z => h1 (h.subset z))]
    exact ih h2
  | @cons_cons xs ys x h ih =>
    obtain ⟨h1, h2⟩ := List.nodup_cons.mp nd
    rw [List.filter_cons, if_pos (by simp)]
    congr 1
    have e : ys.filter (fun y => decide (y ∈ x :: xs)) = ys.filter fun y => decide (y ∈ xs) := List.filter_congr fun z hz => by
      have : z ≠ x := fun e => h1 (e ▸ hz)
      simp [this]
    rw [e]
    exact ih h2
/-- clauses that are consequences, and without which nothing else is let by -/
theorem fin_fits {ns : List Str} {al ds : List (List Str)} (nm : NmL ns) (ha : al.Sublist (fulls ns)) (hc : ∀ x ∈ ds, Csq al x) (hn : ∀ x ∈ shortestL ns al, NoFit ns ds x) : (fulls ns).filter (fitB ds) = al := by
  refine Eq.trans (List.filter_congr fun s hs => ?_) (subl_filter ha (fulls_nd nm))
  rw [Bool.eq_iff_iff, fitB_iff, decide_eq_true_eq]
  constructor
  · intro f
    apply Classical.byContradiction
    intro h
    obtain ⟨x, hx, e⟩ := full_out nm (fun t ht => ha.subset ht) hs h
    exact hn x hx s hs e f
  · intro h x hx
    exact hc x hx s h
theorem up_sames {ns : List Str} {cs : List (List Str)} (L : ∀ x ∈ cs, Lits ns x) : (∀ d ∈ cs, ∃ d' ∈ onceUp cs ns, ∀ x, x ∈ d ↔ x ∈ d') ∧ ∀ d ∈ onceUp cs ns, ∃ d' ∈ cs, ∀ x, x ∈ d ↔ x ∈ d' :=
  ⟨fun d hd => ⟨asc d ns, mem_once.mpr (List.mem_map.mpr ⟨d, hd, rfl⟩), fun x => (asc_same (L d hd) x).symm⟩, fun d hd => by
    obtain ⟨d', hd', rfl⟩ := List.mem_map.mp (mem_once.mp hd)
    exact ⟨d', hd', asc_same (L d' hd')⟩⟩
theorem fit_up {ns : List Str} {cs : List (List Str)} (L : ∀ x ∈ cs, Lits ns x) (s : List Str) : fitB (onceUp cs ns) s = fitB cs s := by
  obtain ⟨h1, h2⟩ := up_sames L
  rw [Bool.eq_iff_iff, fitB_iff, fitB_iff]
  exact ⟨fits_to h1, fits_to h2⟩
theorem fin_allowed {ns : List Str} {al ds : List (List Str)} (nm : NmL ns) (L : ∀ x ∈ ds, Lits ns x) (ha : al.Sublist (fulls ns)) (hc : ∀ x ∈ ds, Csq al x) (hn : ∀ x ∈ shortestL ns al, NoFit ns ds x) : allowedL ns (onceUp ds ns) [] = al := by
  rw [← fin_fits nm ha hc hn]
  unfold allowedL
  refine List.filter_congr fun s _ => ?_
  show ([[]] : List (List Str)).any (fun r => fitB (onceUp ds ns) (s ++ r)) = _
  rw [List.any_cons, List.any_nil, Bool.or_false, List.append_nil, fit_up L]
/-- clauses in their order, each once: no more than there are half-filled settings -/
theorem nf_few {ns : List Str} {cs : List (List Str)} (nm : NmL ns) (L : ∀ x ∈ cs, Lits ns x) (a : ∀ x ∈ cs, asc x ns = x) (nd : cs.Nodup) : cs.length ≤ 3 ^ ns.length := by
  refine Nat.le_trans (nil_one.nodup_leE nd fun x hx => ?_) (halves_few ns)
  rw [← a x hx]
  refine halves_all fun n hn ⟨h1, h2⟩ => ?_
  have hb := (L x hx).nd
  have inj : ∀ {ys : List Str} {a b : Str}, (ys.map nameOf).Nodup → a ∈ ys → b ∈ ys → nameOf a = nameOf b → a = b := by
    intro ys
    induction ys with
    | nil => intro a b _ ha; cases ha
    | cons y ys ih =>
      intro a b nd ha hb e
      rw [List.map_cons, List.nodup_cons] at nd
      rcases List.mem_cons.mp ha with ea | ha1 <;> rcases List.mem_cons.mp hb with eb | hb1
      · rw [ea, eb]
      · exact absurd (by rw [← ea, e]; exact List.mem_map_of_mem (f := nameOf) hb1) nd.1
      · exact absurd (by rw [← eb, ← e]; exact List.mem_map_of_mem (f := nameOf) ha1) nd.1
      · exact ih nd.2 ha1 hb1 e
  have e := inj hb h1 h2 (by rw [nameOf_nm (nm.nm n hn), nameOf_neg (nm.nm n hn)])
  exact neg_ne (nm.nm n hn) e
/-! a clause parted by a new helper -/
theorem paired_snoc {α β : Type} {F : α → β → Prop} : ∀ {xs : List α} {x : α} {ys : List β}, Paired F (xs ++ [x]) ys → ∃ zs z, ys = zs ++ [z] ∧ Paired F xs zs ∧ F x z
  | [], x, _, .cons h .nil => ⟨[], _, rfl, .nil, h⟩
  | a :: xs, x, _, .cons h r => by
    obtain ⟨zs, z, e, p, f⟩ := paired_snoc r
    exact ⟨_ :: zs, z, by rw [e]; rfl, .cons h p, f⟩
theorem part_fits {names : List Str} {cs pre post : List (List Str)} {cl ya yb : List Str} {n : Str} {b : Bool} (nm : NmL names) (hn : isNm n = true) (hnn : n ∉ names) (e : cs = pre ++ cl :: post) (hp : ∀ l, l ∈ cl ↔ l ∈ ya ∨ l ∈ yb) (L : ∀ x ∈ cs, Lits names x) {s : List Str} (hs : ∀ l ∈ s, LitN names l) :
    (∃ z, Side n z ∧ Fits (pre ++ [ya ++ [sd b n], yb ++ [sd (!b) n]] ++ post) (s ++ [z])) ↔ Fits cs s := by
  have nos : ∀ x, sd x n ∉ s := fun x h => by
    obtain ⟨m, hm, c, e⟩ := litN_sd.mp (hs _ h)
    exact hnn ((sd_inj hn (nm.nm m hm) e).1 ▸ hm)
  have noL : ∀ {k : List Str}, Lits names k → ∀ x, sd x n ∉ k := fun {k} Lk x h => by
    obtain ⟨m, hm, c, e⟩ := litN_sd.mp (Lk.of _ h)
    exact hnn ((sd_inj hn (nm.nm m hm) e).1 ▸ hm)
  subst e
  constructor
  · rintro ⟨z, hz, f⟩
    obtain ⟨c, rfl⟩ := side_sd hz
    have old : ∀ k, Lits names k → k ∈ pre ++ [ya ++ [sd b n], yb ++ [sd (!b) n]] ++ post → ∃ l ∈ k, l ∈ s := fun k Lk hk => by
      obtain ⟨l, h1, h2⟩ := f k hk
      rcases List.mem_append.mp h2 with h2 | h2
      · exact ⟨l, h1, h2⟩
      · rw [List.mem_singleton.mp h2] at h1
        exact absurd h1 (noL Lk c)
    intro k hk
    have Lk := L k hk
    rcases List.mem_append.mp hk with hk | hk
    · exact old k Lk (List.mem_append_left _ (List.mem_append_left _ hk))
    · rcases List.mem_cons.mp hk with rfl | hk
      · have pick : ∀ y d, (∀ l ∈ y, l ∈ k) → y ++ [sd d n] ∈ pre ++ [ya ++ [sd b n], yb ++ [sd (!b) n]] ++ post → d ≠ c → ∃ l ∈ k, l ∈ s := fun y d sub hy ne => by
          obtain ⟨l, h1, h2⟩ := f _ hy
          rcases List.mem_append.mp h1 with h1 | h1
          · rcases List.mem_append.mp h2 with h2 | h2
            · exact ⟨l, sub l h1, h2⟩
            · rw [List.mem_singleton.mp h2] at h1
              exact absurd (sub _ h1) (noL Lk c)
          · rw [List.mem_singleton.mp h1] at h2
            rcases List.mem_append.mp h2 with h2 | h2
            · exact absurd h2 (nos d)
            · exact absurd (sd_inj hn hn (List.mem_singleton.mp h2)).2 ne
        by_cases h : b = c
        · exact pick yb (!b) (fun l hl => (hp l).mpr (.inr hl)) (by simp) (by subst h; cases b <;> decide)
        · exact pick ya b (fun l hl => (hp l).mpr (.inl hl)) (by simp) h
      · exact old k Lk (List.mem_append_right _ hk)
  · intro f
    obtain ⟨l, h1, h2⟩ := f cl (by simp)
    have rest : ∀ z k, k ∈ pre ∨ k ∈ post → ∃ l ∈ k, l ∈ s ++ [z] := fun z k hk => by
      obtain ⟨m, h3, h4⟩ := f k (by rcases hk with h | h <;> simp [h])
      exact ⟨m, h3, List.mem_append_left _ h4⟩
    rcases (hp l).mp h1 with hl | hl
    · refine ⟨sd (!b) n, by cases b <;> simp [sd, Side], fun k hk => ?_⟩
      simp only [List.mem_append, List.mem_cons, List.not_mem_nil, or_false] at hk
      rcases hk with (hk | rfl | rfl) | hk
      · exact rest _ k (.inl hk)
      · exact ⟨l, List.mem_append_left _ hl, List.mem_append_left _ h2⟩
      · exact ⟨sd (!b) n, by simp, by simp⟩
      · exact rest _ k (.inr hk)
    · refine ⟨sd b n, by cases b <;> simp [sd, Side], fun k hk => ?_⟩
      simp only [List.mem_append, List.mem_cons, List.not_mem_nil, or_false] at hk
      rcases hk with (hk | rfl | rfl) | hk
      · exact rest _ k (.inl hk)
      · exact ⟨sd b n, by simp, by simp⟩
      · exact ⟨l, List.mem_append_left _ hl, List.mem_append_left _ h2⟩
      · exact rest _ k (.inr hk)
theorem parted_allowed {c : CodeD} {pre post cs' : List (List Str)} {cl ya yb : List Str} {n : Str} {b : Bool} (nm : NmL c.names) (hn : isNm n = true) (hnn : n ∉ c.names) (e : c.clauses = pre ++ cl :: post) (hp : ∀ l, l ∈ cl ↔ l ∈ ya ∨ l ∈ yb) (L : ∀ x ∈ c.clauses, Lits c.names x)
    (e2 : cs' = pre ++ [ya ++ [sd b n], yb ++ [sd (!b) n]] ++ post) (L2 : ∀ x ∈ cs', Lits (c.names ++ [n]) x) : allowedL c.signs (onceUp cs' (c.names ++ [n])) (c.helpers ++ [n]) = allowedL c.signs c.clauses c.helpers := by
  unfold allowedL
  refine List.filter_congr fun s hs => ?_
  rw [Bool.eq_iff_iff, List.any_eq_true, List.any_eq_true]
  have lit : ∀ r ∈ fulls c.helpers, ∀ l ∈ s ++ r, LitN c.names l := fun r hr l hl => by
    rcases List.mem_append.mp hl with hl | hl
    · obtain ⟨m, hm, e⟩ := (paired_litN (fulls_paired hs)) l hl
      exact ⟨m, List.mem_append_left _ hm, e⟩
    · obtain ⟨m, hm, e⟩ := (paired_litN (fulls_paired hr)) l hl
      exact ⟨m, List.mem_append_right _ hm, e⟩
  constructor
  · rintro ⟨r, hr, f⟩
    obtain ⟨r0, z, rfl, p, hz⟩ := paired_snoc (fulls_paired hr)
    have hr0 := fulls_mem p
    refine ⟨r0, hr0, fitB_iff.mpr ((part_fits (b := b) nm hn hnn e hp L (lit r0 hr0)).mp ⟨z, hz, ?_⟩)⟩
    rw [fit_up L2, fitB_iff, e2, show s ++ (r0 ++ [z]) = s ++ r0 ++ [z] from (List.append_assoc _ _ _).symm] at f
    exact f
  · rintro ⟨r, hr, f⟩
    obtain ⟨z, hz, f⟩ := (part_fits (b := b) nm hn hnn e hp L (lit r hr)).mpr (fitB_iff.mp f)
    refine ⟨r ++ [z], fulls_mem (pd_app (fulls_paired hr) (.cons hz .nil)), ?_⟩
    rw [fit_up L2, fitB_iff, e2, ← List.append_assoc]
    exact f
where
  paired_litN : ∀ {ns s : List Str}, Paired Side ns s → ∀ l ∈ s, LitN ns l
    | _, _, .nil, l, h => by cases h
    | _, _, .cons hh hr, l, h => by
      rcases List.mem_cons.mp h with e | h
      · exact ⟨_, List.mem_cons_self .., by rw [e]; exact hh⟩
      · obtain ⟨m, hm, e⟩ := paired_litN hr l h
        exact ⟨m, List.mem_cons_of_mem _ hm, e⟩
/-! the lifted code: the same rule; it sees -/
section
variable {c : CodeD} {ws : List Str}
theorem lifted_sames (W : LiftW c ws) (X : LiftPre c) : (∀ d ∈ liftC c (outW c ws) (dlW c ws), ∃ d' ∈ (madeOf (liftD c ws)).clauses, ∀ x, x ∈ d ↔ x ∈ d') ∧ ∀ d ∈ (madeOf (liftD c ws)).clauses, ∃ d' ∈ liftC c (outW c ws) (dlW c ws), ∀ x, x ∈ d ↔ x ∈ d' := up_sames (W.lits X.l X.n X.s)
theorem der_set {cs : List (List Str)} {h g : List Str} (e : ∀ x ∈ h, x ∈ g) {x : Str} (d : Der cs h x) : Der cs g x := by
  induction d with
  | base hx => exact .base (e _ hx)
  | step hc hl _ ih => exact .step hc hl ih
theorem dead_set {cs : List (List Str)} {h g : List Str} (e : ∀ x ∈ h, x ∈ g) : Dead cs h → Dead cs g := fun ⟨k, hk, hd⟩ => ⟨k, hk, fun m hm => der_set e (hd m hm)⟩
theorem lifted_sees (W : LiftW c ws) (X : LiftPre c) (see : ∀ h ∈ halves c.signs, Dead c.clauses h ∨ forcedL (allowedL c.signs c.clauses c.helpers) h ≠ none) {h : List Str} (hh : h ∈ halves c.signs) :
    Dead (madeOf (liftD c ws)).clauses h ∨ ∃ f, forcedL (allowedL c.signs c.clauses c.helpers) h = some f ∧ ∀ l ∈ f, Der (madeOf (liftD c ws)).clauses h l := by
  obtain ⟨h1, h2⟩ := lifted_sames W X
  have sg := W.sg
  have Lh := halves_lits sg h hh
  rcases see h hh with d | ne
  · obtain ⟨k, hk, hd⟩ := d
    exact .inl (dead_to h1 ⟨k, mem_lift.mpr (.inl hk), fun m hm => der_to (fun d hd => ⟨d, mem_lift.mpr (.inl hd), fun _ => .rfl⟩) (hd m hm)⟩)
  · refine .inr ?_
    rcases forced_cases (ss := allowedL c.signs c.clauses c.helpers) (h := h) with ⟨e, _⟩ | ⟨s, r, f, ef, e, mem⟩
    · exact absurd e ne
    refine ⟨f, e, fun l hl => ?_⟩
    obtain ⟨ls, lh, all⟩ := (mem l).mp hl
    have sf : s ∈ fits (allowedL c.signs c.clauses c.helpers) h := by rw [ef]; exact List.mem_cons_self ..
    have sin : s ∈ allowedL c.signs c.clauses c.helpers ∧ ∀ x ∈ h, x ∈ s := by
      unfold fits at sf
      obtain ⟨a, b⟩ := List.mem_filter.mp sf
      exact ⟨a, fun x hx => of_decide_eq_true (List.all_eq_true.mp b x hx)⟩
    have sfull : s ∈ fulls c.signs := (List.mem_filter.mp sin.1).1
    have ll : l ∈ litsOf c.signs := mem_litsOf.mpr ((full_lits sg sfull).of l ls)
    obtain ⟨n, hn, b, rfl⟩ := lits_sd.mp ll
    have on : opp (sd b n) = sd (!b) n := opp_sd (sg.nm n hn)
    have oo := opp_lit sg ll
    have noth : ∀ d, sd d n ∉ h := fun d hd => by
      have := sin.2 _ hd
      by_cases e : d = b
      · subst e; exact lh hd
      · have e2 : d = !b := by cases d <;> cases b <;> simp_all
        rw [e2, ← on] at this
        exact full_con sg sfull ls this
    -- with the opposite nothing is allowed
    have L2 : Lits c.signs (h ++ [opp (sd b n)]) := by
      refine ⟨?_, fun x hx => ?_⟩
      · rw [List.map_append, on]
        refine List.nodup_append.mpr ⟨Lh.nd, by simp, fun a ha z hz ez => ?_⟩
        rw [List.map_cons, List.map_nil, List.mem_singleton, sd_name (sg.nm n hn)] at hz
        subst hz
        subst ez
        obtain ⟨y, hy, ey⟩ := List.mem_map.mp ha
        obtain ⟨p, hp, d, rfl⟩ := litN_sd.mp (Lh.of y hy)
        rw [sd_name (sg.nm p hp)] at ey
        subst ey
        exact noth d hy
      · rcases List.mem_append.mp hx with hx | hx
        · exact Lh.of x hx
        · rw [List.mem_singleton.mp hx]
          exact mem_litsOf.mp oo.1
    have one : ∀ m ∈ c.signs, ¬ (m ∈ h ++ [opp (sd b n)] ∧ ("-" : Str) ++ m ∈ h ++ [opp (sd b n)]) := fun m hm ⟨a1, a2⟩ => by
      have hb := L2.nd
      have e := nm_inj hb a1 a2 (by rw [nameOf_nm (sg.nm m hm), nameOf_neg (sg.nm m hm)])
      exact neg_ne (sg.nm m hm) e
    have h2 := halves_all one
    have none2 : forcedL (allowedL c.signs c.clauses c.helpers) (asc (h ++ [opp (sd b n)]) c.signs) = none := by
      rcases forced_cases (ss := allowedL c.signs c.clauses c.helpers) (h := asc (h ++ [opp (sd b n)]) c.signs) with ⟨e, _⟩ | ⟨t, r2, f2, ef2, _, _⟩
      · exact e
      · exfalso
        have tf : t ∈ fits (allowedL c.signs c.clauses c.helpers) (asc (h ++ [opp (sd b n)]) c.signs) := by rw [ef2]; exact List.mem_cons_self ..
        unfold fits at tf
        obtain ⟨ta, tb⟩ := List.mem_filter.mp tf
        have tin : ∀ x ∈ h ++ [opp (sd b n)], x ∈ t := fun x hx => of_decide_eq_true (List.all_eq_true.mp tb x ((asc_same L2 x).mpr hx))
        have tf2 : t ∈ fits (allowedL c.signs c.clauses c.helpers) h := in_fits ta fun x hx => tin x (List.mem_append_left _ hx)
        rw [ef] at tf2
        exact full_con sg (List.mem_filter.mp ta).1 (all t tf2) (tin _ (List.mem_append_right _ (List.mem_singleton.mpr rfl)))
    rcases see _ h2 with d | ne2
    · have d2 : Dead c.clauses (h ++ [opp (sd b n)]) := dead_set (fun x hx => (asc_same L2 x).mp hx) d
      have := lift_der X.nm sg X.l W.new (a := opp (sd b n)) oo.1 (fun y hy => mem_litsOf.mpr (Lh.of y hy)) d2
      rw [oo.2] at this
      exact der_to h1 this
    · exact absurd none2 ne2
where
  nm_inj : ∀ {ys : List Str} {a b : Str}, (ys.map nameOf).Nodup → a ∈ ys → b ∈ ys → nameOf a = nameOf b → a = b
    | [], _, _, _, h, _, _ => by cases h
    | y :: ys, a, b, nd, ha, hb, e => by
      rw [List.map_cons, List.nodup_cons] at nd
      rcases List.mem_cons.mp ha with ea | ha1 <;> rcases List.mem_cons.mp hb with eb | hb1
      · rw [ea, eb]
      · exact absurd (by rw [← ea, e]; exact List.mem_map_of_mem (f := nameOf) hb1) nd.1
      · exact absurd (by rw [← eb, ← e]; exact List.mem_map_of_mem (f := nameOf) ha1) nd.1
      · exact nm_inj nd.2 ha1 hb1 e
end
end My

set_option Elab.async false
set_option linter.all false
set_option maxRecDepth 100000
set_option maxHeartbeats 2000000
namespace My
open PySem PySem.Spec PyProof.Rows L2 L3
/-! one code or the other, plainly -/
def sideC (c : CodeD) (o : Str) (d : Str → Str) : List (List Str) := laidC c o d ++ (litsOf c.names).map fun x => [("-" : Str) ++ o, d x]
def eithC (c1 c2 : CodeD) (o1 o2 : Str) (d1 d2 : Str → Str) : List (List Str) := [[("-" : Str) ++ o1, ("-" : Str) ++ o2]] ++ sideC c1 o1 d1 ++ sideC c2 o2 d2 ++ (litsOf c1.signs).map fun l => [("-" : Str) ++ d1 l, ("-" : Str) ++ d2 l, opp l]
theorem mem_side {c : CodeD} {o : Str} {d : Str → Str} {k : List Str} : k ∈ sideC c o d ↔ k ∈ laidC c o d ∨ ∃ x ∈ litsOf c.names, k = [("-" : Str) ++ o, d x] := by
  unfold sideC
  rw [List.mem_append, List.mem_map]
  exact or_congr .rfl ⟨fun ⟨x, h1, h2⟩ => ⟨x, h1, h2.symm⟩, fun ⟨x, h1, h2⟩ => ⟨x, h1, h2.symm⟩⟩
theorem mem_eith {c1 c2 : CodeD} {o1 o2 : Str} {d1 d2 : Str → Str} {k : List Str} : k ∈ eithC c1 c2 o1 o2 d1 d2 ↔ k = [("-" : Str) ++ o1, ("-" : Str) ++ o2] ∨ k ∈ sideC c1 o1 d1 ∨ k ∈ sideC c2 o2 d2 ∨ ∃ l ∈ litsOf c1.signs, k = [("-" : Str) ++ d1 l, ("-" : Str) ++ d2 l, opp l] := by
  unfold eithC
  simp only [List.mem_append, List.mem_singleton, List.mem_map]
  constructor
  · rintro (((h | h) | h) | ⟨l, h1, h2⟩)
    · exact .inl h
    · exact .inr (.inl h)
    · exact .inr (.inr (.inl h))
    · exact .inr (.inr (.inr ⟨l, h1, h2.symm⟩))
  · rintro (h | h | h | ⟨l, h1, h2⟩)
    · exact .inl (.inl (.inl h))
    · exact .inl (.inl (.inr h))
    · exact .inl (.inr h)
    · exact .inr ⟨l, h1, h2.symm⟩
/-- a dead end is seen wherever nothing is allowed -/
def DeadC (c : CodeD) : Prop := ∀ h, Lits c.signs h → (∀ s ∈ allowedL c.signs c.clauses c.helpers, ¬ ∀ x ∈ h, x ∈ s) → Dead c.clauses h
section
variable {c : CodeD} {o : Str} {d : Str → Str} {L : List (List Str)} {h : List Str}
/-- the signs that are so are told to the copy -/
theorem copy_start (X : CopyIn c o d L) (sn : NmL c.signs) (hh : ∀ y ∈ h, y ∈ litsOf c.signs) : ∀ y ∈ h, y ∈ litsOf c.names ∧ Der L h (d (opp y)) := fun y hy => by
  have hs := hh y hy
  refine ⟨signs_lits hs, ?_⟩
  have ho := opp_lit sn hs
  refine .step (X.sub _ (mem_laid.mpr (.inr (.inr (.inr ⟨opp y, ho.1, rfl⟩))))) (by simp) fun m hm ne => ?_
  simp only [List.mem_cons, List.not_mem_nil, or_false] at hm
  rcases hm with rfl | rfl
  · rw [ho.2]; exact .base hy
  · exact absurd rfl ne
/-- a copy that is out denies all -/
theorem side_out (sub : ∀ k ∈ sideC c o d, k ∈ L) (ho : isNm o = true) (x : Str) (hx : x ∈ litsOf c.names) (od : Der L h o) : Der L h (d x) := by
  refine .step (sub _ (mem_side.mpr (.inr ⟨x, hx, rfl⟩))) (by simp) fun m hm ne => ?_
  simp only [List.mem_cons, List.not_mem_nil, or_false] at hm
  rcases hm with rfl | rfl
  · rw [opp_min ho]; exact od
  · exact absurd rfl ne
end
/-- what is known of two codes of the same signs and of the names of their copies -/
structure EithW (c1 c2 : CodeD) (o1 o2 : Str) (d1 d2 : Str → Str) : Prop where
  n1 : NmL c1.names
  n2 : NmL c2.names
  s1 : NmL c1.signs
  s2 : NmL c2.signs
  l1 : ∀ k ∈ c1.clauses, Lits c1.names k
  l2 : ∀ k ∈ c2.clauses, Lits c2.names k
  sg : ∀ n, n ∈ c1.signs ↔ n ∈ c2.signs
  o1 : isNm o1 = true
  o2 : isNm o2 = true
  d1 : ∀ x ∈ litsOf c1.names, isNm (d1 x) = true
  d2 : ∀ x ∈ litsOf c2.names, isNm (d2 x) = true
section
variable {c1 c2 : CodeD} {o1 o2 : Str} {d1 d2 : Str → Str} {h : List Str}
theorem EithW.lits (W : EithW c1 c2 o1 o2 d1 d2) (l : Str) : l ∈ litsOf c1.signs ↔ l ∈ litsOf c2.signs := by
  rw [lits_sd, lits_sd]
  exact ⟨fun ⟨n, hn, e⟩ => ⟨n, (W.sg n).mp hn, e⟩, fun ⟨n, hn, e⟩ => ⟨n, (W.sg n).mpr hn, e⟩⟩
theorem EithW.x1 (W : EithW c1 c2 o1 o2 d1 d2) : CopyIn c1 o1 d1 (eithC c1 c2 o1 o2 d1 d2) := ⟨W.n1, W.l1, fun k hk => mem_eith.mpr (.inr (.inl (mem_side.mpr (.inl hk)))), W.d1⟩
theorem EithW.x2 (W : EithW c1 c2 o1 o2 d1 d2) : CopyIn c2 o2 d2 (eithC c1 c2 o1 o2 d1 d2) := ⟨W.n2, W.l2, fun k hk => mem_eith.mpr (.inr (.inr (.inl (mem_side.mpr (.inl hk))))), W.d2⟩
theorem EithW.out1 (W : EithW c1 c2 o1 o2 d1 d2) (hh : ∀ y ∈ h, y ∈ litsOf c1.signs) (dd : Dead c1.clauses h) : Der (eithC c1 c2 o1 o2 d1 d2) h o1 := copy_dead W.x1 (copy_start W.x1 W.s1 hh) dd
theorem EithW.out2 (W : EithW c1 c2 o1 o2 d1 d2) (hh : ∀ y ∈ h, y ∈ litsOf c1.signs) (dd : Dead c2.clauses h) : Der (eithC c1 c2 o1 o2 d1 d2) h o2 := copy_dead W.x2 (copy_start W.x2 W.s2 fun y hy => (W.lits y).mp (hh y hy)) dd
/-- both out: a dead end -/
theorem EithW.dead (W : EithW c1 c2 o1 o2 d1 d2) (hh : ∀ y ∈ h, y ∈ litsOf c1.signs) (e1 : Dead c1.clauses h) (e2 : Dead c2.clauses h) : Dead (eithC c1 c2 o1 o2 d1 d2) h := by
  refine ⟨_, mem_eith.mpr (.inl rfl), fun m hm => ?_⟩
  simp only [List.mem_cons, List.not_mem_nil, or_false] at hm
  rcases hm with rfl | rfl
  · rw [opp_min W.o1]; exact W.out1 hh e1
  · rw [opp_min W.o2]; exact W.out2 hh e2
/-- out, or it draws: what both deny is denied -/
theorem EithW.draws (W : EithW c1 c2 o1 o2 d1 d2) (hh : ∀ y ∈ h, y ∈ litsOf c1.signs) {l : Str} (hl : l ∈ litsOf c1.signs) (e1 : Dead c1.clauses h ∨ Der c1.clauses h l) (e2 : Dead c2.clauses h ∨ Der c2.clauses h l) : Der (eithC c1 c2 o1 o2 d1 d2) h l := by
  have ho := opp_lit W.s1 hl
  have h1 := signs_lits ho.1
  have h2 := signs_lits ((W.lits _).mp ho.1)
  have a1 : Der (eithC c1 c2 o1 o2 d1 d2) h (d1 (opp l)) := by
    rcases e1 with e | e
    · exact side_out (fun k hk => mem_eith.mpr (.inr (.inl hk))) W.o1 _ h1 (W.out1 hh e)
    · exact (copy_der W.x1 (copy_start W.x1 W.s1 hh) e).2
  have a2 : Der (eithC c1 c2 o1 o2 d1 d2) h (d2 (opp l)) := by
    rcases e2 with e | e
    · exact side_out (fun k hk => mem_eith.mpr (.inr (.inr (.inl hk)))) W.o2 _ h2 (W.out2 hh e)
    · exact (copy_der W.x2 (copy_start W.x2 W.s2 fun y hy => (W.lits y).mp (hh y hy)) e).2
  have : l = opp (opp l) := ho.2.symm
  refine .step (mem_eith.mpr (.inr (.inr (.inr ⟨opp l, ho.1, rfl⟩)))) (by rw [← this]; simp) fun m hm ne => ?_
  simp only [List.mem_cons, List.not_mem_nil, or_false] at hm
  rcases hm with rfl | rfl | rfl
  · rw [opp_min (W.d1 _ h1)]; exact a1
  · rw [opp_min (W.d2 _ h2)]; exact a2
  · exact absurd this.symm ne
end
/-! what it allows -/
/-- one side has a setting, the other one is out -/
theorem side_model {ca cb : CodeD} {oa ob : Str} {da db : Str → Str} {ns s : List Str} (NM : NmL ns) (na : NmL ca.names) (nb : NmL cb.names) (sa : NmL ca.signs) (la : ∀ k ∈ ca.clauses, Lits ca.names k) (lb : ∀ k ∈ cb.clauses, Lits cb.names k) (sgs : ∀ n ∈ cb.signs, n ∈ ca.signs)
    (hs : s ∈ fulls ca.signs) (is : ∀ n ∈ ca.signs, n ∈ ns) (io : oa ∈ ns ∧ ob ∈ ns) (ida : ∀ x ∈ litsOf ca.names, da x ∈ ns) (idb : ∀ x ∈ litsOf cb.names, db x ∈ ns)
    (u1 : oa ∉ ca.signs ∧ ob ∉ ca.signs ∧ oa ≠ ob) (u2 : ∀ x ∈ litsOf ca.names, da x ∉ ca.signs ∧ da x ≠ oa ∧ da x ≠ ob) (u3 : ∀ x ∈ litsOf cb.names, db x ∉ ca.signs ∧ db x ≠ oa ∧ db x ≠ ob) (u4 : ∀ x ∈ litsOf ca.names, ∀ y ∈ litsOf ca.names, da x = da y → x = y) (u5 : ∀ x ∈ litsOf ca.names, ∀ y ∈ litsOf cb.names, da x ≠ db y)
    (sat : Sat ca.names ca.clauses s) : ∃ t, Paired Side ns t ∧ (∀ x ∈ s, x ∈ t) ∧ ("-" : Str) ++ oa ∈ t ∧ (∀ k ∈ sideC ca oa da, ∃ m ∈ k, m ∈ t) ∧ (∀ k ∈ sideC cb ob db, ∃ m ∈ k, m ∈ t) ∧ ∀ l ∈ litsOf ca.signs, ("-" : Str) ++ da l ∈ t ∨ opp l ∈ t := by
  classical
  obtain ⟨t0, p, sub, f⟩ := sat
  obtain ⟨β, rfl⟩ := paired_set p na.nd
  obtain ⟨α, rfl⟩ := full_set sa.nd hs
  let γ : Str → Bool := fun m => if m ∈ ca.signs then α m else if m = oa then false else if ∃ x ∈ litsOf ca.names, m = da x ∧ x ∈ setOf β ca.names then false else true
  have at_ : ∀ n ∈ ns, ∀ b, γ n = b → sd b n ∈ setOf γ ns := fun n hn b e => (sd_in NM hn).mpr e
  have gs : ∀ n ∈ ca.signs, γ n = α n := fun n hn => if_pos hn
  have ga : γ oa = false := by
    show (if oa ∈ ca.signs then _ else if oa = oa then false else _) = false
    rw [if_neg u1.1, if_pos rfl]
  have gb : γ ob = true := by
    show (if ob ∈ ca.signs then _ else if ob = oa then false else _) = true
    rw [if_neg u1.2.1, if_neg (Ne.symm u1.2.2), if_neg (fun ⟨x, hx, e, _⟩ => (u2 x hx).2.2 e.symm)]
  have gda : ∀ x ∈ litsOf ca.names, (γ (da x) = false ↔ x ∈ setOf β ca.names) := fun x hx => by
    show (if da x ∈ ca.signs then _ else if da x = oa then false else _) = false ↔ _
    rw [if_neg (u2 x hx).1, if_neg (u2 x hx).2.1]
    by_cases q : x ∈ setOf β ca.names
    · rw [if_pos ⟨x, hx, rfl, q⟩]; exact ⟨fun _ => q, fun _ => rfl⟩
    · rw [if_neg (fun ⟨y, hy, e, h⟩ => q (by rw [u4 x hx y hy e]; exact h))]
      exact ⟨fun z => (nomatch z), fun z => absurd z q⟩
  have gdb : ∀ x ∈ litsOf cb.names, γ (db x) = true := fun x hx => by
    show (if db x ∈ ca.signs then _ else if db x = oa then false else _) = true
    rw [if_neg (u3 x hx).1, if_neg (u3 x hx).2.1, if_neg (fun ⟨y, hy, e, _⟩ => u5 y hy x hx e.symm)]
  have tb : ∀ x ∈ litsOf cb.names, db x ∈ setOf γ ns := fun x hx => at_ _ (idb x hx) true (gdb x hx)
  have ta : ∀ x ∈ litsOf ca.names, x ∉ setOf β ca.names → da x ∈ setOf γ ns := fun x hx q => at_ _ (ida x hx) true (by
    cases e : γ (da x) with
    | true => rfl
    | false => exact absurd ((gda x hx).mp e) q)
  have fa : ∀ x ∈ litsOf ca.names, x ∈ setOf β ca.names → ("-" : Str) ++ da x ∈ setOf γ ns := fun x hx q => at_ _ (ida x hx) false ((gda x hx).mpr q)
  have oppC : ∀ l ∈ litsOf ca.names, l ∉ setOf β ca.names → opp l ∈ setOf β ca.names := fun l hl h => by
    obtain ⟨n, hn, b, rfl⟩ := lits_sd.mp hl
    rw [opp_sd (na.nm n hn)]
    refine (sd_in na hn).mpr ?_
    have : ¬ β n = b := fun e => h ((sd_in na hn).mpr e)
    cases b <;> cases e : β n <;> simp_all
  have notB : ∀ l ∈ litsOf ca.names, l ∈ setOf β ca.names → opp l ∉ setOf β ca.names := fun l hl h => full_con na (setOf_mem β ca.names) h
  have cs : ∀ l ∈ litsOf ca.signs, l ∈ setOf β ca.names → l ∈ setOf γ ns := fun l hl h => by
    obtain ⟨n, hn, b, rfl⟩ := lits_sd.mp hl
    refine at_ n (is n hn) b ?_
    rw [gs n hn]
    have h1 := sub (sd (α n) n) (List.mem_map_of_mem (f := fun n => sd (α n) n) hn)
    have e1 := (sd_in na (List.mem_append_left _ hn)).mp h1
    have e2 := (sd_in na (List.mem_append_left _ hn)).mp h
    rw [← e1, e2]
  refine ⟨setOf γ ns, fulls_paired (setOf_mem γ ns), fun x hx => cs x (setOf_lits hx) (sub x hx), at_ _ io.1 false ga, fun k hk => ?_, fun k hk => ?_, fun l hl => ?_⟩
  · rcases mem_side.mp hk with hk | ⟨x, hx, rfl⟩
    · rcases mem_laid.mp hk with ⟨h1, rfl⟩ | ⟨r, h1, x, h2, rfl⟩ | ⟨n, hn, rfl⟩ | ⟨x, hx, rfl⟩
      · obtain ⟨_, h2, _⟩ := f [] h1
        cases h2
      · have lit : ∀ m ∈ r, m ∈ litsOf ca.names := fun m hm => mem_litsOf.mpr ((la r h1).of m hm)
        obtain ⟨m, hm, hs⟩ := f r h1
        unfold drawK
        by_cases e : m = x
        · subst e
          exact ⟨da (opp m), by simp, ta _ (opp_lit na (lit m hm)).1 (notB m (lit m hm) hs)⟩
        · exact ⟨("-" : Str) ++ da m, List.mem_append_left _ (List.mem_map.mpr ⟨m, List.mem_filter.mpr ⟨hm, decide_eq_true e⟩, rfl⟩), fa m (lit m hm) hs⟩
      · have l1 : n ∈ litsOf ca.names := lits_sd.mpr ⟨n, hn, true, rfl⟩
        have l2 : ("-" : Str) ++ n ∈ litsOf ca.names := lits_sd.mpr ⟨n, hn, false, rfl⟩
        by_cases e : n ∈ setOf β ca.names
        · exact ⟨("-" : Str) ++ da n, by simp, fa n l1 e⟩
        · have := oppC n l1 e
          rw [opp_nm (na.nm n hn)] at this
          exact ⟨("-" : Str) ++ da (("-" : Str) ++ n), by simp, fa _ l2 this⟩
      · by_cases e : x ∈ setOf β ca.names
        · exact ⟨x, by simp, cs x hx e⟩
        · exact ⟨da x, by simp, ta x (signs_lits hx) e⟩
    · exact ⟨("-" : Str) ++ oa, by simp, at_ _ io.1 false ga⟩
  · rcases mem_side.mp hk with hk | ⟨x, hx, rfl⟩
    · rcases mem_laid.mp hk with ⟨h1, rfl⟩ | ⟨r, h1, x, h2, rfl⟩ | ⟨n, hn, rfl⟩ | ⟨x, hx, rfl⟩
      · exact ⟨ob, by simp, at_ _ io.2 true gb⟩
      · exact ⟨db (opp x), by unfold drawK; simp, tb _ (opp_lit nb (mem_litsOf.mpr ((lb r h1).of x h2))).1⟩
      · exact ⟨ob, by simp, at_ _ io.2 true gb⟩
      · exact ⟨db x, by simp, tb x (signs_lits hx)⟩
    · exact ⟨db x, by simp, tb x hx⟩
  · by_cases e : l ∈ setOf β ca.names
    · exact .inl (fa l (signs_lits hl) e)
    · have ho := opp_lit sa hl
      exact .inr (cs _ ho.1 (oppC l (signs_lits hl) e))
/-! the names of the copies, as they are taken off a list of new ones -/
def o1W (ws : List Str) : Str := ws.getD 0 ""
def d1W (c1 : CodeD) (ws : List Str) (x : Str) : Str := ws.getD (1 + posn (litsOf c1.names) x) ""
def o2W (c1 : CodeD) (ws : List Str) : Str := ws.getD (kN c1) ""
def d2W (c1 c2 : CodeD) (ws : List Str) (x : Str) : Str := ws.getD (kN c1 + (1 + posn (litsOf c2.names) x)) ""
structure EithV (c1 c2 : CodeD) (ws : List Str) : Prop where
  n1 : NmL c1.names
  n2 : NmL c2.names
  l1 : ∀ k ∈ c1.clauses, Lits c1.names k
  l2 : ∀ k ∈ c2.clauses, Lits c2.names k
  sg : ∀ n, n ∈ c1.signs ↔ n ∈ c2.signs
  w : NewNm (c1.names ++ c2.names) (kN c1 + kN c2) ws
theorem sgn_nm {c : CodeD} (nm : NmL c.names) : NmL c.signs := ⟨(List.nodup_append.mp (show (c.signs ++ c.helpers).Nodup from nm.nd)).1, fun n hn => nm.nm n (List.mem_append_left _ hn), Nat.le_trans (by show c.signs.length ≤ (c.signs ++ c.helpers).length; rw [List.length_append]; omega) nm.n⟩
section
variable {c1 c2 : CodeD} {ws : List Str}
theorem EithV.i0 (V : EithV c1 c2 ws) : 0 < ws.length := by rw [V.w.n]; unfold kN; omega
theorem EithV.i1 (V : EithV c1 c2 ws) {x : Str} (hx : x ∈ litsOf c1.names) : 1 + posn (litsOf c1.names) x < kN c1 := LiftW.pin hx
theorem EithV.i2 (V : EithV c1 c2 ws) {x : Str} (hx : x ∈ litsOf c2.names) : 1 + posn (litsOf c2.names) x < kN c2 := LiftW.pin hx
theorem EithV.k (V : EithV c1 c2 ws) : ws.length = kN c1 + kN c2 ∧ 1 ≤ kN c1 ∧ 1 ≤ kN c2 := ⟨V.w.n, by unfold kN; omega, by unfold kN; omega⟩
theorem EithV.ap (V : EithV c1 c2 ws) {i j : Nat} (hi : i < ws.length) (hj : j < ws.length) (e : ws.getD i "" = ws.getD j "") : i = j := nodup_at V.w.nd (getD_atW hi) (by rw [e]; exact getD_atW hj)
theorem EithV.nm (V : EithV c1 c2 ws) {i : Nat} (hi : i < ws.length) : isNm (ws.getD i "") = true ∧ ws.getD i "" ∉ c1.names ∧ ws.getD i "" ∉ c2.names := by
  have h := V.w.nm _ (getD_mem hi)
  exact ⟨h.1, fun z => h.2 (List.mem_append_left _ z), fun z => h.2 (List.mem_append_right _ z)⟩
theorem EithV.W (V : EithV c1 c2 ws) : EithW c1 c2 (o1W ws) (o2W c1 ws) (d1W c1 ws) (d2W c1 c2 ws) := by
  obtain ⟨k0, k1, k2⟩ := V.k
  exact ⟨V.n1, V.n2, sgn_nm V.n1, sgn_nm V.n2, V.l1, V.l2, V.sg, (V.nm V.i0).1, (V.nm (by omega)).1, fun x hx => (V.nm (by have := V.i1 hx; omega)).1, fun x hx => (V.nm (by have := V.i2 hx; omega)).1⟩
theorem EithV.mem (V : EithV c1 c2 ws) : (o1W ws ∈ ws ∧ o2W c1 ws ∈ ws) ∧ (∀ x ∈ litsOf c1.names, d1W c1 ws x ∈ ws) ∧ ∀ x ∈ litsOf c2.names, d2W c1 c2 ws x ∈ ws := by
  obtain ⟨k0, k1, k2⟩ := V.k
  exact ⟨⟨getD_mem V.i0, getD_mem (by omega)⟩, fun x hx => getD_mem (by have := V.i1 hx; omega), fun x hx => getD_mem (by have := V.i2 hx; omega)⟩
theorem EithV.new (V : EithV c1 c2 ws) {y : Str} (h : y ∈ ws) : y ∉ c1.signs ∧ y ∉ c2.signs := by
  have h := V.w.nm _ h
  exact ⟨fun z => h.2 (List.mem_append_left _ (List.mem_append_left _ z)), fun z => h.2 (List.mem_append_right _ (List.mem_append_left _ z))⟩
theorem EithV.un (V : EithV c1 c2 ws) : o1W ws ≠ o2W c1 ws ∧ (∀ x ∈ litsOf c1.names, d1W c1 ws x ≠ o1W ws ∧ d1W c1 ws x ≠ o2W c1 ws) ∧ (∀ x ∈ litsOf c2.names, d2W c1 c2 ws x ≠ o1W ws ∧ d2W c1 c2 ws x ≠ o2W c1 ws) ∧ (∀ x ∈ litsOf c1.names, ∀ y ∈ litsOf c1.names, d1W c1 ws x = d1W c1 ws y → x = y) ∧ (∀ x ∈ litsOf c2.names, ∀ y ∈ litsOf c2.names, d2W c1 c2 ws x = d2W c1 c2 ws y → x = y) ∧ ∀ x ∈ litsOf c1.names, ∀ y ∈ litsOf c2.names, d1W c1 ws x ≠ d2W c1 c2 ws y := by
  obtain ⟨k0, k1, k2⟩ := V.k
  have i0 := V.i0
  have a1 : ∀ {x}, x ∈ litsOf c1.names → 1 + posn (litsOf c1.names) x < ws.length := fun hx => by have := V.i1 hx; omega
  have a2 : ∀ {x}, x ∈ litsOf c2.names → kN c1 + (1 + posn (litsOf c2.names) x) < ws.length := fun hx => by have := V.i2 hx; omega
  refine ⟨fun e => ?_, fun x hx => ⟨fun e => ?_, fun e => ?_⟩, fun x hx => ⟨fun e => ?_, fun e => ?_⟩, fun x hx y hy e => ?_, fun x hx y hy e => ?_, fun x hx y hy e => ?_⟩
  · have := V.ap i0 (by omega) e; omega
  · have := V.ap (a1 hx) i0 e; omega
  · have := V.ap (a1 hx) (by omega) e; have := V.i1 hx; omega
  · have := V.ap (a2 hx) i0 e; omega
  · have := V.ap (a2 hx) (by omega) e; omega
  · have := V.ap (a1 hx) (a1 hy) e; exact LiftW.pl hx hy (by omega)
  · have := V.ap (a2 hx) (a2 hy) e; exact LiftW.pl hx hy (by omega)
  · have := V.ap (a1 hx) (a2 hy) e; have := V.i1 hx; omega
def eithD (c1 c2 : CodeD) (ws : List Str) : CodeD := ⟨c1.signs, ws, eithC c1 c2 (o1W ws) (o2W c1 ws) (d1W c1 ws) (d2W c1 c2 ws)⟩
theorem EithV.nmL (V : EithV c1 c2 ws) (n : c1.names.length ≤ 5 ∧ c2.names.length ≤ 5) : NmL (eithD c1 c2 ws).names := by
  have s1 := sgn_nm V.n1
  have hl : c1.signs.length ≤ c1.names.length := by show _ ≤ (c1.signs ++ c1.helpers).length; rw [List.length_append]; omega
  refine ⟨List.nodup_append.mpr ⟨s1.nd, V.w.nd, fun a ha b hb e => (V.new hb).1 (e ▸ ha)⟩, fun m hm => ?_, ?_⟩
  · rcases List.mem_append.mp (show m ∈ c1.signs ++ ws from hm) with hm | hm
    · exact s1.nm m hm
    · exact (V.w.nm m hm).1
  · show (c1.signs ++ ws).length ≤ _
    rw [List.length_append, V.w.n]
    unfold kN
    omega
/-- what is allowed: what one of the two allows -/
theorem eith_sat (V : EithV c1 c2 ws) (n : c1.names.length ≤ 5 ∧ c2.names.length ≤ 5) (D1 : ∀ s ∈ fulls c1.signs, ¬ Sat c1.names c1.clauses s → Dead c1.clauses s) (D2 : ∀ s ∈ fulls c1.signs, ¬ Sat c2.names c2.clauses s → Dead c2.clauses s)
    (ctx : ∀ s ∈ fulls c1.signs, Ctx (eithD c1 c2 ws).names (eithD c1 c2 ws).clauses s) {s : List Str} (hs : s ∈ fulls c1.signs) : Sat (eithD c1 c2 ws).names (eithD c1 c2 ws).clauses s ↔ Sat c1.names c1.clauses s ∨ Sat c2.names c2.clauses s := by
  have W := V.W
  have NM := V.nmL n
  have hh : ∀ y ∈ s, y ∈ litsOf c1.signs := fun y hy => mem_litsOf.mpr ((full_lits W.s1 hs).of y hy)
  constructor
  · intro st
    apply Classical.byContradiction
    intro no
    have h1 : ¬ Sat c1.names c1.clauses s := fun z => no (.inl z)
    have h2 : ¬ Sat c2.names c2.clauses s := fun z => no (.inr z)
    exact dead_unsat (ctx s hs) (W.dead hh (D1 s hs h1) (D2 s hs h2)) st
  · obtain ⟨⟨m1, m2⟩, m3, m4⟩ := V.mem
    obtain ⟨u0, u1, u2, u3, u4, u5⟩ := V.un
    have inS : ∀ m ∈ c1.signs, m ∈ (eithD c1 c2 ws).names := fun m hm => List.mem_append_left _ hm
    have inW : ∀ {y}, y ∈ ws → y ∈ (eithD c1 c2 ws).names := fun h => List.mem_append_right _ h
    rintro (st | st)
    · obtain ⟨t, p, sub, e1, e2, e3, e4⟩ := side_model (ca := c1) (cb := c2) (oa := o1W ws) (ob := o2W c1 ws) (da := d1W c1 ws) (db := d2W c1 c2 ws) NM W.n1 W.n2 W.s1 W.l1 W.l2 (fun m hm => (W.sg m).mpr hm) hs inS ⟨inW m1, inW m2⟩ (fun x hx => inW (m3 x hx)) (fun x hx => inW (m4 x hx)) ⟨(V.new m1).1, (V.new m2).1, u0⟩ (fun x hx => ⟨(V.new (m3 x hx)).1, u1 x hx⟩) (fun x hx => ⟨(V.new (m4 x hx)).1, u2 x hx⟩) u3 u5 st
      refine ⟨t, p, sub, fun k hk => ?_⟩
      rcases mem_eith.mp hk with rfl | hk | hk | ⟨l, hl, rfl⟩
      · exact ⟨_, by simp, e1⟩
      · exact e2 k hk
      · exact e3 k hk
      · rcases e4 l hl with h | h
        · exact ⟨_, by simp, h⟩
        · exact ⟨_, by simp, h⟩
    · -- the other side; the settings of the signs in its own order
      have hs2 : asc s c2.signs ∈ fulls c2.signs := by
        obtain ⟨α, rfl⟩ := full_set W.s1.nd hs
        have e : asc (setOf α c1.signs) c2.signs = setOf α c2.signs := by
          have go : ∀ {ms : List Str}, (∀ x ∈ ms, x ∈ c1.signs) → asc (setOf α c1.signs) ms = setOf α ms := by
            intro ms
            induction ms with
            | nil => intro _; rfl
            | cons n ns ih =>
              intro h
              have hn := h n (List.mem_cons_self ..)
              have ih := ih fun x hx => h x (List.mem_cons_of_mem _ hx)
              show ([n, ("-" : Str) ++ n].filter fun l => decide (l ∈ setOf α c1.signs)) ++ asc (setOf α c1.signs) ns = sd (α n) n :: setOf α ns
              rw [ih]
              have e1 : (n ∈ setOf α c1.signs) ↔ α n = true := sd_in (b := true) W.s1 hn
              have e2 : (("-" : Str) ++ n ∈ setOf α c1.signs) ↔ α n = false := sd_in (b := false) W.s1 hn
              cases e : α n with
              | true =>
                rw [List.filter_cons, if_pos (decide_eq_true (e1.mpr e)), List.filter_cons, if_neg (by rw [decide_eq_true_eq, e2, e]; decide)]
                rfl
              | false =>
                rw [List.filter_cons, if_neg (by rw [decide_eq_true_eq, e1, e]; decide), List.filter_cons, if_pos (decide_eq_true (e2.mpr e))]
                rfl
          exact go fun x hx => (W.sg x).mpr hx
        rw [e]
        exact setOf_mem α _
      have same : ∀ x, x ∈ asc s c2.signs ↔ x ∈ s := asc_same ⟨(full_lits W.s1 hs).nd, fun x hx => by
        obtain ⟨m, hm, e⟩ := (full_lits W.s1 hs).of x hx
        exact ⟨m, (W.sg m).mp hm, e⟩⟩
      have st2 : Sat c2.names c2.clauses (asc s c2.signs) := by
        obtain ⟨t, p, sub, f⟩ := st
        exact ⟨t, p, fun x hx => sub x ((same x).mp hx), f⟩
      obtain ⟨t, p, sub, e1, e2, e3, e4⟩ := side_model (ca := c2) (cb := c1) (oa := o2W c1 ws) (ob := o1W ws) (da := d2W c1 c2 ws) (db := d1W c1 ws) NM W.n2 W.n1 W.s2 W.l2 W.l1 (fun m hm => (W.sg m).mp hm) hs2 (fun m hm => inS m ((W.sg m).mpr hm)) ⟨inW m2, inW m1⟩ (fun x hx => inW (m4 x hx)) (fun x hx => inW (m3 x hx)) ⟨(V.new m2).2, (V.new m1).2, Ne.symm u0⟩ (fun x hx => ⟨(V.new (m4 x hx)).2, (u2 x hx).2, (u2 x hx).1⟩) (fun x hx => ⟨(V.new (m3 x hx)).2, (u1 x hx).2, (u1 x hx).1⟩) u4 (fun x hx y hy => Ne.symm (u5 y hy x hx)) st2
      refine ⟨t, p, fun x hx => sub x ((same x).mpr hx), fun k hk => ?_⟩
      rcases mem_eith.mp hk with rfl | hk | hk | ⟨l, hl, rfl⟩
      · exact ⟨_, by simp, e1⟩
      · exact e3 k hk
      · exact e2 k hk
      · rcases e4 l ((W.lits l).mp hl) with h | h
        · exact ⟨_, by simp, h⟩
        · exact ⟨_, by simp, h⟩
end
end My

set_option Elab.async false
set_option linter.all false
set_option maxRecDepth 100000
set_option maxHeartbeats 2000000
namespace My
open PySem PySem.Spec PyProof.Rows L2 L3
/-! codes that see each dead end -/
theorem dead_more {cs ds : List (List Str)} {h : List Str} (sub : ∀ k ∈ cs, k ∈ ds) (d : Dead cs h) : Dead ds h := dead_to (fun k hk => ⟨k, sub k hk, fun _ => .rfl⟩) d
theorem dead_in {ds : List (List Str)} {x : List Str} (h : x ∈ ds) : Dead ds (x.map opp) := ⟨x, h, fun m hm => .base (List.mem_map_of_mem hm)⟩
/-- where nothing is allowed, a shortest consequence is denied -/
theorem half_out {ns h : List Str} {al : List (List Str)} (nm : NmL ns) (ha : ∀ t ∈ al, t ∈ fulls ns) (L : Lits ns h) (no : ∀ s ∈ al, ¬ ∀ x ∈ h, x ∈ s) : ∃ x ∈ shortestL ns al, ∀ l ∈ x, opp l ∈ h := by
  have key := short_any (ns := ns) (ss := al) (d := h.map opp) (fun t ht l hl _ => (full_lits nm (ha t ht)).of l hl) fun n hn ⟨h1, h2⟩ => by
    have N := neg_lits nm L
    have hb := N.nd
    have e := lifted_sees.nm_inj hb h1 h2 (by rw [nameOf_nm (nm.nm n hn), nameOf_neg (nm.nm n hn)])
    exact neg_ne (nm.nm n hn) e
  have c1 : isCons (h.map opp) al = true := isConsC_iff.mpr fun s hs => by
    apply Classical.byContradiction
    intro z
    refine no s hs fun x hx => Classical.byContradiction fun nx => z ⟨opp x, List.mem_map_of_mem hx, ?_⟩
    obtain ⟨α, rfl⟩ := full_set nm.nd (ha s hs)
    obtain ⟨p, hp, b, rfl⟩ := litN_sd.mp (L.of x hx)
    rw [opp_sd (nm.nm p hp)]
    refine (sd_in nm hp).mpr ?_
    have : ¬ α p = b := fun e => nx ((sd_in nm hp).mpr e)
    cases b <;> cases e : α p <;> simp_all
  rw [c1] at key
  obtain ⟨x, hx, hl⟩ := List.any_eq_true.mp key
  refine ⟨x, hx, fun l hlx => ?_⟩
  have h1 := List.all_eq_true.mp hl l hlx
  obtain ⟨m, hm, e⟩ := List.mem_map.mp (of_decide_eq_true h1)
  obtain ⟨p, hp, b, rfl⟩ := litN_sd.mp (L.of m hm)
  rw [← e, opp_sd (nm.nm p hp), opp_sd (nm.nm p hp), Bool.not_not]
  exact hm
/-- the mended code -/
theorem mend_dead {ns : List Str} {al ds : List (List Str)} (nm : NmL ns) (L : ∀ x ∈ ds, Lits ns x) (ha : al.Sublist (fulls ns)) (AL : allowedL ns (onceUp ds ns) [] = al) (hn : ∀ x ∈ shortestL ns al, Dead ds (x.map opp)) : DeadC ⟨ns, [], onceUp ds ns⟩ := fun h Lh no => by
  have no : ∀ s ∈ allowedL ns (onceUp ds ns) [], ¬ ∀ x ∈ h, x ∈ s := no
  rw [AL] at no
  obtain ⟨x, hx, e⟩ := half_out nm (fun t ht => ha.subset ht) Lh no
  exact dead_to (up_sames L).1 (dead_set (fun y hy => by obtain ⟨l, hl, rfl⟩ := List.mem_map.mp hy; exact e l hl) (hn x hx))
/-! parted by a helper -/
section
variable {names : List Str} {pre post : List (List Str)} {cl ya yb h : List Str} {n : Str} {b : Bool}
theorem part_der (hn : isNm n = true) (hp : ∀ l, l ∈ cl ↔ l ∈ ya ∨ l ∈ yb) (dj : ∀ l ∈ ya, l ∉ yb) {x : Str} (d : Der (pre ++ cl :: post) h x) : Der (pre ++ [ya ++ [sd b n], yb ++ [sd (!b) n]] ++ post) h x := by
  induction d with
  | base hy => exact .base hy
  | @step k x hk hx _ ih =>
    have old : k ∈ pre ∨ k ∈ post → Der (pre ++ [ya ++ [sd b n], yb ++ [sd (!b) n]] ++ post) h x := fun hk => .step (by rcases hk with h | h <;> simp [h]) hx ih
    rcases List.mem_append.mp hk with hk | hk
    · exact old (.inl hk)
    · rcases List.mem_cons.mp hk with rfl | hk
      · have go : ∀ (u w : List Str) (c : Bool), u ++ [sd c n] ∈ pre ++ [ya ++ [sd b n], yb ++ [sd (!b) n]] ++ post → w ++ [sd (!c) n] ∈ pre ++ [ya ++ [sd b n], yb ++ [sd (!b) n]] ++ post → (∀ l ∈ u, l ∈ k) → (∀ l ∈ w, l ∈ k) → x ∈ u → x ∉ w → Der (pre ++ [ya ++ [sd b n], yb ++ [sd (!b) n]] ++ post) h x := fun u w c hu hw su sw xu xw => by
          have e1 : Der (pre ++ [ya ++ [sd b n], yb ++ [sd (!b) n]] ++ post) h (sd (!c) n) := .step hw (by simp) fun m hm ne => by
            rcases List.mem_append.mp hm with hm | hm
            · exact ih m (sw m hm) fun e => xw (e ▸ hm)
            · exact absurd (List.mem_singleton.mp hm) ne
          refine .step hu (List.mem_append_left _ xu) fun m hm ne => ?_
          rcases List.mem_append.mp hm with hm | hm
          · exact ih m (su m hm) ne
          · rw [List.mem_singleton.mp hm, opp_sd hn]; exact e1
        rcases (hp x).mp hx with hy | hy
        · exact go ya yb b (by simp) (by simp) (fun l hl => (hp l).mpr (.inl hl)) (fun l hl => (hp l).mpr (.inr hl)) hy (dj x hy)
        · exact go yb ya (!b) (by simp) (by rw [Bool.not_not]; simp) (fun l hl => (hp l).mpr (.inr hl)) (fun l hl => (hp l).mpr (.inl hl)) hy fun z => dj x z hy
      · exact old (.inr hk)
theorem part_dead (hn : isNm n = true) (hp : ∀ l, l ∈ cl ↔ l ∈ ya ∨ l ∈ yb) (dj : ∀ l ∈ ya, l ∉ yb) (d : Dead (pre ++ cl :: post) h) : Dead (pre ++ [ya ++ [sd b n], yb ++ [sd (!b) n]] ++ post) h := by
  obtain ⟨k, hk, hd⟩ := d
  have ih : ∀ m ∈ k, Der (pre ++ [ya ++ [sd b n], yb ++ [sd (!b) n]] ++ post) h (opp m) := fun m hm => part_der hn hp dj (hd m hm)
  rcases List.mem_append.mp hk with hk | hk
  · exact ⟨k, by simp [hk], ih⟩
  · rcases List.mem_cons.mp hk with rfl | hk
    · have e1 : Der (pre ++ [ya ++ [sd b n], yb ++ [sd (!b) n]] ++ post) h (sd (!b) n) := .step (c := yb ++ [sd (!b) n]) (by simp) (by simp) fun m hm ne => by
        rcases List.mem_append.mp hm with hm | hm
        · exact ih m ((hp m).mpr (.inr hm))
        · exact absurd (List.mem_singleton.mp hm) ne
      refine ⟨ya ++ [sd b n], by simp, fun m hm => ?_⟩
      rcases List.mem_append.mp hm with hm | hm
      · exact ih m ((hp m).mpr (.inl hm))
      · rw [List.mem_singleton.mp hm, opp_sd hn]; exact e1
    · exact ⟨k, by simp [hk], ih⟩
end
theorem parted_dead {c : CodeD} {pre post cs' : List (List Str)} {cl ya yb : List Str} {n : Str} {b : Bool} (hn : isNm n = true) (e : c.clauses = pre ++ cl :: post) (hp : ∀ l, l ∈ cl ↔ l ∈ ya ∨ l ∈ yb) (dj : ∀ l ∈ ya, l ∉ yb)
    (e2 : cs' = pre ++ [ya ++ [sd b n], yb ++ [sd (!b) n]] ++ post) (L2 : ∀ x ∈ cs', Lits (c.names ++ [n]) x) (AL : allowedL c.signs (onceUp cs' (c.names ++ [n])) (c.helpers ++ [n]) = allowedL c.signs c.clauses c.helpers) (D : DeadC c) : DeadC ⟨c.signs, c.helpers ++ [n], onceUp cs' (c.names ++ [n])⟩ := fun h L no => by
  have no : ∀ s ∈ allowedL c.signs (onceUp cs' (c.names ++ [n])) (c.helpers ++ [n]), ¬ ∀ x ∈ h, x ∈ s := no
  rw [AL] at no
  have d := D h L no
  rw [e] at d
  have d2 := part_dead (b := b) hn hp dj d
  rw [← e2] at d2
  exact dead_to (up_sames L2).1 d2
/-! other names for the helpers -/
section
variable {ρ : Str → Str} {cs : List (List Str)} {h names : List Str}
/-- a map of literals that keeps opposites -/
theorem ren_der (hc : ∀ k ∈ cs, ∀ x ∈ k, ρ (opp x) = opp (ρ x)) (inj : ∀ k ∈ cs, ∀ x ∈ k, ∀ y ∈ k, ρ x = ρ y → x = y) {x : Str} (d : Der cs h x) : Der (cs.map fun k => k.map ρ) (h.map ρ) (ρ x) := by
  induction d with
  | base hy => exact .base (List.mem_map_of_mem hy)
  | @step k x hk hx _ ih =>
    refine .step (List.mem_map_of_mem hk) (List.mem_map_of_mem hx) fun m hm ne => ?_
    obtain ⟨y, hy, rfl⟩ := List.mem_map.mp hm
    rw [← hc k hk y hy]
    exact ih y hy fun e => ne (by rw [e])
theorem ren_dead (hc : ∀ k ∈ cs, ∀ x ∈ k, ρ (opp x) = opp (ρ x)) (inj : ∀ k ∈ cs, ∀ x ∈ k, ∀ y ∈ k, ρ x = ρ y → x = y) (d : Dead cs h) : Dead (cs.map fun k => k.map ρ) (h.map ρ) := by
  obtain ⟨k, hk, hd⟩ := d
  refine ⟨_, List.mem_map_of_mem hk, fun m hm => ?_⟩
  obtain ⟨y, hy, rfl⟩ := List.mem_map.mp hm
  rw [← hc k hk y hy]
  exact ren_der hc inj (hd y hy)
end
end My

set_option Elab.async false
set_option linter.all false
set_option maxRecDepth 100000
set_option maxHeartbeats 8000000
namespace My
open PySem PySem.Spec PyProof.Rows L2 L3
open L3.Strm
section
variable {P : Program} {w : World} {K : PySem.W.Frag} {mg : Str → Option Value} {base : Heap}
abbrev s__law_parted : Stmt := topS 57
theorem sc__law_parted : FnScope ["_law_stream", "_law_c", "_law_size", "_law_names_here", "_law_some", "_law_at", "_law_name", "_law_clause", "_law_side"] ["_law_stream", "_law_c"] (defScope s__law_parted) := ⟨rfl, rfl, rfl, by decide +kernel, rfl, by decide +kernel, by decide +kernel⟩
def sp__law_parted (K : PySem.W.Frag) : Sp := spS1 LawR (fun c => (LawN c ∧ Nf c) ∧ c.names.length ≤ 8 ∧ c.clauses.length ≤ 999) (fun _ => 40) fun c => Ex LawR fun d => (LawN d ∧ Nf d) ∧ d.names.length ≤ c.names.length + 1 ∧ d.clauses.length ≤ c.clauses.length + 1 ∧ d.signs = c.signs ∧ allowedL d.signs d.clauses d.helpers = allowedL c.signs c.clauses c.helpers ∧ (DeadC c → DeadC d)
theorem ok__law_parted {f : Addr} {fd : FuncData} (F : Fun K "_law_parted" "_law_parted" s__law_parted f fd) (T : Gc mg) (c__law_draw : Cal P w K mg base 1 "_law_draw" ["_law_stream", "_law_many"] (sp__law_draw K)) (c__law_fresh : Cal P w K mg base 3 "_law_fresh" ["_law_stream", "_law_taken"] (sp__law_fresh K)) (c__law_mixed : Cal P w K mg base 2 "_law_mixed" ["_law_stream", "_law_things"] (sp__law_mixed K))
    (c__law_pick : Cal P w K mg base 2 "_law_pick" ["_law_stream", "_law_things"] (sp__law_pick K)) (c__law_neg : Cal P w K mg base 1 "_law_neg" ["_law_one"] (sp__law_neg K)) (c__law_once : Cal P w K mg base 2 "_law_once" ["_law_clauses", "_law_names_here"] (sp__law_once K)) : FnOk P w K mg base CX0 4 f fd ["_law_stream", "_law_c"] (sp__law_parted K) := by
  refine F.ok sc__law_parted (fun vs H Q E h => ?_) (fun cdv A outer s H vs Q E hr h => ?_)
  · obtain ⟨S, x, M, v, k, rfl, _⟩ := h
    rfl
  · obtain ⟨S, c, M, v, k, rfl, mh, at_, r1, ⟨⟨X, NF⟩, n5, k9⟩, q⟩ := h
    have at_ : S.At (k + 40) H := at_
    have hu := hr.units
    refine ⟨_, (pss_cons (ps_if (pt_cmpR (op_eqP hu) (pe_dget (Nat.lt_of_le_of_lt (Nat.add_le_add_left (by decide) _) hu) (pv 1) pe_str (fun _ _ => rfl)) (pe_lst pa_nil) (nomark _)) (pss_one (ps_ret (pv 1))) pss_nil)
      (pss_cons (ps_par (i := 5) (j := 6) (by rfl) sc__law_parted.nd rfl rfl (by decide) rfl rfl (pa_cons (pe_f c__law_draw (hr.mono (by decide)) (pa_cons (pv 0) (pa_cons (pe_callB call_lenA (by rfl) T.len boot_len (pa_cons (pe_dget (Nat.lt_of_le_of_lt (Nat.add_le_add_left (by decide) _) hu) (pv 1) pe_str (fun _ _ => rfl)) pa_nil)) pa_nil))) (pa_cons (pe_f c__law_fresh (hr.mono (by decide)) (pa_cons (pv 0) (pa_cons (pe_op op_addA (pe_dget (Nat.lt_of_le_of_lt (Nat.add_le_add_left (by decide) _) hu) (pv 1) pe_str (fun _ _ => rfl)) (pe_dget (Nat.lt_of_le_of_lt (Nat.add_le_add_left (by decide) _) hu) (pv 1) pe_str (fun _ _ => rfl))) pa_nil))) pa_nil)) (by rfl))
      (pss_cons (ps_par (i := 7) (j := 8) (by rfl) sc__law_parted.nd rfl rfl (by decide) rfl rfl (pa_cons (pe_f c__law_mixed (hr.mono (by decide)) (pa_cons (pv 0) (pa_cons (pe_ix ix_X (pe_dget (Nat.lt_of_le_of_lt (Nat.add_le_add_left (by decide) _) hu) (pv 1) pe_str (fun _ _ => rfl)) (pv 5) (fun _ _ => rfl)) pa_nil))) (pa_cons (pe_f c__law_pick (hr.mono (by decide)) (pa_cons (pv 0) (pa_cons (pe_lst (pa_cons (pv 6) (pa_cons (pe_op op_addA pe_str (pv 6)) pa_nil))) pa_nil))) pa_nil)) (by rfl))
      (pss_cons (ps_set (i := 2) sc__law_parted.nd rfl (by first | exact .inl rfl | exact .inr rfl) (pe_f c__law_draw (hr.mono (by decide)) (pa_cons (pv 0) (pa_cons (pe_op op_addA (pe_callB call_lenA (by rfl) T.len boot_len (pa_cons (pv 7) pa_nil)) pe_int) pa_nil))))
      (pss_cons (ps_set (i := 3) sc__law_parted.nd rfl (by first | exact .inl rfl | exact .inr rfl) (pe_op op_addA (pe_op op_addA (pe_dget (Nat.lt_of_le_of_lt (Nat.add_le_add_left (by decide) _) hu) (pv 1) pe_str (fun _ _ => rfl)) (pe_dget (Nat.lt_of_le_of_lt (Nat.add_le_add_left (by decide) _) hu) (pv 1) pe_str (fun _ _ => rfl))) (pe_lst (pa_cons (pv 6) pa_nil))))
      (pss_cons (ps_set (i := 4) sc__law_parted.nd rfl (by first | exact .inl rfl | exact .inr rfl) (pe_op op_addA (pe_op op_addA (pe_slice sl_X (pe_dget (Nat.lt_of_le_of_lt (Nat.add_le_add_left (by decide) _) hu) (pv 1) pe_str (fun _ _ => rfl)) po_none (po_some (pv 5))) (pe_lst (pa_cons (pe_op op_addA (pe_slice sl_X (pv 7) po_none (po_some (pv 2))) (pe_lst (pa_cons (pv 8) pa_nil))) (pa_cons (pe_op op_addA (pe_slice sl_X (pv 7) (po_some (pv 2)) po_none) (pe_lst (pa_cons (pe_f c__law_neg (hr.mono (by decide)) (pa_cons (pv 8) pa_nil)) pa_nil))) pa_nil)))) (pe_slice sl_X (pe_dget (Nat.lt_of_le_of_lt (Nat.add_le_add_left (by decide) _) hu) (pv 1) pe_str (fun _ _ => rfl)) (po_some (pe_op op_addA (pv 5) pe_int)) po_none)))
      (pss_one (ps_ret (pe_disp (pps_cons pe_str (pe_dget (Nat.lt_of_le_of_lt (Nat.add_le_add_left (by decide) _) hu) (pv 1) pe_str (fun _ _ => rfl)) (pps_cons pe_str (pe_op op_addA (pe_dget (Nat.lt_of_le_of_lt (Nat.add_le_add_left (by decide) _) hu) (pv 1) pe_str (fun _ _ => rfl)) (pe_lst (pa_cons (pv 6) pa_nil))) (pps_cons pe_str (pe_f c__law_once (hr.mono (by decide)) (pa_cons (pv 4) (pa_cons (pv 3) pa_nil))) pps_nil))) (by rfl) (by rfl) (by intro z; cases z) (by decide)))))))))), ?_⟩
    refine z_if (S := S) (k := k + 40) (c := 0) (B := (· = decide (c.clauses = []))) mh at_ (GvT.s (gt_is (gt_test (gv_eqT (K := K) (R := LiR TT) (neg := false) py_LTT inj_LTT (gv_cC (gv_var rfl r1)) gv_nilL (depth_LTT _))) (by simp))) (fun hb M1 H1 g1 a1 => ?_) fun hb M1 H1 g1 a1 => ?_
    · exact ⟨v, rfl, q _ M1 H1 g1 (a1.le (by omega)) ⟨c, ⟨⟨X, NF⟩, by omega, by omega, rfl, rfl, fun h => h⟩, Mon.mono g1.mm r1⟩⟩
    have hne : ¬ c.clauses = [] := of_decide_eq_false hb.symm
    have hpos : 0 < c.clauses.length := List.length_pos_iff.mpr hne
    have r11 : LawR c M1 v := Mon.mono g1.mm r1
    have nl : c.names.length = c.signs.length + c.helpers.length := List.length_append
    -- at, name
    refine q_par2 (z_V (S := S) (k := k + 39) (c := 1) (P := Ex It' fun z => 0 ≤ z ∧ z < (c.clauses.length : Int)) g1.mh (a1.le (by omega)) (gs_draw (K := K) (n := (c.clauses.length : Int)) rfl (gv_lenA (K := K) (R := TT) (gv_is (gv_cC (gv_var rfl r11)) fun _ _ h => h.sq)) (by omega) (by omega)) fun v5 M2 H2 g2 a2 ⟨z, hz, r5⟩ =>
      z_V (S := S) (k := k + 27) (c := 12) (P := Ex Tx fun x => isNm x = true ∧ x ∉ c.names) g2.mh (a2.le (by omega)) (gs_call1 (S := S) (R1 := SqR K Tx) (pre := fun xs => xs.length ≤ 600) (cs := fun _ => 12) (R := fun xs => Ex Tx fun x => isNm x = true ∧ x ∉ xs) (x := c.names) rfl (gv_is (gl_addL (K := K) (R := Tx) (gv_cS (gv_var rfl (Mon.mono g2.mm r11))) (gv_cH (gv_var rfl (Mon.mono g2.mm r11))) (szM (by omega))).li fun _ _ h => h.sq) (by omega)) fun v6 M3 H3 g3 a3 ⟨n, ⟨hnm, hfr⟩, r6⟩ => ⟨_, _, rfl, ?_⟩)
    cases (show v5 = _ from r5)
    cases (show v6 = _ from r6)
    have hzl : z.toNat < c.clauses.length := by omega
    obtain ⟨cl, hget⟩ : ∃ cl, c.clauses[z.toNat]? = some cl := ⟨_, List.getElem?_eq_getElem hzl⟩
    have hcl := List.mem_of_getElem? hget
    have hat : atI c.clauses z = some cl := by
      have := atI_nat hget
      rw [Int.toNat_of_nonneg hz.1] at this
      exact this
    have G3 := (g1.trans g2).trans g3
    have r13 : LawR c M3 v := Mon.mono (g2.mm.trans g3.mm) r11
    have cl6 := X.len cl hcl
    have hnl := nm_len hnm
    -- clause, side
    refine q_par2 (z_V (S := S) (k := k + 10) (c := cl.length) (P := Ex (LiR Tx) fun ys => ys.Perm cl) G3.mh (a3.le (by omega)) ((gls_call1 (S := S) (R1 := SqR K Tx) (pre := fun xs => xs.length ≤ 1000000) (cs := fun xs => xs.length) (R := fun xs M ws => ∃ ys : List Str, ys.Perm xs ∧ Pd Tx M ys ws) (x := cl) rfl (gv_is (gv_ix (K := K) (R := TT) (xs := c.clauses) (i := z) (gv_is (gv_cC (gv_var rfl r13)) fun _ _ h => h.sq) (gv_var rfl rfl) hat) fun _ _ h => h.sq) (by omega)).gv fun M' vs p ⟨ys, hp, hpd⟩ m => ⟨ys, hp, p, vs, rfl, upd_same, hpd.mono (same_new m)⟩) fun v7 M4 H4 g4 a4 ⟨ys, hper, r7⟩ =>
      z_V (S := S) (k := k + 9) (c := 1) (P := Ex Tx fun x => x ∈ [n, ("-" : Str) ++ n]) g4.mh (a4.le (by omega)) (gs_call1 (S := S) (R1 := SqR K Tx) (pre := fun xs => 0 < xs.length ∧ xs.length ≤ 1000000) (cs := fun _ => 1) (R := fun xs => Ex Tx fun x => x ∈ xs) (x := [n, ("-" : Str) ++ n]) rfl (gv_is (gl_twoL (R := Tx) (gv_var rfl rfl) (gv_addSt (K := K) (gv_c rfl) (gv_var rfl rfl) (szM (by show 1 + n.length ≤ _; omega)))).li fun _ _ h => h.sq) ⟨by simp, by simp⟩) fun v8 M5 H5 g5 a5 ⟨sd, hsd, r8⟩ => ⟨_, _, rfl, ?_⟩)
    cases (show v8 = _ from r8)
    have side : Side n sd := by
      simp only [List.mem_cons, List.not_mem_nil, or_false] at hsd
      exact hsd
    have G5 := (G3.trans g4).trans g5
    have r75 : LiR Tx ys M5 v7 := Mon.mono g5.mm r7
    have yl : ys.length ≤ 9 := by rw [hper.length_eq]; exact cl6
    have Ly : Lits c.names ys := (X.l cl hcl).perm hper
    -- size
    refine z_asg (S := S) (k := k) (c := 1) (P := Ex It' fun z => 0 ≤ z ∧ z < (ys.length : Int) + 1) G5.mh (a5.le (by omega)) (gs_draw (K := K) (n := (ys.length : Int) + 1) rfl (gv_addIn (K := K) (gv_lenA (K := K) (R := Tx) (gv_var rfl r75.sq)) (gv_c rfl)) (by omega) (by omega)) fun v2 M6 H6 g6 a6 ⟨sz, hsz, r2⟩ => ?_
    obtain ⟨sn, rfl⟩ : ∃ sn : Nat, sz = (sn : Int) := ⟨sz.toNat, by omega⟩
    obtain ⟨zn, rfl⟩ : ∃ zn : Nat, z = (zn : Int) := ⟨z.toNat, by omega⟩
    cases (show v2 = _ from r2)
    have G6 := G5.trans g6
    have r16 : LawR c M6 v := Mon.mono (g4.mm.trans (g5.mm.trans g6.mm)) r13
    have r76 : LiR Tx ys M6 v7 := Mon.mono g6.mm r75
    have mh6 := G6.mh.trans cut_same
    -- names
    refine q_asg (P := LiR Tx (c.names ++ [n])) mh6 (gl_addL (K := K) (R := Tx) (gl_addL (K := K) (R := Tx) (gv_cS (gv_var rfl r16)) (gv_cH (gv_var rfl r16)) (szM (by omega))).li (gl_one (R := Tx) (gv_var rfl rfl)).li (szM (by rw [show c.signs ++ c.helpers = c.names from rfl]; simp only [List.length_cons, List.length_nil]; omega))).li fun v3 M7 H7 g7 p7 => ?_
    have r17 : LawR c M7 v := Mon.mono g7.mm r16
    have r77 : LiR Tx ys M7 v7 := Mon.mono g7.mm r76
    -- the clauses
    refine q_asg (P := LiR (SqR K Tx) (c.clauses.take zn ++ [ys.take sn ++ [sd], ys.drop sn ++ [opp sd]] ++ c.clauses.drop (zn + 1))) g7.mh
      (gl_addL (K := K) (R := SqR K Tx) (gl_addL (K := K) (R := SqR K Tx) (gv_is (gl_cut (K := K) (R := SqR K Tx) (lo := none) (hi := some (zn : Int)) (gv_is (gv_cC (gv_var rfl r17)) fun _ _ h => (liTT_liq h).lst) (fun _ _ h => h) (fun _ _ h => ⟨_, rfl, _, rfl, h⟩)).li fun M v h => by rw [cut_take] at h; exact h)
        (gl_twoL (R := SqR K Tx) (x := ys.take sn ++ [sd]) (y := ys.drop sn ++ [opp sd])
          (gv_is (gl_addL (K := K) (R := Tx) (gv_is (gl_cut (K := K) (R := Tx) (lo := none) (hi := some (sn : Int)) (gv_var rfl r77.lst) (fun _ _ h => h) (fun _ _ h => ⟨_, rfl, _, rfl, h⟩)).li fun M v h => by rw [cut_take] at h; exact h) (gl_one (R := Tx) (gv_var rfl rfl)).li (szM (by rw [List.length_take]; simp only [List.length_cons, List.length_nil]; omega))).li fun _ _ h => h.sq)
          (gv_is (gl_addL (K := K) (R := Tx) (gv_is (gl_cut (K := K) (R := Tx) (lo := some (sn : Int)) (hi := none) (gv_var rfl r77.lst) (fun _ _ h => ⟨_, rfl, _, rfl, h⟩) (fun _ _ h => h)).li fun M v h => by rw [cut_drop] at h; exact h) (gl_one (R := Tx) (gv_call1 (R1 := Tx) (pre := fun x => x.length ≤ 1000) (R := fun x => Tx (opp x)) (x := sd) (gv_var rfl rfl) (by rcases side with e | e <;> rw [e]; omega; rw [neg_len]; omega))).li (szM (by rw [List.length_drop]; simp only [List.length_cons, List.length_nil]; omega))).li fun _ _ h => h.sq)).li
        (szM (by rw [List.length_take]; simp only [List.length_cons, List.length_nil]; omega))).li
      (gv_is (gl_cut (K := K) (R := SqR K Tx) (lo := some ((zn + 1 : Nat) : Int)) (hi := none) (gv_is (gv_cC (gv_var rfl r17)) fun _ _ h => (liTT_liq h).lst) (fun _ _ h => ⟨_, rfl, .inl ⟨_, _, rfl, rfl, _, rfl, h⟩⟩) (fun _ _ h => h)).li fun M v h => by rw [cut_drop] at h; exact h)
        (szM (by rw [List.length_append, List.length_take, List.length_drop]; simp only [List.length_cons, List.length_nil]; omega))).li fun v4 M8 H8 g8 p8 => ?_
    have G8 := g7.trans g8
    have cl9 : (c.clauses.take zn ++ [ys.take sn ++ [sd], ys.drop sn ++ [opp sd]] ++ c.clauses.drop (zn + 1)).length ≤ c.clauses.length + 1 := by
      rw [List.length_append, List.length_append, List.length_take, List.length_drop]
      simp only [List.length_cons, List.length_nil]
      omega
    have nmN := nm_snoc X.nm hnm hfr (by omega)
    have LL : ∀ x ∈ c.clauses.take zn ++ [ys.take sn ++ [sd], ys.drop sn ++ [opp sd]] ++ c.clauses.drop (zn + 1), Lits (c.names ++ [n]) x := fun x hx => by
      rcases List.mem_append.mp hx with hx | hx
      · rcases List.mem_append.mp hx with hx | hx
        · exact (X.l x (List.mem_of_mem_take hx)).wide fun m hm => List.mem_append_left _ hm
        · simp only [List.mem_cons, List.not_mem_nil, or_false] at hx
          rcases hx with rfl | rfl
          · exact lits_snoc X.nm hnm hfr (by omega) (Ly.sub (List.take_sublist _ _)) side
          · exact lits_snoc X.nm hnm hfr (by omega) (Ly.sub (List.drop_sublist _ _)) (side_opp hnm side)
      · exact (X.l x (List.mem_of_mem_drop hx)).wide fun m hm => List.mem_append_left _ hm
    have hAL : allowedL c.signs (onceUp (c.clauses.take zn ++ [ys.take sn ++ [sd], ys.drop sn ++ [opp sd]] ++ c.clauses.drop (zn + 1)) (c.names ++ [n])) (c.helpers ++ [n]) = allowedL c.signs c.clauses c.helpers := by
      obtain ⟨b, e⟩ := side_sd side
      refine parted_allowed (b := b) (pre := c.clauses.take zn) (post := c.clauses.drop (zn + 1)) (cl := cl) (ya := ys.take sn) (yb := ys.drop sn) X.nm hnm hfr ?_ (fun l => ?_) X.l (by rw [e, opp_sd hnm]) LL
      · have hg : c.clauses[zn]? = some cl := by rw [← hget]; rfl
        obtain ⟨h1, h2⟩ := List.getElem?_eq_some_iff.mp hg
        rw [← h2, ← List.drop_eq_getElem_cons h1, List.take_append_drop]
      · rw [← hper.mem_iff, ← List.mem_append, List.take_append_drop]
    have hDD : DeadC c → DeadC ⟨c.signs, c.helpers ++ [n], onceUp (c.clauses.take zn ++ [ys.take sn ++ [sd], ys.drop sn ++ [opp sd]] ++ c.clauses.drop (zn + 1)) (c.names ++ [n])⟩ := by
      obtain ⟨b, e⟩ := side_sd side
      refine parted_dead (b := b) (pre := c.clauses.take zn) (post := c.clauses.drop (zn + 1)) (cl := cl) (ya := ys.take sn) (yb := ys.drop sn) hnm ?_ (fun l => ?_) ?_ (by rw [e, opp_sd hnm]) LL hAL
      · have hg : c.clauses[zn]? = some cl := by rw [← hget]; rfl
        obtain ⟨h1, h2⟩ := List.getElem?_eq_some_iff.mp hg
        rw [← h2, ← List.drop_eq_getElem_cons h1, List.take_append_drop]
      · rw [← hper.mem_iff, ← List.mem_append, List.take_append_drop]
      · have nd := lits_nodup Ly
        rw [← List.take_append_drop sn ys] at nd
        exact fun l h1 h2 => (List.nodup_append.mp nd).2.2 l h1 l h2 rfl
    revert p8 cl9 LL hAL hDD
    generalize c.clauses.take zn ++ [ys.take sn ++ [sd], ys.drop sn ++ [opp sd]] ++ c.clauses.drop (zn + 1) = cs'
    intro p8 cl9 LL hAL hDD
    have r18 : LawR c M8 v := Mon.mono g8.mm r17
    have p78 : LiR Tx (c.names ++ [n]) M8 v3 := Mon.mono g8.mm p7
    refine s_ret G8.mh (gv_disp3 (R1 := LiR Tx c.signs) (R2 := LiR Tx (c.helpers ++ [n])) (R3 := LiR TT (onceUp cs' (c.names ++ [n]))) (gv_cS (gv_var rfl r18)) (gl_addL (K := K) (R := Tx) (gv_cH (gv_var rfl r18)) (gl_one (R := Tx) (gv_var rfl rfl)).li (szM (by simp only [List.length_cons, List.length_nil]; omega))).li
      ((gl_call2 (R1 := SqR K (CtR K)) (R2 := SqR K Tx) (x := cs') (y := c.names ++ [n]) (gv_var rfl ?_) (gv_var rfl p78.sq) ⟨nm_shorts nmN, by omega⟩).gv fun M' vs p hp m => ⟨p, vs, rfl, upd_same, hp.mono (same_new m)⟩) (by decide) (by decide) (by decide)) fun u M' H' g r => ?_
    · obtain ⟨a, vs, e, hs, hp⟩ := p8
      exact .inl ⟨a, vs, e, .inl (.inl hs), Paired.mapP hp fun _ _ q => .inl q⟩
    · have en : c.signs ++ (c.helpers ++ [n]) = c.names ++ [n] := (List.append_assoc _ _ _).symm
      have LX := once_up_lawN (cs := cs') en nmN (by rw [List.length_append]; simp only [List.length_cons, List.length_nil]; omega) LL (by omega)
      refine q u M' H' (G6.trans (lift G6.mh a6 (G8.trans g))) (a6.same (G8.trans g).hh) ⟨⟨c.signs, c.helpers ++ [n], onceUp cs' (c.names ++ [n])⟩, ⟨⟨LX, nf_up _ en⟩, ?_, ?_, rfl, hAL, hDD⟩, r⟩
      · show (c.signs ++ (c.helpers ++ [n])).length ≤ _
        rw [en, List.length_append]
        simp
      · show (once (cs'.map fun d => asc d (c.names ++ [n]))).length ≤ _
        refine Nat.le_trans (once_len2 _) ?_
        rw [List.length_map]
        exact cl9
end
end My

set_option Elab.async false
set_option linter.all false
set_option maxRecDepth 100000
set_option maxHeartbeats 8000000
namespace My
open PySem PySem.Spec PyProof.Rows L2 L3
open L3.Strm
theorem opp_full {ns s : List Str} (nm : NmL ns) (h : Paired Side ns s) : Paired Side ns (s.map opp) := by
  have go : ∀ {ms s : List Str}, Paired Side ms s → (∀ m ∈ ms, isNm m = true) → Paired Side ms (s.map opp) := by
    intro ms s h
    induction h with
    | nil => intro _; exact .nil
    | cons e _ ih => intro hm; exact .cons (side_opp (hm _ (List.mem_cons_self ..)) e) (ih fun z hz => hm z (List.mem_cons_of_mem _ hz))
  exact go h nm.nm
/-- the clauses that a rule is told by -/
structure ClsX (ns : List Str) (cs : List (List Str)) : Prop where
  l : ∀ x ∈ cs, Lits ns x
  k : cs.length ≤ 729
  a : ∀ x ∈ cs, asc x ns = x
  nd : cs.Nodup
theorem ClsX.sub {ns : List Str} {cs ds : List (List Str)} (X : ClsX ns cs) (h : ds.Sublist cs) : ClsX ns ds := ⟨fun x hx => X.l x (h.subset hx), Nat.le_trans h.length_le X.k, fun x hx => X.a x (h.subset hx), X.nd.sublist h⟩
theorem gv_tupTT {K : PySem.W.Frag} {σ : Sl} {M : Hp} {te : TE} {xs : List Str} (h : Gv te σ M (LiR Tx xs)) : Gv (tCB (rTupOf K) (tCons te tNil)) σ M (TT xs) := fun H mh Q q =>
  h H mh _ fun v M1 H1 g1 ⟨a, vs, e, r, p⟩ => by
    have ev := pd_tx p
    subst ev
    exact ⟨a, _, by rw [e], .inl ⟨.inl (.inl (g1.mh _ _ r)), fun l nl => q _ _ _ (g1.trans (.new g1.mh nl)) (TT.new xs)⟩⟩
section
end
end My

set_option Elab.async false
set_option linter.all false
set_option maxRecDepth 100000
set_option maxHeartbeats 8000000
namespace My
open PySem PySem.Spec PyProof.Rows L2 L3
open L3.Strm
/-! the law's own: a code that is "dead" -/
/-- clauses of some names -/
structure ClsN (ns : List Str) (cs : List (List Str)) (n : Nat) : Prop where
  l : ∀ x ∈ cs, Lits ns x
  k : cs.length ≤ n
theorem ClsN.sub {ns : List Str} {cs ds : List (List Str)} {n : Nat} (X : ClsN ns cs n) (h : ds.Sublist cs) : ClsN ns ds n := ⟨fun x hx => X.l x (h.subset hx), Nat.le_trans h.length_le X.k⟩
theorem ClsN.ch {ns : List Str} {cs : List (List Str)} {n : Nat} (nm : NmL ns) (n3 : ns.length ≤ 3) (hn : n ≤ 60) (X : ClsN ns cs n) {hs : List Str} (hh : hs.length ≤ 3) : ChOk cs hs := by
  have h1 : ∀ x ∈ cs, x.length ≤ 3 := fun x hx => Nat.le_trans (lits_len (X.l x hx) nm) n3
  have h2 := flat_len h1
  have h3 := X.k
  exact ⟨fun x hx => ⟨Nat.le_trans (h1 x hx) (by decide), fun l hl => Nat.le_trans (lits_short (X.l x hx) nm l hl) (by decide)⟩, by omega, by omega, by omega⟩
/-- clauses that are consequences, too -/
structure ClsC (ns : List Str) (al cs : List (List Str)) (n : Nat) : Prop where
  n : ClsN ns cs n
  c : ∀ x ∈ cs, Csq al x
theorem ClsC.sub {ns : List Str} {al cs ds : List (List Str)} {n : Nat} (X : ClsC ns al cs n) (h : ds.Sublist cs) : ClsC ns al ds n := ⟨X.n.sub h, fun x hx => X.c x (h.subset hx)⟩
section
variable {K : PySem.W.Frag} {S : Strm} {σ : Sl} {M H : Hp} {D : Ends} {te : TE} {tt : L2.TT} {tx : TS}
/-- a test that reads a list of ours -/
theorem z_ifOB {B : Bool → Prop} {c k : Nat} {x : Addr} {o : HO} (h : GvTS S c tt σ (upd M x o) B) (hm : M x = none) (mh : Same M (S.cut H)) (a : S.At (k + c) H) (hx : S.cut H x = some o)
    (h1 : B true → ∀ M' H', Gr M (S.cut H) M' (S.cut H') → S.At k H' → M' x = none → S.cut H' x = some o → tx D σ H') (h2 : B false → ∀ M' H', Gr M (S.cut H) M' (S.cut H') → S.At k H' → M' x = none → S.cut H' x = some o → D.nx σ H') : tIfS tt tx tNext D σ H :=
  h H k (same_lent mh hx) a _ fun b M1 H1 g a1 p => by
    cases b with
    | true => exact h1 p _ H1 (g.back hm) a1 L3.del_at (g.hh _ _ hx)
    | false => exact h2 p _ H1 (g.back hm) a1 L3.del_at (g.hh _ _ hx)
theorem gts_notNB {P : Pr} {B : Bool → Prop} (h : Gv te σ M P) (hb : ∀ M v, P M v → B (!decide (v = .non))) : GvTS S 0 (tB (tNotN te)) σ M B := fun H k mh a Q q => h H (mh.trans cut_same) _ fun v M1 H1 g1 r => ⟨_, rfl, q _ M1 H1 (lift mh a g1) (a.same g1.hh) (hb M1 v r)⟩
theorem gts_less {n m : Int} {j : Nat} {c : Nat} (hd : GvS S c te σ M (Ex It' fun z => 0 ≤ z ∧ z < n)) (hb : Gv ti σ M (It' m)) : GvTS S (c + 0) (tTest (tOp (rI0 fun i j => .bl (decide (i < j))) te ti)) σ M fun _ => True :=
  gts_test (P := fun _ v => ∃ b, v = .bl b) (gs_op (P := Ex It' fun z => 0 ≤ z ∧ z < n) (P1 := It' m) hd hb.s fun M' u w ⟨z, _, pu⟩ pw => fun H mh Q q => gv_lt (σ := []) (M := M') (ta := tC u) (tb := tC w) (gv_c pu) (gv_c pw) H mh Q fun v M' H' g r => q v M' H' g ⟨_, r⟩) fun M v ⟨b, e⟩ => ⟨b, e, trivial⟩
theorem gts_more {n m : Int} {c : Nat} (hd : GvS S c te σ M (Ex It' fun z => 0 ≤ z ∧ z < n)) (hb : Gv ti σ M (It' m)) : GvTS S (c + 0) (tTest (tOp (rI0 fun i j => .bl (decide (j < i))) te ti)) σ M fun _ => True :=
  gts_test (P := fun _ v => ∃ b, v = .bl b) (gs_op (P := Ex It' fun z => 0 ≤ z ∧ z < n) (P1 := It' m) hd hb.s fun M' u w ⟨z, _, pu⟩ pw => fun H mh Q q => gv_gt (g := fun i j => .bl (decide (j < i))) (σ := []) (M := M') (ta := tC u) (tb := tC w) (gv_c pu) (gv_c pw) H mh Q fun v M' H' g r => q v M' H' g ⟨_, r⟩) fun M v ⟨b, e⟩ => ⟨b, e, trivial⟩
end
section
variable {P : Program} {w : World} {K : PySem.W.Frag} {mg : Str → Option Value} {base : Heap}
abbrev s__law_dead_code : Stmt := topS 60
theorem sc__law_dead_code : FnScope ["_law_stream", "_law_signs", "_law_helpers", "_law_one", "_law_shortest_here", "_law_way", "_law_clauses", "_law_c", "_law_turn", "_law_allowed", "_law_share", "_law_part"] ["_law_stream", "_law_signs", "_law_helpers"] (defScope s__law_dead_code) := ⟨rfl, rfl, rfl, by decide +kernel, rfl, by decide +kernel, by decide +kernel⟩
def sp__law_dead_code (K : PySem.W.Frag) : Sp := fun vs H Q _ => ∃ (S : Strm) (ns : List Str) (M : Hp) (v : V) (k : Nat), vs = [.ref S.a, v, .int 2] ∧ Same M (S.cut H) ∧ S.At (k + 130) H ∧ LiR Tx ns M v ∧ NmL ns ∧ ns.length ≤ 3 ∧
  ∀ c al u M' H', Gr M (S.cut H) M' (S.cut H') → S.At k H' → (LawN c ∧ Nf c) → c.signs = ns → c.names.length ≤ 5 → c.clauses.length ≤ 29 → al = allowedL c.signs c.clauses c.helpers → DeadC c → PrR K LawR (LiR TT) (c, al) M' u → Q u H'
theorem ok__law_dead_code {f : Addr} {fd : FuncData} (F : Fun K "_law_dead_code" "_law_dead_code" s__law_dead_code f fd) (T : Gc mg) (c__law_draw : Cal P w K mg base 1 "_law_draw" ["_law_stream", "_law_many"] (sp__law_draw K)) (c__law_fulls : Cal P w K mg base 1 "_law_fulls" ["_law_names_here"] (sp__law_fulls K)) (c__law_shortest : Cal P w K mg base 3 "_law_shortest" ["_law_names_here", "_law_settings"] (sp__law_shortest K))
    (c__law_neg : Cal P w K mg base 1 "_law_neg" ["_law_one"] (sp__law_neg K)) (c__law_chase : Cal P w K mg base 2 "_law_chase" ["_law_clauses", "_law_half"] (sp__law_chase K)) (c__law_once : Cal P w K mg base 2 "_law_once" ["_law_clauses", "_law_names_here"] (sp__law_once K)) (c__law_parted : Cal P w K mg base 4 "_law_parted" ["_law_stream", "_law_c"] (sp__law_parted K)) :
    FnOk P w K mg base CX0 5 f fd ["_law_stream", "_law_signs", "_law_helpers"] (sp__law_dead_code K) := by
  refine F.ok sc__law_dead_code (fun vs H Q E h => ?_) (fun cdv A outer s H vs Q E hr h => ?_)
  · obtain ⟨S, _, _, _, _, rfl, _⟩ := h
    rfl
  · obtain ⟨S, ns, M, v, k, rfl, mh, at_, r1, nm, n3, q⟩ := h
    have hu := hr.units
    refine ⟨_, (pss_cons (ps_asg (pe_tup (pa_cons (pe_lst pa_nil) (pa_cons (pe_f c__law_draw (hr.mono (by decide)) (pa_cons (pv 0) (pa_cons pe_int pa_nil))) pa_nil))) (pg_tup (by rfl) (pgs_cons (pg_name (i := 9) sc__law_dead_code.nd rfl (by first | exact .inl rfl | exact .inr rfl)) (pgs_cons (pg_name (i := 10) sc__law_dead_code.nd rfl (by first | exact .inl rfl | exact .inr rfl)) pgs_nil))))
      (pss_cons (ps_for PassesOwn.never (by rfl) (pi_sq (pe_f c__law_fulls (hr.mono (by decide)) (pa_cons (pv 1) pa_nil))) (pg_name (i := 3) sc__law_dead_code.nd rfl (by first | exact .inl rfl | exact .inr rfl)) (pss_one (ps_if (pt_cmpR op_lt (pe_f c__law_draw (hr.mono (by decide)) (pa_cons (pv 0) (pa_cons pe_int pa_nil))) (pv 10) (nomark _)) (pss_one (ps_expr (pe_bm PySem.F.plainAttrs_list PySem.F.slot_list_append PySem.F.type_list_append mt_append (pv 9) (pa_cons (pv 3) pa_nil)))) pss_nil)))
      (pss_cons (ps_set (i := 4) sc__law_dead_code.nd rfl (by first | exact .inl rfl | exact .inr rfl) (pe_f c__law_shortest (hr.mono (by decide)) (pa_cons (pv 1) (pa_cons (pv 9) pa_nil))))
      (pss_cons (ps_set (i := 5) sc__law_dead_code.nd rfl (by first | exact .inl rfl | exact .inr rfl) (pe_f c__law_draw (hr.mono (by decide)) (pa_cons (pv 0) (pa_cons pe_int pa_nil))))
      (pss_cons (ps_set (i := 6) sc__law_dead_code.nd rfl (by first | exact .inl rfl | exact .inr rfl) (pe_callTy call_lstA (by rfl) T.list boot_list (pa_cons (pv 4) pa_nil)))
      (pss_cons (ps_if (pt_cmpR (op_eqP hu) (pv 5) pe_int (nomark _)) (pss_one (ps_setLc (i := 6) (own := [("_law_one", 3)]) (g := (gName 3)) (tt := (tTest (tOp (rInA K true) (tVar 3) (tVar 9)))) (te := (tCB (rTupOf K) (tCons (tLc (iSq K (tVar 3)) (gName 11) tYes (tCall (sp__law_neg K) [] E0 (tCons (tVar 11) tNil)) [11]) tNil))) (by rfl) sc__law_dead_code.nd rfl rfl (sw_true rfl rfl rfl (by decide +kernel)) (pi_sq (pe_f c__law_fulls (hr.mono (by decide)) (pa_cons (pv 1) pa_nil))) (blkOk_by (by rfl)) (fun _ _ _ _ _ => (pg_name (i := 3) sc__law_dead_code.nd rfl (by first | exact .inl rfl | exact .inr rfl))) (fun _ _ _ _ _ => (pts_one (pt_cmpR (op_niA hu) (pv 3) (pv 9) (by rfl)))) (fun _ _ _ _ _ => (pe_callTy call_tupA (by rfl) T.tuple boot_tuple (pa_cons (pe_lc (own := [("_law_part", 11)]) (g := (gName 11)) (tt := tYes) (te := (tCall (sp__law_neg K) [] E0 (tCons (tVar 11) tNil))) (by rfl) sc__law_dead_code.nd (pi_sq (pv 3)) (blkOk_by (by rfl)) (fun _ _ _ _ _ => (pg_name (i := 11) sc__law_dead_code.nd rfl (by first | exact .inl rfl | exact .inr rfl))) (fun _ _ _ _ _ => pts_nil) (fun _ _ _ _ _ => (pe_f c__law_neg (hr.mono (by decide)) (pa_cons (pv 11) pa_nil)))) pa_nil))))) pss_nil)
      (pss_cons (ps_if (pt_cmpR (op_eqP hu) (pv 5) pe_int (nomark _)) (pss_one (ps_setLc (i := 6) (own := [("_law_one", 3)]) (g := (gName 3)) (tt := (tTest (tOp (rI0 fun i j => .bl (decide (j < i))) (tCall (sp__law_draw K) [] E0 (tCons (tVar 0) (tCons (tC (.int 3)) tNil))) (tC (.int 0))))) (te := (tVar 3)) (by rfl) sc__law_dead_code.nd rfl rfl (sw_true rfl rfl rfl (by decide +kernel)) (pi_sq (pv 4)) (blkOk_by (by rfl)) (fun _ _ _ _ _ => (pg_name (i := 3) sc__law_dead_code.nd rfl (by first | exact .inl rfl | exact .inr rfl))) (fun _ _ _ _ _ => (pts_one (pt_cmpR op_gt (pe_f c__law_draw (hr.mono (by decide)) (pa_cons (pv 0) (pa_cons pe_int pa_nil))) pe_int (nomark _)))) (fun _ _ _ _ _ => (pv 3)))) pss_nil)
      (pss_cons (ps_for PassesOwn.never (by rfl) (pi_sq (pv 4)) (pg_name (i := 3) sc__law_dead_code.nd rfl (by first | exact .inl rfl | exact .inr rfl)) (pss_one (ps_if (pt_cmp (pc_notN (pe_f c__law_chase (hr.mono (by decide)) (pa_cons (pv 6) (pa_cons (pe_lc (own := [("_law_part", 11)]) (g := (gName 11)) (tt := tYes) (te := (tCall (sp__law_neg K) [] E0 (tCons (tVar 11) tNil))) (by rfl) sc__law_dead_code.nd (pi_sq (pv 3)) (blkOk_by (by rfl)) (fun _ _ _ _ _ => (pg_name (i := 11) sc__law_dead_code.nd rfl (by first | exact .inl rfl | exact .inr rfl))) (fun _ _ _ _ _ => pts_nil) (fun _ _ _ _ _ => (pe_f c__law_neg (hr.mono (by decide)) (pa_cons (pv 11) pa_nil)))) pa_nil))))) (pss_one (ps_expr (pe_bm PySem.F.plainAttrs_list PySem.F.slot_list_append PySem.F.type_list_append mt_append (pv 6) (pa_cons (pv 3) pa_nil)))) pss_nil)))
      (pss_cons (ps_set (i := 7) sc__law_dead_code.nd rfl (by first | exact .inl rfl | exact .inr rfl) (pe_disp (pps_cons pe_str (pe_callTy call_lstA (by rfl) T.list boot_list (pa_cons (pv 1) pa_nil)) (pps_cons pe_str (pe_lst pa_nil) (pps_cons pe_str (pe_f c__law_once (hr.mono (by decide)) (pa_cons (pv 6) (pa_cons (pv 1) pa_nil))) pps_nil))) (by rfl) (by rfl) (by intro z; cases z) (by decide)))
      (pss_cons (ps_for PassesOwn.never (by rfl) (pi_range1 (by rfl) T.range (pa_cons (pe_f c__law_draw (hr.mono (by decide)) (pa_cons (pv 0) (pa_cons (pe_op op_addA (pv 2) pe_int) pa_nil))) pa_nil)) (pg_name (i := 8) sc__law_dead_code.nd rfl (by first | exact .inl rfl | exact .inr rfl)) (pss_one (ps_set (i := 7) sc__law_dead_code.nd rfl (by first | exact .inl rfl | exact .inr rfl) (pe_f c__law_parted (hr.mono (by decide)) (pa_cons (pv 0) (pa_cons (pv 7) pa_nil))))))
      (pss_one (ps_ret (pe_tup (pa_cons (pv 7) (pa_cons (pv 9) pa_nil))))))))))))))), ?_⟩
    have f8 : (fulls ns).length ≤ 8 := by
      rw [fulls_len]
      exact Nat.le_trans (Nat.pow_le_pow_right (by decide) n3) (by decide)
    -- allowed, share
    refine q_asg2 (a_L (mh.trans cut_same) gl_nil fun p vs M1 H1 g1 h01 m01 hp1 ev => ?_)
    subst ev
    have L1 := lift mh at_ g1
    have a1 := at_.same g1.hh
    have ow1 : OwS S H M1 H1 p [] := ⟨⟨at_.cutn h01, m01, by rw [cut_on (at_.fresh h01)]; exact hp1⟩⟩
    refine z_V (S := S) (k := k + 129) (c := 1) (P := Ex It' fun z => 0 ≤ z ∧ z < 5) L1.mh (a1.le (by omega)) (gs_draw (K := K) (n := 5) rfl (gv_c rfl) (by decide) (by decide)) fun v10 M2 H2 g2 a2 ⟨sh, hsh, r10⟩ => fin2 fun t nt => ?_
    cases (show v10 = _ from r10)
    have gT := lift (H' := upd H2 t (.tup [.ref p, .int sh])) g2.mh a2 (.own (o := .tup [.ref p, .int sh]) (g2.mh.trans cut_same) nt)
    have aT := a2.same (same_new (o := .tup [.ref p, .int sh]) nt)
    have G2 := (L1.trans g2).trans gT
    have ow2 := (ow1.step g2).step gT
    revert G2 ow2 aT
    generalize upd H2 t (.tup [.ref p, .int sh]) = H3
    intro aT G2 ow2
    -- the loop over the full settings
    refine z_for (S := S) (k := k + 129) (c := 0) (G := (· = fulls ns)) (R := TT) G2.mh (aT.le (by omega)) (gi_sq (K := K) (gv_is (gv_call1 (R1 := SqR K Tx) (pre := fun ns => ns.length ≤ 6 ∧ Shorts ns) (R := fun ns => LiR TT (fulls ns)) (x := ns) (gv_var rfl (LiR.sq (Mon.mono G2.mm r1))) ⟨by omega, nm_shorts nm⟩) fun _ _ h => h.sq)).s tg_1
      (fun xs M1' i σ' M' H' => ∃ y3 al ws, Gr M (S.cut H) M' (S.cut H') ∧ S.At (k + 121 + (8 - i)) H' ∧ Same M1' M' ∧ OwS S H M' H' p ws ∧ Pd TT M' al ws ∧ al.Sublist (xs.take i) ∧ σ' = [some (.ref S.a), some v, some (.int 2), y3, none, none, none, none, none, some (.ref p), some (.int sh), none])
      (fun xs M4 H4 e g4 a4 => ⟨_, [], [], G2.trans g4, a4.le (by omega), Same.refl _, ow2.step g4, .nil, .slnil, rfl⟩)
      (fun xs M4 i σ' M' H' ⟨_, _, _, g, a, s1, _⟩ => ⟨s1, g.mh, a.le (Nat.zero_le _)⟩) ?_ ?_
    · rintro xs M4 i x σ' M' H' M5 H5 σ2 e sM hx ⟨y3, al, ws, g, a, s1, ow, hpd, hsub, rfl⟩ g5 ⟨v3, r3, rfl⟩
      have hi : i < xs.length := (List.getElem?_eq_some_iff.mp hx).1
      have xl : xs.length ≤ 8 := by rw [e]; exact f8
      have g5' := lift g.mh a g5
      have a5 := a.same g5.hh
      have ow5 := ow.step g5'
      have G5 := g.trans g5'
      have et : xs.take (i + 1) = xs.take i ++ [x] := by rw [List.take_add_one, hx]; rfl
      have e1 : k + 121 + (8 - i) = (k + 121 + (8 - (i + 1))) + (1 + 0) := by omega
      rw [e1] at a5
      refine z_ifE (S := S) (B := fun _ => True) G5.mh a5 (gts_less (n := 4) (m := sh) (j := 10) (gs_draw (K := K) (n := 4) rfl (gv_c rfl) (by decide) (by decide)) (gv_var rfl rfl)) (fun _ M6 H6 g6 a6 => ?_) fun _ M6 H6 g6 a6 => ?_
      · have ow6 := ow5.step g6
        have wl := hpd.length
        have sl := hsub.length_le
        rw [List.length_take] at sl
        refine z_appE (S := S) (k := k + 121 + (8 - (i + 1))) (c := 0) (P := TT x) g6.mh a6 rfl ow6.o.h (szL (by omega)) (gv_var rfl (Mon.mono g6.mm r3)).s fun v7 M7 H7 g7 a7 r7 => ?_
        have ow7 := ow6.step g7
        refine ⟨M7, _, al ++ [x], ws ++ [v7], ow7.mut ((G5.trans g6).trans g7), a7.upd ow7.on, s1.trans (g5.mm.trans (g6.mm.trans g7.mm)), ow7.put, pd_app (hpd.mono (g5.mm.trans (g6.mm.trans g7.mm))) (.cons r7 .nil), ?_, rfl⟩
        rw [et]
        exact hsub.append (.refl _)
      · exact ⟨M6, _, al, ws, G5.trans g6, a6, s1.trans (g5.mm.trans g6.mm), ow5.step g6, hpd.mono (g5.mm.trans g6.mm), by rw [et]; exact hsub.trans (List.sublist_append_left _ _), rfl⟩
    rintro xs M4 σ' M5 H5 e sM ⟨y3, al, ws, g5, a5, s1, ow5, hpd5, hsub, rfl⟩
    have all8 : al.length ≤ 8 := by
      have := hsub.length_le
      rw [List.length_take] at this
      rw [e] at this
      omega
    have hsubA : al.Sublist (fulls ns) := by rw [← e]; exact hsub.trans (List.take_sublist _ _)
    have hsubF : ∀ x ∈ al, x ∈ fulls ns := fun x hx => by rw [← e]; exact List.mem_of_mem_take (hsub.subset hx)
    have GF := g5.freeze ow5.o.h0 ow5.o.m ow5.o.h
    have rAl : LiR TT al (upd M5 p (.lst ws)) (.ref p) := ⟨p, ws, rfl, upd_same, hpd5.mono (same_new ow5.o.m)⟩
    revert GF rAl
    generalize upd M5 p (.lst ws) = M6
    intro GF rAl
    have r16 : LiR Tx ns M6 v := Mon.mono GF.mm r1
    -- shortest
    refine z_asg (S := S) (k := k + 121) (c := 0) (P := LiR TT (shortestL ns al)) GF.mh (a5.le (by omega)) (gv_call2 (R1 := LstR K Tx) (R2 := SqR K TT) (pre := fun ns ss => (ns.length ≤ 6 ∧ NmL ns) ∧ ss.length ≤ 1000000) (R := fun ns ss => LiR TT (shortestL ns ss)) (x := ns) (y := al) (gv_var rfl r16.lst) (gv_var rfl rAl.sq) ⟨⟨by omega, nm⟩, by omega⟩).s fun v4 M7 H7 g7 a7 r4 => ?_
    have G7 := GF.trans g7
    have CX : ClsC ns al (shortestL ns al) 27 := ⟨⟨fun x hx => halves_lits nm x (short_sub _ _ x hx), Nat.le_trans (short_len _ _) (Nat.le_trans (halves_few ns) (Nat.le_trans (Nat.pow_le_pow_right (by decide) n3) (by decide)))⟩, fun x hx => short_csq hx⟩
    have hk := CX.n.k
    -- way
    refine z_asg (S := S) (k := k + 120) (c := 1) (P := Ex It' fun z => 0 ≤ z ∧ z < 3) G7.mh (a7.le (by omega)) (gs_draw (K := K) (n := 3) rfl (gv_c rfl) (by decide) (by decide)) fun v5 M8 H8 g8 a8 ⟨wy, hwy, r5⟩ => ?_
    cases (show v5 = _ from r5)
    have G8 := G7.trans g8
    -- clauses
    refine z_asgL (S := S) (k := k + 120) (c := 0) G8.mh a8 (gl_lstOf (K := K) (R1 := TT) (gv_var rfl (LiR.sq (Mon.mono g8.mm r4)))).s fun p9 ws9 M9 H9 g9 a9 h09 m09 hp9 pd9 => ?_
    have G9 := G8.trans g9
    have ow9 : OwS S H M9 H9 p9 ws9 := ⟨⟨G8.hh.free h09, m09, hp9⟩⟩
    have r49 : LiR TT (shortestL ns al) M9 v4 := Mon.mono (g8.mm.trans g9.mm) r4
    have r19 : LiR Tx ns M9 v := Mon.mono (g7.mm.trans (g8.mm.trans g9.mm)) r16
    have rA9 : LiR TT al M9 (.ref p) := Mon.mono (g7.mm.trans (g8.mm.trans g9.mm)) rAl
    -- where it is told otherwise
    refine q_cut (fun σ' H' => ∃ cs p' ws' M', Gr M (S.cut H) M' (S.cut H') ∧ Same M9 M' ∧ S.At (k + 120) H' ∧ OwS S H M' H' p' ws' ∧ Pd TT M' cs ws' ∧ ClsC ns al cs 27 ∧ σ' = [some (.ref S.a), some v, some (.int 2), y3, some v4, some (.int wy), some (.ref p'), none, none, some (.ref p), some (.int sh), none]) (fun nx hnx => ?_) ?_
    · refine z_ifE (S := S) (k := k + 120) (c := 0) (B := (· = decide (wy = 1))) G9.mh a9 (GvT.s (gt_is (gt_test (gv_eqT (K := K) (neg := false) py_int inj_int (gv_var rfl rfl) (gv_c rfl) (by simp [PyData.depth]))) (by simp))) (fun _ M10 H10 g10 a10 => ?_) fun _ M10 H10 g10 a10 => ?_
      · have G10 := G9.trans g10
        have r110 : LiR Tx ns M10 v := Mon.mono g10.mm r19
        have rA10 : LiR TT al M10 (.ref p) := Mon.mono g10.mm rA9
        refine (gl_c1 (S := TT) (R := TT) (xs := fulls ns) (gi_sq (K := K) (gv_is (gv_call1 (R1 := SqR K Tx) (pre := fun ns => ns.length ≤ 6 ∧ Shorts ns) (R := fun ns => LiR TT (fulls ns)) (x := ns) (gv_var rfl r110.sq) ⟨by omega, nm_shorts nm⟩) fun _ _ h => h.sq)) (szK (by omega)) (fun x => decide (x ∉ al)) (fun x => x.map opp)
            (fun x _ M11 u11 sm ru => gt_is (gt_test (gv_inD (K := K) (R := TT) (neg := true) py_TT inj_TT (gv_var rfl ru) (gv_var rfl (Mon.mono sm rA10).sq) (by simp [PyData.depth, depthS]))) (by simp))
            fun x hx _ M11 u11 sm ru => gv_tupTT (K := K) (gl_m1 (S := Tx) (R := Tx) (xs := x) (gi_sq (K := K) (gv_var rfl ru.sq)) (szK (by rw [fulls_each _ x hx]; omega)) opp fun y hy M12 u12 sm12 ru12 => gv_call1 (R1 := Tx) (pre := fun x => x.length ≤ 1000) (R := fun x => Tx (opp x)) (x := y) (gv_var rfl ru12) (Nat.le_trans (lits_short (side_lits nm (fulls_paired hx)) nm y hy) (by decide))).li) H10 (G10.mh.trans cut_same) _ fun p' ws' M11 H11 g11 h011 m011 hp11 pd11 => ?_
        have L11 := lift G10.mh a10 g11
        refine hnx _ _ ⟨_, p', ws', M11, G10.trans L11, g10.mm.trans g11.mm, a10.same g11.hh, ⟨⟨G10.hh.free (a10.cutn h011), m011, by rw [cut_on ((a10.fresh h011))]; exact hp11⟩⟩, pd11, ⟨⟨fun x hx => ?_, ?_⟩, fun x hx t ht => ?_⟩, rfl⟩
        · obtain ⟨y, hy, rfl⟩ := List.mem_map.mp hx
          exact side_lits nm (opp_full nm (fulls_paired (List.mem_filter.mp hy).1))
        · rw [List.length_map]
          exact Nat.le_trans (List.length_filter_le _ _) (by omega)
        · obtain ⟨y, hy, rfl⟩ := List.mem_map.mp hx
          obtain ⟨h1, h2⟩ := List.mem_filter.mp hy
          exact neg_full nm h1 (hsubF t ht) fun e => (of_decide_eq_true h2) (e ▸ ht)
      · exact hnx _ _ ⟨_, p9, ws9, M10, G9.trans g10, g10.mm, a10, ow9.step g10, pd9.mono g10.mm, CX, rfl⟩
    rintro σ10 H10 ⟨cs10, p10, ws10, M10, G10, s10, a10, ow10, pd10, CX10, rfl⟩
    -- .. or some are left out
    refine q_cut (fun σ' H' => ∃ cs p' ws' M', Gr M (S.cut H) M' (S.cut H') ∧ Same M9 M' ∧ S.At (k + 93) H' ∧ OwS S H M' H' p' ws' ∧ Pd TT M' cs ws' ∧ ClsC ns al cs 27 ∧ σ' = [some (.ref S.a), some v, some (.int 2), y3, some v4, some (.int wy), some (.ref p'), none, none, some (.ref p), some (.int sh), none]) (fun nx hnx => ?_) ?_
    · refine z_ifE (S := S) (k := k + 120) (c := 0) (B := (· = decide (wy = 2))) G10.mh a10 (GvT.s (gt_is (gt_test (gv_eqT (K := K) (neg := false) py_int inj_int (gv_var rfl rfl) (gv_c rfl) (by simp [PyData.depth]))) (by simp))) (fun _ M11 H11 g11 a11 => ?_) fun _ M11 H11 g11 a11 => ?_
      · have G11 := G10.trans g11
        refine (gls_sub (S := S) (R := TT) (j := 3) (n := 27) (c1 := 0) (c2 := 1 + 0) (G := (· = shortestL ns al)) (by show 3 < 12; decide) (gi_sq (K := K) (gv_var rfl (LiR.sq (Mon.mono (s10.trans g11.mm) r49)))).s (fun xs e => by rw [e]; exact hk) (by decide)
          fun xs _ x _ M12 v12 sm12 r12 => gts_more (n := 3) (m := 0) (gs_draw (K := K) (n := 3) rfl (gv_c rfl) (by decide) (by decide)) (gv_c rfl)) H11 (k + 93) G11.mh (a11.le (by omega)) _ fun p' ws' M12 H12 g12 a12 h012 m012 hp12 ⟨xs, ds, e, hs, hpd⟩ => ?_
        rw [e] at hs
        exact hnx _ _ ⟨ds, p', ws', M12, G11.trans g12, s10.trans (g11.mm.trans g12.mm), a12, ⟨⟨G11.hh.free h012, m012, hp12⟩⟩, hpd, CX.sub hs, rfl⟩
      · exact hnx _ _ ⟨cs10, p10, ws10, M11, G10.trans g11, s10.trans g11.mm, a11.le (by omega), ow10.step g11, pd10.mono g11.mm, CX10, rfl⟩
    rintro σ11 H11 ⟨cs, pc, wc, M11, G11, s11, a11, ow11, pd11, CXs, rfl⟩
    -- mended
    refine z_for (S := S) (k := k + 93) (c := 0) (G := (· = shortestL ns al)) (R := TT) G11.mh a11 (gi_sq (K := K) (gv_var rfl (LiR.sq (Mon.mono s11 r49)))).s tg_1
      (fun xs M1' i σ' M' H' => ∃ y3 ds ws, Gr M (S.cut H) M' (S.cut H') ∧ S.At (k + 93) H' ∧ Same M1' M' ∧ Same M11 M' ∧ OwS S H M' H' pc ws ∧ Pd TT M' ds ws ∧ (ClsC ns al ds (27 + i) ∧ ∀ y ∈ (shortestL ns al).take i, Dead ds (y.map opp)) ∧ σ' = [some (.ref S.a), some v, some (.int 2), y3, some v4, some (.int wy), some (.ref pc), none, none, some (.ref p), some (.int sh), none])
      (fun xs M12 H12 e g12 a12 => ⟨_, cs, wc, G11.trans g12, a12, Same.refl _, g12.mm, ow11.step g12, pd11.mono g12.mm, ⟨CXs, fun _ h => (nomatch h)⟩, rfl⟩)
      (fun xs M12 i σ' M' H' ⟨_, _, _, g, a, s1, _⟩ => ⟨s1, g.mh, a.le (Nat.zero_le _)⟩) ?_ ?_
    · rintro xs M12 i x σ' M' H' M13 H13 σ2 e sM hx ⟨y3, ds, ws, g, a, s1, s2, ow, hpd, ⟨DX, NX⟩, rfl⟩ g13 ⟨v3, r3, rfl⟩
      rw [show xs = shortestL ns al from e] at hx
      have hxm := List.mem_of_getElem? hx
      have hi : i < (shortestL ns al).length := (List.getElem?_eq_some_iff.mp hx).1
      have Lx := CX.n.l x hxm
      have Tx1 : (shortestL ns al).take (i + 1) = (shortestL ns al).take i ++ [x] := by rw [List.take_add_one, hx]; rfl
      have XC : Ctx ns ds (x.map opp) := ⟨nm, DX.n.l, neg_lits nm Lx⟩
      have xl : x.length ≤ 3 := Nat.le_trans (lits_len Lx nm) n3
      have g13' := lift g.mh a g13
      have a13 := a.same g13.hh
      have ow13 := ow.step g13'
      have G13 := g.trans g13'
      have pd13 : Pd TT M13 ds ws := hpd.mono g13.mm
      have lent : SqR K (SqR K Tx) ds (upd M13 pc (.lst ws)) (.ref pc) := liTT_sqq ⟨pc, ws, rfl, upd_same, pd13.mono (same_new ow13.o.m)⟩
      have dk := DX.n.k
      refine z_ifOB (S := S) (k := k + 93) (c := 0) (B := fun b => b = false → Dead ds (x.map opp)) (gts_notNB (gv_call2 (R1 := SqR K (SqR K Tx)) (R2 := SqR K Tx) (pre := ChOk) (R := fun cs hs M v => ∃ r, LChase cs (once hs) r ∧ OpR' (LiR Tx) r M v) (x := ds) (y := x.map opp) (gv_var rfl lent)
        (gv_is (gl_m1 (S := Tx) (R := Tx) (xs := x) (gi_sq (K := K) (gv_var rfl (Mon.mono (same_new ow13.o.m) r3 : TT x (upd M13 pc (.lst ws)) v3).sq)) (szK (by omega)) opp fun y hy M14 u14 sm14 ru14 => gv_call1 (R1 := Tx) (pre := fun x => x.length ≤ 1000) (R := fun x => Tx (opp x)) (x := y) (gv_var rfl ru14) (Nat.le_trans (lits_short Lx nm y hy) (by decide))).li fun _ _ h => LiR.sq h) (DX.n.ch nm n3 (by omega) (by rw [List.length_map]; exact xl))) fun M' v' h hb => ?_) ow13.o.m G13.mh a13 ow13.o.h (fun _ M14 H14 g14 a14 m14 h14 => ?_) fun hB M14 H14 g14 a14 m14 h14 => ?_
      · obtain ⟨r, hr, hv⟩ := h
        cases r with
        | none =>
          rw [once_self (lits_nodup XC.h)] at hr
          exact lchase_ok XC hr (.init XC)
        | some so =>
          obtain ⟨aa, _, ea, _⟩ := (show LiR Tx so M' v' from hv)
          subst ea
          cases hb
      · have ow14 := ow13.step g14
        have wl := hpd.length
        refine z_appE (S := S) (k := k + 93) (c := 0) (P := TT x) g14.mh a14 rfl ow14.o.h (szL (by omega)) (gv_var rfl (Mon.mono g14.mm r3)).s fun v15 M15 H15 g15 a15 r15 => ?_
        have ow15 := ow14.step g15
        exact ⟨M15, _, ds ++ [x], ws ++ [v15], ow15.mut ((G13.trans g14).trans g15), a15.upd ow15.on, s1.trans (g13.mm.trans (g14.mm.trans g15.mm)), s2.trans (g13.mm.trans (g14.mm.trans g15.mm)), ow15.put, pd_app (pd13.mono (g14.mm.trans g15.mm)) (.cons r15 .nil), ⟨⟨⟨fun y hy => by
          rcases List.mem_append.mp hy with hy | hy
          · exact DX.n.l y hy
          · rw [List.mem_singleton.mp hy]; exact Lx, by rw [List.length_append, List.length_singleton]; omega⟩, fun y hy => by
          rcases List.mem_append.mp hy with hy | hy
          · exact DX.c y hy
          · rw [List.mem_singleton.mp hy]; exact short_csq hxm⟩, fun y hy => by
          rw [Tx1] at hy
          rcases List.mem_append.mp hy with hy | hy
          · exact dead_more (fun z hz => List.mem_append_left _ hz) (NX y hy)
          · rw [List.mem_singleton.mp hy]; exact dead_in (List.mem_append_right _ (List.mem_singleton.mpr rfl))⟩, rfl⟩
      · exact ⟨M14, _, ds, ws, G13.trans g14, a14, s1.trans (g13.mm.trans g14.mm), s2.trans (g13.mm.trans g14.mm), ow13.step g14, pd13.mono g14.mm, ⟨⟨⟨DX.n.l, by omega⟩, DX.c⟩, fun y hy => by
          rw [Tx1] at hy
          rcases List.mem_append.mp hy with hy | hy
          · exact NX y hy
          · rw [List.mem_singleton.mp hy]; exact hB rfl⟩, rfl⟩
    rintro xs M12 σ' M13 H13 e sM ⟨y3', ds, ws, g13, a13, s1, s2, ow13, pd13, ⟨DX, NX⟩, rfl⟩
    have dk := DX.n.k
    have exs : xs = shortestL ns al := e
    rw [exs] at dk NX
    rw [List.take_length] at NX
    have alS : al.Sublist (fulls ns) := hsubA
    have AL : allowedL ns (onceUp ds ns) [] = al := fin_allowed nm DX.n.l alS DX.c fun x hx => NoFit.dead ⟨nm, DX.n.l, neg_lits nm (CX.n.l x hx)⟩ (NX x hx)
    have DC : DeadC ⟨ns, [], onceUp ds ns⟩ := mend_dead nm DX.n.l alS AL NX
    have dl : ds.length ≤ 54 := by omega
    have GG := g13.freeze ow13.o.h0 ow13.o.m ow13.o.h
    have rC : LiR TT ds (upd M13 pc (.lst ws)) (.ref pc) := ⟨pc, ws, rfl, upd_same, pd13.mono (same_new ow13.o.m)⟩
    have sA : Same M9 (upd M13 pc (.lst ws)) := s11.trans (s2.trans (same_new ow13.o.m))
    revert GG rC sA
    generalize upd M13 pc (.lst ws) = M14
    intro GG rC sA
    have r114 : LiR Tx ns M14 v := Mon.mono sA r19
    have rA14 : LiR TT al M14 (.ref p) := Mon.mono sA rA9
    -- the code
    refine z_asg (S := S) (k := k + 93) (c := 0) (P := LawR ⟨ns, [], onceUp ds ns⟩) GG.mh a13 (gv_disp3 (R1 := LiR Tx ns) (R2 := LiR Tx []) (R3 := LiR TT (onceUp ds ns)) (gl_lstOf (K := K) (R1 := Tx) (gv_var rfl r114.sq)).li gv_nilL
      ((gl_call2 (R1 := SqR K (CtR K)) (R2 := SqR K Tx) (pre := fun cs ns => Shorts ns ∧ cs.length ≤ 1000000) (R := fun cs ns M ws => Pd TT M (onceUp cs ns) ws) (x := ds) (y := ns) (gv_var rfl (by
        obtain ⟨a, vs, e, hs, hp⟩ := rC
        exact .inl ⟨a, vs, e, .inl (.inl hs), Paired.mapP hp fun _ _ q => .inl (TT.sq q)⟩)) (gv_var rfl r114.sq) ⟨nm_shorts nm, by omega⟩).gv fun M' vs p hp m => ⟨p, vs, rfl, upd_same, hp.mono (same_new m)⟩) (by decide) (by decide) (by decide)).s fun v7 M15 H15 g15 a15 r7 => ?_
    have G15 := GG.trans g15
    have en : ns ++ ([] : List Str) = ns := List.append_nil ns
    have LN : LawN ⟨ns, [], onceUp ds ns⟩ := once_up_lawN (cs := ds) en nm (by omega) DX.n.l (by omega)
    have NF : Nf ⟨ns, [], onceUp ds ns⟩ := nf_up ds en
    have ol : (onceUp ds ns).length ≤ 27 := by
      have h := nf_few (cs := onceUp ds ns) nm (fun x hx => by have := LN.l x hx; rw [show (CodeD.mk ns [] (onceUp ds ns)).names = ns from en] at this; exact this) (fun x hx => by have := NF.a x hx; rw [show (CodeD.mk ns [] (onceUp ds ns)).names = ns from en] at this; exact this) NF.nd
      exact Nat.le_trans h (Nat.le_trans (Nat.pow_le_pow_right (by decide) n3) (by decide))
    have rA15 : LiR TT al M15 (.ref p) := Mon.mono g15.mm rA14
    -- parted
    refine z_for (S := S) (k := k + 92) (c := 1) (G := fun xs => ∃ n, n ≤ 2 ∧ xs = List.range n) (R := fun i : Nat => It' (i : Nat)) G15.mh (a15.le (by omega)) (gis_rng1 (good := fun n => n ≤ 2) ((gs_draw (K := K) (n := (2 : Int) + 1) rfl (gv_addIn (K := K) (x := 2) (y := 1) (gv_var rfl rfl) (gv_c rfl)) (by omega) (by omega)).is fun M v ⟨z, hz, r⟩ => ⟨z.toNat, by omega, by rw [show v = _ from r]; congr 1; omega⟩) fun n hn => by omega) tg_1
      (fun xs M1' i σ' M' H' => ∃ y8 d vd, Gr M (S.cut H) M' (S.cut H') ∧ Same M1' M' ∧ Same M15 M' ∧ S.At (k + (xs.length - i) * 40) H' ∧ (LawN d ∧ Nf d) ∧ d.signs = ns ∧ d.names.length ≤ ns.length + i ∧ d.clauses.length ≤ 27 + i ∧ allowedL d.signs d.clauses d.helpers = al ∧ DeadC d ∧ LawR d M' vd ∧ σ' = [some (.ref S.a), some v, some (.int 2), y3', some v4, some (.int wy), some (.ref pc), some vd, y8, some (.ref p), some (.int sh), none])
      (fun xs M16 H16 ⟨n, hn, e⟩ g16 a16 => ⟨_, _, v7, G15.trans g16, Same.refl _, g16.mm, a16.le (by rw [e, List.length_range]; omega), ⟨LN, NF⟩, rfl, by show (ns ++ []).length ≤ ns.length + 0; rw [List.append_nil]; omega, ol, AL, DC, Mon.mono g16.mm r7, rfl⟩)
      (fun xs M16 i σ' M' H' ⟨_, _, _, g, s1, _, a, _⟩ => ⟨s1, g.mh, a.le (Nat.zero_le _)⟩) ?_ ?_
    · rintro xs M16 i x σ' M' H' M17 H17 σ2 ⟨n, hn, e⟩ sM hx ⟨y8, d, vd, g, s1, s3, a, ⟨DL, DN⟩, ds', dn, dk', dal, ddd, rd, rfl⟩ g17 ⟨vx, rx, rfl⟩
      have hi : i < xs.length := (List.getElem?_eq_some_iff.mp hx).1
      have hn' : xs.length ≤ 2 := by rw [e, List.length_range]; exact hn
      have g17' := lift g.mh a g17
      have a17 := a.same g17.hh
      refine (gs_call1 (S := S) (R1 := LawR) (pre := fun c => (LawN c ∧ Nf c) ∧ c.names.length ≤ 8 ∧ c.clauses.length ≤ 999) (cs := fun _ => 40) (R := fun c => Ex LawR fun d => (LawN d ∧ Nf d) ∧ d.names.length ≤ c.names.length + 1 ∧ d.clauses.length ≤ c.clauses.length + 1 ∧ d.signs = c.signs ∧ allowedL d.signs d.clauses d.helpers = allowedL c.signs c.clauses c.helpers ∧ (DeadC c → DeadC d)) (x := d) rfl (gv_var rfl (Mon.mono g17.mm rd)) ⟨⟨DL, DN⟩, by omega, by omega⟩) H17 (k + (xs.length - (i + 1)) * 40) g17'.mh (a17.le (by show k + (xs.length - (i + 1)) * 40 + 40 ≤ _; omega)) _ fun vc M18 H18 g18 a18 ⟨d2, ⟨DX2, dn2, dk2, ds2, dal2, dd2⟩, rd2⟩ => ?_
      exact ⟨M18, _, d2, vc, (g.trans g17').trans g18, s1.trans (g17.mm.trans g18.mm), s3.trans (g17.mm.trans g18.mm), a18, DX2, by rw [ds2, ds'], by omega, by omega, by rw [dal2, dal], dd2 ddd, rd2, rfl⟩
    rintro xs M16 σ' M17 H17 ⟨n, hn, e⟩ sM ⟨y8, d, vd, g, s1', s3, a, ⟨DL, DN⟩, ds', dn, dk', dal, ddd, rd, rfl⟩
    have xl : xs.length ≤ 2 := by rw [e, List.length_range]; exact hn
    have dnl : d.names.length = d.signs.length + d.helpers.length := List.length_append
    rw [ds'] at dnl
    refine z_ret (S := S) (k := k) (c := 0) g.mh (a.le (by omega)) (gv_pair (K := K) (R := LawR) (T := LiR TT) (x := d) (y := al) (gv_var rfl rd) (gv_var rfl (Mon.mono s3 rA15))).s fun u M18 H18 g18 a18 r18 => ?_
    exact q d al u M18 H18 (g.trans g18) a18 ⟨DL, DN⟩ ds' (by omega) (by omega) dal.symm ddd r18
end
end My

set_option Elab.async false
set_option linter.all false
set_option maxRecDepth 100000
set_option maxHeartbeats 8000000
namespace My
open PySem PySem.Spec PyProof.Rows L2 L3
open L3.Strm
instance {a : V} : Mono (fun (_ : Hp) (v : V) => v = a) := ⟨fun _ h => h⟩
theorem sd_side (b : Bool) (n : Str) : Side n (sd b n) := by
  cases b
  · exact .inr rfl
  · exact .inl rfl
/-! the law's own: a full setting, by following and trying -/
def openP (so : List Str) (l : Str) : Bool := decide (l ∉ so) && decide (opp l ∉ so)
def openF (cs : List (List Str)) (so : List Str) : Option Str := cs.flatten.find? (openP so)
theorem find_mid {α : Type} {p : α → Bool} {a b : List α} {x : α} (ha : ∀ y ∈ a, p y = false) (hx : p x = true) : (a ++ x :: b).find? p = some x := by
  rw [List.find?_append, List.find?_eq_none.mpr fun y hy => by rw [ha y hy]; decide, List.find?_cons, hx]
  rfl
def sp_goes (K : PySem.W.Frag) (t : Nat) : Sp := fun vs H Q _ => ∃ ns cs hs M v w, vs = [v, w] ∧ Same M H ∧ SqR K (SqR K Tx) cs M v ∧ SqR K Tx hs M w ∧ Ctx ns cs hs ∧ ChW cs ∧ (opn ns hs).length < t ∧ ∀ u M' H', Gr M H M' H' → Bl (satB ns cs hs) M' u → Q u H'
theorem gv_goes {K : PySem.W.Frag} {t : Nat} {σ : Sl} {M : Hp} {t1 t2 : TE} {ns hs : List Str} {cs : List (List Str)} (h1 : Gv t1 σ M (SqR K (SqR K Tx) cs)) (h2 : Gv t2 σ M (SqR K Tx hs)) (X : Ctx ns cs hs) (hw : ChW cs) (ho : (opn ns hs).length < t) : Gv (tCall (sp_goes K t) [] E0 (tCons t1 (tCons t2 tNil))) σ M (Bl (satB ns cs hs)) := fun H mh Q q =>
  h1 H mh _ fun v M1 H1 g1 p1 => h2.le g1.mm H1 g1.mh _ fun w M2 H2 g2 p2 => ⟨ns, cs, hs, M2, v, w, rfl, g2.mh, Mon.mono g2.mm p1, p2, X, hw, ho, fun u M' H' g r => q u M' H' ((g1.trans g2).trans g) r⟩
/-- a closed set of literals that meets all clauses -/
theorem sat_open {ns hs so : List Str} {cs : List (List Str)} (X : Ctx ns cs hs) (S : So ns cs hs so) (nd : ¬ Dead cs hs) (sod : ∀ x, x ∈ so ↔ Der cs hs x) (all : ∀ l ∈ cs.flatten, openP so l = false) : Sat ns cs hs := by
  let α : Str → Bool := fun n => decide (n ∈ so)
  have inn : ∀ l ∈ so, l ∈ setOf α ns := fun l hl => by
    obtain ⟨n, hn, b, rfl⟩ := litN_sd.mp (S.lit l hl)
    refine (sd_in X.nm hn).mpr ?_
    cases b with
    | true => exact decide_eq_true hl
    | false =>
      refine decide_eq_false fun h => ?_
      have := S.con n h
      rw [opp_nm (X.nm.nm n hn)] at this
      exact this hl
  refine ⟨setOf α ns, fulls_paired (setOf_mem α ns), fun x hx => inn x (S.sub x hx), fun k hk => ?_⟩
  apply Classical.byContradiction
  intro no
  refine nd ⟨k, hk, fun m hm => (sod _).mp ?_⟩
  have h1 := all m (List.mem_flatten.mpr ⟨k, hk, hm⟩)
  have h2 : m ∉ so := fun z => no ⟨m, hm, inn m z⟩
  unfold openP at h1
  rw [decide_eq_true h2, Bool.true_and, decide_eq_false_iff_not] at h1
  exact Classical.byContradiction h1
section
variable {P : Program} {w : World} {K : PySem.W.Frag} {mg : Str → Option Value} {base : Heap}
abbrev s__law_open : Stmt := topS 58
theorem sc__law_open : FnScope ["_law_clauses", "_law_so", "_law_clause", "_law_one"] ["_law_clauses", "_law_so"] (defScope s__law_open) := ⟨rfl, rfl, rfl, by decide +kernel, rfl, by decide +kernel, by decide +kernel⟩
def sp__law_open (K : PySem.W.Frag) : Sp := sp2 (SqR K (SqR K Tx)) (SqR K Tx) (fun cs _ => ∀ c ∈ cs, ∀ l ∈ c, l.length ≤ 1000) fun cs so => OpR' Tx (openF cs so)
theorem ok__law_open {f : Addr} {fd : FuncData} (F : Fun K "_law_open" "_law_open" s__law_open f fd) (c__law_neg : Cal P w K mg base 1 "_law_neg" ["_law_one"] (sp__law_neg K)) : FnOk P w K mg base CX0 2 f fd ["_law_clauses", "_law_so"] (sp__law_open K) := by
  refine F.ok sc__law_open (fun vs H Q E h => ?_) (fun cdv A outer s H vs Q E hr h => ?_)
  · obtain ⟨_, _, _, _, _, rfl, _⟩ := h
    rfl
  · obtain ⟨cs, so, M, v, u, rfl, mh, r1, r2, hl, q⟩ := h
    have hu := hr.units
    refine ⟨_, (pss_cons (ps_for PassesOwn.never (by rfl) (pi_sq (pv 0)) (pg_name (i := 2) sc__law_open.nd rfl (by first | exact .inl rfl | exact .inr rfl)) (pss_one (ps_for PassesOwn.never (by rfl) (pi_sq (pv 2)) (pg_name (i := 3) sc__law_open.nd rfl (by first | exact .inl rfl | exact .inr rfl)) (pss_one (ps_if (PW.pt (pw_and (pt_cmpR (op_niA hu) (pv 3) (pv 1) (by rfl)) (pw_and1 (pt_cmpR (op_niA hu) (pe_f c__law_neg (hr.mono (by decide)) (pa_cons (pv 3) pa_nil)) (pv 1) (by rfl))))) (pss_one (ps_ret (pv 3))) pss_nil)))))
      (pss_one (ps_ret pe_non))), ?_⟩
    refine q_for (R1 := SqR K Tx) (xs := cs) mh (gv_var rfl r1) (fun M1' i σ' M' H' => ∃ y2 y3, Gr M H M' H' ∧ Same M1' M' ∧ (∀ l ∈ (cs.take i).flatten, openP so l = false) ∧ σ' = [some v, some u, y2, y3])
      (fun M1 H1 g1 => ⟨_, _, g1, Same.refl _, fun _ z => (nomatch z), rfl⟩) (fun M1 i σ' M' H' ⟨_, _, g, s1, _⟩ => ⟨s1, g.mh⟩) ?_ ?_
    · rintro M1 i c vc σ' M2 H2 sM hx ⟨y2, y3, g2, s1, hno, rfl⟩ rc
      have hc := hl c (List.mem_of_getElem? hx)
      have hil : i < cs.length := (List.getElem?_eq_some_iff.mp hx).1
      have spl : cs = cs.take i ++ c :: cs.drop (i + 1) := by
        obtain ⟨hi, e⟩ := List.getElem?_eq_some_iff.mp hx
        rw [← e, ← List.drop_eq_getElem_cons hi, List.take_append_drop]
      have fl : cs.flatten = (cs.take i).flatten ++ (c ++ (cs.drop (i + 1)).flatten) := by
        conv => lhs; rw [spl]
        rw [List.flatten_append, List.flatten_cons]
      refine s_for (R1 := Tx) (xs := c) g2.mh (gv_var rfl rc) (fun M1' j σ' M' H' => ∃ y3, Gr M H M' H' ∧ Same M1' M' ∧ Same M2 M' ∧ (∀ l ∈ c.take j, openP so l = false) ∧ σ' = [some v, some u, some vc, y3])
        (fun M3 H3 g3 => ⟨_, g2.trans g3, Same.refl _, g3.mm, fun _ z => (nomatch z), rfl⟩) (fun M3 j σ' M' H' ⟨_, g, s1, _⟩ => ⟨s1, g.mh⟩) ?_ ?_
      · rintro M3 j l vl σ' M4 H4 sM2 hy ⟨y3', g4, s3, s4, hno2, rfl⟩ rl
        have hlm := List.mem_of_getElem? hy
        refine s_if0 (b := openP so l) g4.mh (gt_and (b := decide (l ∉ so)) (c := decide (opp l ∉ so)) (gt_is (gt_test (gv_inA (K := K) (neg := true) (x := l) (xs := so) (gv_var rfl rl) (gv_var rfl (.inl (Mon.mono g4.mm r2))))) (by simp)) fun _ => gt_is (gt_test (gv_inA (K := K) (neg := true) (x := opp l) (xs := so) (gv_call1 (R1 := Tx) (pre := fun x => x.length ≤ 1000) (R := fun x => Tx (opp x)) (x := l) (gv_var rfl rl) (hc l hlm)) (gv_var rfl (.inl (Mon.mono g4.mm r2))))) (by simp)) (fun hb H5 hh5 => ?_) fun hb H5 hh5 => ?_
        · have e : openF cs so = some l := by
            have spl2 : c = c.take j ++ l :: c.drop (j + 1) := by
              obtain ⟨hj, e⟩ := List.getElem?_eq_some_iff.mp hy
              rw [← e, ← List.drop_eq_getElem_cons hj, List.take_append_drop]
            unfold openF
            rw [fl]
            have : (cs.take i).flatten ++ (c ++ (cs.drop (i + 1)).flatten) = ((cs.take i).flatten ++ c.take j) ++ l :: (c.drop (j + 1) ++ (cs.drop (i + 1)).flatten) := by
              conv => lhs; rw [spl2]
              simp
            rw [this]
            exact find_mid (fun y hy => by
              rcases List.mem_append.mp hy with hy | hy
              · exact hno y hy
              · exact hno2 y hy) hb
          exact s_ret (P := OpR' Tx (some l)) (g4.mh.trans hh5) (gv_var rfl rl) fun z M' H' g r => q z M' H' ((g4.trans (.idle g4.mh hh5)).trans g) (by show OpR' Tx (openF cs so) M' z; rw [e]; exact r)
        · refine ⟨M4, _, g4.trans (.idle g4.mh hh5), s3, s4, fun y hym => ?_, rfl⟩
          rw [List.take_add_one, hy] at hym
          rcases List.mem_append.mp hym with h | h
          · exact hno2 y h
          · have : y = l := by simpa using h
            rw [this]; exact hb
      · rintro M3 σ' M4 H4 sM2 ⟨y3', g4, s3, s4, hno2, rfl⟩
        rw [List.take_length] at hno2
        refine ⟨M4, _, _, g4, s1.trans s4, fun y hym => ?_, rfl⟩
        rw [List.take_add_one, hx, List.flatten_append] at hym
        rcases List.mem_append.mp hym with h | h
        · exact hno y h
        · exact hno2 y (by simpa using h)
    · rintro M1 σ' M2 H2 sM ⟨y2, y3, g2, s1, hno, rfl⟩
      rw [List.take_length] at hno
      have e : openF cs so = none := List.find?_eq_none.mpr fun y hy => by rw [hno y hy]; decide
      exact s_ret (P := fun _ z => z = .non) g2.mh (gv_c rfl) fun z M' H' g r => q z M' H' (g2.trans g) (by show OpR' Tx (openF cs so) M' z; rw [e]; exact r)
abbrev s__law_goes : Stmt := topS 59
theorem sc__law_goes : FnScope ["_law_clauses", "_law_half", "_law_so", "_law_one"] ["_law_clauses", "_law_half"] (defScope s__law_goes) := ⟨rfl, rfl, rfl, by decide +kernel, rfl, by decide +kernel, by decide +kernel⟩
theorem ok_goes0 {f : Addr} {fd : FuncData} : FnOk P w K mg base CX0 3 f fd ["_law_clauses", "_law_half"] (sp_goes K 0) :=
  ⟨fun vs H Q E ⟨_, _, _, _, _, _, e, _⟩ => by subst e; rfl, fun A outer s H args us vs Q E _ _ _ _ ⟨_, _, _, _, _, _, e, _, _, _, _, _, h, _⟩ => absurd h (Nat.not_lt_zero _)⟩
theorem ok_goes {f : Addr} {fd : FuncData} {t : Nat} (F : Fun K "_law_goes" "_law_goes" s__law_goes f fd) (c__law_chase : Cal P w K mg base 2 "_law_chase" ["_law_clauses", "_law_half"] (sp__law_chase K)) (c__law_open : Cal P w K mg base 2 "_law_open" ["_law_clauses", "_law_so"] (sp__law_open K)) (c__law_neg : Cal P w K mg base 1 "_law_neg" ["_law_one"] (sp__law_neg K))
    (c__law_goes : Cal P w K mg base (t + 3) "_law_goes" ["_law_clauses", "_law_half"] (sp_goes K t)) : FnOk P w K mg base CX0 (t + 4) f fd ["_law_clauses", "_law_half"] (sp_goes K (t + 1)) := by
  refine F.ok sc__law_goes (fun vs H Q E h => ?_) (fun cdv A outer s H vs Q E hr h => ?_)
  · obtain ⟨_, _, _, _, _, _, rfl, _⟩ := h
    rfl
  · obtain ⟨ns, cs, hs, M, v, u, rfl, mh, r1, r2, X, hw, ho, q⟩ := h
    have hu := hr.units
    refine ⟨_, (pss_cons (ps_set (i := 2) sc__law_goes.nd rfl (by first | exact .inl rfl | exact .inr rfl) (pe_f c__law_chase (hr.mono (by omega)) (pa_cons (pv 0) (pa_cons (pv 1) pa_nil))))
      (pss_cons (ps_if (pt_cmp (pc_isN (pv 2))) (pss_one (ps_ret pe_bl)) pss_nil)
      (pss_cons (ps_set (i := 3) sc__law_goes.nd rfl (by first | exact .inl rfl | exact .inr rfl) (pe_f c__law_open (hr.mono (by omega)) (pa_cons (pv 0) (pa_cons (pv 2) pa_nil))))
      (pss_one (ps_ret (pe_or (pe_cmp (pc_isN (pv 3))) (pe_or (pe_f c__law_goes (hr.mono (by omega)) (pa_cons (pv 0) (pa_cons (pe_op op_addA (pv 2) (pe_lst (pa_cons (pv 3) pa_nil))) pa_nil))) (pe_one (pe_f c__law_goes (hr.mono (by omega)) (pa_cons (pv 0) (pa_cons (pe_op op_addA (pv 2) (pe_lst (pa_cons (pe_f c__law_neg (hr.mono (by omega)) (pa_cons (pv 3) pa_nil)) pa_nil))) pa_nil))))))))))), ?_⟩
    have Xn := X.nm.n
    have hl : hs.length ≤ 1000000 := Nat.le_trans (lits_len X.h X.nm) (Nat.le_trans Xn (by decide))
    have shl : ∀ c ∈ cs, ∀ l ∈ c, l.length ≤ 1000 := fun c hc l h => Nat.le_trans (lits_short (X.c c hc) X.nm l h) (by decide)
    refine q_asg (P := fun M v => ∃ r, LChase cs (once hs) r ∧ OpR' (LiR Tx) r M v) mh (gv_call2 (R1 := SqR K (SqR K Tx)) (R2 := SqR K Tx) (pre := ChOk) (R := fun cs hs M v => ∃ r, LChase cs (once hs) r ∧ OpR' (LiR Tx) r M v) (x := cs) (y := hs) (gv_var rfl r1) (gv_var rfl r2) ⟨hw.1, hw.2.1, hw.2.2, hl⟩) fun v2 M1 H1 g1 ⟨r, hr1, p2⟩ => ?_
    have e1 : EndsOk ns cs hs r := lchase_ok X (by rw [once_self (lits_nodup X.h)] at hr1; exact hr1) (.init X)
    refine q_if0 (b := r.isNone) g1.mh (gt_B (gv_isN (b := r.isNone) (gv_var rfl p2) fun M v h => op_non li_ref h)) (fun hb H2 hh2 => ?_) fun hb H2 hh2 => ?_
    · cases r with
      | some so => cases hb
      | none =>
        refine s_ret (P := Bl false) (g1.mh.trans hh2) (gv_c rfl) fun z M' H' g r => q z M' H' ((g1.trans (.idle g1.mh hh2)).trans g) ?_
        rw [show satB ns cs hs = false from by
          cases e : satB ns cs hs with
          | false => rfl
          | true => exact absurd (satB_iff.mp e) (dead_unsat X e1)]
        exact r
    cases r with
    | none => cases hb
    | some so =>
      have G2 := g1.trans (.idle g1.mh hh2)
      have p2 : LiR Tx so M1 v2 := p2
      obtain ⟨nd, sod, S⟩ := e1
      have Lso := so_lits X.nm S
      refine q_asg (P := OpR' Tx (openF cs so)) G2.mh (gv_call2 (R1 := SqR K (SqR K Tx)) (R2 := SqR K Tx) (pre := fun cs _ => ∀ c ∈ cs, ∀ l ∈ c, l.length ≤ 1000) (R := fun cs so => OpR' Tx (openF cs so)) (x := cs) (y := so) (gv_var rfl (Mon.mono g1.mm r1)) (gv_var rfl p2.sq) shl) fun v3 M3 H3 g3 p3 => ?_
      have G3 := G2.trans g3
      have p23 : LiR Tx so M3 v2 := Mon.mono g3.mm p2
      have r13 : SqR K (SqR K Tx) cs M3 v := Mon.mono (g1.mm.trans g3.mm) r1
      have eqs : satB ns cs hs = satB ns cs so := by rw [Bool.eq_iff_iff, satB_iff, satB_iff]; exact sat_so X ⟨nd, sod, S⟩
      cases eo : openF cs so with
      | none =>
        rw [eo] at p3
        have all : ∀ l ∈ cs.flatten, openP so l = false := fun l hl => by
          have := List.find?_eq_none.mp eo l hl
          cases e : openP so l with
          | false => rfl
          | true => exact absurd e this
        refine s_ret (P := Bl (true || true)) G3.mh (gv_orV (b := true) (c := true) (gv_isN (b := true) (gv_var (P := OpR' Tx none) rfl p3) fun M v h => by rw [show v = .non from h]; rfl) fun z => nomatch z) fun z M' H' g r => q z M' H' (G3.trans g) ?_
        rw [satB_iff.mpr (sat_open X S nd sod all)]
        exact r
      | some l =>
        rw [eo] at p3
        have p3 : Tx l M3 v3 := p3
        cases (show v3 = V.str l from p3)
        obtain ⟨k, hk, hlk⟩ := List.mem_flatten.mp (List.mem_of_find?_eq_some eo)
        have hop := List.find?_some eo
        unfold openP at hop
        rw [Bool.and_eq_true, decide_eq_true_eq, decide_eq_true_eq] at hop
        obtain ⟨n, hn, b, el⟩ := litN_sd.mp ((X.c k hk).of l hlk)
        have eo2 : opp l = sd (!b) n := by rw [el]; exact opp_sd (X.nm.nm n hn)
        have hopn : n ∈ opn ns so := by
          rw [eo2, el] at hop
          refine mem_opn.mpr ⟨hn, ?_, ?_⟩
          · cases b
            · exact hop.2
            · exact hop.1
          · cases b
            · exact hop.1
            · exact hop.2
        have le1 := opn_le (ns := ns) S.sub
        have more : ∀ b', Lits ns (so ++ [sd b' n]) ∧ (opn ns (so ++ [sd b' n])).length < t := fun b' => by
          have := opn_put X.nm.nd hopn (sd_side b' n)
          exact ⟨lits_put X.nm Lso hopn (sd_side b' n), by omega⟩
        have sol : so.length ≤ 1000 := Nat.le_trans (lits_len Lso X.nm) (Nat.le_trans Xn (by decide))
        have again : ∀ {σ' : Sl} {M' : Hp} {te : TE} {b' : Bool}, σ'[0]? = some (some v) → σ'[2]? = some (some v2) → Same M3 M' → Gv te σ' M' (Tx (sd b' n)) → Gv (tCall (sp_goes K t) [] E0 (tCons (tVar 0) (tCons (tOp (rAddA K) (tVar 2) (tLst (tCons te tNil))) tNil))) σ' M' (Bl (satB ns cs (so ++ [sd b' n]))) := fun {σ' M' te b'} h0 h2 sm ht =>
          gv_goes (K := K) (gv_var h0 (Mon.mono sm r13)) (gv_is (gl_addL (K := K) (R := Tx) (gv_var h2 (Mon.mono sm p23)) (gl_one ht).li (szM (by show so.length + 1 ≤ _; omega))).li fun _ _ h => LiR.sq h) ⟨X.nm, X.c, (more b').1⟩ hw (more b').2
        refine s_ret (P := Bl (false || (satB ns cs (so ++ [sd b n]) || satB ns cs (so ++ [sd (!b) n])))) G3.mh (gv_orV (b := false) (gv_isN (b := false) (gv_var (P := OpR' Tx (some l)) rfl rfl) fun M v h => by rw [show v = V.str l from h]; rfl) fun _ =>
          gv_orV (b := satB ns cs (so ++ [sd b n])) (again rfl rfl (Same.refl _) (gv_var rfl (by rw [el]))) fun _ => again (b' := !b) rfl rfl (Same.refl _) (gv_is (gv_call1 (R1 := Tx) (pre := fun x => x.length ≤ 1000) (R := fun x => Tx (opp x)) (x := l) (gv_var rfl rfl) (shl k hk l hlk)) fun M v h => by rw [← eo2]; exact h)) fun z M' H' g r => q z M' H' (G3.trans g) ?_
        have e9 : satB ns cs hs = (satB ns cs (so ++ [sd b n]) || satB ns cs (so ++ [sd (!b) n])) := by
          rw [eqs, Bool.eq_iff_iff, Bool.or_eq_true, satB_iff, satB_iff, satB_iff, sat_split hn]
          cases b with
          | true => exact .rfl
          | false => exact Or.comm
        rw [e9]
        exact r
end
/-! what is seen -/
def okA (cs al : List (List Str)) (h : List Str) : Prop := Dead cs h ∨ forcedL al h ≠ none
def okB (cs al : List (List Str)) (h : List Str) : Prop := Dead cs h ∨ ∀ f, forcedL al h = some f → ∀ l ∈ f, Der cs h l
structure SeeB (cs al hs : List (List Str)) (b1 b2 : Bool) : Prop where
  a : b1 = true ↔ ∀ h ∈ hs, okA cs al h
  b : b2 = true ↔ ∀ h ∈ hs, okA cs al h ∧ okB cs al h
structure SightPre (N ns : List Str) (cs al : List (List Str)) : Prop where
  nm : NmL ns
  n6 : ns.length ≤ 6
  c : ∀ h ∈ halves ns, Ctx N cs h
  w : ChW cs
  a : al.length ≤ 1000000
  e : ∀ s ∈ al, s.length ≤ 1000000
theorem SeeB.good {cs al hs : List (List Str)} {b1 b2 : Bool} (S : SeeB cs al hs b1 b2) {h : List Str} (h1 : okA cs al h) (h2 : okB cs al h) : SeeB cs al (hs ++ [h]) b1 b2 :=
  ⟨S.a.trans ⟨fun z x hx => by rcases List.mem_append.mp hx with hx | hx; exact z x hx; rw [List.mem_singleton.mp hx]; exact h1, fun z x hx => z x (List.mem_append_left _ hx)⟩,
   S.b.trans ⟨fun z x hx => by rcases List.mem_append.mp hx with hx | hx; exact z x hx; rw [List.mem_singleton.mp hx]; exact ⟨h1, h2⟩, fun z x hx => z x (List.mem_append_left _ hx)⟩⟩
theorem SeeB.badA {cs al hs : List (List Str)} {h : List Str} (h1 : ¬ okA cs al h) : SeeB cs al (hs ++ [h]) false false :=
  ⟨⟨fun z => (nomatch z), fun z => absurd (z h (List.mem_append_right _ (List.mem_singleton.mpr rfl))) h1⟩, ⟨fun z => (nomatch z), fun z => absurd (z h (List.mem_append_right _ (List.mem_singleton.mpr rfl))).1 h1⟩⟩
theorem SeeB.badB {cs al hs : List (List Str)} {b1 b2 : Bool} (S : SeeB cs al hs b1 b2) {h : List Str} (h1 : okA cs al h) (h2 : ¬ okB cs al h) : SeeB cs al (hs ++ [h]) b1 false :=
  ⟨S.a.trans ⟨fun z x hx => by rcases List.mem_append.mp hx with hx | hx; exact z x hx; rw [List.mem_singleton.mp hx]; exact h1, fun z x hx => z x (List.mem_append_left _ hx)⟩,
   ⟨fun z => (nomatch z), fun z => absurd (z h (List.mem_append_right _ (List.mem_singleton.mpr rfl))).2 h2⟩⟩
section
variable {P : Program} {w : World} {K : PySem.W.Frag} {mg : Str → Option Value} {base : Heap}
section
variable {σ : Sl} {M H : Hp} {te : TE} {D : Ends}
/-- xs[j] = e in a list of ours -/
theorem s_setLc {i : Nat} {j : Int} {jn : Nat} {p : Addr} {vs : List V} {v : V} (hp : H p = some (.lst vs)) (hs : σ[i]? = some (some (.ref p))) (hj : ixN vs.length j = some jn) (k : D.nx σ (upd H p (.lst (vs.set jn v)))) : tAsg (tC v) (gSub (tVar i) (tC (.int j)) rSetL) D σ H :=
  ⟨.ref p, hs, p, vs, j, jn, rfl, rfl, hp, hj, k⟩
theorem gv_sum {ns : List Int} (h : GvL te σ M fun M vs => Pd It' M ns vs) : Gv (tCB (rSum K) (tCons te tNil)) σ M (It' ns.sum) := fun H mh Q q =>
  h H mh _ fun p vs M' H' g h0 m0 hw r => ⟨p, ns, rfl, by rw [pd_itv r] at hw; exact .inl (.inl hw), q _ M' H' g rfl⟩
end
abbrev s__law_sight : Stmt := topS 61
theorem sc__law_sight : FnScope ["_law_names_here", "_law_clauses", "_law_allowed", "_law_found", "_law_half", "_law_so", "_law_forced_here"] ["_law_names_here", "_law_clauses", "_law_allowed"] (defScope s__law_sight) := ⟨rfl, rfl, rfl, by decide +kernel, rfl, by decide +kernel, by decide +kernel⟩
def sp__law_sight (K : PySem.W.Frag) : Sp := fun vs H Q _ => ∃ N ns cs al M v w u, vs = [v, w, u] ∧ Same M H ∧ LstR K Tx ns M v ∧ SqR K (SqR K Tx) cs M w ∧ SqR K TT al M u ∧ SightPre N ns cs al ∧ ∀ b1 b2 z M' H', Gr M H M' H' → SeeB cs al (halves ns) b1 b2 → LiR Bl [b1, b2] M' z → Q z H'
theorem ok__law_sight {f : Addr} {fd : FuncData} (F : Fun K "_law_sight" "_law_sight" s__law_sight f fd) (T : Gc mg) (c__law_halves : Cal P w K mg base 2 "_law_halves" ["_law_names_here"] (sp__law_halves K)) (c__law_forced : Cal P w K mg base 1 "_law_forced" ["_law_settings", "_law_half"] (sp__law_forced K))
    (c__law_chase : Cal P w K mg base 2 "_law_chase" ["_law_clauses", "_law_half"] (sp__law_chase K)) (c__law_within : Cal P w K mg base 1 "_law_within" ["_law_part", "_law_clause"] (sp__law_within K)) : FnOk P w K mg base CX0 3 f fd ["_law_names_here", "_law_clauses", "_law_allowed"] (sp__law_sight K) := by
  refine F.ok sc__law_sight (fun vs H Q E h => ?_) (fun cdv A outer s H vs Q E hr h => ?_)
  · obtain ⟨_, _, _, _, _, _, _, _, rfl, _⟩ := h
    rfl
  · obtain ⟨N, ns, cs, al, M, v, w, u, rfl, mh, r1, r2, r3, X, q⟩ := h
    have hu := hr.units
    refine ⟨_, (pss_cons (ps_set (i := 3) sc__law_sight.nd rfl (by first | exact .inl rfl | exact .inr rfl) (pe_lst (pa_cons pe_bl (pa_cons pe_bl pa_nil))))
      (pss_cons (ps_for PassesOwn.never (by rfl) (pi_sq (pe_f c__law_halves (hr.mono (by decide)) (pa_cons (pv 0) pa_nil))) (pg_name (i := 4) sc__law_sight.nd rfl (by first | exact .inl rfl | exact .inr rfl)) (pss_cons (ps_par (i := 5) (j := 6) (by rfl) sc__law_sight.nd rfl rfl (by decide) rfl rfl (pa_cons (pe_f c__law_chase (hr.mono (by decide)) (pa_cons (pv 1) (pa_cons (pv 4) pa_nil))) (pa_cons (pe_f c__law_forced (hr.mono (by decide)) (pa_cons (pv 2) (pa_cons (pv 4) pa_nil))) pa_nil)) (by rfl))
      (pss_cons (ps_if (PW.pt (pw_and (pt_cmp (pc_notN (pv 5))) (pw_and1 (pt_cmp (pc_isN (pv 6)))))) (pss_one (ps_set (i := 3) sc__law_sight.nd rfl (by first | exact .inl rfl | exact .inr rfl) (pe_lst (pa_cons pe_bl (pa_cons pe_bl pa_nil))))) pss_nil)
      (pss_one (ps_if (PW.pt (pw_and (pt_cmp (pc_notN (pv 5))) (pw_and (pt_cmp (pc_notN (pv 6))) (pw_and1 (pt_not (pt_val (pe_f c__law_within (hr.mono (by decide)) (pa_cons (pv 6) (pa_cons (pv 5) pa_nil))))))))) (pss_one (ps_asg pe_bl (pg_sub (pv 3) pe_int set_list))) pss_nil)))))
      (pss_one (ps_ret (pv 3))))), ?_⟩
    refine q_asgL mh (gl_twoL (R := Bl) (x := true) (y := true) (gv_c rfl) (gv_c rfl)) fun p vs M1 H1 g1 h01 m01 hp1 pd1 => ?_
    have ev := pd_bl pd1
    subst ev
    refine q_for (R1 := TT) (xs := halves ns) g1.mh (gv_is (gv_call1 (R1 := LstR K Tx) (pre := fun ns => ns.length ≤ 6 ∧ NmL ns) (R := fun ns => LiR TT (halves ns)) (x := ns) (gv_var rfl (Mon.mono g1.mm r1)) ⟨X.n6, X.nm⟩) fun _ _ h => h.sq)
      (fun M1' i σ' M' H' => ∃ p b1 b2 y4 y5 y6, Gr M H M' H' ∧ Same M1' M' ∧ Own H M' H' p [.bl b1, .bl b2] ∧ SeeB cs al ((halves ns).take i) b1 b2 ∧ σ' = [some v, some w, some u, some (.ref p), y4, y5, y6])
      (fun M2 H2 g2 => ⟨p, true, true, _, _, _, g1.trans g2, Same.refl _, Own.step ⟨h01, m01, hp1⟩ g2, ⟨⟨fun _ _ h => (nomatch h), fun _ => rfl⟩, ⟨fun _ _ h => (nomatch h), fun _ => rfl⟩⟩, rfl⟩) (fun M2 i σ' M' H' ⟨_, _, _, _, _, _, g, s1, _⟩ => ⟨s1, g.mh⟩) ?_ ?_
    · rintro M2 i h vh σ' M' H' sM hx ⟨p, b1, b2, y4, y5, y6, g, s1, ow, SB, rfl⟩ rh
      have hm := List.mem_of_getElem? hx
      have C := X.c h hm
      have Xn := C.nm.n
      have hl : h.length ≤ 1000000 := Nat.le_trans (lits_len C.h C.nm) (Nat.le_trans Xn (by decide))
      have et : (halves ns).take (i + 1) = (halves ns).take i ++ [h] := by rw [List.take_add_one, hx]; rfl
      refine q_par2 (a_V (P := fun M v => ∃ r, LChase cs (once h) r ∧ OpR' (LiR Tx) r M v) g.mh (gv_call2 (R1 := SqR K (SqR K Tx)) (R2 := SqR K Tx) (pre := ChOk) (R := fun cs hs M v => ∃ r, LChase cs (once hs) r ∧ OpR' (LiR Tx) r M v) (x := cs) (y := h) (gv_var rfl (Mon.mono g.mm r2)) (gv_var rfl rh.sq) ⟨X.w.1, X.w.2.1, X.w.2.2, hl⟩) fun v5 M3 H3 g3 ⟨r, hr1, p5⟩ =>
        a_V (P := OpR' (LiR Tx) (forcedL al h)) g3.mh (gv_call2 (R1 := SqR K TT) (R2 := SqR K Tx) (pre := fun ss h => ss.length ≤ 1000000 ∧ h.length ≤ 1000000 ∧ ∀ s ∈ ss, s.length ≤ 1000000) (R := fun ss h => OpR' (LiR Tx) (forcedL ss h)) (x := al) (y := h) (gv_var rfl (Mon.mono (g.mm.trans g3.mm) r3)) (gv_var rfl (Mon.mono g3.mm rh : TT h M3 vh).sq) ⟨X.a, hl, X.e⟩) fun v6 M4 H4 g4 p6 => a_nil ⟨_, _, rfl, ?_⟩)
      have e1 : EndsOk N cs h r := lchase_ok C (by rw [once_self (lits_nodup C.h)] at hr1; exact hr1) (.init C)
      have G4 := (g.trans g3).trans g4
      have ow4 := (ow.step g3).step g4
      have s14 := s1.trans (g3.mm.trans g4.mm)
      cases r with
      | none =>
        have p5 : OpR' (LiR Tx) none M4 v5 := Mon.mono g4.mm p5
        have d : Dead cs h := e1
        have n5 : ∀ {σ' : Sl} {M' : Hp}, σ'[5]? = some (some v5) → GvT (tB (tNotN (tVar 5))) σ' M' false := fun h => gt_B (gv_notN (b := true) (gv_var (P := fun _ v => v = .non) h (show v5 = .non from p5)) fun M v e => by rw [e]; rfl)
        refine q_if0 (b := false) G4.mh (gt_and (b := false) (c := false) (n5 rfl) fun z => nomatch z) (fun z => nomatch z) fun _ H5 hh5 => ?_
        refine s_if0 (b := false) (G4.mh.trans hh5) (gt_and (b := false) (c := false) (n5 rfl) fun z => nomatch z) (fun z => nomatch z) fun _ H6 hh6 => ?_
        exact ⟨M4, p, b1, b2, _, _, _, (G4.trans (.idle G4.mh hh5)).trans (.idle (G4.mh.trans hh5) hh6), s14, (ow4.idle hh5).idle hh6, by rw [et]; exact SB.good (.inl d) (.inl d), rfl⟩
      | some so =>
        have p5 : LiR Tx so M4 v5 := Mon.mono g4.mm (show LiR Tx so M3 v5 from p5)
        obtain ⟨nd, sod, S⟩ := e1
        have n5 : ∀ {σ' : Sl} {M' : Hp}, σ'[5]? = some (some v5) → GvT (tB (tNotN (tVar 5))) σ' M' true := fun h => gt_B (gv_notN (b := false) (gv_var (P := fun _ v => v = v5) h rfl) fun M v e => by
          obtain ⟨aa, _, ea, _⟩ := p5
          rw [e, ea]; rfl)
        cases hf : forcedL al h with
        | none =>
          rw [hf] at p6
          have e6 : v6 = .non := p6
          subst e6
          refine q_if0 (b := true) G4.mh (gt_and (b := true) (c := true) (n5 rfl) fun _ => gt_B (gv_isN (b := true) (gv_var (P := fun _ v => v = .non) rfl rfl) fun M v e => by rw [e]; rfl)) (fun _ H5 hh5 => ?_) fun z => nomatch z
          have G5 := G4.trans (.idle G4.mh hh5)
          show tAsg _ _ _ _ _
          refine (gl_twoL (R := Bl) (x := false) (y := false) (gv_c rfl) (gv_c rfl)) H5 G5.mh _ fun p2 vs6 M6 H6 g6 h06 m06 hp6 pd6 => ?_
          have ev := pd_bl pd6
          subst ev
          have G6 := G5.trans g6
          refine s_if0 (b := false) G6.mh (gt_and (b := true) (c := false) (n5 rfl) fun _ => gt_and (b := false) (c := false) (gt_B (gv_notN (b := true) (gv_var (P := fun _ v => v = .non) rfl rfl) fun M v e => by rw [e]; rfl)) fun z => nomatch z) (fun z => nomatch z) fun _ H7 hh7 => ?_
          have na : ¬ okA cs al h := fun z => z.elim nd fun z => z hf
          exact ⟨M6, p2, false, false, _, _, _, G6.trans (.idle G6.mh hh7), s14.trans g6.mm, Own.idle ⟨G5.hh.free h06, m06, hp6⟩ hh7, by rw [et]; exact SeeB.badA na, rfl⟩
        | some fo =>
          rw [hf] at p6
          have p6 : LiR Tx fo M4 v6 := p6
          have n6 : ∀ {σ' : Sl} {M' : Hp}, σ'[6]? = some (some v6) → GvT (tB (tIsN (tVar 6))) σ' M' false := fun h => gt_B (gv_isN (b := false) (gv_var (P := fun _ v => v = v6) h rfl) fun M v e => by
            obtain ⟨aa, _, ea, _⟩ := p6
            rw [e, ea]; rfl)
          have n6' : ∀ {σ' : Sl} {M' : Hp}, σ'[6]? = some (some v6) → GvT (tB (tNotN (tVar 6))) σ' M' true := fun h => gt_B (gv_notN (b := false) (gv_var (P := fun _ v => v = v6) h rfl) fun M v e => by
            obtain ⟨aa, _, ea, _⟩ := p6
            rw [e, ea]; rfl)
          have fl : fo.length ≤ 1000000 := by
            rcases forced_cases (ss := al) (h := h) with ⟨e, _⟩ | ⟨s, rr, f2, ef, e, mem⟩
            · rw [e] at hf; cases hf
            · rw [hf] at e
              cases e
              have hs : s ∈ al := by
                have : s ∈ fits al h := by rw [ef]; exact List.mem_cons_self ..
                unfold fits at this
                exact (List.mem_filter.mp this).1
              have : forcedL al h = some (s.filter fun l => decide (l ∉ h) && (s :: rr).all fun z => decide (l ∈ z)) := by unfold forcedL; rw [ef]
              rw [hf] at this
              rw [Option.some.inj this]
              exact Nat.le_trans (List.length_filter_le _ _) (X.e s hs)
          have a1 : okA cs al h := .inr (by rw [hf]; exact fun z => nomatch z)
          refine q_if0 (b := false) G4.mh (gt_and (b := true) (c := false) (n5 rfl) fun _ => n6 rfl) (fun z => nomatch z) fun _ H5 hh5 => ?_
          have G5 := G4.trans (.idle G4.mh hh5)
          have ow5 := ow4.idle hh5
          refine s_if0 (b := !liesIn fo so) G5.mh (gt_and (b := true) (c := !liesIn fo so) (n5 rfl) fun _ => gt_and (b := true) (c := !liesIn fo so) (n6' rfl) fun _ => gt_not (gt_B (gv_call2 (R1 := SqR K Tx) (R2 := CtR K) (pre := fun p _ => p.length ≤ 1000000) (R := fun p c => Bl (liesIn p c)) (x := fo) (y := so) (gv_var rfl p6.sq) (gv_var rfl (.inl p5.sq)) fl))) (fun hb H6 hh6 => ?_) fun hb H6 hh6 => ?_
          · have ow6 := ow5.idle hh6
            refine s_setLc (jn := 1) ow6.h rfl rfl ?_
            have nb : ¬ okB cs al h := fun z => z.elim nd fun z => by
              have : liesIn fo so = true := liesIn_iff.mpr fun l hl => (sod l).mpr (z fo hf l hl)
              rw [this] at hb
              cases hb
            exact ⟨M4, p, b1, false, _, _, _, (G5.trans (.idle G5.mh hh6)).mut ow6.h0 ow6.m, s14, ow6.put, by rw [et]; exact SB.badB a1 nb, rfl⟩
          · have ok2 : okB cs al h := .inr fun f2 e l hl => by
              rw [hf] at e
              cases e
              have hb : liesIn fo so = true := by cases e : liesIn fo so with
                | true => rfl
                | false => rw [e] at hb; cases hb
              exact (sod l).mp (liesIn_iff.mp hb l hl)
            exact ⟨M4, p, b1, b2, _, _, _, G5.trans (.idle G5.mh hh6), s14, ow5.idle hh6, by rw [et]; exact SB.good a1 ok2, rfl⟩
    rintro M2 σ' M' H' sM ⟨p, b1, b2, y4, y5, y6, g, s1, ow, SB, rfl⟩
    rw [List.take_length] at SB
    have GF := g.freeze ow.h0 ow.m ow.h
    exact s_ret GF.mh (gv_var (P := LiR Bl [b1, b2]) rfl ⟨p, _, rfl, upd_same, .cons rfl (.cons rfl .nil)⟩) fun z M9 H9 g9 r => q b1 b2 z M9 H9 (GF.trans g9) SB r
theorem flat_sum (cs : List (List Str)) : (cs.map fun k => ((k.length : Nat) : Int)).sum = ((cs.flatten.length : Nat) : Int) := by
  induction cs with
  | nil => rfl
  | cons k ks ih => rw [List.map_cons, List.sum_cons, ih, List.flatten_cons, List.length_append, Int.natCast_add]
end
end My

set_option Elab.async false
set_option linter.all false
set_option maxRecDepth 100000
set_option maxHeartbeats 8000000
namespace My
open PySem PySem.Spec PyProof.Rows L2 L3
open L3.Strm
/-- the literal renamed -/
def renL (m : Ren) (l : Str) : Str := (if cutS l none (some 1) = ("-" : Str) then ("-" : Str) else "") ++ ren m (nameOf l)
def renD (m : Ren) (c : CodeD) : CodeD := ⟨c.signs.map (ren m), c.helpers.map (ren m), onceUp (c.clauses.map fun x => x.map (renL m)) (c.signs.map (ren m) ++ c.helpers.map (ren m))⟩
structure RenOk (c : CodeD) (m : Ren) : Prop where
  k : m.map (·.1) = c.helpers
  nd : (m.map (·.2)).Nodup
  v : ∀ y ∈ m.map (·.2), isNm y = true ∧ y ∉ c.signs
theorem ren_no {m : Ren} {x : Str} (h : x ∉ m.map (·.1)) : ren m x = x := by
  unfold ren
  rw [List.find?_eq_none.mpr fun e he => by rw [decide_eq_true_eq]; exact fun z => h (List.mem_map.mpr ⟨e, he, z⟩)]
  rfl
theorem ren_map : ∀ {m : Ren}, (m.map (·.1)).Nodup → (m.map (·.1)).map (ren m) = m.map (·.2) := by
  intro m
  have key : ∀ m : Ren, (m.map (·.1)).Nodup → ∀ e ∈ m, ren m e.1 = e.2 := by
    intro m nd e he
    unfold ren
    induction m with
    | nil => cases he
    | cons f r ih =>
      rw [List.map_cons, List.nodup_cons] at nd
      rw [List.find?_cons]
      rcases List.mem_cons.mp he with rfl | he
      · rw [decide_eq_true rfl]; rfl
      · rw [decide_eq_false (fun z => nd.1 (List.mem_map.mpr ⟨e, he, z.symm⟩))]
        exact ih nd.2 he
  intro nd
  rw [List.map_map]
  exact List.map_congr_left fun e he => key m nd e he
theorem RenOk.signs {c : CodeD} {m : Ren} (R : RenOk c m) (nm : NmL c.names) : c.signs.map (ren m) = c.signs := by
  obtain ⟨_, _, d⟩ := List.nodup_append.mp (show (c.signs ++ c.helpers).Nodup from nm.nd)
  have : ∀ x ∈ c.signs, ren m x = x := fun x hx => ren_no fun z => d x hx x (by rw [R.k] at z; exact z) rfl
  rw [List.map_congr_left (g := id) this, List.map_id]
theorem RenOk.helpers {c : CodeD} {m : Ren} (R : RenOk c m) (nm : NmL c.names) : c.helpers.map (ren m) = m.map (·.2) := by
  rw [← R.k]
  exact ren_map (by rw [R.k]; exact (List.nodup_append.mp (show (c.signs ++ c.helpers).Nodup from nm.nd)).2.1)
theorem RenOk.nm {c : CodeD} {m : Ren} (R : RenOk c m) (t : LiftPre c) : NmL (c.signs ++ m.map (·.2)) := by
  have nm := t.nm
  have hl : (m.map (·.2)).length = c.helpers.length := by rw [List.length_map, ← R.k, List.length_map]
  have hs := t.s
  have n5 := t.n
  have hh : c.names.length = c.signs.length + c.helpers.length := List.length_append
  refine ⟨List.nodup_append.mpr ⟨(List.nodup_append.mp (show (c.signs ++ c.helpers).Nodup from nm.nd)).1, R.nd, fun a ha b hb e => (R.v b hb).2 (e ▸ ha)⟩, fun n hn => ?_, by rw [List.length_append]; omega⟩
  rcases List.mem_append.mp hn with hn | hn
  · exact nm.nm n (List.mem_append_left _ hn)
  · exact (R.v n hn).1
theorem RenOk.inj {c : CodeD} {m : Ren} (R : RenOk c m) (t : LiftPre c) : ∀ x ∈ c.names, ∀ y ∈ c.names, ren m x = ren m y → x = y := by
  have e : c.names.map (ren m) = c.signs ++ m.map (·.2) := by
    show (c.signs ++ c.helpers).map (ren m) = _
    rw [List.map_append, R.signs t.nm, R.helpers t.nm]
  have nd : (c.names.map (ren m)).Nodup := by rw [e]; exact (R.nm t).nd
  have : ∀ {ys : List Str}, (ys.map (ren m)).Nodup → ∀ a ∈ ys, ∀ b ∈ ys, ren m a = ren m b → a = b := by
    intro ys
    induction ys with
    | nil => intro _ a ha; cases ha
    | cons y ys ih =>
      intro nd a ha b hb e
      rw [List.map_cons, List.nodup_cons] at nd
      rcases List.mem_cons.mp ha with ea | ha1 <;> rcases List.mem_cons.mp hb with eb | hb1
      · rw [ea, eb]
      · exact absurd (by rw [← ea, e]; exact List.mem_map_of_mem (f := ren m) hb1) nd.1
      · exact absurd (by rw [← eb, ← e]; exact List.mem_map_of_mem (f := ren m) ha1) nd.1
      · exact ih nd.2 a ha1 b hb1 e
  exact this nd
theorem RenOk.mem {c : CodeD} {m : Ren} (R : RenOk c m) (t : LiftPre c) {x : Str} (h : x ∈ c.names) : ren m x ∈ c.signs ++ m.map (·.2) := by
  have e : c.names.map (ren m) = c.signs ++ m.map (·.2) := by
    show (c.signs ++ c.helpers).map (ren m) = _
    rw [List.map_append, R.signs t.nm, R.helpers t.nm]
  rw [← e]
  exact List.mem_map_of_mem h
theorem cut_nm {n : Str} (h : isNm n = true) : ¬ cutS n none (some 1) = ("-" : Str) := by
  obtain ⟨c, r, rfl, hc⟩ := nm_S h
  rw [head1, minus]
  exact fun e => hc (by have := SX.S_inj e; simpa using this)
theorem cut_neg (n : Str) : cutS (("-" : Str) ++ n) none (some 1) = ("-" : Str) := by
  rw [← SX.S_tl n, neg_S, head1, minus]
theorem empty_cat (x : Str) : ("" : Str) ++ x = x := by rw [← SX.S_tl x]; exact SX.S_cat [] _
theorem renL_side {m : Ren} {n l : Str} (h : isNm n = true) (e : Side n l) : Side (ren m n) (renL m l) := by
  unfold renL
  rcases e with e | e
  · rw [e, nameOf_nm h, if_neg (cut_nm h), empty_cat]; exact .inl rfl
  · rw [e, nameOf_neg h, if_pos (cut_neg n)]; exact .inr rfl
theorem ren_lits {c : CodeD} {m : Ren} (R : RenOk c m) (t : LiftPre c) {x : List Str} (L : Lits c.names x) : Lits (c.signs ++ m.map (·.2)) (x.map (renL m)) := by
  have NM := R.nm t
  have key : ∀ l ∈ x, nameOf l ∈ c.names ∧ nameOf (renL m l) = ren m (nameOf l) ∧ Side (ren m (nameOf l)) (renL m l) := fun l hl => by
    obtain ⟨n, hn, e⟩ := L.of l hl
    have h := t.nm.nm n hn
    have s := renL_side (m := m) h e
    have en := side_name h e
    rw [en]
    exact ⟨hn, side_name (NM.nm _ (R.mem t hn)) s, s⟩
  refine ⟨?_, fun l hl => ?_⟩
  · have nd := L.nd
    rw [List.map_map]
    have go : ∀ {ys : List Str}, (∀ l ∈ ys, l ∈ x) → (ys.map nameOf).Nodup → (ys.map (nameOf ∘ renL m)).Nodup := by
      intro ys
      induction ys with
      | nil => intro _ _; exact .nil
      | cons y ys ih =>
        intro hs nd
        rw [List.map_cons, List.nodup_cons] at nd ⊢
        refine ⟨fun z => ?_, ih (fun l hl => hs l (List.mem_cons_of_mem _ hl)) nd.2⟩
        obtain ⟨l, hl, e⟩ := List.mem_map.mp z
        obtain ⟨k1, k2, _⟩ := key l (hs l (List.mem_cons_of_mem _ hl))
        obtain ⟨k3, k4, _⟩ := key y (hs y (List.mem_cons_self ..))
        have e : nameOf (renL m l) = nameOf (renL m y) := e
        rw [k2, k4] at e
        exact nd.1 (List.mem_map.mpr ⟨l, hl, R.inj t _ k1 _ k3 e⟩)
    exact go (fun l hl => hl) nd
  · obtain ⟨k, hk, rfl⟩ := List.mem_map.mp hl
    obtain ⟨h1, _, h3⟩ := key k hk
    exact ⟨_, R.mem t h1, h3⟩
theorem zip_self {α β : Type} {f : α → β} : ∀ x : List α, x.zip (x.map f) = x.map fun l => (l, f l)
  | [] => rfl
  | a :: r => by rw [List.map_cons, List.zip_cons_cons, zip_self r]; rfl
section
variable {P : Program} {w : World} {K : PySem.W.Frag} {mg : Str → Option Value} {base : Heap}
theorem gv_ren {σ : Sl} {M : Hp} {td ty tx : TE} {m : Ren} {x : Str} (h1 : Gv td σ M (MapR m)) (h2 : Gv ty σ M (Tx x)) (h3 : Gv tx σ M (Tx x)) : Gv (tDGet2 td ty tx) σ M (Tx (ren m x)) := fun H mh Q q =>
  h1 H mh _ fun v M1 H1 g1 ⟨p, e, r⟩ => ⟨p, e, .inl ⟨mapK m, .inl (g1.mh _ _ r)⟩, h2.le g1.mm H1 g1.mh _ fun u M2 H2 g2 r2 => h3.le (g1.mm.trans g2.mm) H2 g2.mh _ fun z M3 H3 g3 r3 => by
    have g := (g1.trans g2).trans g3
    cases (show u = _ from r2)
    cases (show z = _ from r3)
    refine ⟨_, .k (k := Sum.inr x) (g3.mh _ _ (g3.mm _ _ (g2.mm _ _ r))), ?_⟩
    rw [valV_map]
    refine q _ M3 H3 g ?_
    show _ = V.str (ren m x)
    unfold ren
    cases (m.find? fun e => decide (e.1 = x)) with
    | none => rfl
    | some e => rfl⟩
abbrev s__law_renamed : Stmt := topS 62
theorem sc__law_renamed : FnScope ["_law_c", "_law_renamed_here", "_law_signs", "_law_helpers", "_law_some", "_law_clause", "_law_words", "_law_one", "_law_name"] ["_law_c", "_law_renamed_here"] (defScope s__law_renamed) := ⟨rfl, rfl, rfl, by decide +kernel, rfl, by decide +kernel, by decide +kernel⟩
def sp__law_renamed (K : PySem.W.Frag) : Sp := sp2 LawR MapR (fun c m => LiftPre c ∧ RenOk c m) fun c m => LawR (renD m c)
theorem ok__law_renamed {f : Addr} {fd : FuncData} (F : Fun K "_law_renamed" "_law_renamed" s__law_renamed f fd) (T : Gc mg) (hz : mg "zip" = none) (c__law_bare : Cal P w K mg base 1 "_law_bare" ["_law_one"] (sp__law_bare K)) (c__law_once : Cal P w K mg base 2 "_law_once" ["_law_clauses", "_law_names_here"] (sp__law_once K)) :
    FnOk P w K mg base CX0 3 f fd ["_law_c", "_law_renamed_here"] (sp__law_renamed K) := by
  refine F.ok sc__law_renamed (fun vs H Q E h => ?_) (fun cdv A outer s H vs Q E hr h => ?_)
  · obtain ⟨x, y, M, v, w, rfl, _⟩ := h
    rfl
  · obtain ⟨c, m, M, v, w, rfl, mh, r1, r2, ⟨TB, RO⟩, q⟩ := h
    have hu := hr.units
    refine ⟨_, (pss_cons (ps_setLc (i := 2) (own := [("_law_one", 7)]) (g := (gName 7)) (tt := tYes) (te := (tDGet2 (tVar 1) (tVar 7) (tVar 7))) (by rfl) sc__law_renamed.nd rfl rfl (sw_true rfl rfl rfl (by decide +kernel)) (pi_sq (pe_dget (Nat.lt_of_le_of_lt (Nat.add_le_add_left (by decide) _) hu) (pv 0) pe_str (fun _ _ => rfl))) (blkOk_by (by rfl)) (fun _ _ _ _ _ => (pg_name (i := 7) sc__law_renamed.nd rfl (by first | exact .inl rfl | exact .inr rfl))) (fun _ _ _ _ _ => pts_nil) (fun _ _ _ _ _ => (pe_dget2 (Nat.lt_of_le_of_lt (Nat.add_le_add_left (by decide) _) hu) (pv 1) (pv 7) (pv 7) ⟨rfl, rfl, rfl, rfl⟩)))
      (pss_cons (ps_setLc (i := 3) (own := [("_law_one", 7)]) (g := (gName 7)) (tt := tYes) (te := (tDGet2 (tVar 1) (tVar 7) (tVar 7))) (by rfl) sc__law_renamed.nd rfl rfl (sw_true rfl rfl rfl (by decide +kernel)) (pi_sq (pe_dget (Nat.lt_of_le_of_lt (Nat.add_le_add_left (by decide) _) hu) (pv 0) pe_str (fun _ _ => rfl))) (blkOk_by (by rfl)) (fun _ _ _ _ _ => (pg_name (i := 7) sc__law_renamed.nd rfl (by first | exact .inl rfl | exact .inr rfl))) (fun _ _ _ _ _ => pts_nil) (fun _ _ _ _ _ => (pe_dget2 (Nat.lt_of_le_of_lt (Nat.add_le_add_left (by decide) _) hu) (pv 1) (pv 7) (pv 7) ⟨rfl, rfl, rfl, rfl⟩)))
      (pss_cons (ps_set (i := 4) sc__law_renamed.nd rfl (by first | exact .inl rfl | exact .inr rfl) (pe_lst pa_nil))
      (pss_cons (ps_for PassesOwn.never (by rfl) (pi_sq (pe_dget (Nat.lt_of_le_of_lt (Nat.add_le_add_left (by decide) _) hu) (pv 0) pe_str (fun _ _ => rfl))) (pg_name (i := 5) sc__law_renamed.nd rfl (by first | exact .inl rfl | exact .inr rfl)) (pss_cons (ps_setLc (i := 6) (own := [("_law_one", 7)]) (g := (gName 7)) (tt := tYes) (te := (tDGet2 (tVar 1) (tCall (sp__law_bare K) [] E0 (tCons (tVar 7) tNil)) (tCall (sp__law_bare K) [] E0 (tCons (tVar 7) tNil)))) (by rfl) sc__law_renamed.nd rfl rfl (sw_true rfl rfl rfl (by decide +kernel)) (pi_sq (pv 5)) (blkOk_by (by rfl)) (fun _ _ _ _ _ => (pg_name (i := 7) sc__law_renamed.nd rfl (by first | exact .inl rfl | exact .inr rfl))) (fun _ _ _ _ _ => pts_nil) (fun _ _ _ _ _ => (pe_dget2 (Nat.lt_of_le_of_lt (Nat.add_le_add_left (by decide) _) hu) (pv 1) (pe_f c__law_bare (hr.mono (by decide)) (pa_cons (pv 7) pa_nil)) (pe_f c__law_bare (hr.mono (by decide)) (pa_cons (pv 7) pa_nil)) ⟨rfl, rfl, rfl, rfl⟩)))
      (pss_one (ps_expr (pe_bm PySem.F.plainAttrs_list PySem.F.slot_list_append PySem.F.type_list_append mt_append (pv 4) (pa_cons (pe_lc (own := [("_law_one", 7), ("_law_name", 8)]) (g := (gTup K 2 (gCons (gName 7) (gCons (gName 8) gNil)))) (tt := tYes) (te := (tOp (rAddA K) (tIf (tTest (tOp (rEqP K false) (tSl (rSlX K) (tVar 7) tNoPart (tPart (tC (.int 1)))) (tC (.str "-")))) (tC (.str "-")) (tC (.str ""))) (tVar 8))) (by rfl) sc__law_renamed.nd (pi_zipS (by rfl) hz (pa_cons (pv 5) (pa_cons (pv 6) pa_nil))) (blkOk_by (by rfl)) (fun _ _ _ _ _ => (pg_tup (by rfl) (pgs_cons (pg_name (i := 7) sc__law_renamed.nd rfl (by first | exact .inl rfl | exact .inr rfl)) (pgs_cons (pg_name (i := 8) sc__law_renamed.nd rfl (by first | exact .inl rfl | exact .inr rfl)) pgs_nil)))) (fun _ _ _ _ _ => pts_nil) (fun _ _ _ _ _ => (pe_op op_addA (pe_ifExp (pt_cmpR (op_eqP hu) (pe_slice sl_X (pv 7) po_none (po_some pe_int)) pe_str (nomark _)) pe_str pe_str) (pv 8)))) pa_nil))))))
      (pss_one (ps_ret (pe_disp (pps_cons pe_str (pv 2) (pps_cons pe_str (pv 3) (pps_cons pe_str (pe_f c__law_once (hr.mono (by decide)) (pa_cons (pv 4) (pa_cons (pe_op op_addA (pv 2) (pv 3)) pa_nil))) pps_nil))) (by rfl) (by rfl) (by intro z; cases z) (by decide)))))))), ?_⟩
    have n4 := TB.n
    have s3 := TB.s
    have h1 : c.names.length = c.signs.length + c.helpers.length := List.length_append
    have k60 := TB.k
    have NM := RO.nm TB
    have es := RO.signs TB.nm
    have eh := RO.helpers TB.nm
    have nn : ∀ n ∈ c.names, n.length ≤ 8 := fun n hn => nm_len (TB.nm.nm n hn)
    have ly : ∀ l x, l ∈ x → Lits c.names x → l.length ≤ 1000 := fun l x hl L => Nat.le_trans (lits_short L TB.nm l hl) (by decide)
    refine q_asg (P := LiR Tx (c.signs.map (ren m))) mh (gl_m1 (S := Tx) (R := Tx) (xs := c.signs) (gi_sq (K := K) (gv_is (gv_cS (gv_var rfl r1)) fun _ _ h => LiR.sq h)) (szK (by omega)) (ren m) fun x hx M1 u1 sm ru => gv_ren (gv_var rfl (Mon.mono sm r2)) (gv_var rfl ru) (gv_var rfl ru)).li fun v2 M2 H2 g2 p2 => ?_
    refine q_asg (P := LiR Tx (c.helpers.map (ren m))) g2.mh (gl_m1 (S := Tx) (R := Tx) (xs := c.helpers) (gi_sq (K := K) (gv_is (gv_cH (gv_var rfl (Mon.mono g2.mm r1))) fun _ _ h => LiR.sq h)) (szK (by omega)) (ren m) fun x hx M1 u1 sm ru => gv_ren (gv_var rfl (Mon.mono (g2.mm.trans sm) r2)) (gv_var rfl ru) (gv_var rfl ru)).li fun v3 M3 H3 g3 p3 => ?_
    have G3 := g2.trans g3
    refine q_asgL g3.mh gl_nil fun p vs M4 H4 g4 h04 m04 hp4 ev => ?_
    subst ev
    have G4 := G3.trans g4
    refine q_for (R1 := TT) (xs := c.clauses) G4.mh (gv_is (gv_cC (gv_var rfl (Mon.mono G4.mm r1))) fun _ _ h => h.sq)
      (fun M1' i σ' M' H' => ∃ y5 y6 ws, Gr M H M' H' ∧ Same M1' M' ∧ Same M4 M' ∧ Own H M' H' p ws ∧ Pd (LiR Tx) M' ((c.clauses.take i).map fun x => x.map (renL m)) ws ∧ σ' = [some v, some w, some v2, some v3, some (.ref p), y5, y6, none, none])
      (fun M5 H5 g5 => ⟨_, _, [], G4.trans g5, Same.refl _, g5.mm, Own.step ⟨G3.hh.free h04, m04, hp4⟩ g5, .nil, rfl⟩) (fun M5 i σ' M' H' ⟨_, _, _, g, s1, _⟩ => ⟨s1, g.mh⟩) ?_ ?_
    · rintro M5 i x vx σ' M' H' sM hx ⟨y5, y6, ws, g, s1, s2, ow, hpd, rfl⟩ rx
      have hxm := List.mem_of_getElem? hx
      have hil : i < c.clauses.length := (List.getElem?_eq_some_iff.mp hx).1
      have Lx := TB.l x hxm
      have xl : x.length ≤ 5 := Nat.le_trans (lits_len Lx TB.nm) n4
      have up : Same M M' := g.mm
      have nl : ∀ l ∈ x, (nameOf l).length ≤ 8 := fun l hl => by
        obtain ⟨n, hn, e⟩ := Lx.of l hl
        rw [side_name (TB.nm.nm n hn) e]
        exact nn n hn
      refine q_asg (P := LiR Tx (x.map fun l => ren m (nameOf l))) g.mh (gl_m1 (S := Tx) (R := Tx) (xs := x) (gi_sq (K := K) (gv_var rfl rx.sq)) (szK (by omega)) (fun l => ren m (nameOf l)) fun l hl M6 u6 sm ru => gv_ren (gv_var rfl (Mon.mono (up.trans sm) r2)) (gv_call1 (R1 := Tx) (pre := fun x => x.length ≤ 1000) (R := fun x => Tx (nameOf x)) (gv_var rfl ru) (ly l x hl Lx)) (gv_call1 (R1 := Tx) (pre := fun x => x.length ≤ 1000) (R := fun x => Tx (nameOf x)) (gv_var rfl ru) (ly l x hl Lx))).li fun v6 M6 H6 g6 p6 => ?_
      have ow6 := ow.step g6
      have G6 := g.trans g6
      have wl := hpd.length
      rw [List.length_map, List.length_take] at wl
      have zz := zip_self (f := fun l => ren m (nameOf l)) x
      refine s_app (P := LiR Tx (x.map (renL m))) G6.mh rfl ow6.h (szL (by omega)) (gv_is (gl_comp (R := PrR K Tx Tx) (S := Tx) (xs := x.map fun l => (l, ren m (nameOf l))) (by rw [← zz]; exact gi_zipS (K := K) (gv_var rfl (Mon.mono g6.mm rx).sq) (gv_var rfl (LiR.sq p6))) tg_2 (fun x M' σ' ⟨_, _, _, _, e⟩ => by subst e; rfl) (by rw [List.length_map]; exact szK (by omega)) (fun _ => true) (fun e => (if cutS e.1 none (some 1) = ("-" : Str) then ("-" : Str) else "") ++ e.2) (fun _ _ _ _ _ _ => gt_yes) fun e he _ M7 σ7 sm ⟨u1, u2, ru1, ru2, es⟩ => by
        subst es
        obtain ⟨l, hl, rfl⟩ := List.mem_map.mp he
        have l8 : (ren m (nameOf l)).length ≤ 8 := by
          obtain ⟨n, hn, e⟩ := Lx.of l hl
          rw [side_name (TB.nm.nm n hn) e]
          exact nm_len (NM.nm _ (RO.mem TB hn))
        cases (show u1 = _ from ru1)
        cases (show u2 = _ from ru2)
        refine gv_addSt (K := K) (x := if cutS l none (some 1) = ("-" : Str) then ("-" : Str) else "") (y := ren m (nameOf l)) (gv_if (b := decide (cutS l none (some 1) = ("-" : Str))) (gt_is (gt_test (gv_eqT (K := K) (neg := false) (x := cutS l none (some 1)) (y := ("-" : Str)) py_str inj_str (gv_cutS (x := l) (lo := none) (hi := some 1) (gv_var rfl rfl) (sz1000 (ly l x hl Lx)) (fun _ _ h => h) (fun _ _ h => ⟨1, rfl, h⟩)) (gv_c rfl) (by simp [PyData.depth]))) (by simp)) (fun hb => ?_) fun hb => ?_) (gv_var rfl rfl) (szM ?_)
        · rw [if_pos (of_decide_eq_true hb)]; exact gv_c rfl
        · rw [if_neg (of_decide_eq_false hb)]; exact gv_c rfl
        · split
          · show 1 + _ ≤ _; omega
          · show 0 + _ ≤ _; omega).li fun M v h => by rw [List.filter_eq_self.mpr fun _ _ => rfl, List.map_map] at h; exact h) fun v7 M7 H7 g7 r7 => ?_
      have ow7 := ow6.step g7
      refine ⟨M7, _, _, ws ++ [v7], (G6.trans g7).mut ow7.h0 ow7.m, s1.trans (g6.mm.trans g7.mm), s2.trans (g6.mm.trans g7.mm), ow7.put, ?_, rfl⟩
      rw [List.take_add_one, hx, List.map_append]
      exact pd_app (hpd.mono (g6.mm.trans g7.mm)) (.cons r7 .nil)
    rintro M5 σ' M6 H6 sM ⟨y5, y6, ws, g, s1, s2, ow, hpd, rfl⟩
    rw [List.take_length] at hpd
    have GF := g.freeze ow.h0 ow.m ow.h
    have rS : LiR (LiR Tx) (c.clauses.map fun x => x.map (renL m)) (upd M6 p (.lst ws)) (.ref p) := ⟨p, ws, rfl, upd_same, hpd.mono (R := LiR Tx) (same_new ow.m)⟩
    have s3' := s2.trans (same_new (o := .lst ws) ow.m)
    revert GF rS s3'
    generalize upd M6 p (.lst ws) = M7
    intro GF rS s3'
    have p27 : LiR Tx (c.signs.map (ren m)) M7 v2 := Mon.mono (g3.mm.trans (g4.mm.trans s3')) p2
    have p37 : LiR Tx (c.helpers.map (ren m)) M7 v3 := Mon.mono (g4.mm.trans s3') p3
    have sh : Shorts (c.signs.map (ren m) ++ c.helpers.map (ren m)) := by rw [es, eh]; exact nm_shorts NM
    exact s_ret GF.mh (gv_disp3 (R1 := LiR Tx (c.signs.map (ren m))) (R2 := LiR Tx (c.helpers.map (ren m))) (R3 := LiR TT (onceUp (c.clauses.map fun x => x.map (renL m)) (c.signs.map (ren m) ++ c.helpers.map (ren m)))) (gv_var rfl p27) (gv_var rfl p37)
      ((gl_call2 (R1 := SqR K (CtR K)) (R2 := SqR K Tx) (pre := fun cs ns => Shorts ns ∧ cs.length ≤ 1000000) (R := fun cs ns M ws => Pd TT M (onceUp cs ns) ws) (x := c.clauses.map fun x => x.map (renL m)) (y := c.signs.map (ren m) ++ c.helpers.map (ren m)) (gv_var rfl (by
        obtain ⟨a, vs, e, hs, hp⟩ := rS
        exact .inl ⟨a, vs, e, .inl (.inl hs), Paired.mapP hp fun _ _ q => .inl (LiR.sq q)⟩)) (gv_is (gl_addL (K := K) (R := Tx) (gv_var rfl p27) (gv_var rfl p37) (szM (by rw [List.length_map, List.length_map]; omega))).li fun _ _ h => LiR.sq h) ⟨sh, by rw [List.length_map]; omega⟩).gv fun M' vs p hp m => ⟨p, vs, rfl, upd_same, hp.mono (same_new m)⟩) (by decide) (by decide) (by decide)) fun u M' H' g' r => q u M' H' (GF.trans g') r
end
end My

set_option Elab.async false
set_option linter.all false
set_option maxRecDepth 100000
set_option maxHeartbeats 4000000
namespace My
open PySem PySem.Spec PyProof.Rows L2 L3
/-! a code with other names for its helpers keeps what it allows and sees -/
theorem renL_sd {m : Ren} {n : Str} {b : Bool} (h : isNm n = true) : renL m (sd b n) = sd b (ren m n) := by
  unfold renL
  cases b
  · show (if cutS (("-" : Str) ++ n) none (some 1) = ("-" : Str) then ("-" : Str) else "") ++ ren m (nameOf (("-" : Str) ++ n)) = _
    rw [nameOf_neg h, if_pos (cut_neg n)]; rfl
  · show (if cutS n none (some 1) = ("-" : Str) then ("-" : Str) else "") ++ ren m (nameOf n) = _
    rw [nameOf_nm h, if_neg (cut_nm h), empty_cat]; rfl
theorem mem_allowed {c : CodeD} (X : CodeX c) {s : List Str} : s ∈ allowedL c.signs c.clauses c.helpers ↔ s ∈ fulls c.signs ∧ Sat c.names c.clauses s := by
  unfold allowedL
  rw [List.mem_filter]
  exact and_congr_right fun hs => by rw [← satB_iff, sat_signs X hs]
theorem LiftPre.cx {c : CodeD} (X : LiftPre c) : CodeX c := LawX.x ⟨X.nm, Nat.le_trans X.n (by decide), X.l, Nat.le_trans X.k (by decide)⟩
section
variable {c : CodeD} {m : Ren} {α γ : Str → Bool} {s : List Str}
theorem RenOk.eq (R : RenOk c m) (nm : NmL c.names) : renD m c = ⟨c.signs, m.map (·.2), onceUp (c.clauses.map fun x => x.map (renL m)) (c.signs ++ m.map (·.2))⟩ := by
  unfold renD
  rw [R.signs nm, R.helpers nm]
theorem RenOk.names (R : RenOk c m) (nm : NmL c.names) : c.names.map (ren m) = c.signs ++ m.map (·.2) := by
  show (c.signs ++ c.helpers).map (ren m) = _
  rw [List.map_append, R.signs nm, R.helpers nm]
theorem RenOk.keep (R : RenOk c m) (t : LiftPre c) {n : Str} (hn : n ∈ c.signs) : ren m n = n := by
  obtain ⟨_, _, d⟩ := List.nodup_append.mp (show (c.signs ++ c.helpers).Nodup from t.nm.nd)
  exact ren_no fun z => d n hn n (by rw [R.k] at z; exact z) rfl
theorem ren_iff (R : RenOk c m) (t : LiftPre c) (e : ∀ n ∈ c.names, γ (ren m n) = α n) {n : Str} (hn : n ∈ c.names) (b : Bool) : sd b (ren m n) ∈ setOf γ (c.signs ++ m.map (·.2)) ↔ sd b n ∈ setOf α c.names := by
  rw [sd_in (R.nm t) (R.mem t hn), sd_in t.nm hn, e n hn]
theorem ren_sub (R : RenOk c m) (t : LiftPre c) (e : ∀ n ∈ c.names, γ (ren m n) = α n) (hs : s ∈ fulls c.signs) : (∀ x ∈ s, x ∈ setOf γ (c.signs ++ m.map (·.2))) ↔ ∀ x ∈ s, x ∈ setOf α c.names := by
  have sg := sgn_nm t.nm
  have key : ∀ x ∈ s, (x ∈ setOf γ (c.signs ++ m.map (·.2)) ↔ x ∈ setOf α c.names) := fun x hx => by
    obtain ⟨n, hn, b, rfl⟩ := litN_sd.mp ((full_lits sg hs).of x hx)
    have := ren_iff R t e (List.mem_append_left _ hn) b
    rwa [R.keep t hn] at this
  exact ⟨fun h x hx => (key x hx).mp (h x hx), fun h x hx => (key x hx).mpr (h x hx)⟩
theorem ren_fits (R : RenOk c m) (t : LiftPre c) (e : ∀ n ∈ c.names, γ (ren m n) = α n) : Fits (c.clauses.map fun x => x.map (renL m)) (setOf γ (c.signs ++ m.map (·.2))) ↔ Fits c.clauses (setOf α c.names) := by
  have key : ∀ k ∈ c.clauses, ∀ x ∈ k, (renL m x ∈ setOf γ (c.signs ++ m.map (·.2)) ↔ x ∈ setOf α c.names) := fun k hk x hx => by
    obtain ⟨n, hn, b, rfl⟩ := litN_sd.mp ((t.l k hk).of x hx)
    rw [renL_sd (t.nm.nm n hn)]
    exact ren_iff R t e hn b
  constructor
  · intro f k hk
    obtain ⟨y, hy, h⟩ := f _ (List.mem_map_of_mem hk)
    obtain ⟨x, hx, rfl⟩ := List.mem_map.mp hy
    exact ⟨x, hx, (key k hk x hx).mp h⟩
  · intro f k hk
    obtain ⟨y, hy, rfl⟩ := List.mem_map.mp hk
    obtain ⟨x, hx, h⟩ := f y hy
    exact ⟨_, List.mem_map_of_mem hx, (key y hy x hx).mpr h⟩
theorem ren_up (R : RenOk c m) (t : LiftPre c) : ∀ x ∈ c.clauses.map (fun x => x.map (renL m)), Lits (c.signs ++ m.map (·.2)) x := fun x hx => by
  obtain ⟨y, hy, rfl⟩ := List.mem_map.mp hx
  exact ren_lits R t (t.l y hy)
theorem ren_sat (R : RenOk c m) (t : LiftPre c) (hs : s ∈ fulls c.signs) : Sat (c.signs ++ m.map (·.2)) (onceUp (c.clauses.map fun x => x.map (renL m)) (c.signs ++ m.map (·.2))) s ↔ Sat c.names c.clauses s := by
  classical
  obtain ⟨u1, u2⟩ := up_sames (ren_up R t)
  have inj := R.inj t
  constructor
  · rintro ⟨z, p, sub, f⟩
    obtain ⟨γ, rfl⟩ := paired_set p (R.nm t).nd
    have e : ∀ n ∈ c.names, γ (ren m n) = (fun n => γ (ren m n)) n := fun _ _ => rfl
    exact ⟨_, fulls_paired (setOf_mem (fun n => γ (ren m n)) c.names), (ren_sub R t e hs).mp sub, (ren_fits R t e).mp (fits_to u1 f)⟩
  · rintro ⟨z, p, sub, f⟩
    obtain ⟨α, rfl⟩ := paired_set p t.nm.nd
    have e : ∀ n ∈ c.names, (fun y => decide (∃ n ∈ c.names, ren m n = y ∧ α n = true)) (ren m n) = α n := fun n hn => by
      show decide _ = α n
      rw [Bool.eq_iff_iff, decide_eq_true_eq]
      exact ⟨fun ⟨k, hk, e1, e2⟩ => inj k hk n hn e1 ▸ e2, fun h => ⟨n, hn, rfl, h⟩⟩
    exact ⟨_, fulls_paired (setOf_mem (fun y => decide (∃ n ∈ c.names, ren m n = y ∧ α n = true)) _), (ren_sub R t e hs).mpr sub, fits_to u2 ((ren_fits R t e).mpr f)⟩
/-- all that is asked of the code stays -/
theorem ren_pre (R : RenOk c m) (t : LiftPre c) : LiftPre (renD m c) ∧ (renD m c).signs = c.signs ∧ (renD m c).helpers.length = c.helpers.length ∧ allowedL (renD m c).signs (renD m c).clauses (renD m c).helpers = allowedL c.signs c.clauses c.helpers ∧ (DeadC c → DeadC (renD m c)) := by
  have NM := R.nm t
  have hl : (m.map (·.2)).length = c.helpers.length := by rw [List.length_map, ← R.k, List.length_map]
  have nl : c.names.length = c.signs.length + c.helpers.length := List.length_append
  have n5 := t.n
  rw [R.eq t.nm]
  have LP : LiftPre ⟨c.signs, m.map (·.2), onceUp (c.clauses.map fun x => x.map (renL m)) (c.signs ++ m.map (·.2))⟩ := by
    refine ⟨NM, fun x hx => ?_, ?_, t.s, ?_, nf_up _ rfl⟩
    · obtain ⟨d, hd, rfl⟩ := List.mem_map.mp (mem_once.mp (show x ∈ once ((c.clauses.map fun x => x.map (renL m)).map fun d => asc d (c.signs ++ m.map (·.2))) from hx))
      exact (ren_up R t d hd).asc NM
    · show (c.signs ++ m.map (·.2)).length ≤ 5
      rw [List.length_append]
      omega
    · refine Nat.le_trans (once_len2 _) ?_
      rw [List.length_map, List.length_map]
      exact t.k
  have AL : allowedL c.signs (onceUp (c.clauses.map fun x => x.map (renL m)) (c.signs ++ m.map (·.2))) (m.map (·.2)) = allowedL c.signs c.clauses c.helpers := by
    unfold allowedL
    refine List.filter_congr fun s hs => ?_
    rw [← sat_signs LP.cx (s := s) hs, ← sat_signs t.cx hs, Bool.eq_iff_iff, satB_iff, satB_iff]
    exact ren_sat R t hs
  refine ⟨LP, rfl, hl, AL, fun D h L no => ?_⟩
  have no : ∀ s ∈ allowedL c.signs (onceUp (c.clauses.map fun x => x.map (renL m)) (c.signs ++ m.map (·.2))) (m.map (·.2)), ¬ ∀ x ∈ h, x ∈ s := no
  rw [AL] at no
  have d := D h L no
  have lit : ∀ k ∈ c.clauses, ∀ x ∈ k, ∃ n ∈ c.names, ∃ b, x = sd b n := fun k hk x hx => litN_sd.mp ((t.l k hk).of x hx)
  have d2 := ren_dead (ρ := renL m) (fun k hk x hx => by
    obtain ⟨n, hn, b, rfl⟩ := lit k hk x hx
    have h1 := t.nm.nm n hn
    rw [opp_sd h1, renL_sd h1, renL_sd h1, opp_sd (NM.nm _ (R.mem t hn))]) (fun k hk x hx y hy e => by
    obtain ⟨n, hn, b, rfl⟩ := lit k hk x hx
    obtain ⟨p, hp, d, rfl⟩ := lit k hk y hy
    rw [renL_sd (t.nm.nm n hn), renL_sd (t.nm.nm p hp)] at e
    obtain ⟨e1, e2⟩ := sd_inj (NM.nm _ (R.mem t hn)) (NM.nm _ (R.mem t hp)) e
    rw [R.inj t n hn p hp e1, e2]) d
  have eh : h.map (renL m) = h := by
    rw [List.map_congr_left (g := id) fun x hx => ?_, List.map_id]
    obtain ⟨n, hn, b, rfl⟩ := litN_sd.mp (L.of x hx)
    rw [renL_sd ((sgn_nm t.nm).nm n hn), R.keep t hn]
    rfl
  rw [eh] at d2
  exact dead_to (up_sames (ren_up R t)).1 d2
end
/-! either is a code that can be made -/
theorem sideC_in {c : CodeD} {ns : List Str} {o : Str} {d : Str → Str} (NM : NmL ns) (nm : NmL c.names) (lc : ∀ k ∈ c.clauses, Lits c.names k) (io : o ∈ ns) (is : ∀ n ∈ c.signs, n ∈ ns) (id : ∀ x ∈ litsOf c.names, d x ∈ ns) (us : ∀ x ∈ litsOf c.names, d x ≠ o ∧ d x ∉ c.signs)
    (uu : ∀ x ∈ litsOf c.names, ∀ y ∈ litsOf c.names, d x = d y → x = y) {k : List Str} (hk : k ∈ sideC c o d) : Lits ns k := by
  have dn : ∀ y ∈ litsOf c.names, isNm (d y) = true := fun y hy => NM.nm _ (id y hy)
  have on : isNm o = true := NM.nm _ io
  rcases mem_side.mp hk with hk | ⟨x, hx, rfl⟩
  · rcases mem_laid.mp hk with ⟨_, rfl⟩ | ⟨r, hr, x, hx, rfl⟩ | ⟨n, hn, rfl⟩ | ⟨x, hx, rfl⟩
    · exact lits_one1 NM (s := true) io
    · have lit : ∀ m ∈ r, m ∈ litsOf c.names := fun m hm => mem_litsOf.mpr ((lc r hr).of m hm)
      have hox := (opp_lit nm (lit x hx)).1
      have nr := lits_nodup (lc r hr)
      have no : opp x ∉ r := fun ho => by
        obtain ⟨n, hn, b, rfl⟩ := lits_sd.mp (lit x hx)
        rw [opp_sd (nm.nm n hn)] at ho
        have e := lifted_sees.nm_inj (lc r hr).nd hx ho (by rw [sd_name (nm.nm n hn), sd_name (nm.nm n hn)])
        have := (sd_inj (nm.nm n hn) (nm.nm n hn) e).2
        cases b <;> cases this
      unfold drawK
      refine ⟨?_, fun y hy => ?_⟩
      · rw [List.map_append, List.map_map]
        refine List.nodup_append.mpr ⟨?_, by simp, fun a ha b hb e => ?_⟩
        · refine nodup_map_inj (nr.sublist List.filter_sublist) fun y hy z hz e => ?_
          have hy := lit y (List.mem_filter.mp hy).1
          have hz := lit z (List.mem_filter.mp hz).1
          have e : nameOf (("-" : Str) ++ d y) = nameOf (("-" : Str) ++ d z) := e
          rw [nameOf_neg (dn y hy), nameOf_neg (dn z hz)] at e
          exact uu y hy z hz e
        · obtain ⟨y, hy, rfl⟩ := List.mem_map.mp ha
          have hyr := (List.mem_filter.mp hy).1
          rw [List.map_cons, List.map_nil, List.mem_singleton] at hb
          subst hb
          have e : nameOf (("-" : Str) ++ d y) = nameOf (d (opp x)) := e
          rw [nameOf_neg (dn y (lit y hyr)), nameOf_nm (dn _ hox)] at e
          have := uu y (lit y hyr) _ hox e
          exact no (this ▸ hyr)
      · rcases List.mem_append.mp hy with hy | hy
        · obtain ⟨z, hz, rfl⟩ := List.mem_map.mp hy
          exact litN_sd.mpr ⟨_, id z (lit z (List.mem_filter.mp hz).1), false, rfl⟩
        · rw [List.mem_singleton.mp hy]
          exact litN_sd.mpr ⟨_, id _ hox, true, rfl⟩
    · have l1 : n ∈ litsOf c.names := lits_sd.mpr ⟨n, hn, true, rfl⟩
      have l2 : ("-" : Str) ++ n ∈ litsOf c.names := lits_sd.mpr ⟨n, hn, false, rfl⟩
      have ne : n ≠ ("-" : Str) ++ n := neg_ne (nm.nm n hn)
      refine ⟨?_, fun y hy => ?_⟩
      · simp only [List.map_cons, List.map_nil, nameOf_neg (dn n l1), nameOf_neg (dn _ l2), nameOf_nm on]
        have d1 : d n ≠ d (("-" : Str) ++ n) := fun e => ne (uu _ l1 _ l2 e)
        have d2 : d n ≠ o := (us n l1).1
        have d3 : d (("-" : Str) ++ n) ≠ o := (us _ l2).1
        simp [d1, d2, d3]
      · simp only [List.mem_cons, List.not_mem_nil, or_false] at hy
        rcases hy with rfl | rfl | rfl
        · exact litN_sd.mpr ⟨_, id n l1, false, rfl⟩
        · exact litN_sd.mpr ⟨_, id _ l2, false, rfl⟩
        · exact litN_sd.mpr ⟨_, io, true, rfl⟩
    · obtain ⟨n, hn, b, rfl⟩ := lits_sd.mp hx
      have hl := signs_lits hx
      exact lits_two2 NM (a := n) (b := d (sd b n)) (s := b) (t := true) (is n hn) (id _ hl) fun e => (us _ hl).2 (by rw [← e]; exact hn)
  · exact lits_two2 NM (a := o) (b := d x) (s := false) (t := true) io (id x hx) (Ne.symm (us x hx).1)
section
variable {c1 c2 : CodeD} {ws : List Str}
theorem EithV.lits (V : EithV c1 c2 ws) (n : c1.names.length ≤ 5 ∧ c2.names.length ≤ 5) : ∀ k ∈ (eithD c1 c2 ws).clauses, Lits (eithD c1 c2 ws).names k := by
  have NM := V.nmL n
  have W := V.W
  obtain ⟨⟨m1, m2⟩, m3, m4⟩ := V.mem
  obtain ⟨u0, u1, u2, u3, u4, u5⟩ := V.un
  have inS : ∀ m ∈ c1.signs, m ∈ (eithD c1 c2 ws).names := fun m hm => List.mem_append_left _ hm
  have inW : ∀ {y}, y ∈ ws → y ∈ (eithD c1 c2 ws).names := fun h => List.mem_append_right _ h
  intro k hk
  rcases mem_eith.mp hk with rfl | hk | hk | ⟨l, hl, rfl⟩
  · exact lits_two2 NM (a := o1W ws) (b := o2W c1 ws) (s := false) (t := false) (inW m1) (inW m2) u0
  · exact sideC_in NM V.n1 V.l1 (inW m1) inS (fun x hx => inW (m3 x hx)) (fun x hx => ⟨(u1 x hx).1, (V.new (m3 x hx)).1⟩) u3 hk
  · exact sideC_in NM V.n2 V.l2 (inW m2) (fun m hm => inS m ((V.sg m).mpr hm)) (fun x hx => inW (m4 x hx)) (fun x hx => ⟨(u2 x hx).2, (V.new (m4 x hx)).2⟩) u4 hk
  · have h1 := signs_lits (c := c1) hl
    have h2 := signs_lits (c := c2) ((W.lits l).mp hl)
    obtain ⟨p, hp, b, rfl⟩ := lits_sd.mp hl
    have pn := W.s1.nm p hp
    rw [opp_sd pn]
    have e1 : d1W c1 ws (sd b p) ≠ d2W c1 c2 ws (sd b p) := u5 _ h1 _ h2
    have e2 : d1W c1 ws (sd b p) ≠ p := fun e => (V.new (m3 _ h1)).1 (by rw [e]; exact hp)
    have e3 : d2W c1 c2 ws (sd b p) ≠ p := fun e => (V.new (m4 _ h2)).1 (by rw [e]; exact hp)
    refine ⟨?_, fun y hy => ?_⟩
    · simp only [List.map_cons, List.map_nil, nameOf_neg (W.d1 _ h1), nameOf_neg (W.d2 _ h2), sd_name pn]
      simp [e1, e2, e3]
    · simp only [List.mem_cons, List.not_mem_nil, or_false] at hy
      rcases hy with rfl | rfl | rfl
      · exact litN_sd.mpr ⟨_, inW (m3 _ h1), false, rfl⟩
      · exact litN_sd.mpr ⟨_, inW (m4 _ h2), false, rfl⟩
      · exact litN_sd.mpr ⟨p, inS p hp, !b, rfl⟩
theorem eith_len (c1 c2 : CodeD) (ws : List Str) : (eithD c1 c2 ws).clauses.length = 1 + ((c1.clauses.filter fun k => decide (k = [])).length + c1.clauses.flatten.length + c1.names.length + 2 * c1.signs.length + 2 * c1.names.length) + ((c2.clauses.filter fun k => decide (k = [])).length + c2.clauses.flatten.length + c2.names.length + 2 * c2.signs.length + 2 * c2.names.length) + 2 * c1.signs.length := by
  show (eithC c1 c2 (o1W ws) (o2W c1 ws) (d1W c1 ws) (d2W c1 c2 ws)).length = _
  unfold eithC sideC
  rw [List.length_append, List.length_append, List.length_append, List.length_append, List.length_append, List.length_map, List.length_map, List.length_map, laid_len, laid_len, litsOf_len, litsOf_len, litsOf_len]
  rfl
/-- both codes and the names of the copies -/
structure EithP (c1 c2 : CodeD) (ws : List Str) : Prop where
  x1 : LiftPre c1
  x2 : LiftPre c2
  v : EithV c1 c2 ws
theorem EithP.n (X : EithP c1 c2 ws) : c1.names.length ≤ 5 ∧ c2.names.length ≤ 5 := ⟨X.x1.n, X.x2.n⟩
theorem EithP.nl (X : EithP c1 c2 ws) : (eithD c1 c2 ws).names.length ≤ 25 ∧ ws.length ≤ 22 := by
  have h1 := X.x1.n
  have h2 := X.x2.n
  have h3 := X.x1.s
  have hw := X.v.w.n
  unfold kN at hw
  refine ⟨?_, by omega⟩
  show (c1.signs ++ ws).length ≤ 25
  rw [List.length_append]
  omega
theorem EithP.p (X : EithP c1 c2 ws) : CodeP (eithD c1 c2 ws) := by
  refine ⟨X.v.nmL X.n, X.v.lits X.n, Nat.le_trans X.nl.1 (by decide), ?_⟩
  rw [eith_len]
  have h1 := nil_one X.x1.nf.nd
  have h2 := nil_one X.x2.nf.nd
  have h3 := X.x1.flat
  have h4 := X.x2.flat
  have h5 := X.x1.n
  have h6 := X.x2.n
  have h7 := X.x1.s
  have h8 := X.x2.s
  omega
theorem EithP.sl (X : EithP c1 c2 ws) : c1.signs.length = c2.signs.length := by
  have go : ∀ {xs ys : List Str}, xs.Nodup → (∀ x ∈ xs, x ∈ ys) → xs.length ≤ ys.length := nil_one.nodup_leE
  exact Nat.le_antisymm (go (sgn_nm X.x1.nm).nd fun x hx => (X.v.sg x).mp hx) (go (sgn_nm X.x2.nm).nd fun x hx => (X.v.sg x).mpr hx)
/-- no more than is told -/
theorem EithP.small (X : EithP c1 c2 ws) : ws.length ≤ 4 * c1.signs.length + 2 * (c1.helpers.length + c2.helpers.length) + 2 ∧ (eithD c1 c2 ws).clauses.length ≤ 12 * c1.signs.length + 3 * (c1.helpers.length + c2.helpers.length) + (c1.clauses ++ c2.clauses).flatten.length + 3 := by
  have hw := X.v.w.n
  unfold kN at hw
  have e1 : c1.names.length = c1.signs.length + c1.helpers.length := List.length_append
  have e2 : c2.names.length = c2.signs.length + c2.helpers.length := List.length_append
  have sl := X.sl
  have h1 := nil_one X.x1.nf.nd
  have h2 := nil_one X.x2.nf.nd
  rw [eith_len, List.flatten_append, List.length_append]
  omega
/-! what is allowed, what is seen -/
def DueP (c1 c2 : CodeD) (s : List Str) : Prop := Sat c1.names c1.clauses s ∨ Sat c2.names c2.clauses s
theorem sat_same {ns : List Str} {cs : List (List Str)} {s t : List Str} (h : ∀ x, x ∈ s ↔ x ∈ t) : Sat ns cs s ↔ Sat ns cs t := ⟨fun ⟨z, p, sub, f⟩ => ⟨z, p, fun x hx => sub x ((h x).mpr hx), f⟩, fun ⟨z, p, sub, f⟩ => ⟨z, p, fun x hx => sub x ((h x).mp hx), f⟩⟩
/-- a full setting in another order of the signs -/
theorem asc_fullW {ns ms s : List Str} (n1 : NmL ns) (n2 : NmL ms) (e : ∀ n, n ∈ ns ↔ n ∈ ms) (hs : s ∈ fulls ns) : asc s ms ∈ fulls ms ∧ ∀ x, x ∈ asc s ms ↔ x ∈ s := by
  have L := full_lits n1 hs
  refine ⟨?_, asc_same ⟨L.nd, fun x hx => by obtain ⟨m, hm, h⟩ := L.of x hx; exact ⟨m, (e m).mp hm, h⟩⟩⟩
  obtain ⟨α, rfl⟩ := full_set n1.nd hs
  have e2 : asc (setOf α ns) ms = setOf α ms := by
    have go : ∀ {ps : List Str}, (∀ x ∈ ps, x ∈ ns) → asc (setOf α ns) ps = setOf α ps := by
      intro ps
      induction ps with
      | nil => intro _; rfl
      | cons n rs ih =>
        intro h
        have hn := h n (List.mem_cons_self ..)
        have ih := ih fun x hx => h x (List.mem_cons_of_mem _ hx)
        show ([n, ("-" : Str) ++ n].filter fun l => decide (l ∈ setOf α ns)) ++ asc (setOf α ns) rs = sd (α n) n :: setOf α rs
        rw [ih]
        have e1 : (n ∈ setOf α ns) ↔ α n = true := sd_in (b := true) n1 hn
        have e2 : (("-" : Str) ++ n ∈ setOf α ns) ↔ α n = false := sd_in (b := false) n1 hn
        cases e : α n with
        | true =>
          rw [List.filter_cons, if_pos (decide_eq_true (e1.mpr e)), List.filter_cons, if_neg (by rw [decide_eq_true_eq, e2, e]; decide)]
          rfl
        | false =>
          rw [List.filter_cons, if_neg (by rw [decide_eq_true_eq, e1, e]; decide), List.filter_cons, if_pos (decide_eq_true (e2.mpr e))]
          rfl
    exact go fun x hx => (e x).mpr hx
  rw [e2]
  exact setOf_mem α _
theorem DeadC.at_ {c : CodeD} (D : DeadC c) (X : CodeX c) {s : List Str} (L : Lits c.signs s) (h : ¬ Sat c.names c.clauses s) : Dead c.clauses s := D s L fun t ht z => h (by
  obtain ⟨u, p, sub, f⟩ := ((mem_allowed X).mp ht).2
  exact ⟨u, p, fun x hx => sub x (z x hx), f⟩)
theorem EithP.sames (X : EithP c1 c2 ws) : (∀ d ∈ (eithD c1 c2 ws).clauses, ∃ d' ∈ (madeOf (eithD c1 c2 ws)).clauses, ∀ x, x ∈ d ↔ x ∈ d') ∧ ∀ d ∈ (madeOf (eithD c1 c2 ws)).clauses, ∃ d' ∈ (eithD c1 c2 ws).clauses, ∀ x, x ∈ d ↔ x ∈ d' := up_sames X.p.l
theorem EithP.ctx (X : EithP c1 c2 ws) {h : List Str} (L : Lits c1.signs h) : Ctx (eithD c1 c2 ws).names (eithD c1 c2 ws).clauses h := ⟨X.p.nm, X.p.l, lits_up L fun n hn => List.mem_append_left _ hn⟩
theorem EithP.goes (X : EithP c1 c2 ws) (D1 : DeadC c1) (D2 : DeadC c2) {s : List Str} (hs : s ∈ fulls c1.signs) : Sat (eithD c1 c2 ws).names (madeOf (eithD c1 c2 ws)).clauses s ↔ DueP c1 c2 s := by
  obtain ⟨h1, h2⟩ := X.sames
  have W := X.v.W
  have e : Sat (eithD c1 c2 ws).names (madeOf (eithD c1 c2 ws)).clauses s ↔ Sat (eithD c1 c2 ws).names (eithD c1 c2 ws).clauses s := ⟨fun ⟨t, p, sub, f⟩ => ⟨t, p, sub, fits_to h1 f⟩, fun ⟨t, p, sub, f⟩ => ⟨t, p, sub, fits_to h2 f⟩⟩
  rw [e]
  have L1 : ∀ s ∈ fulls c1.signs, Lits c1.signs s := fun s hs => full_lits W.s1 hs
  exact eith_sat X.v X.n (fun s hs no => D1.at_ X.x1.cx (L1 s hs) no) (fun s hs no => D2.at_ X.x2.cx ⟨(L1 s hs).nd, fun x hx => by obtain ⟨m, hm, h⟩ := (L1 s hs).of x hx; exact ⟨m, (W.sg m).mp hm, h⟩⟩ no) (fun s hs => X.ctx (L1 s hs)) hs
noncomputable def dueB (c1 c2 : CodeD) (s : List Str) : Bool := @decide (DueP c1 c2 s) (Classical.propDecidable _)
theorem dueB_iff {s : List Str} : dueB c1 c2 s = true ↔ DueP c1 c2 s := by unfold dueB; simp
noncomputable def dueL (c1 c2 : CodeD) : List (List Str) := (fulls c1.signs).filter (dueB c1 c2)
theorem mem_due {s : List Str} : s ∈ dueL c1 c2 ↔ s ∈ fulls c1.signs ∧ DueP c1 c2 s := by
  unfold dueL
  rw [List.mem_filter, dueB_iff]
theorem EithP.goesL (X : EithP c1 c2 ws) (D1 : DeadC c1) (D2 : DeadC c2) : (fulls c1.signs).filter (satB (eithD c1 c2 ws).names (madeOf (eithD c1 c2 ws)).clauses) = dueL c1 c2 := by
  unfold dueL
  refine List.filter_congr fun s hs => ?_
  rw [Bool.eq_iff_iff, satB_iff, dueB_iff]
  exact X.goes D1 D2 hs
/-- as the law reckons it -/
theorem EithP.dueE (x1 : LiftPre c1) (x2 : LiftPre c2) (sg : ∀ n, n ∈ c1.signs ↔ n ∈ c2.signs) : (fulls c1.signs).filter (fun s => decide (s ∈ allowedL c1.signs c1.clauses c1.helpers) || decide (asc s c2.signs ∈ allowedL c2.signs c2.clauses c2.helpers)) = dueL c1 c2 := by
  unfold dueL
  refine List.filter_congr fun s hs => ?_
  obtain ⟨h1, h2⟩ := asc_fullW (sgn_nm x1.nm) (sgn_nm x2.nm) sg hs
  rw [Bool.eq_iff_iff, Bool.or_eq_true, decide_eq_true_eq, decide_eq_true_eq, dueB_iff, mem_allowed x1.cx, mem_allowed x2.cx]
  exact or_congr ⟨fun h => h.2, fun h => ⟨hs, h⟩⟩ ⟨fun h => (sat_same h2).mp h.2, fun h => ⟨h1, (sat_same h2).mpr h⟩⟩
/-- what one code's settings are among the settings that are due -/
theorem due_one (x1 : LiftPre c1) {t : List Str} (h : t ∈ allowedL c1.signs c1.clauses c1.helpers) : t ∈ dueL c1 c2 := by
  obtain ⟨h1, h2⟩ := (mem_allowed x1.cx).mp h
  exact mem_due.mpr ⟨h1, .inl h2⟩
theorem due_two (x1 : LiftPre c1) (x2 : LiftPre c2) (sg : ∀ n, n ∈ c1.signs ↔ n ∈ c2.signs) {t : List Str} (h : t ∈ allowedL c2.signs c2.clauses c2.helpers) : asc t c1.signs ∈ dueL c1 c2 ∧ ∀ x, x ∈ asc t c1.signs ↔ x ∈ t := by
  obtain ⟨h1, h2⟩ := (mem_allowed x2.cx).mp h
  obtain ⟨e1, e2⟩ := asc_fullW (sgn_nm x2.nm) (sgn_nm x1.nm) (fun n => (sg n).symm) h1
  exact ⟨mem_due.mpr ⟨e1, .inr ((sat_same e2).mpr h2)⟩, e2⟩
theorem forced_noneW {ss : List (List Str)} {h : List Str} (e : forcedL ss h = none) : ∀ s ∈ ss, ¬ ∀ x ∈ h, x ∈ s := fun s hs z => by
  rcases forced_cases (ss := ss) (h := h) with ⟨_, e2⟩ | ⟨_, _, _, _, e2, _⟩
  · have := in_fits hs z
    rw [e2] at this
    cases this
  · rw [e] at e2; cases e2
/-- what is forced among the settings that are due is forced in each code -/
theorem forced_inW {ss rs : List (List Str)} {h g f : List Str} (e : forcedL ss h = some f) (same : ∀ x, x ∈ h ↔ x ∈ g) (sub : ∀ t ∈ rs, ∃ s ∈ ss, ∀ x, x ∈ s ↔ x ∈ t) {l : Str} (hl : l ∈ f) : forcedL rs g = none ∨ ∃ f2, forcedL rs g = some f2 ∧ l ∈ f2 := by
  rcases forced_cases (ss := rs) (h := g) with ⟨e2, _⟩ | ⟨s, r, f2, ef, e2, mem⟩
  · exact .inl e2
  refine .inr ⟨f2, e2, (mem l).mpr ?_⟩
  rcases forced_cases (ss := ss) (h := h) with ⟨e3, _⟩ | ⟨s', r', f', ef', e3, mem'⟩
  · rw [e] at e3; cases e3
  rw [e] at e3
  cases e3
  obtain ⟨_, b2, b3⟩ := (mem' l).mp hl
  have all : ∀ t ∈ s :: r, l ∈ t := fun t ht => by
    rw [← ef] at ht
    unfold fits at ht
    obtain ⟨h1, h2⟩ := List.mem_filter.mp ht
    obtain ⟨u, hu, eu⟩ := sub t h1
    refine (eu l).mp (b3 u ?_)
    rw [← ef']
    exact in_fits hu fun x hx => (eu x).mpr (of_decide_eq_true (List.all_eq_true.mp h2 x ((same x).mp hx)))
  exact ⟨all s (List.mem_cons_self ..), fun z => b2 ((same l).mpr z), all⟩
theorem EithP.sees (X : EithP c1 c2 ws) (D1 : DeadC c1) (D2 : DeadC c2) {h : List Str} (hh : h ∈ halves c1.signs) : okA (madeOf (eithD c1 c2 ws)).clauses (dueL c1 c2) h := by
  have W := X.v.W
  have Lh := halves_lits W.s1 h hh
  have hl : ∀ y ∈ h, y ∈ litsOf c1.signs := fun y hy => mem_litsOf.mpr (Lh.of y hy)
  cases e : forcedL (dueL c1 c2) h with
  | some f => exact .inr fun z => by rw [e] at z; cases z
  | none =>
    have no := forced_noneW e
    refine .inl (dead_to X.sames.1 (W.dead hl (D1 h Lh fun s hs => no s (due_one X.x1 hs)) (D2 h ⟨Lh.nd, fun x hx => by obtain ⟨m, hm, e⟩ := Lh.of x hx; exact ⟨m, (W.sg m).mp hm, e⟩⟩ fun t ht z => ?_)))
    obtain ⟨h1, h2⟩ := due_two X.x1 X.x2 X.v.sg ht
    exact no _ h1 fun x hx => (h2 x).mpr (z x hx)
theorem half_asc {ns ms h : List Str} (n1 : NmL ns) (n2 : NmL ms) (e : ∀ n, n ∈ ns ↔ n ∈ ms) (hh : h ∈ halves ns) : asc h ms ∈ halves ms ∧ ∀ x, x ∈ asc h ms ↔ x ∈ h := by
  have Lh := halves_lits n1 h hh
  have L2 : Lits ms h := ⟨Lh.nd, fun x hx => by obtain ⟨m, hm, z⟩ := Lh.of x hx; exact ⟨m, (e m).mp hm, z⟩⟩
  refine ⟨halves_all fun m hm ⟨a1, a2⟩ => ?_, asc_same L2⟩
  have hb := L2.nd
  have e := lifted_sees.nm_inj hb a1 a2 (by rw [nameOf_nm (n2.nm m hm), nameOf_neg (n2.nm m hm)])
  exact neg_ne (n2.nm m hm) e
theorem EithP.draws (X : EithP c1 c2 ws) (D1 : DeadC c1) (D2 : DeadC c2) (B1 : ∀ h ∈ halves c1.signs, okB c1.clauses (allowedL c1.signs c1.clauses c1.helpers) h) (B2 : ∀ h ∈ halves c2.signs, okB c2.clauses (allowedL c2.signs c2.clauses c2.helpers) h)
    {h : List Str} (hh : h ∈ halves c1.signs) : okB (madeOf (eithD c1 c2 ws)).clauses (dueL c1 c2) h := by
  have W := X.v.W
  have Lh := halves_lits W.s1 h hh
  have hl : ∀ y ∈ h, y ∈ litsOf c1.signs := fun y hy => mem_litsOf.mpr (Lh.of y hy)
  refine .inr fun f ef l hlf => der_to X.sames.1 ?_
  have ll : l ∈ litsOf c1.signs := by
    rcases forced_cases (ss := dueL c1 c2) (h := h) with ⟨e, _⟩ | ⟨s, r, f', ef', e, mem⟩
    · rw [ef] at e; cases e
    rw [ef] at e
    cases e
    have sf : s ∈ fits (dueL c1 c2) h := by rw [ef']; exact List.mem_cons_self ..
    unfold fits at sf
    have hs := (mem_due.mp (List.mem_filter.mp sf).1).1
    exact mem_litsOf.mpr ((full_lits W.s1 hs).of l ((mem l).mp hlf).1)
  have up2 : ∀ {g : List Str}, (∀ x, x ∈ g ↔ x ∈ h) → Lits c2.signs g → ∀ s ∈ allowedL c2.signs c2.clauses c2.helpers, True := fun _ _ _ _ => trivial
  refine W.draws hl ll ?_ ?_
  · rcases forced_inW (rs := allowedL c1.signs c1.clauses c1.helpers) ef (fun _ => .rfl) (fun t ht => ⟨t, due_one X.x1 ht, fun _ => .rfl⟩) hlf with e | ⟨f2, e, h2⟩
    · exact .inl (D1 h Lh (forced_noneW e))
    · exact (B1 h hh).imp id fun z => z f2 e l h2
  · obtain ⟨a1, a2⟩ := half_asc W.s1 W.s2 X.v.sg hh
    rcases forced_inW (rs := allowedL c2.signs c2.clauses c2.helpers) ef (fun x => (a2 x).symm) (fun t ht => ⟨_, due_two X.x1 X.x2 X.v.sg ht⟩) hlf with e | ⟨f2, e, h2⟩
    · exact .inl (dead_set (fun x hx => (a2 x).mp hx) (D2 _ (halves_lits W.s2 _ a1) (forced_noneW e)))
    · exact (B2 _ a1).imp (dead_set fun x hx => (a2 x).mp hx) fun z => der_set (fun x hx => (a2 x).mp hx) (z f2 e l h2)
end
end My

set_option Elab.async false
set_option linter.all false
set_option maxRecDepth 100000
set_option maxHeartbeats 8000000
namespace L3
open PySem PySem.Spec PyProof.Rows L2
/-- a def that raises, by its name -/
def CalX (P : Program) (w : World) (K : PySem.W.Frag) (mg : Str → Option Value) (base : Heap) (k : Nat) (x : Str) (ps : List Str) (sp : Sp) : Prop :=
  ∃ (f : Addr) (fd : FuncData), FnOk P w K mg base (L2.CX P w) k f fd ps sp ∧ mg x = some (.ref f) ∧ PySem.W.keepIn K (.ref f) = true ∧ L2.Binds K fd ps []
theorem pe_cX {X : Cx} {W : WX} {k : Nat} {x : Str} {ps : List Str} {sp : Sp} {e : Expr} {es : List Expr} {t : TA} {p pos : Pos} (c : CalX X.prog X.w X.K X.mg X.base k x ps sp) (hr : Room k X.A) (tk : Takes X W) (ha : PA X (e :: es) t) (hg : Gl X x := by rfl)
    (hdb : (x == ("__debug__" : Str)) = false := by decide) (he : starEach (e :: es) X.env = (false, eval e X.env) :: starEach es X.env := by rfl) (hpl : (backTo pos (starEach es X.env)).any (·.1) = false := by rfl) :
    PE X (.Call (.Name x p) (e :: es) [] pos) (tCallS sp (WE W) t) :=
  let ⟨_, _, F, m, kp, b⟩ := c
  pe_callS F hr hg m kp b (fun σ => passAt tk σ) ha hdb he hpl
end L3
namespace My
open PySem PySem.Spec PyProof.Rows L2 L3
/-! either -/
/-- a copy's names are those of its place -/
theorem blk_at {c : CodeD} {ws : List Str} {b : Nat} {o : Str} {m : Ren} (nm : NmL c.names) (hb : b + kN c ≤ ws.length) (hv : o :: m.map (·.2) = (ws.drop b).take (kN c)) (hk : m.map (·.1) = litsOf c.names) :
    o = ws.getD b "" ∧ ∀ x ∈ litsOf c.names, ren m x = ws.getD (b + (1 + posn (litsOf c.names) x)) "" := by
  have nd := litsOf_nodup nm.nd nm.nm
  have k1 : 1 ≤ kN c := by unfold kN; omega
  have at_ : ∀ j, j < kN c → (o :: m.map (·.2))[j]? = ws[b + j]? := fun j hj => by
    rw [hv, List.getElem?_take, if_pos hj, List.getElem?_drop]
  constructor
  · have := at_ 0 (by omega)
    rw [Nat.add_zero, getD_atW (ws := ws) (i := b) (by omega)] at this
    exact Option.some.inj this
  · intro x hx
    have hm := (ren_mem (m := m) (by rw [hk]; exact hx)).2
    obtain ⟨j, hj, ej⟩ := List.getElem_of_mem hm
    have g : m[j]? = some (x, ren m x) := by rw [← ej]; exact List.getElem?_eq_getElem hj
    have g1 : (litsOf c.names)[j]? = some x := by rw [← hk, List.getElem?_map, g]; rfl
    have g2 : (o :: m.map (·.2))[j + 1]? = some (ren m x) := by
      show (m.map (·.2))[j]? = _
      rw [List.getElem?_map, g]; rfl
    have e2 := posn_of nd g1
    have hpin := LiftW.pin hx
    rw [e2] at hpin
    rw [at_ (j + 1) (by omega), show b + (j + 1) = b + (1 + j) by omega, getD_atW (ws := ws) (i := b + (1 + j)) (by omega)] at g2
    rw [e2]
    exact (Option.some.inj g2).symm
/-- what a copy adds -/
def addE (a : Str × Ren × List (List Str)) : List (List Str) := a.2.2 ++ a.2.1.map fun e => [("-" : Str) ++ a.1, e.2]
theorem addE_side {c : CodeD} {o o' : Str} {m : Ren} {d : Str → Str} (nm : NmL c.names) (lc : ∀ k ∈ c.clauses, Lits c.names k) (hk : m.map (·.1) = litsOf c.names) (eo : o = o') (er : ∀ x ∈ litsOf c.names, ren m x = d x) : addE (o, m, laidC c o (ren m)) = sideC c o' d := by
  subst eo
  unfold addE sideC
  rw [laid_congr nm lc er]
  congr 1
  have e1 : m.map (fun e => [("-" : Str) ++ o, e.2]) = (m.map (·.2)).map fun y => [("-" : Str) ++ o, y] := by rw [List.map_map]; rfl
  show m.map (fun e => [("-" : Str) ++ o, e.2]) = _
  rw [e1, ← ren_map (by rw [hk]; exact litsOf_nodup nm.nd nm.nm), hk, List.map_map]
  exact List.map_congr_left fun x hx => by show [_, ren m x] = _; rw [er x hx]
/-- a copy among others -/
def CpR (CC : Addr) : Rl (Str × Ren × List (List Str)) := fun a => CopyR CC a.1 a.2.1 a.2.2
instance {CC : Addr} : Mon (CpR CC) := ⟨fun {x M M' v} e h => by
  obtain ⟨vl, ⟨y, dx, D, h1, h2, h3⟩, a, vs, e1, e2, e3⟩ := h
  exact ⟨vl, ⟨y, dx, D, h1, e _ _ h2, e _ _ h3⟩, a, vs, e1, e _ _ e2, e3.mono e⟩⟩
section
variable {K : PySem.W.Frag} {σ : Sl} {M : Hp} {te t ts : TE} {CC : Addr} {mg : Str → Option Value} {a : Str × Ren × List (List Str)}
theorem gv_outR (T : CopyT K mg CC) (h : Gv te σ M (CpR CC a)) : Gv (tFld K te "out") σ M (Tx a.1) := gv_fld h fun M' v ⟨vl, ⟨x, dx, D, h1, h2, h3⟩, _⟩ => ⟨x, CC, dx, _, _, h1, h2, T.cl, T.nO, rfl, rfl⟩
theorem gv_denR (T : CopyT K mg CC) (h : Gv te σ M (CpR CC a)) : Gv (tFld K te "denied") σ M (MapR a.2.1) := gv_fld h fun M' v ⟨vl, ⟨x, dx, D, h1, h2, h3⟩, _⟩ => ⟨x, CC, dx, _, .ref D, h1, h2, T.cl, T.nD, rfl, ⟨D, rfl, h3⟩⟩
theorem gv_laidR (T : CopyT K mg CC) (h : Gv te σ M (CpR CC a)) : Gv (tFld K te "laid") σ M (LiR TT a.2.2) := gv_laid T h
theorem gv_helpersR (h1 : Gv te σ M (CpR CC a)) (hl : a.2.1.length ≤ 1000) : Gv (tMeth CC "helpers" (sp_Copy_helpers K CC) [] E0 te tNil) σ M (LiR Tx (a.1 :: a.2.1.map (·.2))) := fun H mh Q q =>
  h1 H mh _ fun v M1 H1 g1 ⟨vl, ⟨x, dx, D, e, hx, hd⟩, _⟩ =>
    ⟨x, dx, _, e, g1.mh _ _ hx, rfl, a.1, a.2.1, vl, M1, v, rfl, g1.mh, ⟨x, dx, D, e, hx, hd⟩, hl, fun z M' H' g r => q z M' H' (g1.trans g) r⟩
/-- a dict that is known is locked while an expression runs -/
theorem gl_lockT {D : Addr} {kvs : List (Key × V)} {xs : List (List Str)} (hD : M D = some (.dK kvs)) (h : ∀ od, GvL t σ (upd M D (.frz od (.dK kvs))) fun M ws => Pd TT M xs ws) : GvL (tLockE t) σ M fun M ws => Pd TT M xs ws := fun H mh Q q =>
  ⟨D, .dK kvs, mh _ _ hD, trivial, fun od => by
    have hHD := mh _ _ hD
    refine h od (upd H D (.frz od (.dK kvs))) (fun x o e => ?_) _ fun p ws M1 H1 g h0 m0 hp pd => ?_
    · by_cases hx : x = D
      · subst hx; rw [upd_same] at e ⊢; exact e
      · rw [upd_ne hx] at e ⊢; exact mh x o e
    · have M1D := g.mm D _ upd_same
      have H1D := g.hh D _ upd_same
      have pD : p ≠ D := fun e => by rw [e, upd_same] at h0; cases h0
      refine ⟨H1D, q p ws (upd M1 D (.dK kvs)) (upd H1 D (.dK kvs)) ⟨fun x o e => ?_, fun x o e => ?_, fun x o e => ?_, fun x o e => ?_, fun x ps e => ?_⟩ ?_ ?_ ?_ ?_⟩
      · by_cases hx : x = D
        · subst hx; rw [upd_same]; rw [hD] at e; exact e
        · rw [upd_ne hx]; exact g.mm x o (by rw [upd_ne hx]; exact e)
      · by_cases hx : x = D
        · subst hx; rw [upd_same]; rw [hHD] at e; exact e
        · rw [upd_ne hx]; exact g.hh x o (by rw [upd_ne hx]; exact e)
      · by_cases hx : x = D
        · subst hx; rw [upd_same] at e ⊢; exact e
        · rw [upd_ne hx] at e ⊢; exact g.mh x o e
      · by_cases hx : x = D
        · subst hx; rw [upd_same] at e; exact .inl (hD.trans e)
        · rw [upd_ne hx] at e
          have := g.nw x o e
          rw [upd_ne hx, upd_ne hx] at this
          exact this
      · by_cases hx : x = D
        · subst hx; rw [upd_same] at e; cases e
        · rw [upd_ne hx] at e
          have := g.nt x ps e
          rw [upd_ne hx] at this
          exact this
      · rw [upd_ne pD] at h0; exact h0
      · rw [upd_ne pD]; exact m0
      · rw [upd_ne pD]; exact hp
      · exact Paired.mapP pd fun x v ⟨b, e, r⟩ => ⟨b, e, by rw [upd_ne (fun z => by rw [z, M1D] at r; cases r)]; exact r⟩⟩
/-- the copy itself, its dict not looked at -/
def CpO (CC b : Addr) (dx : Addr) (fs : List (Str × V)) : Pr := fun M v => v = .ref b ∧ M b = some (.ins CC dx fs)
instance {CC b dx : Addr} {fs : List (Str × V)} : Mono (CpO CC b dx fs) := ⟨fun e ⟨h1, h2⟩ => ⟨h1, e _ _ h2⟩⟩
theorem gi_valsL {D : Addr} {od : Obj} {m : Ren} (h : Gv ts σ M (fun _ v => v = .ref D)) (hD : M D = some (.frz od (.dK (mapK m)))) : GvI (iVals ts) σ M (m.map (·.2)) Tx := fun H mh Q q => h H mh _ fun v M1 H1 g1 e => by
  subst e
  have r := g1.mm _ _ hD
  have hl : (mapK m).length = (m.map (·.2)).length := by unfold mapK; rw [List.length_map, List.length_map]
  refine ⟨D, od, _, rfl, g1.mh _ _ r, q _ M1 H1 g1 ⟨_, _, (by rw [← hl]; exact walk_values (kvs := mapK m)), fun M2 H2 s1 s2 => s2 _ _ (s1 _ _ r), ?_⟩⟩
  rintro i M2 H2 v H3 s1 s2 hi ⟨rfl, k, hk⟩
  unfold mapK at hk
  rw [List.getElem?_map] at hk
  obtain ⟨x, hx, ex⟩ := Option.map_eq_some_iff.mp hk
  cases ex
  exact ⟨x.2, M2, by rw [List.getElem?_map, hx]; rfl, .refl s2, rfl⟩
end
section
variable {P : Program} {w : World} {K : PySem.W.Frag} {mg : Str → Option Value} {base : Heap}
abbrev s_either : Stmt := topS 38
theorem sc_either : FnScope ["one", "other", "fresh", "copies", "clauses", "copy", "literal", "helper"] ["one", "other"] (defScope s_either) := ⟨rfl, rfl, rfl, by decide +kernel, rfl, by decide +kernel, by decide +kernel⟩
def sp_either (K : PySem.W.Frag) (C : Addr) : Sp := fun vs H Q _ => ∃ c1 c2 M v w, vs = [v, w] ∧ Same M H ∧ CodeR C c1 M v ∧ CodeR C c2 M w ∧ (LiftPre c1 ∧ LiftPre c2 ∧ ∀ n, n ∈ c1.signs ↔ n ∈ c2.signs) ∧ ∀ ws z M' H', Gr M H M' H' → EithP c1 c2 ws → CodeR C (madeOf (eithD c1 c2 ws)) M' z → Q z H'
theorem ok_either {f0 C CC : Addr} {fd : FuncData} (F : Fun K "either" "either" s_either f0 fd) (T : Gc mg) (TC : CodeT K mg C) (TK : CopyT K mg CC) (c_are_same : Cal P w K mg base 1 "are_same" ["names", "others"] (sp_are_same K)) (c_literals_of : Cal P w K mg base 1 "literals_of" ["names"] (sp_literals_of K)) (c_new_names : Cal P w K mg base 1 "new_names" ["many", "taken"] (sp_new_names K)) (c_opposite : Cal P w K mg base 1 "opposite" ["literal"] (sp_opposite K))
    (k_Copy : Mak P w K mg base 3 "Copy" CC ["self", "code", "fresh"] (sp_Copy_init K C CC)) (m_helpers : Met P w K mg base 1 CC "helpers" ["self"] (sp_Copy_helpers K CC)) (k_Code : Mak P w K mg base 5 "Code" C ["self", "signs", "clauses", "helpers"] (sp_Code_init K C)) : FnOk P w K mg base CX0 7 f0 fd ["one", "other"] (sp_either K C) := by
  refine F.ok sc_either (fun vs H Q E h => ?_) (fun cdv A outer s H vs Q E hr h => ?_)
  · obtain ⟨_, _, _, _, _, rfl, _⟩ := h
    rfl
  · obtain ⟨c1, c2, M, v, w, rfl, mh, rc, rd, ⟨X1, X2, sg⟩, q⟩ := h
    have hu := hr.units
    refine ⟨_, (pss_cons (ps_if (pt_not (pt_val (pe_f c_are_same (hr.mono (by decide)) (pa_cons (pe_fld (pv 0) rfl) (pa_cons (pe_fld (pv 1) rfl) pa_nil))))) (pss_one ps_never) pss_nil)
      (pss_cons (ps_set (i := 2) sc_either.nd rfl (by first | exact .inl rfl | exact .inr rfl) (pe_f c_new_names (hr.mono (by decide)) (pa_cons (pe_op op_addA (pe_op op_addA (pe_op op_mul pe_int (pe_callB call_lenA (by rfl) T.len boot_len (pa_cons (pe_fld (pv 0) rfl) pa_nil))) (pe_op op_mul pe_int (pe_callB call_lenA (by rfl) T.len boot_len (pa_cons (pe_fld (pv 1) rfl) pa_nil)))) pe_int) (pa_cons (pe_op op_addA (pe_fld (pv 0) rfl) (pe_fld (pv 1) rfl)) pa_nil))))
      (pss_cons (ps_set (i := 3) sc_either.nd rfl (by first | exact .inl rfl | exact .inr rfl) (pe_lst (pa_cons (pe_mk k_Copy (hr.mono (by decide)) (pa_cons (pv 0) (pa_cons (pv 2) pa_nil))) (pa_cons (pe_mk k_Copy (hr.mono (by decide)) (pa_cons (pv 1) (pa_cons (pv 2) pa_nil))) pa_nil))))
      (pss_cons (ps_set (i := 4) sc_either.nd rfl (by first | exact .inl rfl | exact .inr rfl) (pe_lst (pa_cons (pe_tup (pa_cons (pe_op op_addA pe_str (pe_fld (pe_ix ix_X (pv 3) pe_int (fun _ _ => rfl)) rfl)) (pa_cons (pe_op op_addA pe_str (pe_fld (pe_ix ix_X (pv 3) pe_int (fun _ _ => rfl)) rfl)) pa_nil))) pa_nil)))
      (pss_cons (ps_for PassesOwn.never (by rfl) (pi_sq (pv 3)) (pg_name (i := 5) sc_either.nd rfl (by first | exact .inl rfl | exact .inr rfl)) (pss_cons (ps_expr (pe_bm PySem.F.plainAttrs_list PySem.F.slot_list_extend PySem.F.type_list_extend mt_extend (pv 4) (pa_cons (pe_fld (pv 5) rfl) pa_nil)))
      (pss_one (ps_expr (pe_bm PySem.F.plainAttrs_list PySem.F.slot_list_extend PySem.F.type_list_extend mt_extend (pv 4) (pa_cons (pe_lock (pe_lc (own := [("helper", 7)]) (g := (gName 7)) (tt := tYes) (te := (tTup (tCons (tOp (rAddA K) (tC (.str "-")) (tFld K (tVar 5) "out")) (tCons (tVar 7) tNil)))) (by rfl) sc_either.nd (pi_values (pe_fld (pv 5) rfl)) (blkOk_by (by rfl)) (fun _ _ _ _ _ => (pg_name (i := 7) sc_either.nd rfl (by first | exact .inl rfl | exact .inr rfl))) (fun _ _ _ _ _ => pts_nil) (fun _ _ _ _ _ => (pe_tup (pa_cons (pe_op op_addA pe_str (pe_fld (pv 5) rfl)) (pa_cons (pv 7) pa_nil)))))) pa_nil))))))
      (pss_cons (ps_for PassesOwn.never (by rfl) (pi_sq (pe_f c_literals_of (hr.mono (by decide)) (pa_cons (pe_fld (pv 0) rfl) pa_nil))) (pg_name (i := 6) sc_either.nd rfl (by first | exact .inl rfl | exact .inr rfl)) (pss_one (ps_expr (pe_bm PySem.F.plainAttrs_list PySem.F.slot_list_append PySem.F.type_list_append mt_append (pv 4) (pa_cons (pe_tup (pa_cons (pe_op op_addA pe_str (pe_dget (Nat.lt_of_le_of_lt (Nat.add_le_add_left (by decide) _) hu) (pe_fld (pe_ix ix_X (pv 3) pe_int (fun _ _ => rfl)) rfl) (pv 6) (fun _ _ => rfl))) (pa_cons (pe_op op_addA pe_str (pe_dget (Nat.lt_of_le_of_lt (Nat.add_le_add_left (by decide) _) hu) (pe_fld (pe_ix ix_X (pv 3) pe_int (fun _ _ => rfl)) rfl) (pv 6) (fun _ _ => rfl))) (pa_cons (pe_f c_opposite (hr.mono (by decide)) (pa_cons (pv 6) pa_nil)) pa_nil)))) pa_nil)))))
      (pss_one (ps_ret (pe_mk k_Code (hr.mono (by decide)) (pa_cons (pe_fld (pv 0) rfl) (pa_cons (pv 4) (pa_cons (pe_op op_addA (pe_m0 m_helpers (hr.mono (by decide)) (pe_ix ix_X (pv 3) pe_int (fun _ _ => rfl))) (pe_m0 m_helpers (hr.mono (by decide)) (pe_ix ix_X (pv 3) pe_int (fun _ _ => rfl)))) pa_nil)))))))))))), ?_⟩
    have n1 := X1.n
    have n2 := X2.n
    have s3 := X1.s
    have s1m : NmL c1.signs := sgn_nm X1.nm
    have s2m : NmL c2.signs := sgn_nm X2.nm
    have ll := litsOf_len c1.signs
    have s3' := X2.s
    -- the same signs
    have esame : sameN c1.signs c2.signs = true := by
      unfold sameN
      rw [Bool.and_eq_true, decide_eq_true_eq, List.all_eq_true]
      refine ⟨?_, fun x hx => decide_eq_true ((sg x).mp hx)⟩
      have go : ∀ {xs ys : List Str}, xs.Nodup → (∀ x ∈ xs, x ∈ ys) → xs.length ≤ ys.length := nil_one.nodup_leE
      exact Nat.le_antisymm (go s1m.nd fun x hx => (sg x).mp hx) (go s2m.nd fun x hx => (sg x).mpr hx)
    refine q_if0 (b := false) mh (gt_is (gt_not (gt_B (gv_call2 (R1 := SqR K Tx) (R2 := SqR K Tx) (pre := fun xs _ => xs.length ≤ 1000000) (R := fun xs ys => Bl (sameN xs ys)) (x := c1.signs) (y := c2.signs) (gv_is (gv_sign TC (gv_var rfl rc)) fun _ _ h => h.sq) (gv_is (gv_sign TC (gv_var rfl rd)) fun _ _ h => h.sq) (by omega)))) (by rw [esame]; rfl)) (fun h => nomatch h) fun _ H0 hh0 => ?_
    have G0 : Gr M H M H0 := .idle mh hh0
    -- the new names
    refine q_asgC (a_V (P := It' ((kN c1 + kN c2 : Nat) : Int)) G0.mh (gv_is (gv_addIn (K := K) (gv_addIn (K := K) (gv_mulI (i := 2) (j := c1.names.length) (gv_c rfl) (gv_lenA (K := K) (R := Tx) (xs := c1.names) (gv_is (gv_names TC (gv_var rfl rc)) fun _ _ h => h.sq)) (by decide)) (gv_mulI (i := 2) (j := c2.names.length) (gv_c rfl) (gv_lenA (K := K) (R := Tx) (xs := c2.names) (gv_is (gv_names TC (gv_var rfl rd)) fun _ _ h => h.sq)) (by decide))) (gv_c rfl)) fun M v h => (show v = _ from h).trans (congrArg V.int (by unfold kN; omega))) fun vn M2 H2 g2 r2 =>
      a_V (P := TT (c1.names ++ c2.names)) g2.mh (gv_addTT (K := K) (xs := c1.names) (ys := c2.names) (gv_names TC (gv_var rfl (Mon.mono g2.mm rc))) (gv_names TC (gv_var rfl (Mon.mono g2.mm rd))) (szM (by show c1.names.length + c2.names.length ≤ _; omega))) fun vt M3 H3 g3 r3 => a_nil ?_)
    cases (show vn = _ from r2)
    have hk1 : kN c1 ≤ 11 := by unfold kN; omega
    have hk2 : kN c2 ≤ 11 := by unfold kN; omega
    refine ⟨kN c1 + kN c2, c1.names ++ c2.names, M3, vt, rfl, g3.mh, r3.sq, ⟨by omega, by rw [List.length_append]; omega⟩, fun ws f M4 H4 g4 h04 m04 hf4 nw => ?_⟩
    have EV : EithV c1 c2 ws := ⟨X1.nm, X2.nm, X1.l, X2.l, sg, nw⟩
    have EP : EithP c1 c2 ws := ⟨X1, X2, EV⟩
    have wl := nw.n
    have G4 := ((G0.trans g2).trans g3).trans g4
    have hf0 : H f = none := ((G0.trans g2).trans g3).hh.free h04
    have of4 : Own H M4 H4 f (ws.map V.str) := ⟨hf0, m04, hf4⟩
    have up4 : Same M M4 := G4.mm
    have rc4 : CodeR C c1 M4 v := Mon.mono up4 rc
    have rd4 : CodeR C c2 M4 w := Mon.mono up4 rd
    have wy : ∀ y ∈ ws, y.length ≤ 8 := fun y hy => isNm_len (nw.nm y hy).1
    -- the first copy
    refine ⟨_, rfl, _, rfl, fun x dx hx hdx hne => ?_⟩
    have gN : Gr M4 H4 M4 (upd (upd H4 dx (.own x)) x (.ins CC dx [])) := (Gr.own g4.mh hdx).trans (.own (g4.mh.trans (same_new hdx)) (by rw [upd_ne (Ne.symm hne)]; exact hx))
    have fx : x ≠ f := fun e => by rw [e, of4.h] at hx; cases hx
    have tk : TakeAt M4 H4 M4 (upd (upd H4 dx (.own x)) x (.ins CC dx [])) f ws := ⟨Gr.cutS gN (fun b hb => by rw [List.mem_singleton.mp hb]; exact of4.m) (fun b hb => ⟨.lst (ws.map V.str), by rw [List.mem_singleton.mp hb]; exact of4.h, fun xs z => by cases z⟩), gN.hh _ _ of4.h⟩
    have k1' : 1 + 2 * c1.names.length = kN c1 := rfl
    have k2' : 1 + 2 * c2.names.length = kN c2 := rfl
    refine ⟨c1, ws, M4, H4, x, dx, v, f, rfl, tk, hx, fx, g4.mh.free hx, upd_same, rc4, ⟨X1.nm, X1.l, by omega, by have := X1.k; omega, by omega, wy⟩, fun o1 m1 M8 H8 t8 hv1 hkm1 rr1 => ⟨rfl, ?_⟩⟩
    rw [k1'] at t8 hv1
    have G8 : Gr M H M8 H8 := Gr.unS G4 t8.g fun b hb => by rw [List.mem_singleton.mp hb]; exact hf0
    have of8 : Own H M8 H8 f ((ws.drop (kN c1)).map V.str) := ⟨hf0, t8.mf, t8.f⟩
    obtain ⟨eo1, er1⟩ := blk_at (ws := ws) (b := 0) X1.nm (by omega) (by rw [List.drop_zero]; exact hv1) hkm1
    have s48 : Same M4 M8 := t8.g.mm
    have rd8 : CodeR C c2 M8 w := Mon.mono s48 rd4
    -- the second one
    refine ⟨_, rfl, _, rfl, fun y dy hy hdy hne2 => ?_⟩
    have gN2 : Gr M8 H8 M8 (upd (upd H8 dy (.own y)) y (.ins CC dy [])) := (Gr.own G8.mh hdy).trans (.own (G8.mh.trans (same_new hdy)) (by rw [upd_ne (Ne.symm hne2)]; exact hy))
    have fy : y ≠ f := fun e => by rw [e, of8.h] at hy; cases hy
    have tk2 : TakeAt M8 H8 M8 (upd (upd H8 dy (.own y)) y (.ins CC dy [])) f (ws.drop (kN c1)) := ⟨Gr.cutS gN2 (fun b hb => by rw [List.mem_singleton.mp hb]; exact of8.m) (fun b hb => ⟨.lst ((ws.drop (kN c1)).map V.str), by rw [List.mem_singleton.mp hb]; exact of8.h, fun xs z => by cases z⟩), gN2.hh _ _ of8.h⟩
    refine ⟨c2, ws.drop (kN c1), M8, H8, y, dy, w, f, rfl, tk2, hy, fy, G8.mh.free hy, upd_same, rd8, ⟨X2.nm, X2.l, by omega, by have := X2.k; omega, by rw [List.length_drop]; omega, fun y hy => wy y (List.mem_of_mem_drop hy)⟩, fun o2 m2 M9 H9 t9 hv2 hkm2 rr2 => ⟨rfl, ?_⟩⟩
    rw [k2'] at t9 hv2
    have G9 : Gr M H M9 H9 := Gr.unS G8 t9.g fun b hb => by rw [List.mem_singleton.mp hb]; exact hf0
    obtain ⟨eo2, er2⟩ := blk_at (ws := ws) (b := kN c1) X2.nm (by omega) hv2 hkm2
    have eo1 : o1 = o1W ws := eo1
    have eo2 : o2 = o2W c1 ws := eo2
    have er1 : ∀ z ∈ litsOf c1.names, ren m1 z = d1W c1 ws z := fun z hz => by rw [er1 z hz, Nat.zero_add]; rfl
    have er2 : ∀ z ∈ litsOf c2.names, ren m2 z = d2W c1 c2 ws z := fun z hz => by rw [er2 z hz]; rfl
    have s89 : Same M8 M9 := t9.g.mm
    have ra1 : CpR CC (o1, m1, laidC c1 o1 (ren m1)) M9 (.ref x) := Mon.mono (R := CpR CC) s89 rr1
    have ra2 : CpR CC (o2, m2, laidC c2 o2 (ren m2)) M9 (.ref y) := rr2
    have ae1 := addE_side X1.nm X1.l hkm1 eo1 er1
    have ae2 := addE_side X2.nm X2.l hkm2 eo2 er2
    have ml1 : m1.length = 2 * c1.names.length := by
      have := congrArg List.length hkm1
      rw [List.length_map, litsOf_len] at this
      exact this
    have ml2 : m2.length = 2 * c2.names.length := by
      have := congrArg List.length hkm2
      rw [List.length_map, litsOf_len] at this
      exact this
    have W := EV.W
    have ho1 : o1.length ≤ 8 := isNm_len (by rw [eo1]; exact W.o1)
    have ho2 : o2.length ≤ 8 := isNm_len (by rw [eo2]; exact W.o2)
    have lc1 : (laidC c1 o1 (ren m1)).length ≤ 400 := by
      rw [laid_len]
      have h1 := nil_one X1.nf.nd
      have h2 := X1.flat
      omega
    have lc2 : (laidC c2 o2 (ren m2)).length ≤ 400 := by
      rw [laid_len]
      have h1 := nil_one X2.nf.nd
      have h2 := X2.flat
      omega
    refine ⟨by show 2 ≤ sizeLine; decide, fun pc nc => ?_⟩
    have gC : Gr M9 H9 (upd M9 pc (.lst [.ref x, .ref y])) (upd H9 pc (.lst [.ref x, .ref y])) := .new G9.mh nc
    have G10 := G9.trans gC
    have up10 : Same M (upd M9 pc (.lst [.ref x, .ref y])) := G10.mm
    have rcs : LiR (CpR CC) [(o1, m1, laidC c1 o1 (ren m1)), (o2, m2, laidC c2 o2 (ren m2))] (upd M9 pc (.lst [.ref x, .ref y])) (.ref pc) := ⟨pc, _, rfl, upd_same, .cons (Mon.mono (R := CpR CC) gC.mm ra1) (.cons (Mon.mono (R := CpR CC) gC.mm ra2) .nil)⟩
    revert G10 up10 rcs
    generalize upd M9 pc (.lst [.ref x, .ref y]) = M10
    generalize upd H9 pc (.lst [.ref x, .ref y]) = H10
    intro G10 up10 rcs
    have hcp : ∀ a ∈ [(o1, m1, laidC c1 o1 (ren m1)), (o2, m2, laidC c2 o2 (ren m2))], a.1.length ≤ 8 ∧ a.2.1.length ≤ 20 ∧ a.2.2.length ≤ 400 := fun a ha => by
      simp only [List.mem_cons, List.not_mem_nil, or_false] at ha
      rcases ha with rfl | rfl
      · exact ⟨ho1, by show m1.length ≤ 20; omega, lc1⟩
      · exact ⟨ho2, by show m2.length ≤ 20; omega, lc2⟩
    have at0 : ∀ {σ' : Sl} {M' : Hp}, Same M10 M' → σ'[3]? = some (some (V.ref pc)) → Gv (tOp (rIxX K) (tVar 3) (tC (.int 0))) σ' M' (CpR CC (o1, m1, laidC c1 o1 (ren m1))) := fun sm h => gv_ix (K := K) (R := CpR CC) (xs := [(o1, m1, laidC c1 o1 (ren m1)), (o2, m2, laidC c2 o2 (ren m2))]) (i := 0) (gv_var h (LiR.sq (Mon.mono sm rcs))) (gv_c rfl) (atI_nat (j := 0) rfl)
    have at1 : ∀ {σ' : Sl} {M' : Hp}, Same M10 M' → σ'[3]? = some (some (V.ref pc)) → Gv (tOp (rIxX K) (tVar 3) (tC (.int 1))) σ' M' (CpR CC (o2, m2, laidC c2 o2 (ren m2))) := fun sm h => gv_ix (K := K) (R := CpR CC) (xs := [(o1, m1, laidC c1 o1 (ren m1)), (o2, m2, laidC c2 o2 (ren m2))]) (i := 1) (gv_var h (LiR.sq (Mon.mono sm rcs))) (gv_c rfl) (atI_nat (j := 1) rfl)
    -- the clauses
    refine q_asgL (P := fun M ws' => Pd TT M [[("-" : Str) ++ o1, ("-" : Str) ++ o2]] ws') G10.mh (gl_one (R := TT) (gv_tup2T (gv_addSt (K := K) (gv_c rfl) (gv_outR TK (at0 (Same.refl _) rfl)) (szM (by show 1 + o1.length ≤ _; omega))) (gv_addSt (K := K) (gv_c rfl) (gv_outR TK (at1 (Same.refl _) rfl)) (szM (by show 1 + o2.length ≤ _; omega))))) fun p us M11 H11 g11 h011 m011 hp11 pd11 => ?_
    have G11 := G10.trans g11
    have op11 : Own H M11 H11 p us := ⟨G10.hh.free h011, m011, hp11⟩
    -- what is laid of both
    refine q_for (R1 := CpR CC) (xs := [(o1, m1, laidC c1 o1 (ren m1)), (o2, m2, laidC c2 o2 (ren m2))]) G11.mh (gv_var rfl (LiR.sq (Mon.mono g11.mm rcs)))
      (fun M1' i σ' M' H' => ∃ y5 us', Gr M H M' H' ∧ Same M1' M' ∧ Same M10 M' ∧ Own H M' H' p us' ∧ Pd TT M' ([[("-" : Str) ++ o1, ("-" : Str) ++ o2]] ++ ([(o1, m1, laidC c1 o1 (ren m1)), (o2, m2, laidC c2 o2 (ren m2))].take i).flatMap addE) us' ∧ σ' = [some v, some w, some (.ref f), some (.ref pc), some (.ref p), y5, none, none])
      (fun M12 H12 g12 => ⟨_, us, G11.trans g12, Same.refl _, g11.mm.trans g12.mm, op11.step g12, by show Pd TT M12 ([[("-" : Str) ++ o1, ("-" : Str) ++ o2]] ++ []) us; rw [List.append_nil]; exact pd11.mono g12.mm, rfl⟩) (fun M12 i σ' M' H' ⟨_, _, g, s1, _⟩ => ⟨s1, g.mh⟩) ?_ ?_
    · rintro M12 i a va σ' M' H' sM ha ⟨y5, us', g, s1, s10, op, pd, rfl⟩ ra
      have hi : i < 2 := (List.getElem?_eq_some_iff.mp ha).1
      obtain ⟨a1, a2, a3⟩ := hcp a (List.mem_of_getElem? ha)
      have usl : us'.length ≤ 1 + i * 420 := by
        have := pd.length
        rw [← this, List.length_append, List.length_singleton]
        have z : ∀ b ∈ [(o1, m1, laidC c1 o1 (ren m1)), (o2, m2, laidC c2 o2 (ren m2))], (addE b).length ≤ 420 := fun b hb => by
          obtain ⟨_, h2, h3⟩ := hcp b hb
          unfold addE
          rw [List.length_append, List.length_map]
          omega
        have z1 := z _ (List.mem_cons_self ..)
        match i, hi with
        | 0, _ => show 1 + 0 ≤ _; omega
        | 1, _ =>
          show 1 + (addE _ ++ []).length ≤ _
          rw [List.append_nil]
          omega
      -- copy.laid
      refine q_extV (p := p) (P := fun M ws' => Pd TT M a.2.2 ws') g.mh rfl op.h (gv_is (gv_laidR TK (gv_var rfl ra)) fun M v ⟨b, vs, e, h1, h2⟩ => ⟨b, vs, e, h1, h2⟩) (fun M9' ws9 h9 => ?_) fun ws9 M13 H13 g13 pd13 => ?_
      · have := h9.length
        exact szM (by omega)
      have lay9 := pd13.length
      have op13 := op.step g13
      have G13 := (g.trans g13).mut (o := .lst (us' ++ ws9)) op13.h0 op13.m
      have pd13' := pd_app (pd.mono g13.mm) pd13
      have op13 := op13.put (ws := us' ++ ws9)
      have ra13 : CpR CC a M13 va := Mon.mono g13.mm ra
      revert G13 op13
      generalize upd H13 p (.lst (us' ++ ws9)) = H14
      intro G13 op13
      -- the ones with out
      obtain ⟨vl, ⟨b, dx, D, eb, hb, hD⟩, hl⟩ := ra13
      have bD : b ≠ D := fun z => by rw [z, hD] at hb; cases hb
      subst eb
      refine s_ext (K := K) (p := p) (P := fun M ws' => Pd TT M (a.2.1.map fun e => [("-" : Str) ++ a.1, e.2]) ws') G13.mh rfl op13.h (gl_lockT hD fun od => ?_) (fun M15 ws15 h15 => ?_) fun ws15 M15 H15 g15 pd15 => ?_
      · have hbF : ∀ {M' : Hp}, Same (upd M13 D (.frz od (.dK (mapK a.2.1)))) M' → M' b = some (.ins CC dx (copyF a.1 D vl)) := fun sm => sm _ _ (by rw [upd_ne bD]; exact hb)
        have e1 : a.2.1.map (fun e => [("-" : Str) ++ a.1, e.2]) = (a.2.1.map (·.2)).map fun y => [("-" : Str) ++ a.1, y] := by rw [List.map_map]; rfl
        rw [e1]
        refine gl_m1 (S := TT) (R := Tx) (xs := a.2.1.map (·.2)) (gi_valsL (gv_fld (gv_var (P := CpO CC b dx (copyF a.1 D vl)) rfl ⟨rfl, hbF (Same.refl _)⟩) fun M' v ⟨e, h⟩ => ⟨b, CC, dx, _, .ref D, e, h, TK.cl, TK.nD, rfl, rfl⟩) upd_same) (szM (by rw [List.length_map]; omega)) (fun y => [("-" : Str) ++ a.1, y]) fun y hy M16 u sm ru => ?_
        exact gv_tup2T (gv_addSt (K := K) (gv_c rfl) (gv_fld (gv_var (P := CpO CC b dx (copyF a.1 D vl)) rfl ⟨rfl, hbF sm⟩) fun M' v ⟨e, h⟩ => ⟨b, CC, dx, _, _, e, h, TK.cl, TK.nO, rfl, rfl⟩) (szM (by show 1 + a.1.length ≤ _; omega))) (gv_var rfl ru)
      · have := h15.length
        rw [List.length_map] at this
        rw [List.length_append]
        exact szM (by omega)
      have op15 := op13.step g15
      refine ⟨M15, _, (us' ++ ws9) ++ ws15, (G13.trans g15).mut op15.h0 op15.m, s1.trans (g13.mm.trans g15.mm), s10.trans (g13.mm.trans g15.mm), op15.put, ?_, rfl⟩
      have e5 : ([(o1, m1, laidC c1 o1 (ren m1)), (o2, m2, laidC c2 o2 (ren m2))].take (i + 1)).flatMap addE = ([(o1, m1, laidC c1 o1 (ren m1)), (o2, m2, laidC c2 o2 (ren m2))].take i).flatMap addE ++ addE a := take_flat addE ha
      rw [e5]
      unfold addE
      rw [← List.append_assoc, ← List.append_assoc]
      exact pd_app (Pd.mono g15.mm (show Pd TT M13 _ _ from pd13')) pd15
    rintro M12 σ' M13 H13 sM ⟨y5, us', G13, s1, s10, op13, pd13, rfl⟩
    have etk : ([(o1, m1, laidC c1 o1 (ren m1)), (o2, m2, laidC c2 o2 (ren m2))].take [(o1, m1, laidC c1 o1 (ren m1)), (o2, m2, laidC c2 o2 (ren m2))].length).flatMap addE = sideC c1 (o1W ws) (d1W c1 ws) ++ sideC c2 (o2W c1 ws) (d2W c1 c2 ws) := by
      rw [List.take_length, ← ae1, ← ae2]
      show addE _ ++ (addE _ ++ []) = _
      rw [List.append_nil]
    rw [etk, eo1, eo2] at pd13
    have sl1 : (sideC c1 (o1W ws) (d1W c1 ws)).length ≤ 420 := by
      rw [← ae1]
      unfold addE
      rw [List.length_append, List.length_map]
      show (laidC c1 o1 (ren m1)).length + m1.length ≤ _
      omega
    have sl2 : (sideC c2 (o2W c1 ws) (d2W c1 c2 ws)).length ≤ 420 := by
      rw [← ae2]
      unfold addE
      rw [List.length_append, List.length_map]
      show (laidC c2 o2 (ren m2)).length + m2.length ≤ _
      omega
    -- what both deny
    have rc13 : CodeR C c1 M13 v := Mon.mono (up10.trans s10) rc
    refine q_for (R1 := Tx) (xs := litsOf c1.signs) G13.mh (gv_is (gv_litsOf (gv_is (gv_sign TC (gv_var rfl rc13)) fun _ _ h => h.sq) (nm_shorts s1m)) fun _ _ h => h.sq)
      (fun M1' i σ' M' H' => ∃ y6 us', Gr M H M' H' ∧ Same M1' M' ∧ Same M10 M' ∧ Own H M' H' p us' ∧ Pd TT M' (([[("-" : Str) ++ o1W ws, ("-" : Str) ++ o2W c1 ws]] ++ (sideC c1 (o1W ws) (d1W c1 ws) ++ sideC c2 (o2W c1 ws) (d2W c1 c2 ws))) ++ ((litsOf c1.signs).take i).map fun l => [("-" : Str) ++ d1W c1 ws l, ("-" : Str) ++ d2W c1 c2 ws l, opp l]) us' ∧ σ' = [some v, some w, some (.ref f), some (.ref pc), some (.ref p), y5, y6, none])
      (fun M14 H14 g14 => ⟨_, us', G13.trans g14, Same.refl _, s10.trans g14.mm, op13.step g14, by rw [List.take_zero, List.map_nil, List.append_nil]; exact pd13.mono g14.mm, rfl⟩) (fun M14 i σ' M' H' ⟨_, _, g, s1, _⟩ => ⟨s1, g.mh⟩) ?_ ?_
    · rintro M14 i l vl σ' M' H' sM hl ⟨y6, us2, g, s1, s10', op, pd, rfl⟩ rl
      cases (show vl = _ from rl)
      have hlm := List.mem_of_getElem? hl
      have hil : i < (litsOf c1.signs).length := (List.getElem?_eq_some_iff.mp hl).1
      have l1 : l ∈ litsOf c1.names := signs_lits hlm
      have l2 : l ∈ litsOf c2.names := signs_lits ((W.lits l).mp hlm)
      have ul := pd.length
      rw [List.length_append, List.length_append, List.length_append, List.length_map, List.length_take, List.length_singleton] at ul
      have sl : l.length ≤ 1000 := by
        obtain ⟨n, hn, b, rfl⟩ := lits_sd.mp hlm
        have := nm_len (s1m.nm n hn)
        cases b
        · show (("-" : Str) ++ n).length ≤ 1000
          show (("-" : Str).cps ++ n.cps).size ≤ 1000
          rw [Array.size_append]
          show 1 + n.length ≤ 1000
          omega
        · show n.length ≤ 1000
          omega
      have hd1 : (ren m1 l).length ≤ 8 := isNm_len (by rw [er1 l l1]; exact W.d1 l l1)
      have hd2 : (ren m2 l).length ≤ 8 := isNm_len (by rw [er2 l l2]; exact W.d2 l l2)
      refine s_app (P := TT [("-" : Str) ++ d1W c1 ws l, ("-" : Str) ++ d2W c1 c2 ws l, opp l]) g.mh rfl op.h (szL (by omega))
        (gv_is (gv_tup3T (gv_addSt (K := K) (gv_c rfl) (gv_at (gv_denR TK (at0 s10' rfl)) (gv_var rfl rfl) (by rw [show (o1, m1, laidC c1 o1 (ren m1)).2.1 = m1 from rfl, hkm1]; exact l1)) (szM (by show 1 + (ren m1 l).length ≤ _; omega))) (gv_addSt (K := K) (gv_c rfl) (gv_at (gv_denR TK (at1 s10' rfl)) (gv_var rfl rfl) (by rw [show (o2, m2, laidC c2 o2 (ren m2)).2.1 = m2 from rfl, hkm2]; exact l2)) (szM (by show 1 + (ren m2 l).length ≤ _; omega)))
          (gv_call1 (R1 := Tx) (pre := fun x => x.length ≤ 1000) (R := fun x => Tx (opp x)) (x := l) (gv_var rfl rfl) sl)) fun M v h => by
            have h : TT [("-" : Str) ++ ren m1 l, ("-" : Str) ++ ren m2 l, opp l] M v := h
            rw [er1 l l1, er2 l l2] at h
            exact h) fun v7 M7 H7 g7 r7 => ?_
      have op7 := op.step g7
      refine ⟨M7, _, us2 ++ [v7], (g.trans g7).mut op7.h0 op7.m, s1.trans g7.mm, s10'.trans g7.mm, op7.put, ?_, rfl⟩
      rw [List.take_add_one, hl, List.map_append, ← List.append_assoc]
      exact pd_app (pd.mono g7.mm) (.cons r7 .nil)
    rintro M14 σ' M15 H15 sM ⟨y6, us2, G15, s1', s15, op15, pd15, rfl⟩
    rw [List.take_length] at pd15
    have GL := G15.freeze op15.h0 op15.m op15.h
    have sp1 : Same M15 (upd M15 p (.lst us2)) := same_new op15.m
    have rP : LiR TT (eithD c1 c2 ws).clauses (upd M15 p (.lst us2)) (.ref p) := ⟨p, us2, rfl, upd_same, by
      show Pd TT _ (eithC c1 c2 (o1W ws) (o2W c1 ws) (d1W c1 ws) (d2W c1 c2 ws)) us2
      unfold eithC
      rw [List.append_assoc [_] (sideC c1 _ _)]
      exact pd15.mono sp1⟩
    have s16 := s15.trans sp1
    have eW : (o1 :: m1.map (·.2)) ++ (o2 :: m2.map (·.2)) = ws := by
      rw [hv1, hv2, List.take_of_length_le (l := ws.drop (kN c1)) (by rw [List.length_drop]; omega), List.take_append_drop]
    exact s_ret GL.mh (gv_mkCode (K := K) (gv_is (gv_sign TC (gv_var rfl (Mon.mono (up10.trans s16) rc))) fun _ _ h => h.sq) (gv_is (gv_var rfl rP) fun _ _ h => (liTT_liq h).sq) (gv_is (gl_addL (K := K) (R := Tx) (gv_helpersR (at0 s16 rfl) (by show m1.length ≤ 1000; omega)) (gv_helpersR (at1 s16 rfl) (by show m2.length ≤ 1000; omega)) (szM (by simp only [List.length_cons, List.length_map]; omega))).li fun _ _ h => by
      have h : LiR Tx ((o1 :: m1.map (·.2)) ++ (o2 :: m2.map (·.2))) _ _ := h
      rw [eW] at h
      exact h.sq) EP.p.ok) fun z M' H' g r => q ws z M' H' (GL.trans g) EP r
/-- unlike signs -/
def sp_eitherX (K : PySem.W.Frag) (C US : Addr) : Sp := fun vs H Q E => ∃ c1 c2 M v w, vs = [v, w] ∧ Same M H ∧ CodeR C c1 M v ∧ CodeR C c2 M w ∧ (c1.signs.length ≤ 1000000 ∧ sameN c1.signs c2.signs = false) ∧ ∀ M' H', Gr M H M' H' → E (.ref US) none H'
theorem ok_eitherX {f0 C CC US : Addr} {fd : FuncData} (F : Fun K "either" "either" s_either f0 fd) (T : Gc mg) (TC : CodeT K mg C) (RU : RawC K mg "UnlikeSigns" US) (c_are_same : Cal P w K mg base 1 "are_same" ["names", "others"] (sp_are_same K)) (c_literals_of : Cal P w K mg base 1 "literals_of" ["names"] (sp_literals_of K)) (c_new_names : Cal P w K mg base 1 "new_names" ["many", "taken"] (sp_new_names K)) (c_opposite : Cal P w K mg base 1 "opposite" ["literal"] (sp_opposite K))
    (k_Copy : Mak P w K mg base 3 "Copy" CC ["self", "code", "fresh"] (sp_Copy_init K C CC)) (m_helpers : Met P w K mg base 1 CC "helpers" ["self"] (sp_Copy_helpers K CC)) (k_Code : Mak P w K mg base 5 "Code" C ["self", "signs", "clauses", "helpers"] (sp_Code_init K C)) : FnOk P w K mg base (L2.CX P w) 7 f0 fd ["one", "other"] (sp_eitherX K C US) := by
  refine F.okX sc_either (fun vs H Q E h => ?_) (fun cdv A outer s H vs Q E hr h => ?_)
  · obtain ⟨_, _, _, _, _, rfl, _⟩ := h
    rfl
  · obtain ⟨c1, c2, M, v, w, rfl, mh, rc, rd, ⟨hl, hn⟩, qe⟩ := h
    have hu := hr.units
    refine ⟨_, (pss_cons (ps_if (pt_not (pt_val (pe_f c_are_same (hr.mono (by decide)) (pa_cons (pe_fld (pv 0) rfl) (pa_cons (pe_fld (pv 1) rfl) pa_nil))))) (pss_one (ps_raw RU rfl (takes_of rfl rfl rfl rfl))) pss_nil)
      (pss_cons (ps_set (i := 2) sc_either.nd rfl (by first | exact .inl rfl | exact .inr rfl) (pe_f c_new_names (hr.mono (by decide)) (pa_cons (pe_op op_addA (pe_op op_addA (pe_op op_mul pe_int (pe_callB call_lenA (by rfl) T.len boot_len (pa_cons (pe_fld (pv 0) rfl) pa_nil))) (pe_op op_mul pe_int (pe_callB call_lenA (by rfl) T.len boot_len (pa_cons (pe_fld (pv 1) rfl) pa_nil)))) pe_int) (pa_cons (pe_op op_addA (pe_fld (pv 0) rfl) (pe_fld (pv 1) rfl)) pa_nil))))
      (pss_cons (ps_set (i := 3) sc_either.nd rfl (by first | exact .inl rfl | exact .inr rfl) (pe_lst (pa_cons (pe_mk k_Copy (hr.mono (by decide)) (pa_cons (pv 0) (pa_cons (pv 2) pa_nil))) (pa_cons (pe_mk k_Copy (hr.mono (by decide)) (pa_cons (pv 1) (pa_cons (pv 2) pa_nil))) pa_nil))))
      (pss_cons (ps_set (i := 4) sc_either.nd rfl (by first | exact .inl rfl | exact .inr rfl) (pe_lst (pa_cons (pe_tup (pa_cons (pe_op op_addA pe_str (pe_fld (pe_ix ix_X (pv 3) pe_int (fun _ _ => rfl)) rfl)) (pa_cons (pe_op op_addA pe_str (pe_fld (pe_ix ix_X (pv 3) pe_int (fun _ _ => rfl)) rfl)) pa_nil))) pa_nil)))
      (pss_cons (ps_for (passes_of rfl) (by rfl) (pi_sq (pv 3)) (pg_name (i := 5) sc_either.nd rfl (by first | exact .inl rfl | exact .inr rfl)) (pss_cons (ps_expr (pe_bm PySem.F.plainAttrs_list PySem.F.slot_list_extend PySem.F.type_list_extend mt_extend (pv 4) (pa_cons (pe_fld (pv 5) rfl) pa_nil)))
      (pss_one (ps_expr (pe_bm PySem.F.plainAttrs_list PySem.F.slot_list_extend PySem.F.type_list_extend mt_extend (pv 4) (pa_cons (pe_lock (pe_lc (own := [("helper", 7)]) (g := (gName 7)) (tt := tYes) (te := (tTup (tCons (tOp (rAddA K) (tC (.str "-")) (tFld K (tVar 5) "out")) (tCons (tVar 7) tNil)))) (by rfl) sc_either.nd (pi_values (pe_fld (pv 5) rfl)) (blkOk_by (by rfl)) (fun _ _ _ _ _ => (pg_name (i := 7) sc_either.nd rfl (by first | exact .inl rfl | exact .inr rfl))) (fun _ _ _ _ _ => pts_nil) (fun _ _ _ _ _ => (pe_tup (pa_cons (pe_op op_addA pe_str (pe_fld (pv 5) rfl)) (pa_cons (pv 7) pa_nil)))))) pa_nil))))))
      (pss_cons (ps_for (passes_of rfl) (by rfl) (pi_sq (pe_f c_literals_of (hr.mono (by decide)) (pa_cons (pe_fld (pv 0) rfl) pa_nil))) (pg_name (i := 6) sc_either.nd rfl (by first | exact .inl rfl | exact .inr rfl)) (pss_one (ps_expr (pe_bm PySem.F.plainAttrs_list PySem.F.slot_list_append PySem.F.type_list_append mt_append (pv 4) (pa_cons (pe_tup (pa_cons (pe_op op_addA pe_str (pe_dget (Nat.lt_of_le_of_lt (Nat.add_le_add_left (by decide) _) hu) (pe_fld (pe_ix ix_X (pv 3) pe_int (fun _ _ => rfl)) rfl) (pv 6) (fun _ _ => rfl))) (pa_cons (pe_op op_addA pe_str (pe_dget (Nat.lt_of_le_of_lt (Nat.add_le_add_left (by decide) _) hu) (pe_fld (pe_ix ix_X (pv 3) pe_int (fun _ _ => rfl)) rfl) (pv 6) (fun _ _ => rfl))) (pa_cons (pe_f c_opposite (hr.mono (by decide)) (pa_cons (pv 6) pa_nil)) pa_nil)))) pa_nil)))))
      (pss_one (ps_ret (pe_mk k_Code (hr.mono (by decide)) (pa_cons (pe_fld (pv 0) rfl) (pa_cons (pv 4) (pa_cons (pe_op op_addA (pe_m0 m_helpers (hr.mono (by decide)) (pe_ix ix_X (pv 3) pe_int (fun _ _ => rfl))) (pe_m0 m_helpers (hr.mono (by decide)) (pe_ix ix_X (pv 3) pe_int (fun _ _ => rfl)))) pa_nil)))))))))))), ?_⟩
    refine q_if0 (b := true) mh (gt_is (gt_not (gt_B (gv_call2 (R1 := SqR K Tx) (R2 := SqR K Tx) (pre := fun xs _ => xs.length ≤ 1000000) (R := fun xs ys => Bl (sameN xs ys)) (x := c1.signs) (y := c2.signs) (gv_is (gv_sign TC (gv_var rfl rc)) fun _ _ h => h.sq) (gv_is (gv_sign TC (gv_var rfl rd)) fun _ _ h => h.sq) hl))) (by rw [hn]; rfl)) (fun _ H2 hh2 => ?_) fun h => nomatch h
    exact qe M H2 (.idle mh hh2)
abbrev s__law_refused : Stmt := topS 65
theorem sc__law_refused : FnScope ["_law_one", "_law_other"] ["_law_one", "_law_other"] (defScope s__law_refused) := ⟨rfl, rfl, rfl, by decide +kernel, rfl, by decide +kernel, by decide +kernel⟩
def sp__law_refused (K : PySem.W.Frag) (C : Addr) : Sp := sp2 (CodeR C) (CodeR C) (fun c d => c.signs.length ≤ 1000000 ∧ sameN c.signs d.signs = false) fun _ _ => Bl true
theorem ok__law_refused {f C US : Addr} {fd : FuncData} (F : Fun K "_law_refused" "_law_refused" s__law_refused f fd) (cX_either : CalX P w K mg base 7 "either" ["one", "other"] (sp_eitherX K C US)) (g_US : mg "UnlikeSigns" = some (.ref US)) (ex : PySem.W.exmOne K (.ref US) (.ref US) = some true) : FnOk P w K mg base CX0 8 f fd ["_law_one", "_law_other"] (sp__law_refused K C) := by
  refine F.ok sc__law_refused (fun vs H Q E h => ?_) (fun cdv A outer s H vs Q E hr h => ?_)
  · obtain ⟨x, y, M, v, w, rfl, _⟩ := h
    rfl
  · obtain ⟨c, d, M, v, w, rfl, mh, r1, r2, X, q⟩ := h
    have hu := hr.units
    refine ⟨_, (pss_cons (ps_try_only (tb := fun W => tDrop (tCallS (sp_eitherX K C US) (WE W) (tCons (tVar 0) (tCons (tVar 1) tNil)))) (ts := fun a cls d => tRet (tC (.bl true))) (Wout := fun _ _ _ _ => False) rfl rfl ⟨rfl, by decide, .inl g_US⟩ takes0
      (fun W pn xe tk _ => pss_one (ps_expr (pe_cX cX_either (hr.mono (by decide)) tk (pa_cons (pv 0) (pa_cons (pv 1) pa_nil)))))
      (fun a oe cls d pn hz hf => pss_one (ps_ret pe_bl))) (pss_one (ps_ret pe_bl))), ?_⟩
    exact ⟨v, rfl, w, rfl, c, d, M, v, w, rfl, mh, r1, r2, X, fun M' H' g => ⟨true, ex, fun _ a na => q (.bl true) M' H' g rfl, fun h => nomatch h⟩⟩
end
end My

set_option Elab.async false
set_option linter.all false
set_option maxRecDepth 100000
set_option maxHeartbeats 8000000
namespace My
open PySem PySem.Spec PyProof.Rows L2 L3
open L3.Strm
/-- something of ours behind the stream -/
structure OwO (S : Strm) (H0 M H : Hp) (p : Addr) (o : HO) : Prop where
  h0 : S.cut H0 p = none
  m : M p = none
  h : S.cut H p = some o
theorem OwO.step {S : Strm} {H0 M H M' H' : Hp} {p : Addr} {o : HO} (w : OwO S H0 M H p o) (hn : ∀ xs, o ≠ HO.tup xs) (g : Gr M (S.cut H) M' (S.cut H')) : OwO S H0 M' H' p o := ⟨w.h0, g.keep w.m w.h hn, g.hh _ _ w.h⟩
theorem dk_nt {kvs : List (Key × V)} : ∀ xs, HO.dK kvs ≠ HO.tup xs := by intro _ z; cases z
theorem del_none {M : Hp} {x y : Addr} (h : M y = none) : L3.del M x y = none := by unfold L3.del; split; rfl; exact h
section
variable {K : PySem.W.Frag} {σ : Sl} {M : Hp} {te tl : TE} {α : Type} {R : Rl α} [Mon R] {xs : List α} {i : Int}
theorem gl_cutHi (h : Gv te σ M (LstR K R xs)) (hh : Gv tl σ M (It' i)) : GvL (tSl (rSlX K) te tNoPart (tPart tl)) σ M fun M ws => Pd R M (cutL xs none (some i)) ws := fun H mh Q q =>
  h H mh _ fun v M1 H1 g1 ⟨a, vs, e, hs, hp⟩ => hh.le g1.mm H1 g1.mh _ fun w M2 H2 g2 ew => ⟨i, ew, .inr (.inl ⟨a, vs, e, sl_mono g2.mh (sl_mono g2.mm hs), fun p np => q p _ M2 _ ((g1.trans g2).trans (.own g2.mh np)) ((g1.trans g2).hh.free np) (g2.mh.free np) upd_same (pd_cut (hp.mono g2.mm))⟩)⟩
theorem gl_cutLo (h : Gv te σ M (LstR K R xs)) (hh : Gv tl σ M (It' i)) : GvL (tSl (rSlX K) te (tPart tl) tNoPart) σ M fun M ws => Pd R M (cutL xs (some i) none) ws := fun H mh Q q =>
  h H mh _ fun v M1 H1 g1 ⟨a, vs, e, hs, hp⟩ => hh.le g1.mm H1 g1.mh _ fun w M2 H2 g2 ew => ⟨i, ew, .inr (.inl ⟨a, vs, e, sl_mono g2.mh (sl_mono g2.mm hs), fun p np => q p _ M2 _ ((g1.trans g2).trans (.own g2.mh np)) ((g1.trans g2).hh.free np) (g2.mh.free np) upd_same (pd_cut (hp.mono g2.mm))⟩)⟩
end
theorem py_LT {K : PySem.W.Frag} : PyR K (LiR Tx) fun xs => .list (xs.map .str) := fun xs M v h => py_lst py_str _ _ _ h.lst
theorem inj_LT : Inj fun xs : List Str => PyData.list (xs.map .str) := inj_lst inj_str
/-- the names that the helpers get -/
structure SameN (c : CodeD) (n : Nat) (ys : List Str) : Prop where
  l : ys.length = n
  nd : ys.Nodup
  v : ∀ y ∈ ys, isNm y = true ∧ y ∉ c.signs
section
variable {P : Program} {w : World} {K : PySem.W.Frag} {mg : Str → Option Value} {base : Heap}
abbrev s__law_same_helpers : Stmt := topS 64
theorem sc__law_same_helpers : FnScope ["_law_stream", "_law_c", "_law_other", "_law_name", "_law_names_here", "_law_renamed_here", "_law_new"] ["_law_stream", "_law_c", "_law_other"] (defScope s__law_same_helpers) := ⟨rfl, rfl, rfl, by decide +kernel, rfl, by decide +kernel, by decide +kernel⟩
def sp__law_same_helpers (K : PySem.W.Frag) : Sp := fun vs H Q _ => ∃ (S : Strm) (c d : CodeD) (M : Hp) (v w : V) (k : Nat), vs = [.ref S.a, v, w] ∧ Same M (S.cut H) ∧ S.At (k + 60) H ∧ LawR c M v ∧ LawR d M w ∧ LiftPre c ∧ LiftPre d ∧ (∀ n, n ∈ c.signs ↔ n ∈ d.signs) ∧
  ∀ m u M' H', Gr M (S.cut H) M' (S.cut H') → S.At k H' → RenOk d m → LawR (renD m d) M' u → Q u H'
theorem ok__law_same_helpers {f : Addr} {fd : FuncData} (F : Fun K "_law_same_helpers" "_law_same_helpers" s__law_same_helpers f fd) (T : Gc mg) (hz : mg "zip" = none) (c__law_fresh : Cal P w K mg base 3 "_law_fresh" ["_law_stream", "_law_taken"] (sp__law_fresh K)) (c__law_renamed : Cal P w K mg base 3 "_law_renamed" ["_law_c", "_law_renamed_here"] (sp__law_renamed K)) :
    FnOk P w K mg base CX0 4 f fd ["_law_stream", "_law_c", "_law_other"] (sp__law_same_helpers K) := by
  refine F.ok sc__law_same_helpers (fun vs H Q E h => ?_) (fun cdv A outer s H vs Q E hr h => ?_)
  · obtain ⟨_, _, _, _, _, _, _, rfl, _⟩ := h
    rfl
  · obtain ⟨S, c, d, M, v, w, k, rfl, mh, at_, rc, rd, X, Y, sg, q⟩ := h
    have hu := hr.units
    refine ⟨_, (pss_cons (ps_par (i := 4) (j := 5) (by rfl) sc__law_same_helpers.nd rfl rfl (by decide) rfl rfl (pa_cons (pe_callTy call_lstA (by rfl) T.list boot_list (pa_cons (pe_slice sl_X (pe_dget (Nat.lt_of_le_of_lt (Nat.add_le_add_left (by decide) _) hu) (pv 1) pe_str (fun _ _ => rfl)) po_none (po_some (pe_callB call_lenA (by rfl) T.len boot_len (pa_cons (pe_dget (Nat.lt_of_le_of_lt (Nat.add_le_add_left (by decide) _) hu) (pv 2) pe_str (fun _ _ => rfl)) pa_nil)))) pa_nil)) (pa_cons pe_dnewK pa_nil)) (by rfl))
      (pss_cons (ps_for PassesOwn.never (by rfl) (pi_sq (pe_slice sl_X (pe_dget (Nat.lt_of_le_of_lt (Nat.add_le_add_left (by decide) _) hu) (pv 2) pe_str (fun _ _ => rfl)) (po_some (pe_callB call_lenA (by rfl) T.len boot_len (pa_cons (pv 4) pa_nil))) po_none)) (pg_name (i := 3) sc__law_same_helpers.nd rfl (by first | exact .inl rfl | exact .inr rfl)) (pss_one (ps_expr (pe_bm PySem.F.plainAttrs_list PySem.F.slot_list_append PySem.F.type_list_append mt_append (pv 4) (pa_cons (pe_f c__law_fresh (hr.mono (by decide)) (pa_cons (pv 0) (pa_cons (pe_op op_addA (pe_op op_addA (pe_dget (Nat.lt_of_le_of_lt (Nat.add_le_add_left (by decide) _) hu) (pv 1) pe_str (fun _ _ => rfl)) (pe_dget (Nat.lt_of_le_of_lt (Nat.add_le_add_left (by decide) _) hu) (pv 1) pe_str (fun _ _ => rfl))) (pv 4)) pa_nil))) pa_nil)))))
      (pss_cons (ps_for PassesOwn.never (by rfl) (pi_zipS (by rfl) hz (pa_cons (pe_dget (Nat.lt_of_le_of_lt (Nat.add_le_add_left (by decide) _) hu) (pv 2) pe_str (fun _ _ => rfl)) (pa_cons (pv 4) pa_nil))) (pg_tup (by rfl) (pgs_cons (pg_name (i := 3) sc__law_same_helpers.nd rfl (by first | exact .inl rfl | exact .inr rfl)) (pgs_cons (pg_name (i := 6) sc__law_same_helpers.nd rfl (by first | exact .inl rfl | exact .inr rfl)) pgs_nil))) (pss_one (ps_dput (Nat.lt_of_le_of_lt (Nat.add_le_add_left (by decide) _) hu) (pv 5) (pv 3) (pv 6) rfl)))
      (pss_one (ps_ret (pe_f c__law_renamed (hr.mono (by decide)) (pa_cons (pv 2) (pa_cons (pv 5) pa_nil)))))))), ?_⟩
    have n5 := X.n
    have m5 := Y.n
    have hc : c.names.length = c.signs.length + c.helpers.length := List.length_append
    have hd : d.names.length = d.signs.length + d.helpers.length := List.length_append
    have dc : c.names.Nodup := X.nm.nd
    have dd' := List.nodup_append.mp (show (c.signs ++ c.helpers).Nodup from dc)
    -- the first one's helpers; no name yet
    refine q_par2 (a_L (mh.trans cut_same) (gl_lstOf (K := K) (R1 := Tx) (xs := c.helpers.take d.helpers.length) (gv_is (gl_cutHi (K := K) (R := Tx) (i := (d.helpers.length : Int)) (gv_is (gv_cH (gv_var rfl rc)) fun _ _ h => LiR.lst h) (gv_lenA (K := K) (R := Tx) (xs := d.helpers) (gv_is (gv_cH (gv_var rfl rd)) fun _ _ h => LiR.sq h))).li fun M v h => by rw [cut_take] at h; exact h.sq)) fun p vs M1 H1 g1 h01 m01 hp1 pd1 => fun e ne => ⟨_, _, rfl, ?_⟩)
    have ev := pd_tx pd1
    subst ev
    have L1 := lift mh at_ g1
    have a1 := at_.same g1.hh
    have o1 : OwS S H M1 H1 p ((c.helpers.take d.helpers.length).map V.str) := ⟨⟨at_.cutn h01, m01, by rw [cut_on (at_.fresh h01)]; exact hp1⟩⟩
    have nE := a1.fresh ne
    have a2 := a1.upd (o := .dK []) nE
    have G2 : Gr M1 (S.cut H1) M1 (S.cut (upd H1 e (.dK []))) := by rw [cut_upd nE]; exact .own L1.mh (a1.cutn ne)
    have pe : p ≠ e := fun z => by rw [z] at hp1; rw [hp1] at ne; cases ne
    have oE : OwO S H M1 (upd H1 e (.dK [])) e (.dK (mapK [])) := ⟨L1.hh.free (a1.cutn ne), L1.mh.free (a1.cutn ne), by rw [cut_upd nE]; exact upd_same⟩
    have o2 := o1.step G2
    have GG2 := L1.trans G2
    revert a2 G2 oE o2 GG2
    generalize upd H1 e (.dK []) = H2
    intro a2 G2 oE o2 GG2
    have ys0 : SameN c (c.helpers.take d.helpers.length).length (c.helpers.take d.helpers.length) := ⟨rfl, dd'.2.1.sublist (List.take_sublist _ _), fun y hy => ⟨X.nm.nm y (List.mem_append_right _ (List.mem_of_mem_take hy)), fun z => dd'.2.2 y z y (List.mem_of_mem_take hy) rfl⟩⟩
    have l0 : (c.helpers.take d.helpers.length).length ≤ d.helpers.length := by rw [List.length_take]; omega
    -- what is left of the other one's helpers
    have mL : Same (upd M1 p (.lst ((c.helpers.take d.helpers.length).map V.str))) (S.cut H2) := same_lent GG2.mh o2.o.h
    refine (gl_cutLo (K := K) (R := Tx) (xs := d.helpers) (i := ((c.helpers.take d.helpers.length).length : Int)) (gv_is (gv_cH (gv_var rfl (Mon.mono (same_new o2.o.m) (Mon.mono g1.mm rd)))) fun _ _ h => LiR.lst h) (gv_lenA (K := K) (R := Tx) (xs := c.helpers.take d.helpers.length) (gv_var rfl (.inl ⟨p, _, rfl, .inl (.inl upd_same), pd_of_tx _⟩)))) H2 (mL.trans cut_same) _ fun z zs M3 H3 g3 h03 m03 hz3 pd3 => ?_
    rw [cut_drop] at pd3
    have ez := pd_tx pd3
    subst ez
    have g3b := (lift mL a2 g3).back o2.o.m
    have a3 := a2.same g3.hh
    have GG3 := GG2.trans g3b
    have o3 := o2.step g3b
    have oE3 := oE.step dk_nt g3b
    have mz : L3.del M3 p z = none := del_none m03
    have h0z : S.cut H z = none := GG2.hh.free (a2.cutn h03)
    have hz3' : S.cut H3 z = some (.lst ((d.helpers.drop (c.helpers.take d.helpers.length).length).map V.str)) := by rw [cut_on (a2.fresh h03)]; exact hz3
    have pz : p ≠ z := fun w => by rw [← w, of_cut o2.o.h] at h03; cases h03
    have ez : e ≠ z := fun w => by rw [← w, of_cut oE.h] at h03; cases h03
    have GF := GG3.freeze h0z mz hz3'
    have rZ : LiR Tx (d.helpers.drop (c.helpers.take d.helpers.length).length) (upd (L3.del M3 p) z (.lst ((d.helpers.drop (c.helpers.take d.helpers.length).length).map V.str))) (.ref z) := ⟨z, _, rfl, upd_same, pd_of_tx _⟩
    have o4 : OwS S H (upd (L3.del M3 p) z (.lst ((d.helpers.drop (c.helpers.take d.helpers.length).length).map V.str))) H3 p ((c.helpers.take d.helpers.length).map V.str) := ⟨⟨o3.o.h0, by rw [upd_ne pz]; exact o3.o.m, o3.o.h⟩⟩
    have oE4 : OwO S H (upd (L3.del M3 p) z (.lst ((d.helpers.drop (c.helpers.take d.helpers.length).length).map V.str))) H3 e (.dK (mapK [])) := ⟨oE3.h0, by rw [upd_ne ez]; exact oE3.m, oE3.h⟩
    revert GF rZ o4 oE4
    generalize upd (L3.del M3 p) z (.lst ((d.helpers.drop (c.helpers.take d.helpers.length).length).map V.str)) = M4
    intro GF rZ o4 oE4
    show tSeq (tFor (iSq K (tC (.ref z))) (gName 3) _) _ _ _ H3
    refine z_for (S := S) (k := k + 60) (c := 0) (G := (· = d.helpers.drop (c.helpers.take d.helpers.length).length)) (R := Tx) GF.mh a3 (gi_sq (K := K) (gv_c rZ.sq)).s tg_1
      (fun xs M1' i σ' M' H' => ∃ y3 ys, Gr M (S.cut H) M' (S.cut H') ∧ S.At (k + (5 - i) * 12) H' ∧ Same M1' M' ∧ OwS S H M' H' p (ys.map V.str) ∧ OwO S H M' H' e (.dK (mapK [])) ∧ SameN c ((c.helpers.take d.helpers.length).length + i) ys ∧ σ' = [some (.ref S.a), some v, some w, y3, some (.ref p), some (.ref e), none])
      (fun xs M5 H5 e5 g5 a5 => ⟨_, _, GF.trans g5, a5, Same.refl _, o4.step g5, oE4.step dk_nt g5, ys0, rfl⟩)
      (fun xs M5 i σ' M' H' ⟨_, _, g, a, s1, _⟩ => ⟨s1, g.mh, a.le (Nat.zero_le _)⟩) ?_ ?_
    · rintro xs M5 i x σ' M' H' M6 H6 σ2 ex sM hx ⟨y3, ys, g, a, s1, ow, oe, SN, rfl⟩ g6 ⟨v6, r6, rfl⟩
      have hi : i < d.helpers.length - (c.helpers.take d.helpers.length).length := by
        have := (List.getElem?_eq_some_iff.mp hx).1
        rwa [ex, List.length_drop] at this
      have g6' := lift g.mh a g6
      have a6 := a.same g6.hh
      have G6 := g.trans g6'
      have o6 := ow.step g6'
      have oe6 := oe.step dk_nt g6'
      have e1 : k + (5 - i) * 12 = (k + (5 - (i + 1)) * 12) + 12 := by omega
      rw [e1] at a6
      have yl := SN.l
      have rc6 : LawR c M6 v := Mon.mono G6.mm rc
      have up := same_new (o := .lst (ys.map V.str)) o6.o.m
      refine z_appL (S := S) (c := 12) (P := Ex Tx fun x => isNm x = true ∧ x ∉ (c.signs ++ c.helpers) ++ ys) G6.mh a6 rfl o6.o.m o6.o.h (szL (by rw [List.length_map]; omega)) (gs_call1 (S := S) (R1 := SqR K Tx) (pre := fun xs => xs.length ≤ 600) (cs := fun _ => 12) (R := fun xs => Ex Tx fun x => isNm x = true ∧ x ∉ xs) (x := (c.signs ++ c.helpers) ++ ys) rfl
        (gv_is (gl_addL (K := K) (R := Tx) (gl_addL (K := K) (R := Tx) (gv_cS (gv_var rfl (Mon.mono up rc6))) (gv_cH (gv_var rfl (Mon.mono up rc6))) (szM (by omega))).li (gv_var (P := LiR Tx ys) rfl ⟨p, _, rfl, upd_same, pd_of_tx ys⟩) (szM (by rw [List.length_append]; omega))).li fun _ _ h => LiR.sq h) (by rw [List.length_append, List.length_append]; omega)) fun v7 M7 H7 g7 a7 ⟨x7, ⟨h7, h8⟩, r7⟩ => ?_
      cases (show v7 = _ from r7)
      have o7 := o6.step g7
      have oe7 := oe6.step dk_nt g7
      simp only [List.mem_append, not_or] at h8
      refine ⟨M7, _, ys ++ [x7], o7.mut (G6.trans g7), a7.upd o7.on, s1.trans (g6'.mm.trans g7.mm), ?_, ?_, ⟨by rw [List.length_append, SN.l]; rfl, ?_, fun y hy => ?_⟩, rfl⟩
      · rw [List.map_append]; exact o7.put
      · exact ⟨oe7.h0, oe7.m, by rw [cut_put o7.o.h, upd_ne (Ne.symm pe)]; exact oe7.h⟩
      · rw [List.nodup_append]
        exact ⟨SN.nd, by simp, fun a ha b hb => by rw [List.mem_singleton] at hb; subst hb; exact fun e => h8.2 (e ▸ ha)⟩
      · rcases List.mem_append.mp hy with hy | hy
        · exact SN.v y hy
        · rw [List.mem_singleton.mp hy]
          exact ⟨h7, h8.1.1⟩
    rintro xs M5 σ' M6 H6 ex sM ⟨y3, ys, g6, a6, s1, o6, oe6, SN, rfl⟩
    have hlx : xs.length = d.helpers.length - (c.helpers.take d.helpers.length).length := by rw [ex, List.length_drop]
    have yl : ys.length = d.helpers.length := by rw [SN.l, hlx]; omega
    have a6 : S.At k H6 := a6.le (by omega)
    have GF6 := g6.freeze o6.o.h0 o6.o.m o6.o.h
    have rY : LiR Tx ys (upd M6 p (.lst (ys.map V.str))) (.ref p) := ⟨p, _, rfl, upd_same, pd_of_tx ys⟩
    have oe6' : OwO S H (upd M6 p (.lst (ys.map V.str))) H6 e (.dK (mapK [])) := ⟨oe6.h0, by rw [upd_ne (Ne.symm pe)]; exact oe6.m, oe6.h⟩
    revert GF6 rY oe6'
    generalize upd M6 p (.lst (ys.map V.str)) = M7
    intro GF6 rY oe6'
    -- the new names by the old ones
    have zl : (d.helpers.zip ys).length = d.helpers.length := by rw [List.length_zip, yl, Nat.min_self]
    have z1 : (d.helpers.zip ys).map (·.1) = d.helpers := by rw [List.map_fst_zip]; omega
    have z2 : (d.helpers.zip ys).map (·.2) = ys := by rw [List.map_snd_zip]; omega
    have ndk : d.helpers.Nodup := (List.nodup_append.mp (show (d.signs ++ d.helpers).Nodup from Y.nm.nd)).2.1
    refine z_for (S := S) (k := k) (c := 0) (G := (· = d.helpers.zip ys)) (R := PrR K Tx Tx) GF6.mh a6 (gi_zipS (K := K) (gv_is (gv_cH (gv_var rfl (Mon.mono GF6.mm rd))) fun _ _ h => LiR.sq h) (gv_var rfl rY.sq)).s tg_2
      (fun xs M1' i σ' M' H' => ∃ y3 y6, Gr M (S.cut H) M' (S.cut H') ∧ S.At k H' ∧ Same M1' M' ∧ OwO S H M' H' e (.dK (mapK ((d.helpers.zip ys).take i))) ∧ σ' = [some (.ref S.a), some v, some w, y3, some (.ref p), some (.ref e), y6])
      (fun xs M8 H8 e8 g8 a8 => ⟨_, _, GF6.trans g8, a8, Same.refl _, oe6'.step dk_nt g8, rfl⟩)
      (fun xs M8 i σ' M' H' ⟨_, _, g, a, s1, _⟩ => ⟨s1, g.mh, a.le (Nat.zero_le _)⟩) ?_ ?_
    · rintro xs M8 i x σ' M' H' M9 H9 σ2 ex sM hx ⟨y3, y6, g, a, s1, oe, rfl⟩ g9 ⟨u1, u2, ru1, ru2, es⟩
      subst es
      rw [show xs = d.helpers.zip ys from ex] at hx
      cases (show u1 = _ from ru1)
      cases (show u2 = _ from ru2)
      have hi : i < (d.helpers.zip ys).length := (List.getElem?_eq_some_iff.mp hx).1
      have g9' := lift g.mh a g9
      have a9 := a.same g9.hh
      have G9 := g.trans g9'
      have oe9 := oe.step dk_nt g9'
      have hnk : x.1 ∉ ((d.helpers.zip ys).take i).map (·.1) := fun z => by
        rw [List.map_take, z1] at z
        have h1 : d.helpers[i]? = some x.1 := by rw [← z1, List.getElem?_map, hx]; rfl
        obtain ⟨j, hj⟩ := List.mem_iff_getElem?.mp z
        have hj' : j < i := by
          have := (List.getElem?_eq_some_iff.mp hj).1
          rw [List.length_take] at this
          omega
        rw [List.getElem?_take, if_pos hj'] at hj
        have := nodup_at ndk hj h1
        omega
      refine ⟨_, rfl, _, rfl, _, rfl, e, _, rfl, DPut.k (k := Sum.inr x.1) (of_cut oe9.h) (Nat.lt_of_le_of_lt (show (mapK ((d.helpers.zip ys).take i)).length ≤ 5 by unfold mapK; rw [List.length_map, List.length_take]; omega) (by decide)), ?_⟩
      rw [put_map hnk]
      have op8 : S.cut (upd H9 e (.dK (mapK ((d.helpers.zip ys).take i ++ [(x.1, x.2)])))) = upd (S.cut H9) e (.dK (mapK ((d.helpers.zip ys).take i ++ [(x.1, x.2)]))) := cut_put oe9.h
      refine ⟨M9, _, _, by rw [op8]; exact G9.mut oe9.h0 oe9.m, a9.upd (on_of oe9.h), s1.trans g9'.mm, ⟨oe9.h0, oe9.m, ?_⟩, rfl⟩
      rw [op8, upd_same, List.take_add_one, hx]
      rfl
    rintro xs M8 σ' M9 H9 ex sM ⟨y3', y6, g9, a9, s1', oe9, rfl⟩
    rw [show xs = d.helpers.zip ys from ex, List.take_length] at oe9
    have RO : RenOk d (d.helpers.zip ys) := ⟨z1, by rw [z2]; exact SN.nd, fun y hy => by
      rw [z2] at hy
      exact ⟨(SN.v y hy).1, fun h => (SN.v y hy).2 ((sg y).mpr h)⟩⟩
    have GE := g9.freeze oe9.h0 oe9.m oe9.h
    have rM : MapR (d.helpers.zip ys) (upd M9 e (.dK (mapK (d.helpers.zip ys)))) (.ref e) := ⟨e, rfl, upd_same⟩
    exact s_ret (GE.mh.trans cut_same) (gv_call2 (R1 := LawR) (R2 := MapR) (pre := fun c m => LiftPre c ∧ RenOk c m) (R := fun c m => LawR (renD m c)) (x := d) (y := d.helpers.zip ys) (gv_var rfl (Mon.mono GE.mm rd)) (gv_var rfl rM) ⟨Y, RO⟩) fun u M' H' g r => q _ u M' H' (GE.trans (lift GE.mh a9 g)) (a9.same g.hh) RO r
abbrev s__law_sized : Stmt := topS 63
theorem sc__law_sized : FnScope ["_law_c", "_law_other", "_law_found", "_law_parts", "_law_taken", "_law_helpers", "_law_signs", "_law_some", "_law_one"] ["_law_c", "_law_other", "_law_found"] (defScope s__law_sized) := ⟨rfl, rfl, rfl, by decide +kernel, rfl, by decide +kernel, by decide +kernel⟩
def sp__law_sized (K : PySem.W.Frag) (C : Addr) : Sp := fun vs H Q _ => ∃ c d ws M v w u, vs = [v, w, u] ∧ Same M H ∧ LawR c M v ∧ LawR d M w ∧ CodeR C (madeOf (eithD c d ws)) M u ∧ EithP c d ws ∧ ∀ M' H', Gr M H M' H' → Q (.bl true) H'
theorem ok__law_sized {f C : Addr} {fd : FuncData} (F : Fun K "_law_sized" "_law_sized" s__law_sized f fd) (T : Gc mg) (hs : mg "sum" = none) (c_len : OwnLen P w K mg base 1 C (sp_Code_len K C)) (m_helpers : Met P w K mg base 1 C "helpers" ["self"] (sp_Code_helpers K C)) : FnOk P w K mg base CX0 3 f fd ["_law_c", "_law_other", "_law_found"] (sp__law_sized K C) := by
  refine F.ok sc__law_sized (fun vs H Q E h => ?_) (fun cdv A outer s H vs Q E hr h => ?_)
  · obtain ⟨_, _, _, _, _, _, _, rfl, _⟩ := h
    rfl
  · obtain ⟨c, d, ws, M, v, w, u, rfl, mh, rc, rd, rf, EP, q⟩ := h
    have hu := hr.units
    refine ⟨_, (pss_cons (ps_par (i := 6) (j := 7) (by rfl) sc__law_sized.nd rfl rfl (by decide) rfl rfl (pa_cons (pe_callB call_lenA (by rfl) T.len boot_len (pa_cons (pe_dget (Nat.lt_of_le_of_lt (Nat.add_le_add_left (by decide) _) hu) (pv 0) pe_str (fun _ _ => rfl)) pa_nil)) (pa_cons (pe_op op_addA (pe_callB call_lenA (by rfl) T.len boot_len (pa_cons (pe_dget (Nat.lt_of_le_of_lt (Nat.add_le_add_left (by decide) _) hu) (pv 0) pe_str (fun _ _ => rfl)) pa_nil)) (pe_callB call_lenA (by rfl) T.len boot_len (pa_cons (pe_dget (Nat.lt_of_le_of_lt (Nat.add_le_add_left (by decide) _) hu) (pv 1) pe_str (fun _ _ => rfl)) pa_nil))) pa_nil)) (by rfl))
      (pss_cons (ps_set (i := 3) sc__law_sized.nd rfl (by first | exact .inl rfl | exact .inr rfl) (pe_callB (cr_sum rfl) (by rfl) hs boot_sum (pa_cons (pe_lc (own := [("_law_one", 8)]) (g := (gName 8)) (tt := tYes) (te := (tCB (rLenA K) (tCons (tVar 8) tNil))) (by rfl) sc__law_sized.nd (pi_sq (pe_op op_addA (pe_dget (Nat.lt_of_le_of_lt (Nat.add_le_add_left (by decide) _) hu) (pv 0) pe_str (fun _ _ => rfl)) (pe_dget (Nat.lt_of_le_of_lt (Nat.add_le_add_left (by decide) _) hu) (pv 1) pe_str (fun _ _ => rfl)))) (blkOk_by (by rfl)) (fun _ _ _ _ _ => (pg_name (i := 8) sc__law_sized.nd rfl (by first | exact .inl rfl | exact .inr rfl))) (fun _ _ _ _ _ => pts_nil) (fun _ _ _ _ _ => (pe_callB call_lenA (by rfl) T.len boot_len (pa_cons (pv 8) pa_nil)))) pa_nil)))
      (pss_cons (ps_set (i := 4) sc__law_sized.nd rfl (by first | exact .inl rfl | exact .inr rfl) (pe_op op_addA (pe_op op_addA (pe_dget (Nat.lt_of_le_of_lt (Nat.add_le_add_left (by decide) _) hu) (pv 0) pe_str (fun _ _ => rfl)) (pe_dget (Nat.lt_of_le_of_lt (Nat.add_le_add_left (by decide) _) hu) (pv 0) pe_str (fun _ _ => rfl))) (pe_dget (Nat.lt_of_le_of_lt (Nat.add_le_add_left (by decide) _) hu) (pv 1) pe_str (fun _ _ => rfl))))
      (pss_cons (ps_set (i := 5) sc__law_sized.nd rfl (by first | exact .inl rfl | exact .inr rfl) (pe_m0 m_helpers (hr.mono (by decide)) (pv 2)))
      (pss_cons (ps_if (pt_cmpR (op_neP hu) (pe_lc (own := [("_law_one", 8)]) (g := (gName 8)) (tt := (tTest (tOp (rInA K false) (tVar 8) (tVar 4)))) (te := (tVar 8)) (by rfl) sc__law_sized.nd (pi_sq (pv 5)) (blkOk_by (by rfl)) (fun _ _ _ _ _ => (pg_name (i := 8) sc__law_sized.nd rfl (by first | exact .inl rfl | exact .inr rfl))) (fun _ _ _ _ _ => (pts_one (pt_cmpR (op_inA hu) (pv 8) (pv 4) (by rfl)))) (fun _ _ _ _ _ => (pv 8))) (pe_lst pa_nil) (nomark _)) (pss_one (ps_ret pe_bl)) pss_nil)
      (pss_one (ps_ret (pe_and (pe_cmpR op_le (pe_callB call_lenA (by rfl) T.len boot_len (pa_cons (pv 5) pa_nil)) (pe_op op_addA (pe_op op_addA (pe_op op_mul pe_int (pv 6)) (pe_op op_mul pe_int (pv 7))) pe_int) (nomark _)) (pe_one (pe_cmpR op_le (pe_callB (call_lenO c_len (hr.mono (by decide))) (by rfl) T.len boot_len (pa_cons (pv 2) pa_nil)) (pe_op op_addA (pe_op op_addA (pe_op op_addA (pe_op op_mul pe_int (pv 6)) (pe_op op_mul pe_int (pv 7))) (pv 3)) pe_int) (nomark _))))))))))), ?_⟩
    have n5 := EP.x1.n
    have m5 := EP.x2.n
    have s3 := EP.x1.s
    have k1 := EP.x1.k
    have k2 := EP.x2.k
    have nl1 : c.names.length = c.signs.length + c.helpers.length := List.length_append
    have nl2 : d.names.length = d.signs.length + d.helpers.length := List.length_append
    obtain ⟨few1, few2⟩ := EP.small
    have P := EP.p
    have Pk := P.k
    have dk : (madeOf (eithD c d ws)).clauses.length ≤ (eithD c d ws).clauses.length := by
      refine Nat.le_trans (once_len2 _) ?_
      rw [List.length_map]
      exact Nat.le_refl _
    -- signs, some
    refine q_par2 (a_V (P := It' ((c.signs.length : Nat) : Int)) mh (gv_lenA (K := K) (R := Tx) (gv_is (gv_cS (gv_var rfl rc)) fun _ _ h => h.sq)) fun v4 M1 H1 g1 r4 => a_V (P := It' (((c.helpers.length : Nat) : Int) + ((d.helpers.length : Nat) : Int))) g1.mh (gv_addIn (K := K) (gv_lenA (K := K) (R := Tx) (gv_is (gv_cH (gv_var rfl (Mon.mono g1.mm rc))) fun _ _ h => h.sq)) (gv_lenA (K := K) (R := Tx) (gv_is (gv_cH (gv_var rfl (Mon.mono g1.mm rd))) fun _ _ h => h.sq))) fun v5 M2 H2 g2 r5 => a_nil ⟨_, _, rfl, ?_⟩)
    cases (show v4 = _ from r4)
    cases (show v5 = _ from r5)
    have G2 := g1.trans g2
    -- parts
    refine q_asg (P := It' (((c.clauses ++ d.clauses).flatten.length : Nat) : Int)) G2.mh (gv_is (gv_sum (K := K) (gl_m1 (S := It') (R := TT) (xs := c.clauses ++ d.clauses) (gi_sq (K := K) (gv_is (gl_addL (K := K) (R := TT) (gv_cC (gv_var rfl (Mon.mono G2.mm rc))) (gv_cC (gv_var rfl (Mon.mono G2.mm rd))) (szM (by omega))).li fun _ _ h => LiR.sq h)) (szK (by rw [List.length_append]; omega)) (fun k => ((k.length : Nat) : Int)) fun k hk M3 u3 sm ru => gv_lenA (K := K) (R := Tx) (xs := k) (gv_var rfl ru.sq))) fun M v h => by rw [flat_sum] at h; exact h) fun v2 M3 H3 g3 r2' => ?_
    cases (show v2 = _ from r2')
    have G3 := G2.trans g3
    -- taken
    refine q_asg (P := LiR Tx ((c.signs ++ c.helpers) ++ d.helpers)) G3.mh (gl_addL (K := K) (R := Tx) (gl_addL (K := K) (R := Tx) (gv_cS (gv_var rfl (Mon.mono G3.mm rc))) (gv_cH (gv_var rfl (Mon.mono G3.mm rc))) (szM (by omega))).li (gv_cH (gv_var rfl (Mon.mono G3.mm rd))) (szM (by rw [List.length_append]; omega))).li fun v6 M4 H4 g4 r6 => ?_
    have G4 := G3.trans g4
    -- helpers
    refine q_asg (P := LiR Tx ws) G4.mh (gv_is (gv_helpersM (gv_var rfl (Mon.mono G4.mm rf))) fun _ _ h => h) fun v7 M5 H5 g5 r7 => ?_
    have G5 := G4.trans g5
    have r65 : LiR Tx ((c.signs ++ c.helpers) ++ d.helpers) M5 v6 := Mon.mono g5.mm r6
    have wl := EP.nl.2
    have ef : ws.filter (fun x => decide (x ∈ (c.signs ++ c.helpers) ++ d.helpers)) = [] := List.filter_eq_nil_iff.mpr fun x hx => by
      rw [decide_eq_true_eq]
      intro z
      have h := (EP.v.w.nm x hx).2
      simp only [List.mem_append] at z
      rcases z with (z | z) | z
      · exact h (List.mem_append_left _ (List.mem_append_left _ z))
      · exact h (List.mem_append_left _ (List.mem_append_right _ z))
      · exact h (List.mem_append_right _ (List.mem_append_right _ z))
    refine q_if0 (b := false) G5.mh (gt_is (gt_test (gv_eqT (K := K) (R := LiR Tx) (neg := true) (x := []) (y := []) py_LT inj_LT (gv_is (gl_c1 (S := Tx) (R := Tx) (xs := ws) (gi_sq (K := K) (gv_var rfl r7.sq)) (szK (by omega)) (fun x => decide (x ∈ (c.signs ++ c.helpers) ++ d.helpers)) id
      (fun x hx M6 u6 sm ru => gt_is (gt_test (gv_inA (K := K) (neg := false) (x := x) (xs := (c.signs ++ c.helpers) ++ d.helpers) (gv_var rfl ru) (gv_var rfl (.inl (Mon.mono sm r65 : LiR Tx _ _ _).sq)))) (by simp)) fun x hx _ M6 u6 sm ru => gv_var rfl ru).li fun M v h => by
        rw [List.map_id, ef] at h
        exact h) gv_nilL (by simp [PyData.depth, PyData.depthAll]))) (by simp)) (fun z => nomatch z) fun _ H6 hh6 => ?_
    have G6 := G5.trans (.idle G5.mh hh6)
    have r26 : CodeR C (madeOf (eithD c d ws)) M5 u := Mon.mono G5.mm rf
    refine s_ret (P := Bl (true && true)) G6.mh (gv_andV (gv_is (gv_gt (g := fun i j => .bl (decide (i ≤ j))) (i := ((ws.length : Nat) : Int)) (j := (4 * (c.signs.length : Int) + 2 * ((c.helpers.length : Int) + (d.helpers.length : Int))) + 2) (gv_lenA (K := K) (R := Tx) (gv_var rfl r7.sq))
      (gv_addIn (K := K) (gv_addIn (K := K) (gv_mul (gv_c rfl) (gv_var rfl rfl) (.inl ⟨by decide, by decide⟩)) (gv_mul (gv_c rfl) (gv_var rfl rfl) (.inl ⟨by decide, by decide⟩))) (gv_c rfl))) fun M v h => by
        rw [show v = _ from h]
        show V.bl _ = V.bl true
        congr 1
        exact decide_eq_true (by omega)) fun _ => gv_is (gv_gt (g := fun i j => .bl (decide (i ≤ j))) (i := (((madeOf (eithD c d ws)).clauses.length : Nat) : Int)) (j := ((12 * (c.signs.length : Int) + 3 * ((c.helpers.length : Int) + (d.helpers.length : Int))) + (((c.clauses ++ d.clauses).flatten.length : Nat) : Int)) + 3)
      (gv_lenO (R1 := CodeR C) (pre := fun _ => True) (R := fun c => It' (c.clauses.length : Nat)) (gv_var rfl r26) (fun M v r => inst_code _ M v r) trivial (by omega) fun _ _ r => r)
      (gv_addIn (K := K) (gv_addIn (K := K) (gv_addIn (K := K) (gv_mul (gv_c rfl) (gv_var rfl rfl) (.inl ⟨by decide, by decide⟩)) (gv_mul (gv_c rfl) (gv_var rfl rfl) (.inl ⟨by decide, by decide⟩))) (gv_var rfl rfl)) (gv_c rfl))) fun M v h => by
        rw [show v = _ from h]
        show V.bl _ = V.bl true
        congr 1
        exact decide_eq_true (by omega)) fun u M' H' g r => by rw [show u = _ from r]; exact q M' H' (G6.trans g)
end
end My

set_option Elab.async false
set_option linter.all false
set_option maxRecDepth 100000
set_option maxHeartbeats 8000000
namespace My
open PySem PySem.Spec PyProof.Rows L2 L3
open L3.Strm
/-! what is seen, as truths -/
noncomputable def bA (cs al hs : List (List Str)) : Bool := @decide (∀ h ∈ hs, okA cs al h) (Classical.propDecidable _)
noncomputable def bB (cs al hs : List (List Str)) : Bool := @decide (∀ h ∈ hs, okA cs al h ∧ okB cs al h) (Classical.propDecidable _)
theorem bA_iff {cs al hs : List (List Str)} : bA cs al hs = true ↔ ∀ h ∈ hs, okA cs al h := by unfold bA; simp
theorem bB_iff {cs al hs : List (List Str)} : bB cs al hs = true ↔ ∀ h ∈ hs, okA cs al h ∧ okB cs al h := by unfold bB; simp
theorem SeeB.eq {cs al hs : List (List Str)} {b1 b2 : Bool} (S : SeeB cs al hs b1 b2) : b1 = bA cs al hs ∧ b2 = bB cs al hs := by
  constructor
  · rw [Bool.eq_iff_iff, bA_iff]; exact S.a
  · rw [Bool.eq_iff_iff, bB_iff]; exact S.b
theorem LiftPre.x {c : CodeD} (X : LiftPre c) : LawX c := ⟨X.nm, Nat.le_trans X.n (by decide), X.l, Nat.le_trans X.k (by decide)⟩
theorem not_same_len {xs ys : List Str} (h : xs.length ≠ ys.length) : sameN xs ys = false := by
  unfold sameN
  rw [decide_eq_false h]
  rfl
theorem not_same_mem {xs ys : List Str} {x : Str} (h : x ∈ xs) (n : x ∉ ys) : sameN xs ys = false := by
  unfold sameN
  rw [Bool.and_eq_false_iff]
  refine .inr ?_
  rw [List.all_eq_false]
  exact ⟨x, h, by rw [decide_eq_false n]; decide⟩
section
variable {K : PySem.W.Frag} {S : Strm} {σ : Sl} {M H : Hp} {D : Ends} {te t1 t2 ta tb tc : TE} {tt : L2.TT} {tx ty : TS} {C : Addr}
theorem e_ifN {k : Nat} {tb : TS} (L : Zs S M H k) (h : GvT tt σ M false) (go : ∀ H', Zs S M H' k → D.nx σ H') : tIfS tt tb tNext D σ H := s_if0 (L.mh.trans cut_same) h (fun e => nomatch e) fun _ H' hh => go H' (L.idle hh)
theorem gv_sight {N ns : List Str} {cs al : List (List Str)} (X : SightPre N ns cs al) (h1 : Gv ta σ M (LstR K Tx ns)) (h2 : Gv tb σ M (SqR K (SqR K Tx) cs)) (h3 : Gv tc σ M (SqR K TT al)) :
    Gv (tCall (sp__law_sight K) [] E0 (tCons ta (tCons tb (tCons tc tNil)))) σ M (LiR Bl [bA cs al (halves ns), bB cs al (halves ns)]) := fun H mh Q q =>
  h1 H mh _ fun v M1 H1 g1 p1 => h2.le g1.mm H1 g1.mh _ fun w M2 H2 g2 p2 => h3.le (g1.mm.trans g2.mm) H2 g2.mh _ fun u M3 H3 g3 p3 =>
    ⟨N, ns, cs, al, M3, v, w, u, rfl, g3.mh, Mon.mono (g2.mm.trans g3.mm) p1, Mon.mono g3.mm p2, p3, X, fun b1 b2 z M' H' g S r => q z M' H' (((g1.trans g2).trans g3).trans g) (by rw [← S.eq.1, ← S.eq.2]; exact r)⟩
theorem gv_sized {c d : CodeD} {ws : List Str} (EP : EithP c d ws) (h1 : Gv ta σ M (LawR c)) (h2 : Gv tb σ M (LawR d)) (h3 : Gv tc σ M (CodeR C (madeOf (eithD c d ws)))) : Gv (tCall (sp__law_sized K C) [] E0 (tCons ta (tCons tb (tCons tc tNil)))) σ M (Bl true) := fun H mh Q q =>
  h1 H mh _ fun v M1 H1 g1 p1 => h2.le g1.mm H1 g1.mh _ fun w M2 H2 g2 p2 => h3.le (g1.mm.trans g2.mm) H2 g2.mh _ fun u M3 H3 g3 p3 =>
    ⟨c, d, ws, M3, v, w, u, rfl, g3.mh, Mon.mono (g2.mm.trans g3.mm) p1, Mon.mono g3.mm p2, p3, EP, fun M' H' g => q _ M' H' (((g1.trans g2).trans g3).trans g) rfl⟩
/-- one if the other is the same text for text, else the other -/
theorem gv_pickEq {c d : CodeD} (h1 : Gv t1 σ M (LawR d)) (h2 : Gv t2 σ M (LawR c)) (hc : Gv ta σ M (CodeR C c)) (hd : Gv tb σ M (CodeR C d)) : Gv (tIf (tTest (tOp (rEq3 K "signs" "helpers" "clauses") t1 t2)) ta tb) σ M (CodeR C d) := fun H mh Q q =>
  h1 H mh _ fun v M1 H1 g1 p1 => h2.le g1.mm H1 g1.mh _ fun u M2 H2 g2 p2 => by
    obtain ⟨a, x1, x2, x3, ea, ha, hx1, hx2, hx3⟩ := p1
    obtain ⟨b, y1, y2, y3, eb, hb, hy1, hy2, hy3⟩ := p2
    have up := g2.mm.trans g2.mh
    have dz : ∀ xs : List Str, (PyData.list (xs.map .str)).depth ≤ 60 := fun xs => by simp [PyData.depth, depthS]
    refine ⟨a, b, x1, x2, x3, y1, y2, y3, _, _, _, _, _, _, ea, eb, .inl (up _ _ ha), .inl (g2.mh _ _ hb), ⟨dp_mono up (py_LT (K := K) _ _ _ hx1), dp_mono up (py_LT (K := K) _ _ _ hx2), dp_mono up (py_LTT (K := K) _ _ _ hx3)⟩, ⟨dp_mono g2.mh (py_LT (K := K) _ _ _ hy1), dp_mono g2.mh (py_LT (K := K) _ _ _ hy2), dp_mono g2.mh (py_LTT (K := K) _ _ _ hy3)⟩, ⟨dz _, dz _, depth_LTT _⟩, fun r hr => ⟨r, rfl, ?_⟩⟩
    cases r with
    | false => exact (hd.le (g1.mm.trans g2.mm)) H2 g2.mh Q fun z M' H' g r => q z M' H' ((g1.trans g2).trans g) r
    | true =>
      obtain ⟨e1, e2, e3⟩ := hr rfl
      have f1 : d.signs = c.signs := of_decide_eq_true ((inj_LT _ _).symm.trans e1)
      have f2 : d.helpers = c.helpers := of_decide_eq_true ((inj_LT _ _).symm.trans e2)
      have f3 : d.clauses = c.clauses := of_decide_eq_true ((inj_LTT _ _).symm.trans e3)
      have e : c = d := by
        clear hc hd h1 h2 hr e1 e2 e3 hx1 hx2 hx3 hy1 hy2 hy3
        cases c
        cases d
        simp only at f1 f2 f3
        subst f1 f2 f3
        rfl
      subst e
      exact (hc.le (g1.mm.trans g2.mm)) H2 g2.mh Q fun z M' H' g r => q z M' H' ((g1.trans g2).trans g) r
/-- a code of signs alone -/
theorem gv_mkCodeD {dv : V} {ss : List Str} {cs : List (List Str)} (hd : ∀ M, SqR K Tx [] M dv) (h1 : Gv t1 σ M (SqR K Tx ss)) (h2 : Gv t2 σ M (SqR K (SqR K Tx) cs)) (ok : CodeOk ss [] cs) : Gv (tMake C (sp_Code_init K C) [dv] E0 (tCons t1 (tCons t2 tNil))) σ M (CodeR C (mkCode ss [] cs)) := fun H mh Q q =>
  h1 H mh _ fun v1 M1 H1 g1 q1 => h2.le g1.mm H1 g1.mh _ fun v2 M2 H2 g2 q2 x dx hx hdx hne => by
    have m2 := g2.mh
    have gN : Gr M2 H2 M2 (upd (upd H2 dx (.own x)) x (.ins C dx [])) := (Gr.own m2 hdx).trans (.own (m2.trans (same_new hdx)) (by rw [upd_ne (Ne.symm hne)]; exact hx))
    exact ⟨ss, [], cs, M2, H2, x, dx, v1, v2, dv, rfl, gN, hx, m2.free hx, upd_same, Mon.mono g2.mm q1, q2, hd _, ok, fun M' H' g r => ⟨rfl, q _ M' H' ((g1.trans g2).trans g) r⟩⟩
theorem gs_mkCodeD {dv : V} {c1 : Nat} {good : List Str → Prop} (hd : ∀ M, SqR K Tx [] M dv) (h1 : GvS S c1 t1 σ M (Ex (LiR Tx) good)) (ok : ∀ ss, good ss → CodeOk ss [] []) : GvS S c1 (tMake C (sp_Code_init K C) [dv] E0 (tCons t1 (tCons (tLst tNil) tNil))) σ M (Ex (fun ss => CodeR C (mkCode ss [] [])) good) := fun H k mh a Q q =>
  h1 H k mh a _ fun v1 M1 H1 g1 a1 ⟨ss, gs, r1⟩ => (gv_mkCodeD (t1 := tC v1) (t2 := tLst tNil) (σ := σ) (M := M1) (cs := []) hd (gv_c r1.sq) (gv_is gv_nilL fun _ _ h => (liTT_liq h).sq) (ok ss gs)) H1 (g1.mh.trans cut_same) _ fun z M2 H2 g2 r2 => q z M2 H2 (g1.trans (lift g1.mh a1 g2)) (a1.same g2.hh) ⟨ss, gs, r2⟩
theorem gs_oneL {c1 : Nat} {good : Str → Prop} (h : GvS S c1 te σ M (Ex Tx good)) : GvS S c1 (tLst (tCons te tNil)) σ M (Ex (LiR Tx) fun zs => ∃ x, good x ∧ zs = [x]) := fun H k mh a Q q =>
  h H k mh a _ fun v M1 H1 g1 a1 ⟨x, gx, rx⟩ => (gl_one (R := Tx) (σ := σ) (te := tC v) (gv_c rx)).li H1 (g1.mh.trans cut_same) _ fun z M2 H2 g2 r2 => q z M2 H2 (g1.trans (lift g1.mh a1 g2)) (a1.same g2.hh) ⟨[x], ⟨x, gx, rfl⟩, r2⟩
end
theorem third_ok {ss : List Str} (nm : NmL ss) (n : ss.length ≤ 10) : CodeP ⟨ss, [], []⟩ := ⟨by show NmL (ss ++ []); rw [List.append_nil]; exact nm, fun _ h => (nomatch h), by show (ss ++ []).length ≤ 100; rw [List.append_nil]; omega, Nat.zero_le _⟩
/-- signs that neither of the two codes has all of, and no more -/
structure ThirdS (c d : CodeD) (ss : List Str) : Prop where
  nm : NmL ss
  n : ss.length ≤ 10
  a : sameN c.signs ss = false
  b : sameN ss d.signs = false
theorem third_less {c d : CodeD} (nm : NmL c.signs) (n : c.signs.length ≤ 3) (e : c.signs.length = d.signs.length) (h : c.signs ≠ []) : ThirdS c d (c.signs.drop 1) := by
  have hp := List.length_pos_iff.mpr h
  exact ⟨⟨nm.nd.sublist (List.drop_sublist _ _), fun x hx => nm.nm x (List.mem_of_mem_drop hx), by rw [List.length_drop]; have := nm.n; omega⟩, by rw [List.length_drop]; omega, not_same_len (by rw [List.length_drop]; omega), not_same_len (by rw [List.length_drop]; omega)⟩
theorem third_more {c d : CodeD} {x : Str} {j : Nat} (nm : NmL c.signs) (n : c.signs.length ≤ 3) (sg : ∀ n, n ∈ c.signs ↔ n ∈ d.signs) (hx : isNm x = true) (hn : x ∉ c.signs) (hj : j ≤ 1) : ThirdS c d (c.signs.drop j ++ [x]) := by
  have nd : (c.signs.drop j ++ [x]).Nodup := List.nodup_append.mpr ⟨nm.nd.sublist (List.drop_sublist _ _), by simp, fun a ha b hb e => by
    rw [List.mem_singleton.mp hb] at e
    exact hn (e ▸ List.mem_of_mem_drop ha)⟩
  refine ⟨⟨nd, fun y hy => ?_, by rw [List.length_append, List.length_drop]; simp only [List.length_cons, List.length_nil]; omega⟩, by rw [List.length_append, List.length_drop]; simp only [List.length_cons, List.length_nil]; omega, ?_, not_same_mem (x := x) (by simp) fun z => hn ((sg x).mpr z)⟩
  · rcases List.mem_append.mp hy with hy | hy
    · exact nm.nm y (List.mem_of_mem_drop hy)
    · rw [List.mem_singleton.mp hy]; exact hx
  · cases e : c.signs with
    | nil => exact not_same_len (by simp)
    | cons s r =>
      have nd' := nm.nd
      rw [e] at nd' hn
      rcases (by omega : j = 0 ∨ j = 1) with rfl | rfl
      · exact not_same_len (by simp)
      · refine not_same_mem (x := s) (List.mem_cons_self ..) fun z => ?_
        rcases List.mem_append.mp z with z | z
        · exact (List.nodup_cons.mp nd').1 z
        · exact hn (by rw [← List.mem_singleton.mp z]; exact List.mem_cons_self ..)
section
variable {K : PySem.W.Frag} {S : Strm} {σ : Sl} {M : Hp} {ti : TE} {C : Addr} {dv v3 : V} {wy : Int} {c d : CodeD}
theorem gs_thirdL (h1 : σ[1]? = some (some (.ref S.a))) (h3 : σ[3]? = some (some v3)) (rn : LiR Tx c.signs M v3) (hi : Gv ti σ M (It' (if decide (wy = 1) then 1 else 0))) (sgc : NmL c.signs) (n3 : c.signs.length ≤ 3) (sg : ∀ n, n ∈ c.signs ↔ n ∈ d.signs) :
    GvS S (0 + 12) (tOp (rAddA K) (tSl (rSlX K) (tVar 3) (tPart ti) tNoPart) (tLst (tCons (tCall (sp__law_fresh K) [] E0 (tCons (tVar 1) (tCons (tVar 3) tNil))) tNil))) σ M (Ex (LiR Tx) (ThirdS c d)) := by
  have hA : GvS S 0 (tSl (rSlX K) (tVar 3) (tPart ti) tNoPart) σ M (LiR Tx (c.signs.drop (if wy = 1 then 1 else 0))) := (gv_is (gl_cutLo (K := K) (R := Tx) (gv_is (gv_var h3 rn) fun _ _ h => LiR.lst h) hi).li fun M v h => by
    by_cases e : wy = 1
    · simp only [e, decide_true, if_true] at h ⊢
      rw [show (1 : Int) = ((1 : Nat) : Int) from rfl, cut_drop] at h
      exact h
    · simp only [e, decide_false, if_false, Bool.false_eq_true] at h ⊢
      rw [show (0 : Int) = ((0 : Nat) : Int) from rfl, cut_drop] at h
      exact h).s
  have hB : GvS S 12 (tLst (tCons (tCall (sp__law_fresh K) [] E0 (tCons (tVar 1) (tCons (tVar 3) tNil))) tNil)) σ M (Ex (LiR Tx) fun zs => ∃ x, (isNm x = true ∧ x ∉ c.signs) ∧ zs = [x]) := gs_oneL (gs_call1 (S := S) (R1 := SqR K Tx) (pre := fun xs => xs.length ≤ 600) (cs := fun _ => 12) (R := fun xs => Ex Tx fun x => isNm x = true ∧ x ∉ xs) (x := c.signs) h1 (gv_is (gv_var h3 rn) fun _ _ h => LiR.sq h) (by omega))
  refine gs_op hA hB fun M' u1 u2 p1 ⟨zs, ⟨x, ⟨hx1, hx2⟩, ez⟩, p2⟩ => ?_
  subst ez
  intro H' mh' Q' q'
  refine (gl_addL (K := K) (R := Tx) (σ := []) (t1 := tC u1) (t2 := tC u2) (xs := c.signs.drop (if wy = 1 then 1 else 0)) (ys := [x]) (gv_c p1) (gv_c p2) (szM (by rw [List.length_drop]; simp only [List.length_cons, List.length_nil]; omega))).li H' mh' _ fun z M'' H'' g r => q' z M'' H'' g ⟨_, third_more sgc n3 sg hx1 hx2 (by split <;> omega), r⟩
theorem gs_third (hdv : ∀ M, SqR K Tx [] M dv) (h1 : σ[1]? = some (some (.ref S.a))) (h3 : σ[3]? = some (some v3)) (rn : LiR Tx c.signs M v3) (hi : Gv ti σ M (It' (if decide (wy = 1) then 1 else 0))) (sgc : NmL c.signs) (n3 : c.signs.length ≤ 3) (sg : ∀ n, n ∈ c.signs ↔ n ∈ d.signs) :
    GvS S (0 + 12) (tMake C (sp_Code_init K C) [dv] E0 (tCons (tOp (rAddA K) (tSl (rSlX K) (tVar 3) (tPart ti) tNoPart) (tLst (tCons (tCall (sp__law_fresh K) [] E0 (tCons (tVar 1) (tCons (tVar 3) tNil))) tNil))) (tCons (tLst tNil) tNil))) σ M (Ex (fun ss => CodeR C (mkCode ss [] [])) (ThirdS c d)) :=
  gs_mkCodeD hdv (gs_thirdL h1 h3 rn hi sgc n3 sg) fun ss hs => (third_ok hs.nm hs.n).ok
end
/-- all that the law asks of what is seen -/
theorem eith_seen {c d : CodeD} {ws : List Str} (EP : EithP c d ws) (D1 : DeadC c) (D2 : DeadC d) : bA (madeOf (eithD c d ws)).clauses (dueL c d) (halves c.signs) = true ∧
    ((bB c.clauses (allowedL c.signs c.clauses c.helpers) (halves c.signs) && bB d.clauses (allowedL d.signs d.clauses d.helpers) (halves d.signs)) = true → bB (madeOf (eithD c d ws)).clauses (dueL c d) (halves c.signs) = true) := by
  refine ⟨bA_iff.mpr fun h hh => EP.sees D1 D2 hh, fun h => ?_⟩
  rw [Bool.and_eq_true, bB_iff, bB_iff] at h
  exact bB_iff.mpr fun x hx => ⟨EP.sees D1 D2 hx, EP.draws D1 D2 (fun y hy => (h.1 y hy).2) (fun y hy => (h.2 y hy).2) hx⟩
section
variable {P : Program} {w : World} {K : PySem.W.Frag} {mg : Str → Option Value} {base : Heap}
abbrev s_law : Stmt := topS 66
theorem sc_law : FnScope ["_law_script", "_law_stream", "_law_turn", "_law_signs", "_law_found", "_law_due", "_law_clauses", "_law_forced_here", "_law_sight_here", "_law_c", "_law_allowed", "_law_other", "_law_more", "_law_one", "_law_two", "_law_third", "_law_way", "_law_full"] ["_law_script"] (defScope s_law) := ⟨rfl, rfl, rfl, by decide +kernel, rfl, by decide +kernel, by decide +kernel⟩
def sp_law (K : PySem.W.Frag) : Sp := fun vs H Q _ => ∃ (ns : List Int) (M : Hp) (v : V), vs = [v] ∧ Same M H ∧ SqR K It' ns M v ∧ ∀ H', Q (.bl true) H'
theorem ok_law {f C : Addr} {fd : FuncData} {dv : V} (F : Fun K "law" "law" s_law f fd) (T : Gc mg) (IC : InsF K C) (g_Code : mg "Code" = some (.ref C)) (hdv : ∀ M, SqR K Tx [] M dv)
    (c__law_draw : Cal P w K mg base 1 "_law_draw" ["_law_stream", "_law_many"] (sp__law_draw K)) (c__law_names : Cal P w K mg base 4 "_law_names" ["_law_stream", "_law_many"] (sp__law_names K)) (c__law_mixed : Cal P w K mg base 2 "_law_mixed" ["_law_stream", "_law_things"] (sp__law_mixed K)) (c__law_fresh : Cal P w K mg base 3 "_law_fresh" ["_law_stream", "_law_taken"] (sp__law_fresh K))
    (c__law_dead_code : Cal P w K mg base 5 "_law_dead_code" ["_law_stream", "_law_signs", "_law_helpers"] (sp__law_dead_code K)) (c__law_same_helpers : Cal P w K mg base 4 "_law_same_helpers" ["_law_stream", "_law_c", "_law_other"] (sp__law_same_helpers K)) (c__law_made : Cal P w K mg base 7 "_law_made" ["_law_c"] (sp__law_made2 K C)) (c_either : Cal P w K mg base 7 "either" ["one", "other"] (sp_either K C))
    (m_signs : Met P w K mg base 1 C "signs" ["self"] (sp_Code_signs K C)) (m_clauses : Met P w K mg base 1 C "clauses" ["self"] (sp_Code_clauses K C)) (c__law_sized : Cal P w K mg base 3 "_law_sized" ["_law_c", "_law_other", "_law_found"] (sp__law_sized K C))
    (o_eq : OwnSp P w K mg base 5 C "__eq__" ["self", "other"] (sp_Code_eq K C)) (ne : NeObj K C) (c__law_up : Cal P w K mg base 1 "_law_up" ["_law_some", "_law_names_here"] (sp__law_up K))
    (c__law_fulls : Cal P w K mg base 1 "_law_fulls" ["_law_names_here"] (sp__law_fulls K)) (c__law_goes : Cal P w K mg base 29 "_law_goes" ["_law_clauses", "_law_half"] (sp_goes K 26)) (c__law_sight : Cal P w K mg base 3 "_law_sight" ["_law_names_here", "_law_clauses", "_law_allowed"] (sp__law_sight K))
    (c__law_refused : Cal P w K mg base 8 "_law_refused" ["_law_one", "_law_other"] (sp__law_refused K C)) (d_Code : MakD P w K mg base 5 "Code" C ["self", "signs", "clauses", "helpers"] [dv] (sp_Code_init K C)) :
    FnG P w K mg base CX0 30 f fd ["_law_script"] (sp_law K) := by
  refine fun_okG F sc_law (fun vs H Q E h => ?_) (fun cdv A outer s H vs Q E hgu hr h => ?_)
  · obtain ⟨ns, M, v, rfl, _⟩ := h
    rfl
  · obtain ⟨cells, M, v, rfl, mh, r1, q⟩ := h
    have hu := hr.units
    have hu5 : (A.deeper (envOfC "law" (defScope s_law) s.heap.objs.size f cdv)).units + 65 < cLine := by have := hr.un; omega
    have hgu : (A.deeper (envOfC "law" (defScope s_law) s.heap.objs.size f cdv)).guards = some [] := hgu
    refine ⟨_, (pss_cons (ps_set (i := 1) sc_law.nd rfl (by first | exact .inl rfl | exact .inr rfl) (pe_lst (pa_cons (pe_callTy call_lstA (by rfl) T.list boot_list (pa_cons (pv 0) pa_nil)) (pa_cons pe_int (pa_cons pe_int (pa_cons pe_int pa_nil))))))
      (pss_cons (ps_for PassesOwn.never (by rfl) (pi_range1 (by rfl) T.range (pa_cons pe_int pa_nil)) (pg_name (i := 2) sc_law.nd rfl (by first | exact .inl rfl | exact .inr rfl)) (pss_cons (ps_set (i := 3) sc_law.nd rfl (by first | exact .inl rfl | exact .inr rfl) (pe_f c__law_names (hr.mono (by decide)) (pa_cons (pv 1) (pa_cons (pe_f c__law_draw (hr.mono (by decide)) (pa_cons (pv 1) (pa_cons pe_int pa_nil))) pa_nil))))
      (pss_cons (ps_asg (pe_f c__law_dead_code (hr.mono (by decide)) (pa_cons (pv 1) (pa_cons (pv 3) (pa_cons pe_int pa_nil)))) (pg_tup (by rfl) (pgs_cons (pg_name (i := 9) sc_law.nd rfl (by first | exact .inl rfl | exact .inr rfl)) (pgs_cons (pg_name (i := 10) sc_law.nd rfl (by first | exact .inl rfl | exact .inr rfl)) pgs_nil))))
      (pss_cons (ps_asg (pe_f c__law_dead_code (hr.mono (by decide)) (pa_cons (pv 1) (pa_cons (pe_f c__law_mixed (hr.mono (by decide)) (pa_cons (pv 1) (pa_cons (pv 3) pa_nil))) (pa_cons pe_int pa_nil)))) (pg_tup (by rfl) (pgs_cons (pg_name (i := 11) sc_law.nd rfl (by first | exact .inl rfl | exact .inr rfl)) (pgs_cons (pg_name (i := 12) sc_law.nd rfl (by first | exact .inl rfl | exact .inr rfl)) pgs_nil))))
      (pss_cons (ps_if (pt_cmpR (op_eqP hu) (pe_f c__law_draw (hr.mono (by decide)) (pa_cons (pv 1) (pa_cons pe_int pa_nil))) pe_int (nomark _)) (pss_one (ps_set (i := 11) sc_law.nd rfl (by first | exact .inl rfl | exact .inr rfl) (pe_f c__law_same_helpers (hr.mono (by decide)) (pa_cons (pv 1) (pa_cons (pv 9) (pa_cons (pv 11) pa_nil)))))) pss_nil)
      (pss_cons (ps_if (pt_cmpR (op_eqP hu) (pe_f c__law_draw (hr.mono (by decide)) (pa_cons (pv 1) (pa_cons pe_int pa_nil))) pe_int (nomark _)) (pss_one (ps_asg (pe_tup (pa_cons (pv 9) (pa_cons (pv 10) pa_nil))) (pg_tup (by rfl) (pgs_cons (pg_name (i := 11) sc_law.nd rfl (by first | exact .inl rfl | exact .inr rfl)) (pgs_cons (pg_name (i := 12) sc_law.nd rfl (by first | exact .inl rfl | exact .inr rfl)) pgs_nil))))) pss_nil)
      (pss_cons (ps_par (i := 13) (j := 14) (by rfl) sc_law.nd rfl rfl (by decide) rfl rfl (pa_cons (pe_f c__law_made (hr.mono (by decide)) (pa_cons (pv 9) pa_nil)) (pa_cons (pe_f c__law_made (hr.mono (by decide)) (pa_cons (pv 11) pa_nil)) pa_nil)) (by rfl))
      (pss_cons (ps_set (i := 4) sc_law.nd rfl (by first | exact .inl rfl | exact .inr rfl) (pe_f c_either (hr.mono (by decide)) (pa_cons (pv 13) (pa_cons (pe_ifExp (pt_cmpR (op_eq3 (k1 := "signs") (k2 := "helpers") (k3 := "clauses") (by decide) (by decide) (by decide) hu5) (pv 11) (pv 9) (nomark _)) (pv 13) (pv 14)) pa_nil))))
      (pss_cons (ps_if (PW.pt (pw_or (pt_not (pt_val (pe_callB call_isi (by rfl) T.isinstance boot_isinstance (pa_cons (pv 4) (pa_cons (pe_glob (v := .ref C) (by rfl) g_Code rfl) pa_nil))))) (pw_or (pt_cmpR (op_neP hu) (pe_m0 m_signs (hr.mono (by decide)) (pv 4)) (pv 3) (nomark _)) (pw_or1 (pt_not (pt_val (pe_f c__law_sized (hr.mono (by decide)) (pa_cons (pv 9) (pa_cons (pv 11) (pa_cons (pv 4) pa_nil)))))))))) (pss_one (ps_ret pe_bl)) pss_nil)
      (pss_cons (ps_setLc (i := 5) (own := [("_law_full", 17)]) (g := (gName 17)) (tt := (tOr (tTest (tOp (rInA K false) (tVar 17) (tVar 10))) (tTest (tOp (rInA K false) (tCall (sp__law_up K) [] E0 (tCons (tVar 17) (tCons (tDGet (tVar 11) (tC (.str "signs"))) tNil))) (tVar 12))))) (te := (tVar 17)) (by rfl) sc_law.nd rfl rfl (sw_true rfl rfl rfl (by decide +kernel)) (pi_sq (pe_f c__law_fulls (hr.mono (by decide)) (pa_cons (pv 3) pa_nil))) (blkOk_by (by rfl)) (fun _ _ _ _ _ => (pg_name (i := 17) sc_law.nd rfl (by first | exact .inl rfl | exact .inr rfl))) (fun _ _ _ _ _ => (pts_one (PW.pt (pw_or (pt_cmpR (op_inA hu) (pv 17) (pv 10) (by rfl)) (pw_or1 (pt_cmpR (op_inA hu) (pe_f c__law_up (hr.mono (by decide)) (pa_cons (pv 17) (pa_cons (pe_dget (Nat.lt_of_le_of_lt (Nat.add_le_add_left (by decide) _) hu) (pv 11) pe_str (fun _ _ => rfl)) pa_nil))) (pv 12) (by rfl))))))) (fun _ _ _ _ _ => (pv 17)))
      (pss_cons (ps_set (i := 6) sc_law.nd rfl (by first | exact .inl rfl | exact .inr rfl) (pe_m0 m_clauses (hr.mono (by decide)) (pv 4)))
      (pss_cons (ps_if (pt_cmpR (op_neP hu) (pe_lc (own := [("_law_full", 17)]) (g := (gName 17)) (tt := (tB (tCall (sp_goes K 26) [] E0 (tCons (tVar 6) (tCons (tCB (rLstOf K) (tCons (tVar 17) tNil)) tNil))))) (te := (tVar 17)) (by rfl) sc_law.nd (pi_sq (pe_f c__law_fulls (hr.mono (by decide)) (pa_cons (pv 3) pa_nil))) (blkOk_by (by rfl)) (fun _ _ _ _ _ => (pg_name (i := 17) sc_law.nd rfl (by first | exact .inl rfl | exact .inr rfl))) (fun _ _ _ _ _ => (pts_one (pt_val (pe_f c__law_goes (hr.mono (by decide)) (pa_cons (pv 6) (pa_cons (pe_callTy call_lstA (by rfl) T.list boot_list (pa_cons (pv 17) pa_nil)) pa_nil)))))) (fun _ _ _ _ _ => (pv 17))) (pv 5) (nomark _)) (pss_one (ps_ret pe_bl)) pss_nil)
      (pss_cons (ps_set (i := 7) sc_law.nd rfl (by first | exact .inl rfl | exact .inr rfl) (pe_and (pe_ix ix_X (pe_f c__law_sight (hr.mono (by decide)) (pa_cons (pv 3) (pa_cons (pe_dget (Nat.lt_of_le_of_lt (Nat.add_le_add_left (by decide) _) hu) (pv 9) pe_str (fun _ _ => rfl)) (pa_cons (pv 10) pa_nil)))) pe_int (fun _ _ => rfl)) (pe_one (pe_ix ix_X (pe_f c__law_sight (hr.mono (by decide)) (pa_cons (pe_dget (Nat.lt_of_le_of_lt (Nat.add_le_add_left (by decide) _) hu) (pv 11) pe_str (fun _ _ => rfl)) (pa_cons (pe_dget (Nat.lt_of_le_of_lt (Nat.add_le_add_left (by decide) _) hu) (pv 11) pe_str (fun _ _ => rfl)) (pa_cons (pv 12) pa_nil)))) pe_int (fun _ _ => rfl)))))
      (pss_cons (ps_set (i := 8) sc_law.nd rfl (by first | exact .inl rfl | exact .inr rfl) (pe_f c__law_sight (hr.mono (by decide)) (pa_cons (pv 3) (pa_cons (pv 6) (pa_cons (pv 5) pa_nil)))))
      (pss_cons (ps_if (PW.pt (pw_or (pt_not (pt_val (pe_ix ix_X (pv 8) pe_int (fun _ _ => rfl)))) (pw_or (PW.pt (pw_and (pt_val (pv 7)) (pw_and1 (pt_not (pt_val (pe_ix ix_X (pv 8) pe_int (fun _ _ => rfl))))))) (pw_or (pt_cmpR (op_neO o_eq ne (hr.mono (by decide))) (pv 13) (pe_f c__law_made (hr.mono (by decide)) (pa_cons (pv 9) pa_nil)) (nomark _)) (pw_or1 (pt_cmpR (op_neO o_eq ne (hr.mono (by decide))) (pv 14) (pe_f c__law_made (hr.mono (by decide)) (pa_cons (pv 11) pa_nil)) (nomark _))))))) (pss_one (ps_ret pe_bl)) pss_nil)
      (pss_cons (ps_par (i := 15) (j := 16) (by rfl) sc_law.nd rfl rfl (by decide) rfl rfl (pa_cons (pe_mkD d_Code (hr.mono (by decide)) (pa_cons (pe_slice sl_X (pv 3) (po_some pe_int) po_none) (pa_cons (pe_lst pa_nil) pa_nil))) (pa_cons (pe_f c__law_draw (hr.mono (by decide)) (pa_cons (pv 1) (pa_cons pe_int pa_nil))) pa_nil)) (by rfl))
      (pss_cons (ps_if (PW.pt (pw_or (pt_cmpR (op_eqP hu) (pv 3) (pe_lst pa_nil) (nomark _)) (pw_or1 (pt_cmpR op_gt (pv 16) pe_int (nomark _))))) (pss_one (ps_set (i := 15) sc_law.nd rfl (by first | exact .inl rfl | exact .inr rfl) (pe_mkD d_Code (hr.mono (by decide)) (pa_cons (pe_op op_addA (pe_slice sl_X (pv 3) (po_some (pe_callTy call_int1 (by rfl) T.int boot_int (pa_cons (pe_cmpR (op_eqP hu) (pv 16) pe_int (nomark _)) pa_nil))) po_none) (pe_lst (pa_cons (pe_f c__law_fresh (hr.mono (by decide)) (pa_cons (pv 1) (pa_cons (pv 3) pa_nil))) pa_nil))) (pa_cons (pe_lst pa_nil) pa_nil))))) pss_nil)
      (pss_one (ps_if (PW.pt (pw_or (pt_not (pt_val (pe_f c__law_refused (hr.mono (by decide)) (pa_cons (pv 13) (pa_cons (pv 15) pa_nil))))) (pw_or1 (pt_not (pt_val (pe_f c__law_refused (hr.mono (by decide)) (pa_cons (pv 15) (pa_cons (pv 14) pa_nil)))))))) (pss_one (ps_ret pe_bl)) pss_nil)))))))))))))))))))
      (pss_one (ps_ret pe_bl)))), ?_⟩
    -- the stream
    refine q_asgS (lst_in (a_L mh (gl_lstOf (K := K) (R1 := It') (gv_var rfl r1)) fun b vs M1 H1 g1 hb0 hbm hbw hpd => ⟨by show 4 ≤ sizeLine; decide, fun a na => ?_⟩))
    obtain ⟨S, rfl, rfl⟩ : ∃ S : Strm, S.a = a ∧ S.b = b := ⟨⟨a, b⟩, rfl, rfl⟩
    have hne : S.a ≠ S.b := fun e => by rw [e] at na; rw [hbw] at na; cases na
    have evs := pd_itv hpd
    have a0 : S.At 10000000 (upd H1 S.a (.lst [.ref S.b, .int 0, .int 0, .int 0])) := ⟨hne, cells, 0, 0, 0, upd_same, by rw [upd_ne (Ne.symm hne), hbw, evs], by decide, by decide, by decide, by decide, by decide⟩
    have m0 : Same M (S.cut (upd H1 S.a (.lst [.ref S.b, .int 0, .int 0, .int 0]))) := fun x o e => by
      have h1 := g1.hh _ _ (mh x o e)
      have n1 : x ≠ S.a := ne_of_none h1 na
      have n2 : x ≠ S.b := ne_of_none (mh x o e) hb0
      rw [cut_on (fun z => z.elim n1 n2), upd_ne n1]
      exact h1
    have L3 : Zs S M (upd H1 S.a (.lst [.ref S.b, .int 0, .int 0, .int 0])) 6000 := ⟨m0, a0.le (by decide)⟩
    clear a0 m0
    revert L3
    generalize upd H1 S.a (.lst [.ref S.b, .int 0, .int 0, .int 0]) = H3
    intro L3
    -- three turns
    refine n_for (S := S) (xs := List.range 3) (R := fun i : Nat => It' (i : Nat)) (fun j => (3 - j) * 1000) (fun _ _ σ' => ∃ y2 y3 y4 y5 y6 y7 y8 y9 y10 y11 y12 y13 y14 y15 y16, σ' = [some v, some (.ref S.a), y2, y3, y4, y5, y6, y7, y8, y9, y10, y11, y12, y13, y14, y15, y16, none]) (L3.le (by omega)) (gi_rng1 (n := 3) (gv_c rfl) (by decide)) tg_1 (fun _ _ _ _ _ h => h) ⟨_, _, _, _, _, _, _, _, _, _, _, _, _, _, _, rfl⟩ ?_ ?_
    rotate_left
    · rintro σ' M' H' sM ⟨y2, y3, y4, y5, y6, y7, y8, y9, y10, y11, y12, y13, y14, y15, y16, rfl⟩ L'
      exact s_ret (L'.mh.trans cut_same) (gv_c (P := Bl true) (v := .bl true) rfl) fun z M' H' g r => by rw [show z = _ from r]; exact q _
    rintro j xj σ' Ma Ha σ2 nx hnx hxj sa ⟨y2, y3, y4, y5, y6, y7, y8, y9, y10, y11, y12, y13, y14, y15, y16, rfl⟩ La ⟨v2, r2, rfl⟩
    have hj : j < 3 := by have := (List.getElem?_eq_some_iff.mp hxj).1; rwa [List.length_range] at this
    have ej : (3 - j) * 1000 = (3 - (j + 1)) * 1000 + 1000 := by omega
    rw [ej] at La
    have hnx : ∀ M2 H2 σ3, Same Ma M2 → (∃ y2 y3 y4 y5 y6 y7 y8 y9 y10 y11 y12 y13 y14 y15 y16, σ3 = [some v, some (.ref S.a), y2, y3, y4, y5, y6, y7, y8, y9, y10, y11, y12, y13, y14, y15, y16, none]) → Zs S M2 H2 ((3 - (j + 1)) * 1000) → nx σ3 H2 := hnx
    revert La hnx
    generalize (3 - (j + 1)) * 1000 = kb
    intro La hnx
    -- signs
    refine n_asg (S := S) (k := kb + 900) (c := 1 + 48) (P := Ex (LiR Tx) fun ns => NmL ns ∧ ns.length ≤ 3) (La.le (by omega)) ((gls_call1d (S := S) (R1 := It') (good := fun z => 0 ≤ z ∧ z < 4) (pre := fun n => 0 ≤ n ∧ n ≤ 500) (cs := fun n => 12 * n.toNat) (R := fun n M ws => ∃ ys : List Str, NmL ys ∧ ys.length = n.toNat ∧ Pd Tx M ys ws) rfl (gs_draw (K := K) (n := 4) rfl (gv_c rfl) (by decide) (by decide)) (fun z hz => ⟨hz.1, by omega⟩) (fun z hz => by omega)).gv
      fun M' vs p ⟨z, hz, ys, hp, hl, hpd⟩ mp => ⟨ys, ⟨hp, by omega⟩, p, vs, rfl, upd_same, hpd.mono (same_new mp)⟩) fun v3 M3 H3 s3 L3 ⟨ns, ⟨nm, n3⟩, rn⟩ => ?_
    -- the first code
    refine ⟨.ref S.a, rfl, v3, rfl, S, ns, M3, v3, kb + 700, rfl, L3.mh, L3.at_.le (by omega), rn, nm, n3, fun c al u M4 H4 g4 a4 ⟨X, NF⟩ es n5 k29 eal DC hpr => ?_⟩
    subst es
    have XC : LiftPre c := ⟨X.nm, X.l, n5, n3, k29, NF⟩
    clear X NF
    refine tg_2 (K := K) (R := LawR) (S := LiR TT) (c, al) M4 u H4 _ _ hpr (g4.mh.trans cut_same) fun σ3 ⟨vc, va, rc, ra, e3⟩ => ?_
    subst e3
    have ra : LiR TT al M4 va := ra
    rw [eal] at ra
    have rc : LawR c M4 vc := rc
    have rn4 : LiR Tx c.signs M4 v3 := Mon.mono g4.mm rn
    have s4 := s3.trans g4.mm
    clear hpr eal rn L3 g1 hbm hpd
    dsimp only
    -- the second one
    refine ⟨.ref S.a, rfl, z_V (S := S) (k := kb + 600) (c := c.signs.length) (P := Ex (LiR Tx) fun ys => ys.Perm c.signs) g4.mh (a4.le (by omega)) ((gls_call1 (S := S) (R1 := SqR K Tx) (pre := fun xs => xs.length ≤ 1000000) (cs := fun xs => xs.length) (R := fun xs M ws => ∃ ys : List Str, ys.Perm xs ∧ Pd Tx M ys ws) (x := c.signs) rfl (gv_var rfl rn4.sq) (by omega)).gv fun M' vs p ⟨ys, hp, hpd⟩ m => ⟨ys, hp, p, vs, rfl, upd_same, hpd.mono (same_new m)⟩) fun vm M5 H5 g5 a5 ⟨ns, hper, rm⟩ =>
      ⟨S, ns, M5, vm, kb + 400, rfl, g5.mh, a5.le (by omega), rm, ⟨hper.nodup_iff.mpr nm.nd, fun n hn => nm.nm n (hper.mem_iff.mp hn), by rw [hper.length_eq]; exact nm.n⟩, by rw [hper.length_eq]; exact n3, fun d al2 u2 M6 H6 g6 a6 ⟨X, NF⟩ es n5' k29' eal DD hpr => ?_⟩⟩
    subst es
    have XD : LiftPre d := ⟨X.nm, X.l, n5', by rw [hper.length_eq]; exact n3, k29', NF⟩
    have sg : ∀ n, n ∈ c.signs ↔ n ∈ d.signs := fun n => hper.mem_iff.symm
    clear X NF
    refine tg_2 (K := K) (R := LawR) (S := LiR TT) (d, al2) M6 u2 H6 _ _ hpr (g6.mh.trans cut_same) fun σ3 ⟨vd, vb, rd, rb, e3⟩ => ?_
    subst e3
    have rb : LiR TT al2 M6 vb := rb
    rw [eal] at rb
    have rd : LawR d M6 vd := rd
    have s46 := g5.mm.trans g6.mm
    have rc6 : LawR c M6 vc := Mon.mono s46 rc
    have ra6 : LiR TT (allowedL c.signs c.clauses c.helpers) M6 va := Mon.mono s46 ra
    have rn6 : LiR Tx c.signs M6 v3 := Mon.mono s46 rn4
    have s6 := s4.trans s46
    have L6 : Zs S M6 H6 (kb + 400) := ⟨g6.mh, a6⟩
    clear hpr eal rn4 rc ra s46 rm hper g4 g5 g6 a4 a5 a6 s4
    dsimp only
    -- with the first one's helpers
    refine q_cut (fun σ' H' => ∃ M' d vd vb, Same M6 M' ∧ Zs S M' H' (kb + 300) ∧ LiftPre d ∧ DeadC d ∧ (∀ n, n ∈ c.signs ↔ n ∈ d.signs) ∧ LawR d M' vd ∧ LiR TT (allowedL d.signs d.clauses d.helpers) M' vb ∧ σ' = [some v, some (.ref S.a), some v2, some v3, y4, y5, y6, y7, y8, some vc, some va, some vd, some vb, y13, y14, y15, y16, none]) (fun nx2 hnx2 => ?_) ?_
    · refine z_ifE (S := S) (k := kb + 380) (c := 1) (B := fun _ => True) L6.mh (L6.at_.le (by omega)) (gts_zero (K := K) (n := 2) rfl (gv_c rfl) (by decide) (by decide)) (fun _ M7 H7 g7 a7 => ?_) fun _ M7 H7 g7 a7 => ?_
      · refine ⟨.ref S.a, rfl, vc, rfl, vd, rfl, S, c, d, M7, vc, vd, kb + 300, rfl, g7.mh, a7.le (by omega), Mon.mono g7.mm rc6, Mon.mono g7.mm rd, XC, XD, sg, fun m u3 M8 H8 g8 a8 RO ru => ?_⟩
        obtain ⟨P1, P2, P3, P4, P5⟩ := ren_pre RO XD
        have s68 := g7.mm.trans g8.mm
        exact hnx2 _ _ ⟨M8, renD m d, u3, vb, s68, ⟨g8.mh, a8⟩, P1, P5 DD, by rw [P2]; exact sg, ru, by rw [P4]; exact Mon.mono s68 rb, rfl⟩
      · exact hnx2 _ _ ⟨M7, d, vd, vb, g7.mm, ⟨g7.mh, a7.le (by omega)⟩, XD, DD, sg, Mon.mono g7.mm rd, Mon.mono g7.mm rb, rfl⟩
    rintro σ4 H4 ⟨M4, d, vd, vb, s64, L4, XD, DD, sg, rd, rb, rfl⟩
    -- at times the same
    refine q_cut (fun σ' H' => ∃ M' d vd vb, Same M6 M' ∧ Zs S M' H' (kb + 200) ∧ LiftPre d ∧ DeadC d ∧ (∀ n, n ∈ c.signs ↔ n ∈ d.signs) ∧ LawR d M' vd ∧ LiR TT (allowedL d.signs d.clauses d.helpers) M' vb ∧ σ' = [some v, some (.ref S.a), some v2, some v3, y4, y5, y6, y7, y8, some vc, some va, some vd, some vb, y13, y14, y15, y16, none]) (fun nx2 hnx2 => ?_) ?_
    · refine z_ifE (S := S) (k := kb + 200) (c := 1) (B := fun _ => True) L4.mh (L4.at_.le (by omega)) (gts_zero (K := K) (n := 8) rfl (gv_c rfl) (by decide) (by decide)) (fun _ M7 H7 g7 a7 => ?_) fun _ M7 H7 g7 a7 => ?_
      · have s67 := s64.trans g7.mm
        refine (gv_pair (K := K) (R := LawR) (T := LiR TT) (x := c) (y := allowedL c.signs c.clauses c.helpers) (gv_var rfl (Mon.mono s67 rc6)) (gv_var rfl (Mon.mono s67 ra6))) H7 (g7.mh.trans cut_same) _ fun u4 M8 H8 g8 p8 => ?_
        have L8 : Zs S M8 H8 (kb + 200) := (Zs.mk g7.mh a7).plain g8
        refine tg_2 (K := K) (R := LawR) (S := LiR TT) (c, allowedL c.signs c.clauses c.helpers) M8 u4 H8 _ _ p8 g8.mh fun σ3 ⟨vd', vb', rd', rb', e3⟩ => ?_
        subst e3
        exact hnx2 _ _ ⟨M8, c, vd', vb', s67.trans g8.mm, L8, XC, DC, fun _ => .rfl, rd', rb', rfl⟩
      · exact hnx2 _ _ ⟨M7, d, vd, vb, s64.trans g7.mm, ⟨g7.mh, a7⟩, XD, DD, sg, Mon.mono g7.mm rd, Mon.mono g7.mm rb, rfl⟩
    clear s64 L4 XD DD sg rd rb
    rintro σ5 H5 ⟨M5, d, vd, vb, s65, L5, XD, DD, sg, rd, rb, rfl⟩
    have rc5 : LawR c M5 vc := Mon.mono s65 rc6
    have ra5 : LiR TT (allowedL c.signs c.clauses c.helpers) M5 va := Mon.mono s65 ra6
    have rn5 : LiR Tx c.signs M5 v3 := Mon.mono s65 rn6
    have s5 := s6.trans s65
    clear rc6 ra6 rn6 s6 s65
    have PC := XC.x.p
    have PD := XD.x.p
    have n5d := XD.n
    have s3d := XD.s
    have k29d := XD.k
    have gmade : ∀ {e : CodeD} {σ' : Sl} {M' : Hp} {te : TE}, LiftPre e → Gv te σ' M' (LawR e) → Gv (tCall (sp__law_made2 K C) [] E0 (tCons te tNil)) σ' M' (CodeR C e) := fun {e _ _ _} X h => gv_is (gv_call1 (R1 := LawR) (pre := LawX) (R := fun c => CodeR C (madeOf c)) h X.x) fun M v h => by
      have h : CodeR C (madeOf e) M v := h
      rw [X.nf.made] at h; exact h
    -- both codes
    refine q_par2 (a_V (P := CodeR C c) (L5.mh.trans cut_same) (gmade XC (gv_var rfl rc5)) fun v13 M7 H7 g7 r13 => a_V (P := CodeR C d) g7.mh (gmade XD (gv_var rfl (Mon.mono g7.mm rd))) fun v14 M8 H8 g8 r14 => a_nil ⟨_, _, rfl, ?_⟩)
    have s58 := g7.mm.trans g8.mm
    have L8 := (L5.plain g7).plain g8
    have r138 : CodeR C c M8 v13 := Mon.mono g8.mm r13
    -- either
    refine q_asgC (a_V (P := CodeR C c) g8.mh (gv_var rfl r138) fun v13' M9 H9 g9 r9 => a_V (P := CodeR C d) g9.mh (gv_pickEq (gv_var rfl (Mon.mono (s58.trans g9.mm) rd)) (gv_var rfl (Mon.mono (s58.trans g9.mm) rc5)) (gv_var rfl (Mon.mono g9.mm r138)) (gv_var rfl (Mon.mono g9.mm r14))) fun v14' M10 H10 g10 r10 => a_nil ⟨c, d, M10, v13', v14', rfl, g10.mh, Mon.mono g10.mm r9, r10, ⟨XC, XD, sg⟩, fun ws v4 M11 H11 g11 EP r4 => ?_⟩)
    have s811 := g9.mm.trans (g10.mm.trans g11.mm)
    have L11 := ((L8.plain g9).plain g10).plain g11
    have s511 := s58.trans s811
    have rc11 : LawR c M11 vc := Mon.mono s511 rc5
    have ra11 : LiR TT (allowedL c.signs c.clauses c.helpers) M11 va := Mon.mono s511 ra5
    have rn11 : LiR Tx c.signs M11 v3 := Mon.mono s511 rn5
    have rd11 : LawR d M11 vd := Mon.mono s511 rd
    have rb11 : LiR TT (allowedL d.signs d.clauses d.helpers) M11 vb := Mon.mono s511 rb
    have r13 : CodeR C c M11 v13 := Mon.mono s811 r138
    have r14 : CodeR C d M11 v14 := Mon.mono s811 r14
    have s11 := s5.trans s511
    clear r138 r9 r10 s58 s811 s511 L5 L8 g7 g8 g9 g10 g11 rc5 ra5 rn5 rd rb s5
    have sgc := sgn_nm XC.nm
    have sgd := sgn_nm XD.nm
    have W := EP.v.W
    have PE1 := EP.p
    have ml : ∀ x ∈ (madeOf (eithD c d ws)).clauses, Lits (eithD c d ws).names x := fun x hx => by
      obtain ⟨e, he, rfl⟩ := List.mem_map.mp (mem_once.mp (show x ∈ once ((eithD c d ws).clauses.map fun e => asc e (eithD c d ws).names) from hx))
      exact (PE1.l e he).asc PE1.nm
    have PM : CodeP (madeOf (eithD c d ws)) := ⟨PE1.nm, ml, PE1.n, by
      refine Nat.le_trans (once_len2 _) ?_
      rw [List.length_map]
      exact PE1.k⟩
    have f8 : (fulls c.signs).length ≤ 8 := by
      rw [fulls_len]
      exact Nat.le_trans (Nat.pow_le_pow_right (by decide) n3) (by decide)
    have few : (eithD c d ws).names.length < 26 := Nat.lt_of_le_of_lt EP.nl.1 (by decide)
    have ctx : ∀ {h : List Str}, Lits c.signs h → Ctx (eithD c d ws).names (madeOf (eithD c d ws)).clauses h := fun {h} L => ⟨PE1.nm, ml, lits_up L fun n hn => List.mem_append_left _ hn⟩
    -- what it is
    refine n_ifN L11 (gt_is (gt_or (b := false) (c := false) (gt_is (gt_not (gt_B (gv_isC (K := K) IC (gv_var (P := CodeR C (madeOf (eithD c d ws))) rfl r4) (inst_code _)))) rfl) fun _ => gt_or (b := false) (c := false) (gt_is (gt_test (gv_eqT (K := K) (R := LiR Tx) (neg := true) (x := c.signs) (y := c.signs) py_LT inj_LT (gv_signsM (c := madeOf (eithD c d ws)) (gv_var rfl r4)) (gv_var rfl rn11) (by simp [PyData.depth, depthS]))) (by simp)) fun _ => gt_is (gt_not (gt_B (gv_sized EP (gv_var rfl rc11) (gv_var rfl rd11) (gv_var rfl r4)))) rfl) rfl) fun H12 L12 => ?_
    -- what is due
    have al8 : (allowedL c.signs c.clauses c.helpers).length ≤ 8 := Nat.le_trans (List.length_filter_le _ _) f8
    have du8 : (dueL c d).length ≤ 8 := Nat.le_trans (List.length_filter_le _ _) f8
    have f8d : (fulls d.signs).length ≤ 8 := by
      rw [fulls_len]
      exact Nat.le_trans (Nat.pow_le_pow_right (by decide) s3d) (by decide)
    have al8d : (allowedL d.signs d.clauses d.helpers).length ≤ 8 := Nat.le_trans (List.length_filter_le _ _) f8d
    refine n_asg (S := S) (k := kb + 200) (c := 0) (P := LiR TT (dueL c d)) L12 (gv_is (gl_c1 (S := TT) (R := TT) (xs := fulls c.signs) (gi_sq (K := K) (gv_is (gv_call1 (R1 := SqR K Tx) (pre := fun ns => ns.length ≤ 6 ∧ Shorts ns) (R := fun ns => LiR TT (fulls ns)) (x := c.signs) (gv_is (gv_var rfl rn11) fun _ _ h => LiR.sq h) ⟨by omega, nm_shorts sgc⟩) fun _ _ h => LiR.sq h)) (szK (by omega)) (fun s => decide (s ∈ allowedL c.signs c.clauses c.helpers) || decide (asc s d.signs ∈ allowedL d.signs d.clauses d.helpers)) id
      (fun s hs M13 u13 sm ru => gt_or (gt_is (gt_test (gv_inD (K := K) (R := TT) (neg := false) py_TT inj_TT (gv_var rfl ru) (gv_var rfl (LiR.sq (Mon.mono sm ra11))) (by simp [PyData.depth, depthS]))) (by simp)) fun _ => gt_is (gt_test (gv_inD (K := K) (R := TT) (neg := false) (x := asc s d.signs) py_TT inj_TT (gv_call2 (R1 := CtR K) (R2 := SqR K Tx) (pre := fun _ ns => Shorts ns) (R := fun ls ns => TT (asc ls ns)) (x := s) (y := d.signs) (gv_is (gv_var rfl ru) fun _ _ h => .inl (TT.sq h)) (gv_is (gv_cS (gv_var rfl (Mon.mono sm rd11))) fun _ _ h => LiR.sq h) (nm_shorts sgd)) (gv_var rfl (LiR.sq (Mon.mono sm rb11))) (by simp [PyData.depth, depthS]))) (by simp)) fun s hs _ M13 u13 sm ru => gv_var rfl ru).li fun M v h => by
        rw [List.map_id, EithP.dueE XC XD sg] at h
        exact h).s fun v5 M13 H13 s13 L13 r5 => ?_
    -- its clauses
    refine n_asg (S := S) (k := kb + 200) (c := 0) (P := LiR TT (madeOf (eithD c d ws)).clauses) L13 (gv_clauses (gv_var rfl (Mon.mono s13 r4))).s fun v6 M14 H14 s14 L14 r6 => ?_
    have s1114 := s13.trans s14
    have rc14 : LawR c M14 vc := Mon.mono s1114 rc11
    have ra14 : LiR TT (allowedL c.signs c.clauses c.helpers) M14 va := Mon.mono s1114 ra11
    have rn14 : LiR Tx c.signs M14 v3 := Mon.mono s1114 rn11
    have rd14 : LawR d M14 vd := Mon.mono s1114 rd11
    have rb14 : LiR TT (allowedL d.signs d.clauses d.helpers) M14 vb := Mon.mono s1114 rb11
    have r5 : LiR TT (dueL c d) M14 v5 := Mon.mono s14 r5
    refine n_ifN L14 (gt_is (gt_test (gv_eqT (K := K) (R := LiR TT) (neg := true) (x := dueL c d) (y := dueL c d) py_LTT inj_LTT (gv_is (gl_c1 (S := TT) (R := TT) (xs := fulls c.signs) (gi_sq (K := K) (gv_is (gv_call1 (R1 := SqR K Tx) (pre := fun ns => ns.length ≤ 6 ∧ Shorts ns) (R := fun ns => LiR TT (fulls ns)) (x := c.signs) (gv_is (gv_var rfl rn14) fun _ _ h => LiR.sq h) ⟨by omega, nm_shorts sgc⟩) fun _ _ h => LiR.sq h)) (szK (by omega)) (satB (eithD c d ws).names (madeOf (eithD c d ws)).clauses) id
      (fun s hs M15 u15 sm ru => gt_B (gv_goes (K := K) (gv_is (gv_var rfl (Mon.mono sm r6)) fun _ _ h => liTT_sqq h) (gv_is (gl_lstOf (K := K) (R1 := Tx) (gv_var rfl ru.sq)).li fun _ _ h => LiR.sq h) (ctx (full_lits sgc hs)) PM.ch (Nat.lt_of_le_of_lt (List.length_filter_le _ _) few))) fun s hs _ M15 u15 sm ru => gv_var rfl ru).li fun M v h => by
        rw [List.map_id, EP.goesL DC DD] at h
        exact h) (gv_var rfl r5) (depth_LTT _))) (by simp)) fun H15 L15 => ?_
    -- what is seen
    have ale : ∀ s ∈ allowedL c.signs c.clauses c.helpers, s.length ≤ 1000000 := fun s hs => by rw [fulls_each _ s (List.mem_filter.mp hs).1]; omega
    have aled : ∀ s ∈ allowedL d.signs d.clauses d.helpers, s.length ≤ 1000000 := fun s hs => by rw [fulls_each _ s (List.mem_filter.mp hs).1]; omega
    have alu : ∀ s ∈ dueL c d, s.length ≤ 1000000 := fun s hs => by rw [fulls_each _ s (List.mem_filter.mp hs).1]; omega
    have SP1 : SightPre c.names c.signs c.clauses (allowedL c.signs c.clauses c.helpers) := ⟨sgc, by omega, fun h hh => ⟨XC.nm, XC.l, lits_up (halves_lits sgc h hh) fun n hn => List.mem_append_left _ hn⟩, PC.ch, by omega, ale⟩
    have SP2 : SightPre d.names d.signs d.clauses (allowedL d.signs d.clauses d.helpers) := ⟨sgd, by omega, fun h hh => ⟨XD.nm, XD.l, lits_up (halves_lits sgd h hh) fun n hn => List.mem_append_left _ hn⟩, PD.ch, by omega, aled⟩
    have SP3 : SightPre (eithD c d ws).names c.signs (madeOf (eithD c d ws)).clauses (dueL c d) := ⟨sgc, by omega, fun h hh => ctx (halves_lits sgc h hh), PM.ch, by omega, alu⟩
    refine n_asg (S := S) (k := kb + 200) (c := 0) (P := Bl (bB c.clauses (allowedL c.signs c.clauses c.helpers) (halves c.signs) && bB d.clauses (allowedL d.signs d.clauses d.helpers) (halves d.signs))) L15 (gv_andV (gv_ix (K := K) (R := Bl) (xs := [bA c.clauses (allowedL c.signs c.clauses c.helpers) (halves c.signs), bB c.clauses (allowedL c.signs c.clauses c.helpers) (halves c.signs)]) (i := 1) (gv_is (gv_sight SP1 (gv_is (gv_var rfl rn14) fun _ _ h => LiR.lst h) (gv_is (gv_cC (gv_var rfl rc14)) fun _ _ h => liTT_sqq h) (gv_is (gv_var rfl ra14) fun _ _ h => LiR.sq h)) fun _ _ h => LiR.sq h) (gv_c rfl) (atI_nat (j := 1) rfl))
      fun _ => gv_ix (K := K) (R := Bl) (xs := [bA d.clauses (allowedL d.signs d.clauses d.helpers) (halves d.signs), bB d.clauses (allowedL d.signs d.clauses d.helpers) (halves d.signs)]) (i := 1) (gv_is (gv_sight SP2 (gv_is (gv_cS (gv_var rfl rd14)) fun _ _ h => LiR.lst h) (gv_is (gv_cC (gv_var rfl rd14)) fun _ _ h => liTT_sqq h) (gv_is (gv_var rfl rb14) fun _ _ h => LiR.sq h)) fun _ _ h => LiR.sq h) (gv_c rfl) (atI_nat (j := 1) rfl)).s fun v7 M16 H16 s16 L16 r7 => ?_
    cases (show v7 = _ from r7)
    refine n_asg (S := S) (k := kb + 200) (c := 0) (P := LiR Bl [bA (madeOf (eithD c d ws)).clauses (dueL c d) (halves c.signs), bB (madeOf (eithD c d ws)).clauses (dueL c d) (halves c.signs)]) L16 (gv_sight SP3 (gv_is (gv_var rfl (Mon.mono s16 rn14)) fun _ _ h => LiR.lst h) (gv_is (gv_var rfl (Mon.mono s16 r6)) fun _ _ h => liTT_sqq h) (gv_is (gv_var rfl (Mon.mono s16 r5)) fun _ _ h => LiR.sq h)).s fun v8 M17 H17 s17 L17 r8 => ?_
    have s1417 := s16.trans s17
    have s1117 := s1114.trans s1417
    have rc17 : LawR c M17 vc := Mon.mono s1417 rc14
    have rd17 : LawR d M17 vd := Mon.mono s1417 rd14
    have r137 : CodeR C c M17 v13 := Mon.mono s1117 r13
    have r147 : CodeR C d M17 v14 := Mon.mono s1117 r14
    have rn17 : LiR Tx c.signs M17 v3 := Mon.mono s1417 rn14
    obtain ⟨see1, see2⟩ := eith_seen EP DC DD
    have at_ : ∀ {σ' : Sl} {j : Nat} {b : Bool}, σ'[8]? = some (some v8) → [bA (madeOf (eithD c d ws)).clauses (dueL c d) (halves c.signs), bB (madeOf (eithD c d ws)).clauses (dueL c d) (halves c.signs)][j]? = some b → Gv (tOp (rIxX K) (tVar 8) (tC (.int (j : Nat)))) σ' M17 (Bl b) := fun {σ' j b} h0 h => gv_ix (K := K) (R := Bl) (xs := [bA (madeOf (eithD c d ws)).clauses (dueL c d) (halves c.signs), bB (madeOf (eithD c d ws)).clauses (dueL c d) (halves c.signs)]) (i := (j : Nat)) (gv_var h0 r8.sq) (gv_c rfl) (atI_nat h)
    refine n_ifN L17 (gt_is (gt_or (b := false) (c := false) (gt_is (gt_not (gt_B (at_ (j := 0) rfl rfl))) (by rw [see1]; rfl)) fun _ => gt_or (b := false) (c := false) (gt_is (gt_and (gt_B (gv_var (P := Bl (bB c.clauses (allowedL c.signs c.clauses c.helpers) (halves c.signs) && bB d.clauses (allowedL d.signs d.clauses d.helpers) (halves d.signs))) rfl rfl)) fun _ => gt_not (gt_B (at_ (j := 1) rfl rfl))) (by
        revert see2
        cases (bB c.clauses (allowedL c.signs c.clauses c.helpers) (halves c.signs) && bB d.clauses (allowedL d.signs d.clauses d.helpers) (halves d.signs)) with
        | false => intro _; rfl
        | true => intro h; rw [h rfl]; rfl)) fun _ => gt_or (b := false) (c := false) (gt_is (gt_test (gv_eqO (R1 := CodeR C) (pre := fun a b => CodeP a ∧ CodeP b) (B := eqC) (x := c) (y := c) (neg := true) (gv_var rfl r137) (gmade XC (gv_var rfl rc17)) inst_code ⟨PC, PC⟩)) (by rw [eqC_self PC XC.nf]; rfl)) fun _ => gt_is (gt_test (gv_eqO (R1 := CodeR C) (pre := fun a b => CodeP a ∧ CodeP b) (B := eqC) (x := d) (y := d) (neg := true) (gv_var rfl r147) (gmade XD (gv_var rfl rd17)) inst_code ⟨PD, PD⟩)) (by rw [eqC_self PD XD.nf]; rfl)) rfl) fun H18 L18 => ?_
    -- a third one
    have lenE : c.signs.length = d.signs.length := EP.sl
    have dn : NmL (c.signs.drop 1) := ⟨sgc.nd.sublist (List.drop_sublist _ _), fun x hx => sgc.nm x (List.mem_of_mem_drop hx), by rw [List.length_drop]; have := sgc.n; omega⟩
    have dl : (c.signs.drop 1).length ≤ 10 := by rw [List.length_drop]; omega
    refine q_par2 (a_V (P := CodeR C (mkCode (c.signs.drop 1) [] [])) (L18.mh.trans cut_same) (gv_mkCodeD (K := K) hdv (gv_is (gl_cutLo (K := K) (R := Tx) (i := ((1 : Nat) : Int)) (gv_is (gv_var rfl rn17) fun _ _ h => LiR.lst h) (gv_c rfl)).li fun M v h => by rw [cut_drop] at h; exact LiR.sq h) (gv_is gv_nilL fun _ _ h => (liTT_liq h).sq) (third_ok dn dl).ok) fun v15 M19 H19 g19 r15 => z_V (S := S) (k := kb + 100) (c := 1) (P := Ex It' fun z => 0 ≤ z ∧ z < 3) (L18.plain g19).mh ((L18.plain g19).at_.le (by omega)) (gs_draw (K := K) (n := 3) rfl (gv_c rfl) (by decide) (by decide)) fun v16 M20 H20 g20 a20 ⟨wy, hwy, r16⟩ => ⟨_, _, rfl, ?_⟩)
    cases (show v16 = _ from r16)
    have s1720 := g19.mm.trans g20.mm
    have r15 : CodeR C (mkCode (c.signs.drop 1) [] []) M20 v15 := Mon.mono g20.mm r15
    have rn20 : LiR Tx c.signs M20 v3 := Mon.mono s1720 rn17
    refine q_cut (fun σ' H' => ∃ M' ss v15, Same M20 M' ∧ Zs S M' H' kb ∧ ThirdS c d ss ∧ CodeR C (mkCode ss [] []) M' v15 ∧ σ' = [some v, some (.ref S.a), some v2, some v3, some v4, some v5, some v6, some (.bl (bB c.clauses (allowedL c.signs c.clauses c.helpers) (halves c.signs) && bB d.clauses (allowedL d.signs d.clauses d.helpers) (halves d.signs))), some v8, some vc, some va, some vd, some vb, some v13, some v14, some v15, some (.int wy), none]) (fun nx2 hnx2 => ?_) ?_
    · refine z_ifE (S := S) (k := kb + 100) (c := 0) (B := (· = (decide (c.signs = []) || decide (0 < wy)))) g20.mh a20 (GvT.s (gt_or (gt_is (gt_test (gv_eqT (K := K) (R := LiR Tx) (neg := false) (x := c.signs) (y := []) py_LT inj_LT (gv_var rfl rn20) gv_nilL (by simp [PyData.depth, depthS]))) (by simp)) fun _ => gt_test (gv_gt (g := fun i j => .bl (decide (j < i))) (i := wy) (j := 0) (gv_var rfl rfl) (gv_c rfl)))) (fun hb M21 H21 g21 a21 => ?_) fun hb M21 H21 g21 a21 => ?_
      · refine (gs_third (C := C) (c := c) (d := d) (wy := wy) hdv rfl rfl (Mon.mono g21.mm rn20) (gv_int1b (b := decide (wy = 1)) (gv_is (gv_eqT (K := K) (neg := false) (x := wy) (y := 1) py_int inj_int (gv_var rfl rfl) (gv_c rfl) (by simp [PyData.depth])) fun M v h => by rw [show v = _ from h]; simp)) sgc n3 sg) H21 kb g21.mh (a21.le (by omega)) _ fun v15' M22 H22 g22 a22 ⟨ss, hss, r22⟩ => ?_
        exact hnx2 _ _ ⟨M22, ss, v15', g21.mm.trans g22.mm, ⟨g22.mh, a22⟩, hss, r22, rfl⟩
      · have hne : c.signs ≠ [] := fun e => by rw [e] at hb; simp at hb
        exact hnx2 _ _ ⟨M21, _, v15, g21.mm, ⟨g21.mh, a21.le (by omega)⟩, third_less sgc n3 lenE hne, Mon.mono g21.mm r15, rfl⟩
    rintro σ7 H21 ⟨M21, ss, v15', s2021, L21, TS', r15', rfl⟩
    have s1721 := s1720.trans s2021
    have mks : (mkCode ss [] []).signs = ss := rfl
    refine e_ifN L21 (gt_is (gt_or (b := false) (c := false) (gt_is (gt_not (gt_B (gv_call2 (R1 := CodeR C) (R2 := CodeR C) (pre := fun c d => c.signs.length ≤ 1000000 ∧ sameN c.signs d.signs = false) (R := fun _ _ => Bl true) (x := c) (y := mkCode ss [] []) (gv_var rfl (Mon.mono s1721 r137)) (gv_var rfl r15') ⟨by omega, TS'.a⟩))) rfl) fun _ => gt_is (gt_not (gt_B (gv_call2 (R1 := CodeR C) (R2 := CodeR C) (pre := fun c d => c.signs.length ≤ 1000000 ∧ sameN c.signs d.signs = false) (R := fun _ _ => Bl true) (x := mkCode ss [] []) (y := d) (gv_var rfl r15') (gv_var rfl (Mon.mono s1721 r147)) ⟨by have := TS'.n; show ss.length ≤ _; omega, TS'.b⟩))) rfl) rfl) fun H22 L22 => ?_
    exact hnx M21 H22 _ ((s11.trans s1117).trans s1721) ⟨_, _, _, _, _, _, _, _, _, _, _, _, _, _, _, rfl⟩ L22
end
end My

set_option Elab.async false
set_option linter.all false
set_option maxRecDepth 100000
set_option maxHeartbeats 4000000
namespace My
open PySem PySem.Spec PyProof.Rows L2 L3
/-- a def of the text behind the top -/
structure At1 (K : PySem.W.Frag) (x : Str) (st : Stmt) (f : Addr) : Prop where
  ns : PySem.W.nsIn K mainGlobals x = some (some (.ref f))
  fn : ∃ fd, Fun K x x st f fd
theorem at1 {K : PySem.W.Frag} {x : Str} {st : Stmt} {f : Addr} {oc : Value} {od an : Option Addr} {osl : Array (Option Value)} {kV doc pm cdv ct : Value} (a : PySem.W.nsIn K mainGlobals x = some (some (.ref f)))
    (l : K.lookup f = some ⟨oc, od, .func (PySem.W.fnOf x x (defArgs st) (defBody st) (defScope st) .none kV doc pm an cdv ct), osl⟩) (c : PySem.W.codeIn K cdv x = true) (k : PySem.W.keepIn K (.ref f) = true) : At1 K x st f := ⟨a, _, fun_mk (st := st) l c k⟩
/-- one that has a text for its default -/
structure AtD (K : PySem.W.Frag) (x : Str) (st : Stmt) (z : Str) (f : Addr) : Prop where
  ns : PySem.W.nsIn K mainGlobals x = some (some (.ref f))
  fn : ∃ fd, FunD K x x (defArgs st) (defBody st) (defScope st) [.str z] [] f fd
/-- a method of a class of the text -/
structure AtM (K : PySem.W.Frag) (C : Addr) (m q : Str) (st : Stmt) (f : Addr) : Prop where
  me : Meth K C m f
  fn : ∃ fd, Fun K m q st f fd
/-- a method with the default () -/
structure AtE (K : PySem.W.Frag) (C : Addr) (m q : Str) (st : Stmt) (e : Addr) (f : Addr) : Prop where
  me : Meth K C m f
  fn : ∃ fd, FunD K m q (defArgs st) (defBody st) (defScope st) [.ref e] [] f fd
/-- a class of the text -/
structure AtC (K : PySem.W.Frag) (x : Str) (C : Addr) : Prop where
  ns : PySem.W.nsIn K mainGlobals x = some (some (.ref C))
  cl : Cls K C
  mks : PySem.W.makesIn K C = true
  kc : PySem.W.keepIn K (.ref C) = true
theorem all_mk {l : PySem.W.OpenLaw} {w : World} {K : PySem.W.Frag} {h : Heap} {mg : Str → Option Value} {fa C CC f0 f1 f2 f3 f4 f5 f6 f7 f8 f9 f10 f11 f12 f13 f14 f15 f16 f17 f18 f19 f20 f21 f22 f23 f24 f25 f26 f27 f28 f29 f30 f31 f32 f33 f34 f35 f36 f37 f38 f39 g0 g1 g2 g3 g4 g5 g6 g7 g8 g9 e0 : Addr} {lt : Tok} {ed : Option Addr} {esl : Array (Option Value)} {en : Nat} (X : K.In h) (G : h.Ns mainGlobals mg) (hfa : mg "law" = some (.ref fa))
    (clCode : AtC K "Code" C)
    (clCopy : AtC K "Copy" CC)
    (d0 : At1 K "name_of" s_name_of f0)
    (d1 : At1 K "opposite" s_opposite f1)
    (d2 : At1 K "is_list" s_is_list f2)
    (d3 : At1 K "is_literal" s_is_literal f3)
    (d4 : At1 K "first_wrong" s_first_wrong f4)
    (d5 : At1 K "ascending" s_ascending f5)
    (d6 : At1 K "is_name" s_is_name f6)
    (d7 : At1 K "checked_names" s_checked_names f7)
    (d8 : At1 K "checked_clauses" s_checked_clauses f8)
    (d9 : At1 K "are_same" s_are_same f9)
    (d10 : At1 K "literals_of" s_literals_of f10)
    (d11 : At1 K "new_names" s_new_names f11)
    (d12 : At1 K "either" s_either f12)
    (d13 : At1 K "_law_draw" s__law_draw f13)
    (d14 : At1 K "_law_pick" s__law_pick f14)
    (d15 : At1 K "_law_mixed" s__law_mixed f15)
    (d16 : At1 K "_law_fresh" s__law_fresh f16)
    (d17 : At1 K "_law_names" s__law_names f17)
    (d18 : At1 K "_law_neg" s__law_neg f18)
    (d19 : At1 K "_law_bare" s__law_bare f19)
    (d20 : At1 K "_law_up" s__law_up f20)
    (d21 : At1 K "_law_fulls" s__law_fulls f21)
    (d22 : At1 K "_law_halves" s__law_halves f22)
    (d23 : At1 K "_law_meets" s__law_meets f23)
    (d24 : At1 K "_law_forced" s__law_forced f24)
    (d25 : At1 K "_law_within" s__law_within f25)
    (d26 : At1 K "_law_shortest" s__law_shortest f26)
    (d27 : At1 K "_law_chase" s__law_chase f27)
    (d28 : At1 K "_law_once" s__law_once f28)
    (d29 : At1 K "_law_made" s__law_made f29)
    (d30 : At1 K "_law_parted" s__law_parted f30)
    (d31 : At1 K "_law_open" s__law_open f31)
    (d32 : At1 K "_law_goes" s__law_goes f32)
    (d33 : At1 K "_law_dead_code" s__law_dead_code f33)
    (d34 : At1 K "_law_sight" s__law_sight f34)
    (d35 : At1 K "_law_renamed" s__law_renamed f35)
    (d36 : At1 K "_law_same_helpers" s__law_same_helpers f36)
    (d37 : At1 K "_law_sized" s__law_sized f37)
    (d38 : At1 K "_law_refused" s__law_refused f38)
    (d39 : At1 K "law" s_law f39)
    (e1 : AtE K C "__init__" "Code.__init__" s_Code_init e0 g0)
    (e2 : AtM K C "signs" "Code.signs" s_Code_signs g1)
    (e3 : AtM K C "helpers" "Code.helpers" s_Code_helpers g2)
    (e4 : AtM K C "clauses" "Code.clauses" s_Code_clauses g3)
    (e5 : AtM K C "__len__" "Code.__len__" s_Code_len g4)
    (e6 : AtM K C "__contains__" "Code.__contains__" s_Code_contains g5)
    (e7 : AtM K C "__eq__" "Code.__eq__" s_Code_eq g6)
    (e8 : AtM K CC "__init__" "Copy.__init__" s_Copy_init g7)
    (e9 : AtM K CC "drawing" "Copy.drawing" s_Copy_drawing g8)
    (e10 : AtM K CC "helpers" "Copy.helpers" s_Copy_helpers g9)
    (qCode0 : PySem.W.findIn K (.ref C) "sign_row" = some none)
    (qCode1 : PySem.W.findIn K (.ref C) "helper_row" = some none)
    (qCode2 : PySem.W.findIn K (.ref C) "names" = some none)
    (qCode3 : PySem.W.findIn K (.ref C) "clause_row" = some none)
    (qCopy0 : PySem.W.findIn K (.ref CC) "out" = some none)
    (qCopy1 : PySem.W.findIn K (.ref CC) "denied" = some none)
    (qCopy2 : PySem.W.findIn K (.ref CC) "laid" = some none)
    (neCode : PySem.W.findIn K (.ref C) "__ne__" = some (some (.builtin "object.__ne__")))
    (obCode : PySem.W.subIn K (.ref C) (.type "object") = some true)
    (gcCode : PySem.W.findIn K (.ref C) "__class__" = some (some (.builtin "object.__class__")))
    (spCode : PySem.W.specialIn K (.builtin "object.__class__") "__get__" = some (some (.builtin "getset_descriptor.__get__")))
    (tkCode : PySem.W.takesIn K (.builtin "object.__class__") = some true)
    (mrCode : PySem.W.mroIn K C (.type "object") = some true)
    (lE : K.lookup e0 = some ⟨.type "tuple", ed, .seq #[] en, esl⟩)
    (gL : PySem.W.nsIn K mainGlobals "LETTERS" = some (some (.str g_LETTERS lt)))
    (gxU : (He.Fa.glo "UnlikeSigns").ok K = true)
    (kcU : PySem.W.keepIn K (.ref (He.ga K "UnlikeSigns")) = true)
    (qxU : PySem.W.excIn K (He.ga K "UnlikeSigns") PySem.HandSPX.veTail "ValueError.__new__" = true)
    (sbU : PySem.W.subIn K (.ref (He.ga K "UnlikeSigns")) (.type "BaseException") = some true)
    (tyU : PySem.W.typeIn K (.ref (He.ga K "UnlikeSigns")) = some (.type "type"))
    (ex_UnlikeSigns_UnlikeSigns : PySem.W.exmOne K (.ref (He.ga K "UnlikeSigns")) (.ref (He.ga K "UnlikeSigns")) = some true)
    (z_len : PySem.W.nsIn K mainGlobals "len" = some none)
    (z_tuple : PySem.W.nsIn K mainGlobals "tuple" = some none)
    (z_list : PySem.W.nsIn K mainGlobals "list" = some none)
    (z_str : PySem.W.nsIn K mainGlobals "str" = some none)
    (z_int : PySem.W.nsIn K mainGlobals "int" = some none)
    (z_all : PySem.W.nsIn K mainGlobals "all" = some none)
    (z_any : PySem.W.nsIn K mainGlobals "any" = some none)
    (z_isinstance : PySem.W.nsIn K mainGlobals "isinstance" = some none)
    (z_enumerate : PySem.W.nsIn K mainGlobals "enumerate" = some none)
    (z_range : PySem.W.nsIn K mainGlobals "range" = some none)
    (z_repr : PySem.W.nsIn K mainGlobals "repr" = some none)
    (z_bool : PySem.W.nsIn K mainGlobals "bool" = some none)
    (z_dict : PySem.W.nsIn K mainGlobals "dict" = some none)
    (z_sum : PySem.W.nsIn K mainGlobals "sum" = some none)
    (z_zip : PySem.W.nsIn K mainGlobals "zip" = some none)
    : ∃ fd : FuncData, (∀ (s : Shared) (v : Value), BindsTo s fd ⟨[v], []⟩ [("_law_script", v)]) ∧ ∀ base : Heap, K.In base → base.Ns mainGlobals mg → FnG l.prog w K mg base CX0 30 fa fd ["_law_script"] (sp_law K) := by
  have T0 : Gd mg := { len := PySem.W.mg_none_of X G z_len, tuple := PySem.W.mg_none_of X G z_tuple, list := PySem.W.mg_none_of X G z_list, str := PySem.W.mg_none_of X G z_str, int := PySem.W.mg_none_of X G z_int, all := PySem.W.mg_none_of X G z_all, any := PySem.W.mg_none_of X G z_any, isinstance := PySem.W.mg_none_of X G z_isinstance, enumerate := PySem.W.mg_none_of X G z_enumerate, range := PySem.W.mg_none_of X G z_range, repr := PySem.W.mg_none_of X G z_repr, bool := PySem.W.mg_none_of X G z_bool, dict := PySem.W.mg_none_of X G z_dict, g_LETTERS := ⟨_, PySem.W.mg_of X G gL⟩ }
  have TC : CodeT K mg C := ⟨clCode.cl, qCode0, qCode1, qCode2, qCode3⟩
  have TK : CopyT K mg CC := ⟨clCopy.cl, qCopy0, qCopy1, qCopy2⟩
  have NECode : NeObj K C := ⟨neCode, obCode⟩
  have ISCode : InsF K C := ⟨clCode.cl, gcCode, spCode, tkCode, mrCode⟩
  have g_Code : mg "Code" = some (.ref C) := PySem.W.mg_of X G clCode.ns
  obtain ⟨n0, fd0, F0⟩ := d0
  have b0 := F0.binds (ps := ["literal"]) fun _ _ _ _ _ _ us hl => match us, hl with | [_], _ => rfl
  obtain ⟨n1, fd1, F1⟩ := d1
  have b1 := F1.binds (ps := ["literal"]) fun _ _ _ _ _ _ us hl => match us, hl with | [_], _ => rfl
  obtain ⟨n2, fd2, F2⟩ := d2
  have b2 := F2.binds (ps := ["thing"]) fun _ _ _ _ _ _ us hl => match us, hl with | [_], _ => rfl
  obtain ⟨n3, fd3, F3⟩ := d3
  have b3 := F3.binds (ps := ["thing", "names"]) fun _ _ _ _ _ _ us hl => match us, hl with | [_, _], _ => rfl
  obtain ⟨n4, fd4, F4⟩ := d4
  have b4 := F4.binds (ps := ["things", "names"]) fun _ _ _ _ _ _ us hl => match us, hl with | [_, _], _ => rfl
  obtain ⟨n5, fd5, F5⟩ := d5
  have b5 := F5.binds (ps := ["literals", "names"]) fun _ _ _ _ _ _ us hl => match us, hl with | [_, _], _ => rfl
  obtain ⟨n6, fd6, F6⟩ := d6
  have b6 := F6.binds (ps := ["thing"]) fun _ _ _ _ _ _ us hl => match us, hl with | [_], _ => rfl
  obtain ⟨n7, fd7, F7⟩ := d7
  have b7 := F7.binds (ps := ["things", "known"]) fun _ _ _ _ _ _ us hl => match us, hl with | [_, _], _ => rfl
  obtain ⟨n8, fd8, F8⟩ := d8
  have b8 := F8.binds (ps := ["clauses", "names"]) fun _ _ _ _ _ _ us hl => match us, hl with | [_, _], _ => rfl
  obtain ⟨n9, fd9, F9⟩ := d9
  have b9 := F9.binds (ps := ["names", "others"]) fun _ _ _ _ _ _ us hl => match us, hl with | [_, _], _ => rfl
  obtain ⟨n10, fd10, F10⟩ := d10
  have b10 := F10.binds (ps := ["names"]) fun _ _ _ _ _ _ us hl => match us, hl with | [_], _ => rfl
  obtain ⟨n11, fd11, F11⟩ := d11
  have b11 := F11.binds (ps := ["many", "taken"]) fun _ _ _ _ _ _ us hl => match us, hl with | [_, _], _ => rfl
  obtain ⟨n12, fd12, F12⟩ := d12
  have b12 := F12.binds (ps := ["one", "other"]) fun _ _ _ _ _ _ us hl => match us, hl with | [_, _], _ => rfl
  obtain ⟨n13, fd13, F13⟩ := d13
  have b13 := F13.binds (ps := ["_law_stream", "_law_many"]) fun _ _ _ _ _ _ us hl => match us, hl with | [_, _], _ => rfl
  obtain ⟨n14, fd14, F14⟩ := d14
  have b14 := F14.binds (ps := ["_law_stream", "_law_things"]) fun _ _ _ _ _ _ us hl => match us, hl with | [_, _], _ => rfl
  obtain ⟨n15, fd15, F15⟩ := d15
  have b15 := F15.binds (ps := ["_law_stream", "_law_things"]) fun _ _ _ _ _ _ us hl => match us, hl with | [_, _], _ => rfl
  obtain ⟨n16, fd16, F16⟩ := d16
  have b16 := F16.binds (ps := ["_law_stream", "_law_taken"]) fun _ _ _ _ _ _ us hl => match us, hl with | [_, _], _ => rfl
  obtain ⟨n17, fd17, F17⟩ := d17
  have b17 := F17.binds (ps := ["_law_stream", "_law_many"]) fun _ _ _ _ _ _ us hl => match us, hl with | [_, _], _ => rfl
  obtain ⟨n18, fd18, F18⟩ := d18
  have b18 := F18.binds (ps := ["_law_one"]) fun _ _ _ _ _ _ us hl => match us, hl with | [_], _ => rfl
  obtain ⟨n19, fd19, F19⟩ := d19
  have b19 := F19.binds (ps := ["_law_one"]) fun _ _ _ _ _ _ us hl => match us, hl with | [_], _ => rfl
  obtain ⟨n20, fd20, F20⟩ := d20
  have b20 := F20.binds (ps := ["_law_some", "_law_names_here"]) fun _ _ _ _ _ _ us hl => match us, hl with | [_, _], _ => rfl
  obtain ⟨n21, fd21, F21⟩ := d21
  have b21 := F21.binds (ps := ["_law_names_here"]) fun _ _ _ _ _ _ us hl => match us, hl with | [_], _ => rfl
  obtain ⟨n22, fd22, F22⟩ := d22
  have b22 := F22.binds (ps := ["_law_names_here"]) fun _ _ _ _ _ _ us hl => match us, hl with | [_], _ => rfl
  obtain ⟨n23, fd23, F23⟩ := d23
  have b23 := F23.binds (ps := ["_law_clause", "_law_some"]) fun _ _ _ _ _ _ us hl => match us, hl with | [_, _], _ => rfl
  obtain ⟨n24, fd24, F24⟩ := d24
  have b24 := F24.binds (ps := ["_law_settings", "_law_half"]) fun _ _ _ _ _ _ us hl => match us, hl with | [_, _], _ => rfl
  obtain ⟨n25, fd25, F25⟩ := d25
  have b25 := F25.binds (ps := ["_law_part", "_law_clause"]) fun _ _ _ _ _ _ us hl => match us, hl with | [_, _], _ => rfl
  obtain ⟨n26, fd26, F26⟩ := d26
  have b26 := F26.binds (ps := ["_law_names_here", "_law_settings"]) fun _ _ _ _ _ _ us hl => match us, hl with | [_, _], _ => rfl
  obtain ⟨n27, fd27, F27⟩ := d27
  have b27 := F27.binds (ps := ["_law_clauses", "_law_half"]) fun _ _ _ _ _ _ us hl => match us, hl with | [_, _], _ => rfl
  obtain ⟨n28, fd28, F28⟩ := d28
  have b28 := F28.binds (ps := ["_law_clauses", "_law_names_here"]) fun _ _ _ _ _ _ us hl => match us, hl with | [_, _], _ => rfl
  obtain ⟨n29, fd29, F29⟩ := d29
  have b29 := F29.binds (ps := ["_law_c"]) fun _ _ _ _ _ _ us hl => match us, hl with | [_], _ => rfl
  obtain ⟨n30, fd30, F30⟩ := d30
  have b30 := F30.binds (ps := ["_law_stream", "_law_c"]) fun _ _ _ _ _ _ us hl => match us, hl with | [_, _], _ => rfl
  obtain ⟨n31, fd31, F31⟩ := d31
  have b31 := F31.binds (ps := ["_law_clauses", "_law_so"]) fun _ _ _ _ _ _ us hl => match us, hl with | [_, _], _ => rfl
  obtain ⟨n32, fd32, F32⟩ := d32
  have b32 := F32.binds (ps := ["_law_clauses", "_law_half"]) fun _ _ _ _ _ _ us hl => match us, hl with | [_, _], _ => rfl
  obtain ⟨n33, fd33, F33⟩ := d33
  have b33 := F33.binds (ps := ["_law_stream", "_law_signs", "_law_helpers"]) fun _ _ _ _ _ _ us hl => match us, hl with | [_, _, _], _ => rfl
  obtain ⟨n34, fd34, F34⟩ := d34
  have b34 := F34.binds (ps := ["_law_names_here", "_law_clauses", "_law_allowed"]) fun _ _ _ _ _ _ us hl => match us, hl with | [_, _, _], _ => rfl
  obtain ⟨n35, fd35, F35⟩ := d35
  have b35 := F35.binds (ps := ["_law_c", "_law_renamed_here"]) fun _ _ _ _ _ _ us hl => match us, hl with | [_, _], _ => rfl
  obtain ⟨n36, fd36, F36⟩ := d36
  have b36 := F36.binds (ps := ["_law_stream", "_law_c", "_law_other"]) fun _ _ _ _ _ _ us hl => match us, hl with | [_, _, _], _ => rfl
  obtain ⟨n37, fd37, F37⟩ := d37
  have b37 := F37.binds (ps := ["_law_c", "_law_other", "_law_found"]) fun _ _ _ _ _ _ us hl => match us, hl with | [_, _, _], _ => rfl
  obtain ⟨n38, fd38, F38⟩ := d38
  have b38 := F38.binds (ps := ["_law_one", "_law_other"]) fun _ _ _ _ _ _ us hl => match us, hl with | [_, _], _ => rfl
  obtain ⟨n39, fd39, F39⟩ := d39
  have b39 := F39.binds (ps := ["_law_script"]) fun _ _ _ _ _ _ us hl => match us, hl with | [_], _ => rfl
  obtain ⟨me0, gd0, E0⟩ := e1
  obtain ⟨es0, ev0, u0⟩ := E0.binds1 (ps := ["self", "signs", "clauses", "helpers"]) 4 1 (by simp) rfl fun _ _ _ _ _ _ _ us its hl hi => match us, its, hl, hi with | [_, _, _, _], [_], _, _ => ⟨_, rfl, rfl⟩
  cases ev0
  obtain ⟨et0, ew0, uu0⟩ := E0.binds1 (ps := ["self", "signs", "clauses", "helpers"]) 3 0 (by simp) rfl fun _ _ _ _ _ _ _ us its hl hi => match us, its, hl, hi with | [_, _, _], [_], _, _ => ⟨_, rfl, rfl⟩
  have hdv : ∀ M, SqR K Tx [] M (.ref e0) := fun M => .inr ⟨e0, [], rfl, .inr ⟨_, _, en, lE, rfl, rfl, Nat.zero_le _, .nil⟩, .nil⟩
  obtain ⟨me1, gd1, E1⟩ := e2
  have u1 := E1.binds (ps := ["self"]) fun _ _ _ _ _ _ us hl => match us, hl with | [_], _ => rfl
  obtain ⟨me2, gd2, E2⟩ := e3
  have u2 := E2.binds (ps := ["self"]) fun _ _ _ _ _ _ us hl => match us, hl with | [_], _ => rfl
  obtain ⟨me3, gd3, E3⟩ := e4
  have u3 := E3.binds (ps := ["self"]) fun _ _ _ _ _ _ us hl => match us, hl with | [_], _ => rfl
  obtain ⟨me4, gd4, E4⟩ := e5
  have u4 := E4.binds (ps := ["self"]) fun _ _ _ _ _ _ us hl => match us, hl with | [_], _ => rfl
  obtain ⟨me5, gd5, E5⟩ := e6
  have u5 := E5.binds (ps := ["self", "thing"]) fun _ _ _ _ _ _ us hl => match us, hl with | [_, _], _ => rfl
  obtain ⟨me6, gd6, E6⟩ := e7
  have u6 := E6.binds (ps := ["self", "other"]) fun _ _ _ _ _ _ us hl => match us, hl with | [_, _], _ => rfl
  obtain ⟨me7, gd7, E7⟩ := e8
  have u7 := E7.binds (ps := ["self", "code", "fresh"]) fun _ _ _ _ _ _ us hl => match us, hl with | [_, _, _], _ => rfl
  obtain ⟨me8, gd8, E8⟩ := e9
  have u8 := E8.binds (ps := ["self", "clause", "literal"]) fun _ _ _ _ _ _ us hl => match us, hl with | [_, _, _], _ => rfl
  obtain ⟨me9, gd9, E9⟩ := e10
  have u9 := E9.binds (ps := ["self"]) fun _ _ _ _ _ _ us hl => match us, hl with | [_], _ => rfl
  have e := hfa.symm.trans (PySem.W.mg_of X G n39)
  cases e
  refine ⟨fd39, fun s v => ?_, fun base _ _ => ?_⟩
  · obtain ⟨oc, od, kV, doc, pm, an, cdv, ct, osl, rfl, _⟩ := F39.ex
    exact .of_eq rfl
  have c_name_of : Cal l.prog w K mg base 1 "name_of" ["literal"] (sp_name_of K) := ⟨f0, fd0, ok_name_of F0, PySem.W.mg_of X G n0, F0.kp, b0⟩
  have c_opposite : Cal l.prog w K mg base 1 "opposite" ["literal"] (sp_opposite K) := ⟨f1, fd1, ok_opposite F1, PySem.W.mg_of X G n1, F1.kp, b1⟩
  have c_is_list : Cal l.prog w K mg base 1 "is_list" ["thing"] (sp_is_list K) := ⟨f2, fd2, ok_is_list F2 T0.toBi, PySem.W.mg_of X G n2, F2.kp, b2⟩
  have c_is_literal : Cal l.prog w K mg base 2 "is_literal" ["thing", "names"] (sp_is_literal K) := ⟨f3, fd3, ok_is_literal F3 T0.toBi c_name_of, PySem.W.mg_of X G n3, F3.kp, b3⟩
  have c_first_wrong : Cal l.prog w K mg base 3 "first_wrong" ["things", "names"] (sp_first_wrong K) := ⟨f4, fd4, ok_first_wrong F4 T0.toBi c_is_list c_name_of c_is_literal, PySem.W.mg_of X G n4, F4.kp, b4⟩
  have c_ascending : Cal l.prog w K mg base 1 "ascending" ["literals", "names"] (sp_ascending K) := ⟨f5, fd5, ok_ascending F5 T0.toBi, PySem.W.mg_of X G n5, F5.kp, b5⟩
  have c_is_name : Cal l.prog w K mg base 1 "is_name" ["thing"] (sp_is_name K) := ⟨f6, fd6, ok_is_name F6 T0.toGb, PySem.W.mg_of X G n6, F6.kp, b6⟩
  have c_checked_names : Cal l.prog w K mg base 2 "checked_names" ["things", "known"] (sp_checked_names K) := ⟨f7, fd7, ok_checked_names F7 T0.toGb c_is_name, PySem.W.mg_of X G n7, F7.kp, b7⟩
  have c_checked_clauses : Cal l.prog w K mg base 4 "checked_clauses" ["clauses", "names"] (sp_checked_clauses K) := ⟨f8, fd8, ok_checked_clauses F8 T0.toGb c_first_wrong c_ascending, PySem.W.mg_of X G n8, F8.kp, b8⟩
  have c_are_same : Cal l.prog w K mg base 1 "are_same" ["names", "others"] (sp_are_same K) := ⟨f9, fd9, ok_are_same F9 T0.toGc, PySem.W.mg_of X G n9, F9.kp, b9⟩
  have c_literals_of : Cal l.prog w K mg base 1 "literals_of" ["names"] (sp_literals_of K) := ⟨f10, fd10, ok_literals_of F10, PySem.W.mg_of X G n10, F10.kp, b10⟩
  have c_new_names : Cal l.prog w K mg base 1 "new_names" ["many", "taken"] (sp_new_names K) := ⟨f11, fd11, ok_new_names F11 T0.toGc, PySem.W.mg_of X G n11, F11.kp, b11⟩
  have k_Code : Mak l.prog w K mg base 5 "Code" C ["self", "signs", "clauses", "helpers"] (sp_Code_init K C) := ⟨g0, gd0, ⟨clCode.mks, me0.at_, me0.fn, clCode.kc⟩, ok_Code_init E0 T0.toGb TC c_checked_names c_checked_clauses, PySem.W.mg_of X G clCode.ns, u0⟩
  have d_Code : MakD l.prog w K mg base 5 "Code" C ["self", "signs", "clauses", "helpers"] [.ref e0] (sp_Code_init K C) := ⟨g0, gd0, et0, ⟨clCode.mks, me0.at_, me0.fn, clCode.kc⟩, ok_Code_init E0 T0.toGb TC c_checked_names c_checked_clauses, PySem.W.mg_of X G clCode.ns, uu0, ew0⟩
  have m_signs : Met l.prog w K mg base 1 C "signs" ["self"] (sp_Code_signs K C) := ⟨g1, gd1, clCode.cl, me1, ok_Code_signs E1 T0.toGc TC, u1⟩
  have m_helpers : Met l.prog w K mg base 1 C "helpers" ["self"] (sp_Code_helpers K C) := ⟨g2, gd2, clCode.cl, me2, ok_Code_helpers E2 T0.toGc TC, u2⟩
  have m_clauses : Met l.prog w K mg base 1 C "clauses" ["self"] (sp_Code_clauses K C) := ⟨g3, gd3, clCode.cl, me3, ok_Code_clauses E3 T0.toGc TC, u3⟩
  have o_len : OwnLen l.prog w K mg base 1 C (sp_Code_len K C) := ⟨g4, gd4, ok_Code_len E4 T0.toGb TC, me4.at_, me4.fn, u4⟩
  have o_in : OwnSp l.prog w K mg base 4 C "__contains__" ["self", "thing"] (sp_Code_contains K C) := ⟨g5, gd5, ok_Code_contains E5 TC c_first_wrong c_ascending, me5.at_, me5.fn, u5⟩
  have o_eq : OwnSp l.prog w K mg base 5 C "__eq__" ["self", "other"] (sp_Code_eq K C) := ⟨g6, gd6, ok_Code_eq E6 T0.toGc TC ISCode g_Code o_len o_in c_are_same, me6.at_, me6.fn, u6⟩
  have mC_drawing : Met l.prog w K mg base 2 CC "drawing" ["self", "clause", "literal"] (sp_Copy_drawing K CC) := ⟨g8, gd8, clCopy.cl, me8, ok_Copy_drawing E8 T0.toGc TK c_opposite, u8⟩
  have mC_helpers : Met l.prog w K mg base 1 CC "helpers" ["self"] (sp_Copy_helpers K CC) := ⟨g9, gd9, clCopy.cl, me9, ok_Copy_helpers E9 T0.toGc TK, u9⟩
  have k_Copy : Mak l.prog w K mg base 3 "Copy" CC ["self", "code", "fresh"] (sp_Copy_init K C CC) := ⟨g7, gd7, ⟨clCopy.mks, me7.at_, me7.fn, clCopy.kc⟩, ok_Copy_init E7 T0.toGc TC TK c_literals_of mC_drawing, PySem.W.mg_of X G clCopy.ns, u7⟩
  have g_UnlikeSigns : mg "UnlikeSigns" = some (.ref (He.ga K "UnlikeSigns")) := He.glo_ok X G gxU
  have RU : RawC K mg "UnlikeSigns" (He.ga K "UnlikeSigns") := ⟨g_UnlikeSigns, kcU, qxU, sbU, tyU⟩
  have c_either : Cal l.prog w K mg base 7 "either" ["one", "other"] (sp_either K C) := ⟨f12, fd12, ok_either F12 T0.toGc TC TK c_are_same c_literals_of c_new_names c_opposite k_Copy mC_helpers k_Code, PySem.W.mg_of X G n12, F12.kp, b12⟩
  have cX_either : CalX l.prog w K mg base 7 "either" ["one", "other"] (sp_eitherX K C (He.ga K "UnlikeSigns")) := ⟨f12, fd12, ok_eitherX F12 T0.toGc TC RU c_are_same c_literals_of c_new_names c_opposite k_Copy mC_helpers k_Code, PySem.W.mg_of X G n12, F12.kp, b12⟩
  have c__law_draw : Cal l.prog w K mg base 1 "_law_draw" ["_law_stream", "_law_many"] (sp__law_draw K) := ⟨f13, fd13, ok__law_draw F13 T0.toGc, PySem.W.mg_of X G n13, F13.kp, b13⟩
  have c__law_pick : Cal l.prog w K mg base 2 "_law_pick" ["_law_stream", "_law_things"] (sp__law_pick K) := ⟨f14, fd14, ok__law_pick F14 T0.toGc c__law_draw, PySem.W.mg_of X G n14, F14.kp, b14⟩
  have c__law_mixed : Cal l.prog w K mg base 2 "_law_mixed" ["_law_stream", "_law_things"] (sp__law_mixed K) := ⟨f15, fd15, ok__law_mixed F15 T0.toGc c__law_draw, PySem.W.mg_of X G n15, F15.kp, b15⟩
  have c__law_fresh : Cal l.prog w K mg base 3 "_law_fresh" ["_law_stream", "_law_taken"] (sp__law_fresh K) := ⟨f16, fd16, ok__law_fresh F16 T0.toGc c__law_draw c__law_pick, PySem.W.mg_of X G n16, F16.kp, b16⟩
  have c__law_names : Cal l.prog w K mg base 4 "_law_names" ["_law_stream", "_law_many"] (sp__law_names K) := ⟨f17, fd17, ok__law_names F17 T0.toGc c__law_fresh, PySem.W.mg_of X G n17, F17.kp, b17⟩
  have c__law_neg : Cal l.prog w K mg base 1 "_law_neg" ["_law_one"] (sp__law_neg K) := ⟨f18, fd18, ok__law_neg F18, PySem.W.mg_of X G n18, F18.kp, b18⟩
  have c__law_bare : Cal l.prog w K mg base 1 "_law_bare" ["_law_one"] (sp__law_bare K) := ⟨f19, fd19, ok__law_bare F19, PySem.W.mg_of X G n19, F19.kp, b19⟩
  have c__law_up : Cal l.prog w K mg base 1 "_law_up" ["_law_some", "_law_names_here"] (sp__law_up K) := ⟨f20, fd20, ok__law_up F20 T0.toBi, PySem.W.mg_of X G n20, F20.kp, b20⟩
  have c__law_fulls : Cal l.prog w K mg base 1 "_law_fulls" ["_law_names_here"] (sp__law_fulls K) := ⟨f21, fd21, ok__law_fulls F21 T0.toGc, PySem.W.mg_of X G n21, F21.kp, b21⟩
  have c__law_halves : Cal l.prog w K mg base 2 "_law_halves" ["_law_names_here"] (sp__law_halves K) := ⟨f22, fd22, ok__law_halves F22 T0.toGc c__law_bare, PySem.W.mg_of X G n22, F22.kp, b22⟩
  have c__law_meets : Cal l.prog w K mg base 1 "_law_meets" ["_law_clause", "_law_some"] (sp__law_meets K) := ⟨f23, fd23, ok__law_meets F23 T0.toGc, PySem.W.mg_of X G n23, F23.kp, b23⟩
  have c__law_forced : Cal l.prog w K mg base 1 "_law_forced" ["_law_settings", "_law_half"] (sp__law_forced K) := ⟨f24, fd24, ok__law_forced F24 T0.toGc, PySem.W.mg_of X G n24, F24.kp, b24⟩
  have c__law_within : Cal l.prog w K mg base 1 "_law_within" ["_law_part", "_law_clause"] (sp__law_within K) := ⟨f25, fd25, ok__law_within F25 T0.toGc, PySem.W.mg_of X G n25, F25.kp, b25⟩
  have c__law_shortest : Cal l.prog w K mg base 3 "_law_shortest" ["_law_names_here", "_law_settings"] (sp__law_shortest K) := ⟨f26, fd26, ok__law_shortest F26 T0.toGc c__law_halves c__law_within c__law_meets, PySem.W.mg_of X G n26, F26.kp, b26⟩
  have c__law_chase : Cal l.prog w K mg base 2 "_law_chase" ["_law_clauses", "_law_half"] (sp__law_chase K) := ⟨f27, fd27, ok__law_chase F27 T0 c__law_neg, PySem.W.mg_of X G n27, F27.kp, b27⟩
  have c__law_once : Cal l.prog w K mg base 2 "_law_once" ["_law_clauses", "_law_names_here"] (sp__law_once K) := ⟨f28, fd28, ok__law_once F28 T0.toGc c__law_up, PySem.W.mg_of X G n28, F28.kp, b28⟩
  have c__law_made : Cal l.prog w K mg base 7 "_law_made" ["_law_c"] (sp__law_made2 K C) := ⟨f29, fd29, ok__law_made2 F29 k_Code, PySem.W.mg_of X G n29, F29.kp, b29⟩
  have c__law_parted : Cal l.prog w K mg base 4 "_law_parted" ["_law_stream", "_law_c"] (sp__law_parted K) := ⟨f30, fd30, ok__law_parted F30 T0.toGc c__law_draw c__law_fresh c__law_mixed c__law_pick c__law_neg c__law_once, PySem.W.mg_of X G n30, F30.kp, b30⟩
  have c__law_open : Cal l.prog w K mg base 2 "_law_open" ["_law_clauses", "_law_so"] (sp__law_open K) := ⟨f31, fd31, ok__law_open F31 c__law_neg, PySem.W.mg_of X G n31, F31.kp, b31⟩
  have cg0 : Cal l.prog w K mg base 3 "_law_goes" ["_law_clauses", "_law_half"] (sp_goes K 0) := ⟨f32, fd32, ok_goes0, PySem.W.mg_of X G n32, F32.kp, b32⟩
  have cg1 : Cal l.prog w K mg base 4 "_law_goes" ["_law_clauses", "_law_half"] (sp_goes K 1) := ⟨f32, fd32, ok_goes F32 c__law_chase c__law_open c__law_neg cg0, PySem.W.mg_of X G n32, F32.kp, b32⟩
  have cg2 : Cal l.prog w K mg base 5 "_law_goes" ["_law_clauses", "_law_half"] (sp_goes K 2) := ⟨f32, fd32, ok_goes F32 c__law_chase c__law_open c__law_neg cg1, PySem.W.mg_of X G n32, F32.kp, b32⟩
  have cg3 : Cal l.prog w K mg base 6 "_law_goes" ["_law_clauses", "_law_half"] (sp_goes K 3) := ⟨f32, fd32, ok_goes F32 c__law_chase c__law_open c__law_neg cg2, PySem.W.mg_of X G n32, F32.kp, b32⟩
  have cg4 : Cal l.prog w K mg base 7 "_law_goes" ["_law_clauses", "_law_half"] (sp_goes K 4) := ⟨f32, fd32, ok_goes F32 c__law_chase c__law_open c__law_neg cg3, PySem.W.mg_of X G n32, F32.kp, b32⟩
  have cg5 : Cal l.prog w K mg base 8 "_law_goes" ["_law_clauses", "_law_half"] (sp_goes K 5) := ⟨f32, fd32, ok_goes F32 c__law_chase c__law_open c__law_neg cg4, PySem.W.mg_of X G n32, F32.kp, b32⟩
  have cg6 : Cal l.prog w K mg base 9 "_law_goes" ["_law_clauses", "_law_half"] (sp_goes K 6) := ⟨f32, fd32, ok_goes F32 c__law_chase c__law_open c__law_neg cg5, PySem.W.mg_of X G n32, F32.kp, b32⟩
  have cg7 : Cal l.prog w K mg base 10 "_law_goes" ["_law_clauses", "_law_half"] (sp_goes K 7) := ⟨f32, fd32, ok_goes F32 c__law_chase c__law_open c__law_neg cg6, PySem.W.mg_of X G n32, F32.kp, b32⟩
  have cg8 : Cal l.prog w K mg base 11 "_law_goes" ["_law_clauses", "_law_half"] (sp_goes K 8) := ⟨f32, fd32, ok_goes F32 c__law_chase c__law_open c__law_neg cg7, PySem.W.mg_of X G n32, F32.kp, b32⟩
  have cg9 : Cal l.prog w K mg base 12 "_law_goes" ["_law_clauses", "_law_half"] (sp_goes K 9) := ⟨f32, fd32, ok_goes F32 c__law_chase c__law_open c__law_neg cg8, PySem.W.mg_of X G n32, F32.kp, b32⟩
  have cg10 : Cal l.prog w K mg base 13 "_law_goes" ["_law_clauses", "_law_half"] (sp_goes K 10) := ⟨f32, fd32, ok_goes F32 c__law_chase c__law_open c__law_neg cg9, PySem.W.mg_of X G n32, F32.kp, b32⟩
  have cg11 : Cal l.prog w K mg base 14 "_law_goes" ["_law_clauses", "_law_half"] (sp_goes K 11) := ⟨f32, fd32, ok_goes F32 c__law_chase c__law_open c__law_neg cg10, PySem.W.mg_of X G n32, F32.kp, b32⟩
  have cg12 : Cal l.prog w K mg base 15 "_law_goes" ["_law_clauses", "_law_half"] (sp_goes K 12) := ⟨f32, fd32, ok_goes F32 c__law_chase c__law_open c__law_neg cg11, PySem.W.mg_of X G n32, F32.kp, b32⟩
  have cg13 : Cal l.prog w K mg base 16 "_law_goes" ["_law_clauses", "_law_half"] (sp_goes K 13) := ⟨f32, fd32, ok_goes F32 c__law_chase c__law_open c__law_neg cg12, PySem.W.mg_of X G n32, F32.kp, b32⟩
  have cg14 : Cal l.prog w K mg base 17 "_law_goes" ["_law_clauses", "_law_half"] (sp_goes K 14) := ⟨f32, fd32, ok_goes F32 c__law_chase c__law_open c__law_neg cg13, PySem.W.mg_of X G n32, F32.kp, b32⟩
  have cg15 : Cal l.prog w K mg base 18 "_law_goes" ["_law_clauses", "_law_half"] (sp_goes K 15) := ⟨f32, fd32, ok_goes F32 c__law_chase c__law_open c__law_neg cg14, PySem.W.mg_of X G n32, F32.kp, b32⟩
  have cg16 : Cal l.prog w K mg base 19 "_law_goes" ["_law_clauses", "_law_half"] (sp_goes K 16) := ⟨f32, fd32, ok_goes F32 c__law_chase c__law_open c__law_neg cg15, PySem.W.mg_of X G n32, F32.kp, b32⟩
  have cg17 : Cal l.prog w K mg base 20 "_law_goes" ["_law_clauses", "_law_half"] (sp_goes K 17) := ⟨f32, fd32, ok_goes F32 c__law_chase c__law_open c__law_neg cg16, PySem.W.mg_of X G n32, F32.kp, b32⟩
  have cg18 : Cal l.prog w K mg base 21 "_law_goes" ["_law_clauses", "_law_half"] (sp_goes K 18) := ⟨f32, fd32, ok_goes F32 c__law_chase c__law_open c__law_neg cg17, PySem.W.mg_of X G n32, F32.kp, b32⟩
  have cg19 : Cal l.prog w K mg base 22 "_law_goes" ["_law_clauses", "_law_half"] (sp_goes K 19) := ⟨f32, fd32, ok_goes F32 c__law_chase c__law_open c__law_neg cg18, PySem.W.mg_of X G n32, F32.kp, b32⟩
  have cg20 : Cal l.prog w K mg base 23 "_law_goes" ["_law_clauses", "_law_half"] (sp_goes K 20) := ⟨f32, fd32, ok_goes F32 c__law_chase c__law_open c__law_neg cg19, PySem.W.mg_of X G n32, F32.kp, b32⟩
  have cg21 : Cal l.prog w K mg base 24 "_law_goes" ["_law_clauses", "_law_half"] (sp_goes K 21) := ⟨f32, fd32, ok_goes F32 c__law_chase c__law_open c__law_neg cg20, PySem.W.mg_of X G n32, F32.kp, b32⟩
  have cg22 : Cal l.prog w K mg base 25 "_law_goes" ["_law_clauses", "_law_half"] (sp_goes K 22) := ⟨f32, fd32, ok_goes F32 c__law_chase c__law_open c__law_neg cg21, PySem.W.mg_of X G n32, F32.kp, b32⟩
  have cg23 : Cal l.prog w K mg base 26 "_law_goes" ["_law_clauses", "_law_half"] (sp_goes K 23) := ⟨f32, fd32, ok_goes F32 c__law_chase c__law_open c__law_neg cg22, PySem.W.mg_of X G n32, F32.kp, b32⟩
  have cg24 : Cal l.prog w K mg base 27 "_law_goes" ["_law_clauses", "_law_half"] (sp_goes K 24) := ⟨f32, fd32, ok_goes F32 c__law_chase c__law_open c__law_neg cg23, PySem.W.mg_of X G n32, F32.kp, b32⟩
  have cg25 : Cal l.prog w K mg base 28 "_law_goes" ["_law_clauses", "_law_half"] (sp_goes K 25) := ⟨f32, fd32, ok_goes F32 c__law_chase c__law_open c__law_neg cg24, PySem.W.mg_of X G n32, F32.kp, b32⟩
  have cg26 : Cal l.prog w K mg base 29 "_law_goes" ["_law_clauses", "_law_half"] (sp_goes K 26) := ⟨f32, fd32, ok_goes F32 c__law_chase c__law_open c__law_neg cg25, PySem.W.mg_of X G n32, F32.kp, b32⟩
  have c__law_dead_code : Cal l.prog w K mg base 5 "_law_dead_code" ["_law_stream", "_law_signs", "_law_helpers"] (sp__law_dead_code K) := ⟨f33, fd33, ok__law_dead_code F33 T0.toGc c__law_draw c__law_fulls c__law_shortest c__law_neg c__law_chase c__law_once c__law_parted, PySem.W.mg_of X G n33, F33.kp, b33⟩
  have c__law_sight : Cal l.prog w K mg base 3 "_law_sight" ["_law_names_here", "_law_clauses", "_law_allowed"] (sp__law_sight K) := ⟨f34, fd34, ok__law_sight F34 T0.toGc c__law_halves c__law_forced c__law_chase c__law_within, PySem.W.mg_of X G n34, F34.kp, b34⟩
  have c__law_renamed : Cal l.prog w K mg base 3 "_law_renamed" ["_law_c", "_law_renamed_here"] (sp__law_renamed K) := ⟨f35, fd35, ok__law_renamed F35 T0.toGc (PySem.W.mg_none_of X G z_zip) c__law_bare c__law_once, PySem.W.mg_of X G n35, F35.kp, b35⟩
  have c__law_same_helpers : Cal l.prog w K mg base 4 "_law_same_helpers" ["_law_stream", "_law_c", "_law_other"] (sp__law_same_helpers K) := ⟨f36, fd36, ok__law_same_helpers F36 T0.toGc (PySem.W.mg_none_of X G z_zip) c__law_fresh c__law_renamed, PySem.W.mg_of X G n36, F36.kp, b36⟩
  have c__law_sized : Cal l.prog w K mg base 3 "_law_sized" ["_law_c", "_law_other", "_law_found"] (sp__law_sized K C) := ⟨f37, fd37, ok__law_sized F37 T0.toGc (PySem.W.mg_none_of X G z_sum) o_len m_helpers, PySem.W.mg_of X G n37, F37.kp, b37⟩
  have c__law_refused : Cal l.prog w K mg base 8 "_law_refused" ["_law_one", "_law_other"] (sp__law_refused K C) := ⟨f38, fd38, ok__law_refused F38 cX_either g_UnlikeSigns ex_UnlikeSigns_UnlikeSigns, PySem.W.mg_of X G n38, F38.kp, b38⟩
  exact ok_law F39 T0.toGc ISCode g_Code hdv c__law_draw c__law_names c__law_mixed c__law_fresh c__law_dead_code c__law_same_helpers c__law_made c_either m_signs m_clauses c__law_sized o_eq NECode c__law_up c__law_fulls cg26 c__law_sight c__law_refused d_Code
end My

set_option Elab.async false
set_option linter.all false
set_option maxRecDepth 100000
set_option maxHeartbeats 0
namespace Hq
open PySem PySem.Spec PyProof.Rows L2 L3
section
variable {K : PySem.W.Frag}
theorem ns_of {x : Str} (c : (He.Fa.glo x).ok K = true) : PySem.W.nsIn K mainGlobals x = some (some (.ref (He.ga K x))) := He.eqO_ok c
theorem ns_none {x : Str} (c : (He.Fa.free x).ok K = true) : PySem.W.nsIn K mainGlobals x = some none := He.eqO_ok c
theorem ns_str {x z : Str} (c : (He.Fa.str x z).ok K = true) : ∃ t, PySem.W.nsIn K mainGlobals x = some (some (.str z t)) := by
  have c2 : (match PySem.W.nsIn K mainGlobals x with
    | some (some (.str y _)) => decide (y = z)
    | _ => false) = true := c
  cases e : PySem.W.nsIn K mainGlobals x with
  | none => rw [e] at c2; cases c2
  | some o =>
    rw [e] at c2
    cases o with
    | none => cases c2
    | some v =>
      cases v with
      | str y t =>
        have ej : y = z := of_decide_eq_true c2
        rw [ej]
        exact ⟨t, rfl⟩
      | _ => cases c2
theorem fun_of {x qn : Str} {st : Stmt} {f : Addr} (h : ∃ fd, FunD K x qn (defArgs st) (defBody st) (defScope st) [] [] f fd) : ∃ fd, Fun K x qn st f fd := by
  obtain ⟨fd, ⟨oc, od, dV, kV, doc, pm, an, cdv, ct, osl, e, l, c, d, _⟩, kp⟩ := h
  rcases d with ⟨_, rfl⟩ | ⟨h, _⟩
  · exact ⟨fd, ⟨oc, od, kV, doc, pm, an, cdv, ct, osl, e, l, c⟩, kp⟩
  · exact absurd rfl h
theorem at1_of {x : Str} {st : Stmt} (g : (He.Fa.glo x).ok K = true) (h : ∃ fd, FunD K x x (defArgs st) (defBody st) (defScope st) [] [] (He.ga K x) fd) : My.At1 K x st (He.ga K x) := ⟨ns_of g, fun_of h⟩
theorem atm_of {x m qn : Str} {st : Stmt} (g : (He.Fa.meth x m).ok K = true) (h : ∃ fd, FunD K m qn (defArgs st) (defBody st) (defScope st) [] [] (He.ma K (He.ga K x) m) fd) : My.AtM K (He.ga K x) m qn st (He.ma K (He.ga K x) m) := ⟨He.meth_ok g, fun_of h⟩
theorem ate_of {x m qn : Str} {st : Stmt} {e : Addr} (g : (He.Fa.meth x m).ok K = true) (h : ∃ fd, FunD K m qn (defArgs st) (defBody st) (defScope st) [.ref e] [] (He.ma K (He.ga K x) m) fd) : My.AtE K (He.ga K x) m qn st e (He.ma K (He.ga K x) m) := ⟨He.meth_ok g, h⟩
theorem atc_of {x : Str} (g : (He.Fa.glo x).ok K = true) (c : (He.Fa.cls x).ok K = true) (m : (He.Fa.mkr x).ok K = true) : My.AtC K x (He.ga K x) := by
  obtain ⟨c1, m2⟩ := He.ba m
  obtain ⟨c2, m3⟩ := He.ba m2
  obtain ⟨c3, c4⟩ := He.ba m3
  exact ⟨ns_of g, He.cls_ok c, c1, c4⟩
/-- the default of Code -/
def e0 (K : PySem.W.Frag) : Addr := He.dflAt ("Code", some "__init__") 0 K
/-- an empty tuple -/
def emB (K : PySem.W.Frag) (a : Addr) : Bool := match K.lookup a with
  | some ⟨.type c, _, .seq its _, _⟩ => decide (c = "tuple") && decide (its.size = 0)
  | _ => false
theorem emB_ok {a : Addr} (h : emB K a = true) : ∃ (ed : Option Addr) (en : Nat) (esl : Array (Option Value)), K.lookup a = some ⟨.type "tuple", ed, .seq #[] en, esl⟩ := by
  unfold emB at h
  cases q : K.lookup a with
  | none => rw [q] at h; cases h
  | some o =>
    obtain ⟨oc, od, dt, osl⟩ := o
    rw [q] at h
    cases oc with
    | type c =>
      cases dt with
      | seq its n =>
        obtain ⟨h1, h2⟩ := He.ba (show (decide (c = "tuple") && decide (its.size = 0)) = true from h)
        cases of_decide_eq_true h1
        cases Array.eq_empty_of_size_eq_zero (of_decide_eq_true h2)
        exact ⟨od, n, osl, rfl⟩
      | _ => cases h
    | _ => cases dt <;> cases h
/-- a law's end over facts -/
theorem walk_GE {l : PySem.W.OpenLaw} {n k : Nat} {q : Program} {loose : List Str} {XP : (Str → Option Value) → Heap → Prop} {YP : World → Heap → Prop} {d : DefRec} {sp : PySem.W.Frag → Sp} {x : Str} (hn : l.most = some n) (hn2 : n ≤ sizeLine) (hdf : d.params.defaults = [])
    (hr : Room k callerA) (F : ∀ (w : World) (mg : Str → Option Value) (fa : Addr) (h : Heap), YP w h → h.Ns mainGlobals mg → mg d.name = some (.ref fa) → ∃ (K : PySem.W.Frag) (fd : FuncData), K.In h ∧
      (∀ (s : Shared) (u : Value), BindsTo s fd ⟨[u], []⟩ [(x, u)]) ∧ ∀ base : Heap, K.In base → base.Ns mainGlobals mg → FnG l.prog w K mg base CX0 k fa fd [x] (sp K))
    (hsp : ∀ (K : PySem.W.Frag) (H : Hp) (a : Addr) (ns : List Int), ns.length ≤ n → (∀ z ∈ ns, Builtin.Int.intBits z ≤ 1048576) → SqL K H a (ns.map V.int) → sp K [.ref a] H (fun v _ => v = .bl true) fun _ _ _ => False) : PySem.W.WalkO q loose XP YP l.row.toRowW d [] (fun f vs => PySem.call f vs) := by
  apply Att.attach_callB hn hdf
  intro w s0 s mg mb fa o pm cd doc a vs ns G Y ho hd hcd hmg hobj hints hlen hbits hgens
  have ⟨K, fd, KX, bind, hF⟩ := F w mg fa _ Y G.T.g hmg
  have rv := vals_ints hints
  have hz : (ns.map V.int).length ≤ sizeLine := by rw [List.length_map]; exact Nat.le_trans hlen hn2
  have KB := scrH_in (K := K) (a := a) (vs := vs) (xs := ns.map V.int) KX
  have NS := fun b m (z : s.heap.Ns b m) => scrH_ns (K := K) (xs := ns.map V.int) hobj z
  have hok := scrH_ok (P := l.prog) (w := w) (K := K) hobj rv hz
  have ⟨mc, l1, l2⟩ := G.T.nolimit
  have env : Env0 l.prog w K mg (hidT s.heap (scrH K a vs (ns.map V.int))) callerA [] s (scrH K a vs (ns.map V.int)) :=
    ⟨rfl, ⟨KB, NS _ _ G.T.g, ⟨mb, NS _ _ G.T.b, G.T.builtins⟩, ⟨mc, NS _ _ l1, l2⟩⟩, fun b o e => of_hidT e, Nat.le_of_eq (hidT_size _ _), trivial, nofun, hok, .of_eq hgens⟩
  refine codeAny_mono ((hF _ KB (NS _ _ G.T.g)).run callerA [] s _ ⟨[.ref a], []⟩ [.ref a] [.ref a] _ _ rfl hr env (bind _ _) (.cons rfl .nil) (hsp _ _ a ns hlen hbits (scrH_sq KX hobj rv hz))) ?_
  intro r s1 h
  match r, h with
  | .ok (.ret u), h =>
    have ⟨v, H1, os, bare, un, hok1, ru, ev⟩ := h
    have e1 : v = .bl true := ev
    subst e1
    cases (show u = Value.bool true from ru)
    refine ⟨rfl, .of_keep fun b ob e => ?_, os, bare⟩
    cases z : scrH K a vs (ns.map V.int) b with
    | none => exact un.keep b ob e z nofun nofun
    | some y =>
      have hy := scrH_some z
      rw [hy.2.2] at z
      have now := (hok1 b _ (un.frzs b _ _ z)).1
      rw [hy.1, hobj] at e
      cases e
      exact now
end
/-! ### facts -/
def ns0 : List PySem.Str := ["_wall", "__name__", "OpenError", "BadNames", "TooMany", "BadSetting", "NoSign", "BadClause", "Clash", "UnlikeSigns", "LETTERS", "is_list", "is_name", "checked_names", "name_of", "opposite", "is_literal", "first_wrong", "ascending", "full_settings"]
def ns1 : List PySem.Str := ["literals_of", "MOST_SIGNS", "Rule", "checked_settings", "forced_literals", "open_ones", "chase", "filled", "checked_clauses", "Code", "are_same", "new_names", "Copy", "either", "_law_draw", "_law_pick", "_law_mixed", "_law_fresh", "_law_names", "_law_neg"]
def ns2 : List PySem.Str := ["_law_bare", "_law_up", "_law_fulls", "_law_halves", "_law_meets", "_law_forced", "_law_within", "_law_shortest", "_law_chase", "_law_once", "_law_made", "_law_parted", "_law_open", "_law_goes", "_law_dead_code", "_law_sight", "_law_renamed", "_law_sized", "_law_same_helpers", "_law_refused"]
def ns : List PySem.Str := ns0 ++ ns1 ++ ns2
def fa0 : List He.Fa := [.glo "Code", .cls "Code", .mkr "Code", .glo "Copy", .cls "Copy", .mkr "Copy", .glo "name_of", .glo "opposite", .glo "is_list", .glo "is_literal", .glo "first_wrong", .glo "ascending", .glo "is_name", .glo "checked_names", .glo "checked_clauses", .glo "are_same", .glo "literals_of", .glo "new_names", .glo "either", .glo "_law_draw"]
def fa1 : List He.Fa := [.glo "_law_pick", .glo "_law_mixed", .glo "_law_fresh", .glo "_law_names", .glo "_law_neg", .glo "_law_bare", .glo "_law_up", .glo "_law_fulls", .glo "_law_halves", .glo "_law_meets", .glo "_law_forced", .glo "_law_within", .glo "_law_shortest", .glo "_law_chase", .glo "_law_once", .glo "_law_made", .glo "_law_parted", .glo "_law_open", .glo "_law_goes", .glo "_law_dead_code"]
def fa2 : List He.Fa := [.glo "_law_sight", .glo "_law_renamed", .glo "_law_same_helpers", .glo "_law_sized", .glo "_law_refused", .glo "law", .meth "Code" "__init__", .meth "Code" "signs", .meth "Code" "helpers", .meth "Code" "clauses", .meth "Code" "__len__", .meth "Code" "__contains__", .meth "Code" "__eq__", .meth "Copy" "__init__", .meth "Copy" "drawing", .meth "Copy" "helpers", .noat "Code" "sign_row", .noat "Code" "helper_row", .noat "Code" "names", .noat "Code" "clause_row"]
def fa3 : List He.Fa := [.noat "Copy" "out", .noat "Copy" "denied", .noat "Copy" "laid", .exm "UnlikeSigns" "UnlikeSigns" true, .free "len", .free "tuple", .free "list", .free "str", .free "int", .free "all", .free "any", .free "isinstance", .free "enumerate", .free "range", .free "repr", .free "bool", .free "dict", .free "sum", .free "zip", .str "LETTERS" My.g_LETTERS]
def fa : List He.Fa := fa0 ++ fa1 ++ fa2 ++ fa3
def fn0 : List He.DefD := [⟨("name_of", none), "name_of", "name_of", L2.defArgs My.s_name_of, L2.defBody My.s_name_of, L2.defScope My.s_name_of, [], []⟩, ⟨("opposite", none), "opposite", "opposite", L2.defArgs My.s_opposite, L2.defBody My.s_opposite, L2.defScope My.s_opposite, [], []⟩, ⟨("is_list", none), "is_list", "is_list", L2.defArgs My.s_is_list, L2.defBody My.s_is_list, L2.defScope My.s_is_list, [], []⟩, ⟨("is_literal", none), "is_literal", "is_literal", L2.defArgs My.s_is_literal, L2.defBody My.s_is_literal, L2.defScope My.s_is_literal, [], []⟩, ⟨("first_wrong", none), "first_wrong", "first_wrong", L2.defArgs My.s_first_wrong, L2.defBody My.s_first_wrong, L2.defScope My.s_first_wrong, [], []⟩, ⟨("ascending", none), "ascending", "ascending", L2.defArgs My.s_ascending, L2.defBody My.s_ascending, L2.defScope My.s_ascending, [], []⟩, ⟨("is_name", none), "is_name", "is_name", L2.defArgs My.s_is_name, L2.defBody My.s_is_name, L2.defScope My.s_is_name, [], []⟩, ⟨("checked_names", none), "checked_names", "checked_names", L2.defArgs My.s_checked_names, L2.defBody My.s_checked_names, L2.defScope My.s_checked_names, [], []⟩, ⟨("checked_clauses", none), "checked_clauses", "checked_clauses", L2.defArgs My.s_checked_clauses, L2.defBody My.s_checked_clauses, L2.defScope My.s_checked_clauses, [], []⟩, ⟨("are_same", none), "are_same", "are_same", L2.defArgs My.s_are_same, L2.defBody My.s_are_same, L2.defScope My.s_are_same, [], []⟩]
def fn1 : List He.DefD := [⟨("literals_of", none), "literals_of", "literals_of", L2.defArgs My.s_literals_of, L2.defBody My.s_literals_of, L2.defScope My.s_literals_of, [], []⟩, ⟨("new_names", none), "new_names", "new_names", L2.defArgs My.s_new_names, L2.defBody My.s_new_names, L2.defScope My.s_new_names, [], []⟩, ⟨("either", none), "either", "either", L2.defArgs My.s_either, L2.defBody My.s_either, L2.defScope My.s_either, [], []⟩, ⟨("_law_draw", none), "_law_draw", "_law_draw", L2.defArgs My.s__law_draw, L2.defBody My.s__law_draw, L2.defScope My.s__law_draw, [], []⟩, ⟨("_law_pick", none), "_law_pick", "_law_pick", L2.defArgs My.s__law_pick, L2.defBody My.s__law_pick, L2.defScope My.s__law_pick, [], []⟩, ⟨("_law_mixed", none), "_law_mixed", "_law_mixed", L2.defArgs My.s__law_mixed, L2.defBody My.s__law_mixed, L2.defScope My.s__law_mixed, [], []⟩, ⟨("_law_fresh", none), "_law_fresh", "_law_fresh", L2.defArgs My.s__law_fresh, L2.defBody My.s__law_fresh, L2.defScope My.s__law_fresh, [], []⟩, ⟨("_law_names", none), "_law_names", "_law_names", L2.defArgs My.s__law_names, L2.defBody My.s__law_names, L2.defScope My.s__law_names, [], []⟩, ⟨("_law_neg", none), "_law_neg", "_law_neg", L2.defArgs My.s__law_neg, L2.defBody My.s__law_neg, L2.defScope My.s__law_neg, [], []⟩, ⟨("_law_bare", none), "_law_bare", "_law_bare", L2.defArgs My.s__law_bare, L2.defBody My.s__law_bare, L2.defScope My.s__law_bare, [], []⟩]
def fn2 : List He.DefD := [⟨("_law_up", none), "_law_up", "_law_up", L2.defArgs My.s__law_up, L2.defBody My.s__law_up, L2.defScope My.s__law_up, [], []⟩, ⟨("_law_fulls", none), "_law_fulls", "_law_fulls", L2.defArgs My.s__law_fulls, L2.defBody My.s__law_fulls, L2.defScope My.s__law_fulls, [], []⟩, ⟨("_law_halves", none), "_law_halves", "_law_halves", L2.defArgs My.s__law_halves, L2.defBody My.s__law_halves, L2.defScope My.s__law_halves, [], []⟩, ⟨("_law_meets", none), "_law_meets", "_law_meets", L2.defArgs My.s__law_meets, L2.defBody My.s__law_meets, L2.defScope My.s__law_meets, [], []⟩, ⟨("_law_forced", none), "_law_forced", "_law_forced", L2.defArgs My.s__law_forced, L2.defBody My.s__law_forced, L2.defScope My.s__law_forced, [], []⟩, ⟨("_law_within", none), "_law_within", "_law_within", L2.defArgs My.s__law_within, L2.defBody My.s__law_within, L2.defScope My.s__law_within, [], []⟩, ⟨("_law_shortest", none), "_law_shortest", "_law_shortest", L2.defArgs My.s__law_shortest, L2.defBody My.s__law_shortest, L2.defScope My.s__law_shortest, [], []⟩, ⟨("_law_chase", none), "_law_chase", "_law_chase", L2.defArgs My.s__law_chase, L2.defBody My.s__law_chase, L2.defScope My.s__law_chase, [], []⟩, ⟨("_law_once", none), "_law_once", "_law_once", L2.defArgs My.s__law_once, L2.defBody My.s__law_once, L2.defScope My.s__law_once, [], []⟩, ⟨("_law_made", none), "_law_made", "_law_made", L2.defArgs My.s__law_made, L2.defBody My.s__law_made, L2.defScope My.s__law_made, [], []⟩]
def fn3 : List He.DefD := [⟨("_law_parted", none), "_law_parted", "_law_parted", L2.defArgs My.s__law_parted, L2.defBody My.s__law_parted, L2.defScope My.s__law_parted, [], []⟩, ⟨("_law_open", none), "_law_open", "_law_open", L2.defArgs My.s__law_open, L2.defBody My.s__law_open, L2.defScope My.s__law_open, [], []⟩, ⟨("_law_goes", none), "_law_goes", "_law_goes", L2.defArgs My.s__law_goes, L2.defBody My.s__law_goes, L2.defScope My.s__law_goes, [], []⟩, ⟨("_law_dead_code", none), "_law_dead_code", "_law_dead_code", L2.defArgs My.s__law_dead_code, L2.defBody My.s__law_dead_code, L2.defScope My.s__law_dead_code, [], []⟩, ⟨("_law_sight", none), "_law_sight", "_law_sight", L2.defArgs My.s__law_sight, L2.defBody My.s__law_sight, L2.defScope My.s__law_sight, [], []⟩, ⟨("_law_renamed", none), "_law_renamed", "_law_renamed", L2.defArgs My.s__law_renamed, L2.defBody My.s__law_renamed, L2.defScope My.s__law_renamed, [], []⟩, ⟨("_law_same_helpers", none), "_law_same_helpers", "_law_same_helpers", L2.defArgs My.s__law_same_helpers, L2.defBody My.s__law_same_helpers, L2.defScope My.s__law_same_helpers, [], []⟩, ⟨("_law_sized", none), "_law_sized", "_law_sized", L2.defArgs My.s__law_sized, L2.defBody My.s__law_sized, L2.defScope My.s__law_sized, [], []⟩, ⟨("_law_refused", none), "_law_refused", "_law_refused", L2.defArgs My.s__law_refused, L2.defBody My.s__law_refused, L2.defScope My.s__law_refused, [], []⟩, ⟨("law", none), "law", "law", L2.defArgs My.s_law, L2.defBody My.s_law, L2.defScope My.s_law, [], []⟩]
def fn4 : List He.DefD := [⟨("Code", some "__init__"), "__init__", "Code.__init__", L2.defArgs My.s_Code_init, L2.defBody My.s_Code_init, L2.defScope My.s_Code_init, [.adr Hq.e0], []⟩, ⟨("Code", some "signs"), "signs", "Code.signs", L2.defArgs My.s_Code_signs, L2.defBody My.s_Code_signs, L2.defScope My.s_Code_signs, [], []⟩, ⟨("Code", some "helpers"), "helpers", "Code.helpers", L2.defArgs My.s_Code_helpers, L2.defBody My.s_Code_helpers, L2.defScope My.s_Code_helpers, [], []⟩, ⟨("Code", some "clauses"), "clauses", "Code.clauses", L2.defArgs My.s_Code_clauses, L2.defBody My.s_Code_clauses, L2.defScope My.s_Code_clauses, [], []⟩, ⟨("Code", some "__len__"), "__len__", "Code.__len__", L2.defArgs My.s_Code_len, L2.defBody My.s_Code_len, L2.defScope My.s_Code_len, [], []⟩, ⟨("Code", some "__contains__"), "__contains__", "Code.__contains__", L2.defArgs My.s_Code_contains, L2.defBody My.s_Code_contains, L2.defScope My.s_Code_contains, [], []⟩, ⟨("Code", some "__eq__"), "__eq__", "Code.__eq__", L2.defArgs My.s_Code_eq, L2.defBody My.s_Code_eq, L2.defScope My.s_Code_eq, [], []⟩, ⟨("Copy", some "__init__"), "__init__", "Copy.__init__", L2.defArgs My.s_Copy_init, L2.defBody My.s_Copy_init, L2.defScope My.s_Copy_init, [], []⟩, ⟨("Copy", some "drawing"), "drawing", "Copy.drawing", L2.defArgs My.s_Copy_drawing, L2.defBody My.s_Copy_drawing, L2.defScope My.s_Copy_drawing, [], []⟩, ⟨("Copy", some "helpers"), "helpers", "Copy.helpers", L2.defArgs My.s_Copy_helpers, L2.defBody My.s_Copy_helpers, L2.defScope My.s_Copy_helpers, [], []⟩]
def fn : List He.DefD := fn0 ++ fn1 ++ fn2 ++ fn3 ++ fn4
abbrev R : PySem.W.OpenRow := PySem.W.OpenLaw.row PySem.Challenge.rw_lastopen_k58_either_told
def fx (K : PySem.W.Frag) : Bool := (decide (PySem.W.findIn K (.ref (He.ga K "Code")) "__ne__" = some (some (.builtin "object.__ne__")))) && ((decide (PySem.W.subIn K (.ref (He.ga K "Code")) (.type "object") = some true)) && ((decide (PySem.W.findIn K (.ref (He.ga K "Code")) "__class__" = some (some (.builtin "object.__class__")))) && ((decide (PySem.W.specialIn K (.builtin "object.__class__") "__get__" = some (some (.builtin "getset_descriptor.__get__")))) && ((decide (PySem.W.takesIn K (.builtin "object.__class__") = some true)) && ((decide (PySem.W.mroIn K (He.ga K "Code") (.type "object") = some true)) && ((Hq.emB K (Hq.e0 K)) && (((He.Fa.glo "UnlikeSigns").ok K) && ((PySem.W.keepIn K (.ref (He.ga K "UnlikeSigns"))) && ((PySem.W.excIn K (He.ga K "UnlikeSigns") PySem.HandSPX.veTail "ValueError.__new__") && ((decide (PySem.W.subIn K (.ref (He.ga K "UnlikeSigns")) (.type "BaseException") = some true)) && ((decide (PySem.W.typeIn K (.ref (He.ga K "UnlikeSigns")) = some (.type "type"))) && (true))))))))))))
/-- what an object names, once each -/
def refs (o : Obj) : List Addr := match o.data with
  | .seq its _ => its.toList.flatMap He.refV
  | .dict es _ => es.toList.flatMap fun e => He.refV e.val
  | .func fd => He.refV fd.code ++ He.refV fd.defaults
  | .cls cd => [cd.ns]
  | _ => []
def lay (g : Addr → Option Obj) : Nat → List Addr → List Addr
  | 0, l => l
  | n + 1, l => l ++ lay g n (l.flatMap fun a => match g a with
    | some o => refs o
    | none => [])
def obK (K : PySem.W.Frag) : Bool × He.AlD := (fx K, He.obsD fa fn K)
def obX (g : Addr → Option Obj) : Bool × He.AlD := obK (He.frG g (lay g 5 [mainGlobals]))
def hk : PySem.W.Hook where
  α := Bool × He.AlD
  obs := fun s => obX s.heap.get?
  val := fun _ => (true, He.valD fn)
  says := fun _ h => ∃ K : PySem.W.Frag, K.In h ∧ He.SaysD fa fn K ∧ fx K = true
  of := fun _ _ e => ⟨_, He.frG_in, congrArg Prod.snd e, congrArg Prod.fst e⟩
  keeps := fun _ _ _ ⟨K, hK, c⟩ k => ⟨K, PySem.W.Frag.In.keeps hK k, c⟩
def ob (s : PySem.W.SharedT) : Bool × He.AlD := obX (HandSHeadRun.getT s)
theorem ob_eq (s : PySem.W.SharedT) : ob s = hk.obs s.abs := by
  have e : HandSHeadRun.getT s = s.abs.heap.get? := funext (HandSHeadRun.getT_eq s)
  unfold ob
  rw [e] <;> rfl
theorem run (w : World) : HandSHeadRun.RunEq R (PySem.W.view R.prog [66]) hk ob 40000 ns w := by
  intro os
  kernel_rfl
theorem facts {l : PySem.W.OpenLaw} {w : World} {K : PySem.W.Frag} {h : Heap} {mg : Str → Option Value} {f : Addr} (X : K.In h) (G : h.Ns mainGlobals mg) (hfa : mg ("law" : Str) = some (.ref f)) (c : He.SaysD fa fn K) (cx : fx K = true) :
    ∃ fd : FuncData, (∀ (s : Shared) (v : Value), BindsTo s fd ⟨[v], []⟩ [("_law_script", v)]) ∧ ∀ base : Heap, K.In base → base.Ns mainGlobals mg → FnG (l).prog w K mg base CX0 30 f fd ["_law_script"] (My.sp_law K) := by
  obtain ⟨x0, cx⟩ := He.ba cx
  obtain ⟨x1, cx⟩ := He.ba cx
  obtain ⟨x2, cx⟩ := He.ba cx
  obtain ⟨x3, cx⟩ := He.ba cx
  obtain ⟨x4, cx⟩ := He.ba cx
  obtain ⟨x5, cx⟩ := He.ba cx
  obtain ⟨x6, cx⟩ := He.ba cx
  obtain ⟨x7, cx⟩ := He.ba cx
  obtain ⟨x8, cx⟩ := He.ba cx
  obtain ⟨x9, cx⟩ := He.ba cx
  obtain ⟨x10, cx⟩ := He.ba cx
  obtain ⟨x11, cx⟩ := He.ba cx
  obtain ⟨ed, en, esl, lE⟩ := Hq.emB_ok x6
  obtain ⟨lt, lL⟩ := Hq.ns_str (c.fact 79)
  exact My.all_mk (l := l) X G hfa (Hq.atc_of (c.fact 0) (c.fact 1) (c.fact 2)) (Hq.atc_of (c.fact 3) (c.fact 4) (c.fact 5)) (Hq.at1_of (c.fact 6) (c.def_ 0)) (Hq.at1_of (c.fact 7) (c.def_ 1)) (Hq.at1_of (c.fact 8) (c.def_ 2)) (Hq.at1_of (c.fact 9) (c.def_ 3)) (Hq.at1_of (c.fact 10) (c.def_ 4)) (Hq.at1_of (c.fact 11) (c.def_ 5)) (Hq.at1_of (c.fact 12) (c.def_ 6)) (Hq.at1_of (c.fact 13) (c.def_ 7)) (Hq.at1_of (c.fact 14) (c.def_ 8)) (Hq.at1_of (c.fact 15) (c.def_ 9)) (Hq.at1_of (c.fact 16) (c.def_ 10)) (Hq.at1_of (c.fact 17) (c.def_ 11)) (Hq.at1_of (c.fact 18) (c.def_ 12)) (Hq.at1_of (c.fact 19) (c.def_ 13)) (Hq.at1_of (c.fact 20) (c.def_ 14)) (Hq.at1_of (c.fact 21) (c.def_ 15)) (Hq.at1_of (c.fact 22) (c.def_ 16)) (Hq.at1_of (c.fact 23) (c.def_ 17)) (Hq.at1_of (c.fact 24) (c.def_ 18)) (Hq.at1_of (c.fact 25) (c.def_ 19)) (Hq.at1_of (c.fact 26) (c.def_ 20)) (Hq.at1_of (c.fact 27) (c.def_ 21)) (Hq.at1_of (c.fact 28) (c.def_ 22)) (Hq.at1_of (c.fact 29) (c.def_ 23)) (Hq.at1_of (c.fact 30) (c.def_ 24)) (Hq.at1_of (c.fact 31) (c.def_ 25)) (Hq.at1_of (c.fact 32) (c.def_ 26)) (Hq.at1_of (c.fact 33) (c.def_ 27)) (Hq.at1_of (c.fact 34) (c.def_ 28)) (Hq.at1_of (c.fact 35) (c.def_ 29)) (Hq.at1_of (c.fact 36) (c.def_ 30)) (Hq.at1_of (c.fact 37) (c.def_ 31)) (Hq.at1_of (c.fact 38) (c.def_ 32)) (Hq.at1_of (c.fact 39) (c.def_ 33)) (Hq.at1_of (c.fact 40) (c.def_ 34)) (Hq.at1_of (c.fact 41) (c.def_ 35)) (Hq.at1_of (c.fact 42) (c.def_ 36)) (Hq.at1_of (c.fact 43) (c.def_ 37)) (Hq.at1_of (c.fact 44) (c.def_ 38)) (Hq.at1_of (c.fact 45) (c.def_ 39)) (Hq.ate_of (c.fact 46) (c.def_ 40)) (Hq.atm_of (c.fact 47) (c.def_ 41)) (Hq.atm_of (c.fact 48) (c.def_ 42)) (Hq.atm_of (c.fact 49) (c.def_ 43)) (Hq.atm_of (c.fact 50) (c.def_ 44)) (Hq.atm_of (c.fact 51) (c.def_ 45)) (Hq.atm_of (c.fact 52) (c.def_ 46)) (Hq.atm_of (c.fact 53) (c.def_ 47)) (Hq.atm_of (c.fact 54) (c.def_ 48)) (Hq.atm_of (c.fact 55) (c.def_ 49)) (He.noat_ok (c.fact 56)) (He.noat_ok (c.fact 57)) (He.noat_ok (c.fact 58)) (He.noat_ok (c.fact 59)) (He.noat_ok (c.fact 60)) (He.noat_ok (c.fact 61)) (He.noat_ok (c.fact 62)) (of_decide_eq_true x0) (of_decide_eq_true x1) (of_decide_eq_true x2) (of_decide_eq_true x3) (of_decide_eq_true x4) (of_decide_eq_true x5) lE lL x7 x8 x9 (of_decide_eq_true x10) (of_decide_eq_true x11) (He.exm_ok (c.fact 63)) (Hq.ns_none (c.fact 64)) (Hq.ns_none (c.fact 65)) (Hq.ns_none (c.fact 66)) (Hq.ns_none (c.fact 67)) (Hq.ns_none (c.fact 68)) (Hq.ns_none (c.fact 69)) (Hq.ns_none (c.fact 70)) (Hq.ns_none (c.fact 71)) (Hq.ns_none (c.fact 72)) (Hq.ns_none (c.fact 73)) (Hq.ns_none (c.fact 74)) (Hq.ns_none (c.fact 75)) (Hq.ns_none (c.fact 76)) (Hq.ns_none (c.fact 77)) (Hq.ns_none (c.fact 78))
end Hq
open PySem PySem.W PySem.Calls PyProof.Rows
theorem PySem.Challenge.cw_lastopen_k58_either_told_holds : PySem.Challenge.rw_lastopen_k58_either_told.Holds := by
  w_on; o_law
  refine HandSHeadRun.head_any (r := OpenLaw.row PySem.Challenge.rw_lastopen_k58_either_told) (q := view (OpenLaw.row PySem.Challenge.rw_lastopen_k58_either_told).prog [66]) (H := Hq.hk) (ob := Hq.ob) (M := 40000) (loose := Hq.ns) (d := HandSHeadRun.topDef (OpenLaw.row PySem.Challenge.rw_lastopen_k58_either_told).prog 66) (kwd := []) Hq.ob_eq
    (by kernel_rfl) (fun s => by kernel_rfl) Hq.run (by kernel_rfl) (by kernel_rfl) (by kernel_rfl) (by rfl) (by first | assumption | decide +kernel) (by decide +kernel) ⟨rfl, rfl, rfl, rfl, rfl, by decide +kernel⟩ ?hw ?hc
  case hw => w_witness2
  case hc =>
    refine Hq.walk_GE (n := 63) (k := 30) (x := "_law_script") (sp := My.sp_law) (l := PySem.Challenge.rw_lastopen_k58_either_told) rfl (by decide) (by kernel_rfl) ⟨rfl, by decide, by decide⟩ ?F ?S
    case S => exact fun K H a ns hl hb hs => ⟨ns, H, .ref a, rfl, L2.Same.refl H, .inl ⟨a, _, rfl, hs, L3.pd_of_it ns⟩, fun _ => rfl⟩
    case F =>
      intro w mg fa h Y G hmg0
      obtain ⟨K, KX, c, cx⟩ := Y
      have hmg : mg ("law" : PySem.Str) = some (.ref fa) := by
        have e : (HandSHeadRun.topDef (OpenLaw.row PySem.Challenge.rw_lastopen_k58_either_told).prog 66).name = ("law" : PySem.Str) := by kernel_rfl
        rw [← e]
        exact hmg0
      obtain ⟨fd, hb, hF⟩ := Hq.facts (l := PySem.Challenge.rw_lastopen_k58_either_told) (w := w) KX G hmg c cx
      exact ⟨K, fd, KX, hb, hF⟩

