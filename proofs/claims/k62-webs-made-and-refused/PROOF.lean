import PyProof.Rows.All
import Wide.All
import OpenK.AllK
import Wide.FinOn
import HandS.ForMost
import HandS.Deep
import HandS.IsInst
import HandS.Conv
import HandS.DictComp
import HandS.EndBits
import HandS.Wide
import HandS.Flow
import KE.DataEq
import HandS.TupAny
import HandS.Walk
import KE.GoesEnum
import KE.KDictSum
import HandS.Defaults
import HandS.Style
import HandS.SlotsOwn
import HandS.Star
import HandS.OwnEq
import KE.DataFind
import HandS.More
import HandS.Text
import HandS.Strs
import KE.KSuper
import KE.KExcSuper
import KE.KExcMake
import HandS.Base
import HandS.Call
import HandS.Exc
import HandS.ExcInit
import HandS.Nested
import HandS.WordsExc
import HandS.ExcField
import HandS.TryMany
import HandS.TryOnly
import HandS.Words
import HandS.HeadHook1
import HandS.HeadHook2
import HandS.Lambda
import KE.KNestM
import HandS.HotCalls
import PySem.Challenge.RW_lastopen_k62_webs_made_and_refused
import HandS.Codes
import PyProof.EqKinds
import PyProof.FactsAll.dict_1
import PyProof.FactsAll.subtypes_3
import PyProof.FactsAll.subtypes_4
import OpenK.KMeth
import PyProof.SliceList
import KE.KRevSl
import KE.KOpsOwn
import PyProof.DictValues
import KE.GoesMore
import HandS.TupLen
import HandS.Head0
import HandS.Head1
import HandS.Head2
import HandS.HeadHook4
set_option Elab.async false
set_option linter.all false
set_option maxRecDepth 100000
set_option maxHeartbeats 1000000
namespace L3
open PySem L2

/-! the ghost part M of the heap: what never changes from here on -/
structure Gr (M H M' H' : Hp) : Prop where
  mm : Same M M'
  hh : Same H H'
  mh : Same M' H'
  nw : ∀ a o, M' a = some o → M a = some o ∨ H a = none ∨ ∃ xs, o = HO.tup xs
  nt : ∀ a ps, M' a = some (.tbl ps) → M a = some (.tbl ps)
theorem same_new {H : Hp} {p : Addr} {o : HO} (h : H p = none) : Same H (upd H p o) := fun b u e => by
  rw [upd_ne (ne_of_none e h)]; exact e
theorem same_mut {M H : Hp} {p : Addr} {o : HO} (e : Same M H) (h : M p = none) : Same M (upd H p o) := fun b u q => by
  rw [upd_ne (ne_of_none q h)]; exact e b u q
theorem Gr.refl {M H : Hp} (mh : Same M H) : Gr M H M H := ⟨Same.refl M, Same.refl H, mh, fun _ _ e => .inl e, fun _ _ e => e⟩
theorem Gr.trans {M H M1 H1 M2 H2 : Hp} (a : Gr M H M1 H1) (b : Gr M1 H1 M2 H2) : Gr M H M2 H2 :=
  ⟨a.mm.trans b.mm, a.hh.trans b.hh, b.mh, fun x o e => by
    rcases b.nw x o e with h | h | h
    · exact a.nw x o h
    · exact .inr (.inl (a.hh.free h))
    · exact .inr (.inr h), fun x ps e => a.nt x ps (b.nt x ps e)⟩
theorem upd_nt {M : Hp} {p : Addr} {o : HO} (hn : ∀ ps, o ≠ HO.tbl ps) (a : Addr) (ps : Array Value) (e : upd M p o a = some (.tbl ps)) : M a = some (.tbl ps) := by
  by_cases h : a = p
  · subst h; rw [upd_same] at e; exact absurd (Option.some.inj e) (hn ps)
  · rw [upd_ne h] at e; exact e
/-- a new object that is known from now on; one that may still change -/
theorem Gr.new {M H : Hp} {p : Addr} {o : HO} (mh : Same M H) (hp : H p = none) (hn : ∀ ps, o ≠ HO.tbl ps := by intro _ z; cases z) : Gr M H (upd M p o) (upd H p o) := by
  refine ⟨same_new (mh.free hp), same_new hp, fun b u e => ?_, fun b u e => ?_, upd_nt hn⟩
  · by_cases hb : b = p
    · subst hb; rw [upd_same] at e ⊢; exact e
    · rw [upd_ne hb] at e ⊢; exact mh b u e
  · by_cases hb : b = p
    · subst hb; exact .inr (.inl hp)
    · rw [upd_ne hb] at e; exact .inl e
theorem Gr.own {M H : Hp} {p : Addr} {o : HO} (mh : Same M H) (hp : H p = none) : Gr M H M (upd H p o) :=
  ⟨Same.refl M, same_new hp, same_mut mh (mh.free hp), fun _ _ e => .inl e, fun _ _ e => e⟩
/-- an object of ours changes -/
theorem Gr.mut {M0 H0 M H : Hp} {p : Addr} {o : HO} (g : Gr M0 H0 M H) (h0 : H0 p = none) (hm : M p = none) : Gr M0 H0 M (upd H p o) :=
  ⟨g.mm, same_mut g.hh h0, same_mut g.mh hm, g.nw, g.nt⟩
/-- an object of ours is known from now on -/
theorem Gr.freeze {M0 H0 M H : Hp} {p : Addr} {o : HO} (g : Gr M0 H0 M H) (h0 : H0 p = none) (hm : M p = none) (hp : H p = some o) (hn : ∀ ps, o ≠ HO.tbl ps := by intro _ z; cases z) : Gr M0 H0 (upd M p o) H := by
  refine ⟨g.mm.trans (same_new hm), g.hh, fun b u e => ?_, fun b u e => ?_, fun b ps e => g.nt b ps (upd_nt hn b ps e)⟩
  · by_cases hb : b = p
    · subst hb; rw [upd_same] at e; rw [hp]; exact e
    · rw [upd_ne hb] at e; exact g.mh b u e
  · by_cases hb : b = p
    · subst hb; exact .inr (.inl h0)
    · rw [upd_ne hb] at e; exact g.nw b u e
theorem Gr.keep {M H M' H' : Hp} {p : Addr} {o : HO} (g : Gr M H M' H') (hm : M p = none) (hp : H p = some o) (hn : ∀ xs, o ≠ HO.tup xs := by intro _ z; cases z) : M' p = none := by
  cases e : M' p with
  | none => rfl
  | some u =>
    rcases g.nw p u e with h | h | ⟨xs, h⟩
    · rw [hm] at h; cases h
    · rw [hp] at h; cases h
    · subst h
      have h1 := g.mh p _ e
      rw [g.hh p _ hp] at h1
      exact absurd (Option.some.inj h1) (hn xs)
/-- tuples that stand may be known at any time -/
def withT (M H : Hp) (bs : List Addr) : Hp := fun a => (M a).or (if a ∈ bs then H a else none)
theorem withT_in {M H : Hp} {bs : List Addr} {a : Addr} {o : HO} (mh : Same M H) (ha : a ∈ bs) (h : H a = some o) : withT M H bs a = some o := by
  unfold withT
  cases e : M a with
  | none => rw [if_pos ha]; exact h
  | some u => have := mh a u e; rw [h] at this; cases this; rfl
theorem Gr.tups {M H : Hp} {bs : List Addr} (mh : Same M H) (hb : ∀ b ∈ bs, ∃ xs, H b = some (.tup xs)) : Gr M H (withT M H bs) H := by
  refine ⟨fun a o e => by unfold withT; rw [e]; rfl, Same.refl H, fun a o e => ?_, fun a o e => ?_, fun a ps e => ?_⟩
  · unfold withT at e
    cases q : M a with
    | some u => rw [q] at e; cases e; exact mh a _ q
    | none =>
      rw [q] at e
      by_cases ha : a ∈ bs
      · rw [if_pos ha] at e; exact e
      · rw [if_neg ha] at e; cases e
  · unfold withT at e
    cases q : M a with
    | some u => rw [q] at e; exact .inl e
    | none =>
      rw [q] at e
      by_cases ha : a ∈ bs
      · rw [if_pos ha] at e
        obtain ⟨xs, h⟩ := hb a ha
        have e' : H a = some o := e
        rw [h] at e'
        cases e'
        exact .inr (.inr ⟨xs, rfl⟩)
      · rw [if_neg ha] at e; cases e
  · unfold withT at e
    cases q : M a with
    | some u => rw [q] at e; exact e
    | none =>
      rw [q] at e
      by_cases ha : a ∈ bs
      · rw [if_pos ha] at e
        obtain ⟨xs, h⟩ := hb a ha
        have e' : H a = some (.tbl ps) := e
        rw [h] at e'
        cases e'
      · rw [if_neg ha] at e; cases e
theorem rd_mono {H H' : Hp} {a : Addr} {u : HO} (e : Same H H') (h : Rd H a u) : Rd H' a u := by
  rcases h with h | ⟨o, h⟩
  · exact Or.inl (e a _ h)
  · exact Or.inr ⟨o, e a _ h⟩
theorem sl_mono {K : PySem.W.Frag} {H H' : Hp} {a : Addr} {xs : List V} (e : Same H H') (h : SqL K H a xs) : SqL K H' a xs := by
  rcases h with h | h
  · exact Or.inl (rd_mono e h)
  · exact Or.inr h
theorem st_mono {K : PySem.W.Frag} {H H' : Hp} {a : Addr} {xs : List V} (e : Same H H') (h : SqT K H a xs) : SqT K H' a xs := by
  rcases h with h | h
  · exact Or.inl (rd_mono e h)
  · exact Or.inr h
mutual
theorem dp_mono {K : PySem.W.Frag} {H H' : Hp} (e : Same H H') : ∀ {v : V} {d : PyData}, Dp K H v d → Dp K H' v d
  | _, _, .non => .non
  | _, _, .bl b => .bl b
  | _, _, .int i => .int i
  | _, _, .str x => .str x
  | _, _, .lst hs ha => .lst (sl_mono e hs) (dpa_mono e ha)
  | _, _, .tup hs ha => .tup (st_mono e hs) (dpa_mono e ha)
theorem dpa_mono {K : PySem.W.Frag} {H H' : Hp} (e : Same H H') : ∀ {vs : List V} {ds : List PyData}, DpAll K H vs ds → DpAll K H' vs ds
  | _, _, .nil => .nil
  | _, _, .cons h t => .cons (dp_mono e h) (dpa_mono e t)
end
end L3

set_option Elab.async false
set_option linter.all false
set_option maxRecDepth 100000
set_option maxHeartbeats 1000000
namespace L3
open PySem PySem.Spec PyProof.Rows L2

/-! defs whose text asks repr: no repr is under way around them -/
structure FnG (P : Program) (w : World) (K : PySem.W.Frag) (mg : Str → Option Value) (base : Heap) (CX : CXT) (k : Nat) (f : Addr) (fd : FuncData) (ps : List Str) (sp : Sp) : Prop where
  len (vs : List V) (H : Hp) (Q : VK) (E : XK) : sp vs H Q E → vs.length = ps.length
  run : ∀ (A : Around) (outer : List Env) (s : Shared) (H : Hp) (args : Args) (us : List Value) (vs : List V) (Q : VK) (E : XK), A.guards = some [] → Room k A →
    Env0 P w K mg base A outer s H → BindsTo s fd args (ps.zip us) → Vals vs us → sp vs H Q E → codeAny (model P w) A (.call (.ref f) args) (CR CX outer P w H s Q E) s
section
variable {P : Program} {w : World} {K : PySem.W.Frag} {mg : Str → Option Value} {base : Heap} {CX : CXT} {k : Nat} {f : Addr} {fd : FuncData} {ps : List Str} {sp : Sp}
theorem FnG.of (F : FnOk P w K mg base CX k f fd ps sp) : FnG P w K mg base CX k f fd ps sp :=
  ⟨F.len, fun A outer s H args us vs Q E _ hr he hb hv h => F.run A outer s H args us vs Q E hr he hb hv h⟩
theorem FnG.mono {j : Nat} (F : FnG P w K mg base CX j f fd ps sp) (h : j ≤ k) : FnG P w K mg base CX k f fd ps sp :=
  ⟨F.len, fun A outer s H args us vs Q E hg hr he hb hv hs => F.run A outer s H args us vs Q E hg (hr.mono h) he hb hv hs⟩
end
/-- a def of the text keeps its promise where no repr is under way: its body is walked in the new frame, and each way out of the body is a way out of the call -/
theorem fun_okG {P : Program} {w : World} {K : PySem.W.Frag} {mg : Str → Option Value} {base : Heap} {x qual : Str} {st : Stmt} {f : Addr} {fd : FuncData} {N ps : List Str} {k : Nat} {sp : Sp} (F : Fun K x qual st f fd) (S : FnScope N ps (defScope st))
    (ar : ∀ vs H Q E, sp vs H Q E → vs.length = ps.length) (hb : ∀ (cdv : Value) (A : Around) (outer : List Env) (s : Shared) (H : Hp) (vs : List V) (Q : VK) (E : XK), A.guards = some [] → Room k (A.deeper (envOfC qual (defScope st) s.heap.objs.size f cdv)) → sp vs H Q E →
      ∃ t, PSs (cxOf CX0 P w K mg base N qual (defScope st) f cdv A outer s H E).nox (defBody st) t ∧ t { nx := fun _ H' => Q .non H', rt := Q } (start N vs) H) :
    FnG P w K mg base CX0 (k + 1) f fd ps sp where
  len := ar
  run A outer s H args us vs Q E hgu hr e0 hbi rv hsp := by
    have ⟨c1, c2, c3, c4, c5, c6, cdv, c7, c8, efd, lk, hcd⟩ := F.ex
    subst efd
    have grown : ∀ b o, base.get? b = some o → s.heap.get? b = some o := fun b o e => (e0.bs b o e).1
    have inK := e0.mod.kin.keeps grown
    apply codeAny_call_function hr.depth (inK _ _ lk) rfl S.co S.gen rfl (PySem.W.codeRec_of inK hcd)
    apply hbi
    refine wpAny_newFunctionEnv_cells S.kind (fun ⟨n, v⟩ hy => ?_) fun env he s1 new => ?_
    · rcases S.par n (List.of_mem_zip hy).1 with q | q
      · exact .inl q
      · exact .inr ⟨q, PySem.W.cellsFrom_some _ _ _ (.inl q)⟩
    subst he
    have ⟨t, pt, q⟩ := hb cdv A outer s H vs Q E hgu (hr.deeper _) hsp
    have I0 := inv_start (CX := CX0) (E := E) S hr.hd e0 (ar _ _ _ _ hsp) rv new
    refine ⟨(e0.mod.nolimit.keeps grown).keeps new.toInCall.keep, codeAny_func (wpAny_mono (pt.nox.run [] s1 _ H _ I0 q) ?_ fun _ _ z => z)⟩
    rintro (_ | _ | _ | u) s2 h2
    · have ⟨_, _, J, z⟩ := h2
      exact ⟨V.non, _, J.os, J.bare, J.base, J.hok, rfl, z⟩
    · exact h2.elim fun _ h => h.elim fun _ h => h.2.elim
    · exact h2.elim fun _ h => h.elim fun _ h => h.2.elim
    · have ⟨v, _, _, J, ru, z⟩ := h2
      exact ⟨v, _, J.os, J.bare, J.base, J.hok, ru, z⟩
section
variable {X : Cx} {CX : CXT} {k : Nat} {f C : Addr} {fd : FuncData} {ps : List Str} {sp : Sp} {dvs : List V} {ds : List Value} {E : XK} {x : Str} {p pos : Pos} {e : Expr} {es : List Expr} {t : TA}
theorem run_fnG {pins : List (Addr × Obj)} {σ : L2.St} {H : Hp} {s : Shared} {Q : VK} {us : List Value} {vs : List V} (F : FnG X.prog X.w X.K X.mg X.base CX k f fd ps sp) (hgu : X.A.guards = some []) (hr : Room k X.A) (hb : Binds X.K fd ps ds) (hd : Vals dvs ds) (hx : Passes CX X E) (I : Inv X pins σ H s) (rv : Vals vs us)
    (h : sp (vs ++ dvs) H Q E) : wpAny (model X.prog X.w) X.A (call (.ref f) us) (EP X pins σ Q) X.xe s := by
  have rr := rv.append hd
  have bind := hb s us I.kIn (rr.length ▸ F.len _ _ _ _ h)
  apply wpAny_call
  apply codeAny_mono (F.run X.A X.stack s H ⟨us, []⟩ _ _ Q E hgu hr I.env0 bind rr h)
  rintro (e | fl) s' hq
  · exact hx pins σ H s e s' I hq
  · cases fl with
    | ret u => exact I.after hq
    | _ => exact hq.elim
theorem pe_callG (F : FnG X.prog X.w X.K X.mg X.base CX k f fd ps sp) (hgu : X.A.guards = some []) (hr : Room k X.A) (hg : Gl X x) (hm : X.mg x = some (.ref f)) (hk : PySem.W.keepIn X.K (.ref f) = true) (hb : Binds X.K fd ps ds) (hd : Vals dvs ds) (hx : Passes CX X E)
    (ha : PA X (e :: es) t) (hdb : (x == ("__debug__" : Str)) = false := by decide) (he : starEach (e :: es) X.env = (false, eval e X.env) :: starEach es X.env := by rfl) (hpl : (backTo pos (starEach es X.env)).any (·.1) = false := by rfl) :
    PE X (.Call (.Name x p) (e :: es) [] pos) (tCall sp dvs E t) :=
  ⟨fun pins s σ H Q I h => wpAny_Call_Name_kw (ld_glob I hg hm (PySem.W.callWith_K (h₀ := X.base) I.ok.mod.kin hk
    (thn (ha.run pos pins s σ H _ I h) fun us s1 ⟨vs, H1, I1, r, q⟩ => ⟨I1.kIn, run_fnG F hgu hr hb hd hx I1 r q⟩) he hpl) hdb)⟩

/-! repr of data -/
def rRepr (K : PySem.W.Frag) : List V → Hp → VK → Prop := fun xs H Q => ∃ v d, xs = [v] ∧ Dp K H v d ∧ d.showable = true ∧ d.depth ≤ 64 ∧ d.shown.length ≤ sizeLine ∧ Q (.str d.shown) H
mutual
theorem dp_nodict {K : PySem.W.Frag} {H : Hp} : ∀ {v : V} {d : PyData}, Dp K H v d → d.hasDict = false
  | _, _, .non => by simp only [PyData.hasDict]
  | _, _, .bl b => by simp only [PyData.hasDict]
  | _, _, .int i => by simp only [PyData.hasDict]
  | _, _, .str x => by simp only [PyData.hasDict]
  | _, _, .lst _ ha => by simp only [PyData.hasDict]; exact dpa_nodict ha
  | _, _, .tup _ ha => by simp only [PyData.hasDict]; exact dpa_nodict ha
theorem dpa_nodict {K : PySem.W.Frag} {H : Hp} : ∀ {vs : List V} {ds : List PyData}, DpAll K H vs ds → PyData.hasDictAll ds = false
  | _, _, .nil => by simp only [PyData.hasDictAll]
  | _, _, .cons h t => by simp only [PyData.hasDictAll]; rw [dp_nodict h, dpa_nodict t]; rfl
end
theorem call_repr (hgu : X.A.guards = some []) (hu : X.A.units + 70 < cLine) : CallR X (.builtin "repr") (rRepr X.K) := by
  rintro pins s σ H _ us Q I r ⟨v, d, rfl, hd, hs, hdp, hz, q⟩
  have ⟨u, eu, ru⟩ := vals1 r
  subst eu
  obtain ⟨as, rd⟩ := Dp.reads I d v u hd ru
  have hsm := PyData.noDict_hsm (as := as) (dp_nodict hd)
  have fin : ∀ h' u' tk, (∀ b o, s.heap.get? b = some o → h'.get? b = some o) → EP X pins σ Q (.str d.shown u') { s with heap := h', toks := tk } :=
    fun h' u' tk k => ⟨.str d.shown, H, I.kept k, ⟨_, rfl⟩, q⟩
  cases hd with
  | non =>
    cases ru
    simp only [PyData.shown] at fin
    exact PySem.P.repr_of_none (fin s.heap _ _ fun _ _ e => e)
  | bl b =>
    cases ru
    simp only [PyData.shown] at fin
    exact PySem.P.repr_of_bool (fin s.heap _ _ fun _ _ e => e)
  | int i =>
    obtain ⟨t, rfl⟩ := ru
    simp only [PyData.shown] at fin
    exact PySem.P.repr_of_int (by simpa [PyData.showable] using hs) (fin s.heap _ _ fun _ _ e => e)
  | str x =>
    obtain ⟨t, rfl⟩ := ru
    simp only [PyData.shown] at fin hz
    exact PySem.P.repr_of_str (fin s.heap _ _ fun _ _ e => e) hz
  | lst hl ha =>
    cases ru
    exact repr_of_reads' rd hs hsm hgu (by omega) (fun _ _ e => e) fin hz
  | tup hl ha =>
    cases ru
    exact repr_of_reads' rd hs hsm hgu (by omega) (fun _ _ e => e) fin hz
end
end L3

set_option Elab.async false
set_option linter.all false
set_option maxRecDepth 100000
set_option maxHeartbeats 1000000
namespace L3
open PySem PySem.Spec PyProof.Rows L2

/-! the law's own end, over a promise that knows the guards. The script stands in the written part, or it is the one object that is known at the start -/
def scrO (vs : List Value) : Obj := { cls := .type "list", data := .seq vs.toArray }
def scrH (K : PySem.W.Frag) (a : Addr) (vs : List Value) (xs : List V) : Hp := fun b => if b = a ∧ K.lookup a = none then some (.frz (scrO vs) (.lst xs)) else none
section
variable {K : PySem.W.Frag} {a : Addr} {vs : List Value} {xs : List V} {h : Heap} {P : Program} {w : World}
theorem scrH_some {b : Addr} {u : HO} (e : scrH K a vs xs b = some u) : b = a ∧ K.lookup a = none ∧ u = .frz (scrO vs) (.lst xs) := by
  unfold scrH at e
  split at e
  next c => exact ⟨c.1, c.2, (Option.some.inj e).symm⟩
  next => cases e
theorem scrH_sq (KX : K.In h) (ho : h.get? a = some (scrO vs)) (rv : Vals xs vs) (hz : xs.length ≤ sizeLine) : SqL K (scrH K a vs xs) a xs := by
  cases e : K.lookup a with
  | none => exact .inl (.inr ⟨_, if_pos ⟨rfl, e⟩⟩)
  | some o =>
    cases ho.symm.trans (KX a o e)
    exact .inr ⟨_, vs.toArray, _, e, rfl, rfl, rfl, (by rw [List.size_toArray, ← rv.length]; exact hz), rv⟩
end
end L3

set_option Elab.async false
set_option linter.all false
set_option maxRecDepth 100000
set_option maxHeartbeats 1000000
namespace L3
open PySem PySem.Spec PyProof.Rows L2
abbrev Sl := L2.St

/-! operators by data -/
mutual
theorem dp_plain {K : PySem.W.Frag} {H : Hp} : ∀ {v : V} {d : PyData}, Dp K H v d → d.plain = true
  | _, _, .non => by simp only [PyData.plain]
  | _, _, .bl b => by simp only [PyData.plain]
  | _, _, .int i => by simp only [PyData.plain]
  | _, _, .str x => by simp only [PyData.plain]
  | _, _, .lst _ ha => by simp only [PyData.plain]; exact dpa_plain ha
  | _, _, .tup _ ha => by simp only [PyData.plain]; exact dpa_plain ha
theorem dpa_plain {K : PySem.W.Frag} {H : Hp} : ∀ {vs : List V} {ds : List PyData}, DpAll K H vs ds → PyData.plainAll ds = true
  | _, _, .nil => by simp only [PyData.plainAll]
  | _, _, .cons h t => by simp only [PyData.plainAll]; rw [dp_plain h, dpa_plain t]; rfl
end
/-- a list or a tuple of ds -/
def Sq (K : PySem.W.Frag) (ds : List PyData) (H : Hp) (v : V) : Prop := Dp K H v (.list ds) ∨ Dp K H v (.tuple ds)
theorem Sq.mono {K : PySem.W.Frag} {ds : List PyData} {H H' : Hp} {v : V} (e : Same H H') (h : Sq K ds H v) : Sq K ds H' v := h.imp (dp_mono e) (dp_mono e)
def rEqP (K : PySem.W.Frag) (neg : Bool) : R2 := fun x y H Q => ∃ d e, Dp K H x d ∧ Dp K H y e ∧ d.depth ≤ 60 ∧ Q (.bl (xor neg (PyData.eqv d e))) H
def rInP (K : PySem.W.Frag) (neg : Bool) : R2 := fun x y H Q => ∃ d ds, Dp K H x d ∧ Sq K ds H y ∧ d.depth ≤ 60 ∧ Q (.bl (xor neg (ds.any fun z => PyData.eqv z d))) H
section
variable {X : Cx}
theorem op_eqP (hu : X.A.units + 64 < cLine) : OpR X (compareOp .Eq) (rEqP X.K false) := by
  intro pins s σ H x y v u Q I rx ry ⟨d, e, hd, he, hz, q⟩
  obtain ⟨as, r1⟩ := Dp.reads I d x v hd rx
  obtain ⟨bs, r2⟩ := Dp.reads I e y u he ry
  exact SeqAt.eq_plain r1 r2 (dp_plain hd) (dp_plain he) (by omega) ⟨.bl _, H, I, rfl, by simpa using q⟩
theorem op_neP (hu : X.A.units + 64 < cLine) : OpR X (compareOp .NotEq) (rEqP X.K true) := by
  intro pins s σ H x y v u Q I rx ry ⟨d, e, hd, he, hz, q⟩
  obtain ⟨as, r1⟩ := Dp.reads I d x v hd rx
  obtain ⟨bs, r2⟩ := Dp.reads I e y u he ry
  exact SeqAt.ne_plain r1 r2 (dp_plain hd) (dp_plain he) (by omega) ⟨.bl _, H, I, rfl, by simpa using q⟩
theorem op_inP (hu : X.A.units + 64 < cLine) : OpR X (compareOp .In) (rInP X.K false) := by
  intro pins s σ H x y v u Q I rx ry ⟨d, ds, hd, hs, hz, q⟩
  obtain ⟨as, r1⟩ := Dp.reads I d x v hd rx
  rcases hs with hs | hs
  · obtain ⟨bs, r2⟩ := Dp.reads I _ y u hs ry
    exact SeqAt.in_list_data r2 r1 (by simpa only [PyData.plain] using dp_plain hs) (dp_plain hd) (by omega) ⟨.bl _, H, I, rfl, by simpa using q⟩
  · obtain ⟨bs, r2⟩ := Dp.reads I _ y u hs ry
    exact SeqAt.in_tuple_data r2 r1 (by simpa only [PyData.plain] using dp_plain hs) (dp_plain hd) (by omega) ⟨.bl _, H, I, rfl, by simpa using q⟩
theorem op_notInP (hu : X.A.units + 64 < cLine) : OpR X (compareOp .NotIn) (rInP X.K true) := by
  intro pins s σ H x y v u Q I rx ry ⟨d, ds, hd, hs, hz, q⟩
  obtain ⟨as, r1⟩ := Dp.reads I d x v hd rx
  rcases hs with hs | hs
  · obtain ⟨bs, r2⟩ := Dp.reads I _ y u hs ry
    exact SeqAt.notIn_list_data r2 r1 (by simpa only [PyData.plain] using dp_plain hs) (dp_plain hd) (by omega) ⟨.bl _, H, I, rfl, by simpa using q⟩
  · obtain ⟨bs, r2⟩ := Dp.reads I _ y u hs ry
    exact SeqAt.notIn_tuple_data r2 r1 (by simpa only [PyData.plain] using dp_plain hs) (dp_plain hd) (by omega) ⟨.bl _, H, I, rfl, by simpa using q⟩
/-- two readings of one expression, of one thing walked -/
theorem PE.or {e : Expr} {t u : TE} (h : PE X e t) (h' : PE X e u) : PE X e (fun σ H Q => t σ H Q ∨ u σ H Q) :=
  ⟨fun pins s σ H Q I q => q.elim (h.run pins s σ H Q I) (h'.run pins s σ H Q I)⟩
theorem PI.or {tg e : Expr} {t u : TI} (h : PI X tg e t) (h' : PI X tg e u) : PI X tg e (fun σ H R => t σ H R ∨ u σ H R) :=
  ⟨fun pins s σ H Q I q => q.elim (h.run pins s σ H Q I) (h'.run pins s σ H Q I)⟩
end

/-! what an expression is worth, over the known part M -/
abbrev Pr := Hp → V → Prop
abbrev Dd (K : PySem.W.Frag) (d : PyData) : Pr := fun M v => Dp K M v d
def Gv (te : TE) (σ : Sl) (M : Hp) (P : Pr) : Prop := ∀ H, Same M H → ∀ Q : VK, (∀ v M' H', Gr M H M' H' → P M' v → Q v H') → te σ H Q
def GvT (tt : TT) (σ : Sl) (M : Hp) (b : Bool) : Prop := ∀ H, Same M H → ∀ Q : Bool → Hp → Prop, (∀ M' H', Gr M H M' H' → Q b H') → tt σ H Q
/-- a new list, ours -/
def GvL (te : TE) (σ : Sl) (M : Hp) (P : Hp → List V → Prop) : Prop := ∀ H, Same M H → ∀ Q : VK, (∀ p vs M' H', Gr M H M' H' → H p = none → M' p = none → H' p = some (.lst vs) → P M' vs → Q (.ref p) H') → te σ H Q
def GvA (ta : TA) (σ : Sl) (M : Hp) (P : Hp → List V → Prop) : Prop := ∀ H, Same M H → ∀ Q : List V → Hp → Prop, (∀ vs M' H', Gr M H M' H' → P M' vs → Q vs H') → ta σ H Q
class Mono (P : Pr) : Prop where
  mono : ∀ {M M' : Hp} {v : V}, Same M M' → P M v → P M' v
instance {K : PySem.W.Frag} {d : PyData} : Mono (Dd K d) := ⟨fun e h => dp_mono e h⟩
instance {K : PySem.W.Frag} {ds : List PyData} : Mono (Sq K ds) := ⟨fun e h => h.mono e⟩
section
variable {K : PySem.W.Frag} {σ : Sl} {M M1 : Hp} {ta tb te : TE} {tt tu : TT} {P P1 : Pr} {b c : Bool} {v : V}
def jn (M1 M' : Hp) : Hp := fun a => (M1 a).or (M' a)
theorem jn_some {M1 M' : Hp} {a : Addr} {o : HO} (q : M1 a = some o) : jn M1 M' a = some o := by unfold jn; rw [q]; rfl
theorem jn_none {M1 M' : Hp} {a : Addr} (q : M1 a = none) : jn M1 M' a = M' a := by unfold jn; rw [q]; rfl
theorem Gr.join {M H M' H' M1 : Hp} (g : Gr M H M' H') (e : Same M M1) (h1 : Same M1 H) : Gr M1 H (jn M1 M') H' ∧ Same M' (jn M1 M') := by
  have k1 := h1.trans g.hh
  refine ⟨⟨fun a o q => jn_some q, g.hh, fun a o q => ?_, fun a o q => ?_, fun a ps q => ?_⟩, fun a o q => ?_⟩
  · cases z : M1 a with
    | some u => rw [jn_some z] at q; cases q; exact k1 a _ z
    | none => rw [jn_none z] at q; exact g.mh a o q
  · cases z : M1 a with
    | some u => rw [jn_some z] at q; exact .inl q
    | none =>
      rw [jn_none z] at q
      rcases g.nw a o q with y | y
      · rw [e a o y] at z; cases z
      · exact .inr y
  · cases z : M1 a with
    | some u => rw [jn_some z] at q; exact q
    | none =>
      rw [jn_none z] at q
      have y := e a _ (g.nt a ps q)
      rw [z] at y
      cases y
  · cases z : M1 a with
    | some u =>
      have y := k1 a _ z
      rw [g.mh a o q] at y
      cases y
      exact jn_some z
    | none => rw [jn_none z]; exact q
theorem Gv.le [Mono P] (h : Gv te σ M P) (e : Same M M1) : Gv te σ M1 P := fun H mh Q q =>
  h H (e.trans mh) Q fun v M' H' g p => q v _ H' (g.join e mh).1 (Mono.mono (g.join e mh).2 p)
theorem GvT.le (h : GvT tt σ M b) (e : Same M M1) : GvT tt σ M1 b := fun H mh Q q =>
  h H (e.trans mh) Q fun M' H' g => q _ H' (g.join e mh).1
/-- a reading over values -/
def RV (r : Hp → VK → Prop) (M : Hp) (P : Pr) : Prop := ∀ H, Same M H → ∀ Q : VK, (∀ v M' H', Gr M H M' H' → P M' v → Q v H') → r H Q
theorem gv_var {i : Nat} (h : σ[i]? = some (some v)) (p : P M v) : Gv (tVar i) σ M P := fun H mh Q q => ⟨v, h, q v M H (.refl mh) p⟩
theorem gv_c (p : P M v) : Gv (tC v) σ M P := fun H mh Q q => q v M H (.refl mh) p
theorem gv_op {r : R2} {R : Pr} [Mono P] [Mono P1] (ha : Gv ta σ M P) (hb : Gv tb σ M P1) (hr : ∀ M' x y, P M' x → P1 M' y → RV (r x y) M' R) : Gv (tOp r ta tb) σ M R := fun H mh Q q =>
  ha H mh _ fun x M1 H1 g1 p1 => (hb.le g1.mm) H1 g1.mh _ fun y M2 H2 g2 p2 => hr M2 x y (Mono.mono g2.mm p1) p2 H2 g2.mh Q fun v M' H' g p => q v M' H' ((g1.trans g2).trans g) p
theorem gv_is {P' : Pr} (h : Gv te σ M P) (e : ∀ M v, P M v → P' M v) : Gv te σ M P' := fun H mh Q q => h H mh Q fun v M' H' g p => q v M' H' g (e M' v p)
/-- tests -/
theorem gt_test {te : TE} (h : Gv te σ M (fun _ v => v = .bl b)) : GvT (tTest te) σ M b := fun H mh Q q => h H mh _ fun v M' H' g p => ⟨b, p, q M' H' g⟩
theorem gt_B {te : TE} (h : Gv te σ M (fun _ v => v = .bl b)) : GvT (tB te) σ M b := fun H mh Q q => h H mh _ fun v M' H' g p => ⟨b, p, q M' H' g⟩
theorem gt_and (h : GvT tt σ M b) (h2 : b = true → GvT tu σ M c) : GvT (tAnd tt tu) σ M (b && c) := fun H mh Q q => h H mh _ fun M1 H1 g1 => by
  cases b with
  | true => exact (h2 rfl).le g1.mm H1 g1.mh Q fun M' H' g => q M' H' (g1.trans g)
  | false => exact q M1 H1 g1
theorem gt_or (h : GvT tt σ M b) (h2 : b = false → GvT tu σ M c) : GvT (tOr tt tu) σ M (b || c) := fun H mh Q q => h H mh _ fun M1 H1 g1 => by
  cases b with
  | true => exact q M1 H1 g1
  | false => exact (h2 rfl).le g1.mm H1 g1.mh Q fun M' H' g => q M' H' (g1.trans g)
theorem gt_not (h : GvT tt σ M b) : GvT (tNot tt) σ M (!b) := fun H mh Q q => h H mh _ q
theorem gt_is (h : GvT tt σ M b) (e : b = c) : GvT tt σ M c := e ▸ h
abbrev Bl (b : Bool) : Pr := fun _ v => v = .bl b
abbrev It' (i : Int) : Pr := fun _ v => v = .int i
abbrev Tx (x : Str) : Pr := fun _ v => v = .str x
instance {b : Bool} : Mono (Bl b) := ⟨fun _ h => h⟩
instance {i : Int} : Mono (It' i) := ⟨fun _ h => h⟩
instance {x : Str} : Mono (Tx x) := ⟨fun _ h => h⟩
theorem gv_andV {ta tb : TE} (h : Gv ta σ M (Bl b)) (h2 : b = true → Gv tb σ M (Bl c)) : Gv (tAndV ta tb) σ M (Bl (b && c)) := fun H mh Q q => h H mh _ fun v M1 H1 g1 p => ⟨b, p, by
  cases b with
  | true => exact (h2 rfl).le g1.mm H1 g1.mh Q fun v M' H' g p => q v M' H' (g1.trans g) p
  | false => exact q _ M1 H1 g1 rfl⟩
theorem gv_notV {ta : TE} (h : Gv ta σ M (Bl b)) : Gv (tNotV ta) σ M (Bl (!b)) := fun H mh Q q => h H mh _ fun v M1 H1 g1 p => ⟨b, p, q _ M1 H1 g1 rfl⟩
theorem gv_if [Mono P] (h : GvT tt σ M b) (h1 : b = true → Gv ta σ M P) (h2 : b = false → Gv tb σ M P) : Gv (tIf tt ta tb) σ M P := fun H mh Q q => h H mh _ fun M1 H1 g1 => by
  cases b with
  | true => exact (h1 rfl).le g1.mm H1 g1.mh Q fun v M' H' g p => q v M' H' (g1.trans g) p
  | false => exact (h2 rfl).le g1.mm H1 g1.mh Q fun v M' H' g p => q v M' H' (g1.trans g) p
/-- operators -/
theorem rv_pure {r : Hp → VK → Prop} (h : ∀ H, Same M H → ∀ Q : VK, Q v H → r H Q) (p : P M v) : RV r M P := fun H mh Q q => h H mh Q (q v M H (.refl mh) p)
theorem gv_eq {neg : Bool} {d e : PyData} (ha : Gv ta σ M (Dd K d)) (hb : Gv tb σ M (Dd K e)) (hz : d.depth ≤ 60) : Gv (tOp (rEqP K neg) ta tb) σ M (Bl (xor neg (PyData.eqv d e))) :=
  gv_op ha hb fun M' x y px py => rv_pure (fun H mh Q q => ⟨d, e, dp_mono mh px, dp_mono mh py, hz, q⟩) rfl
theorem gv_isN {ta : TE} [Mono P] (h : Gv ta σ M P) (e : ∀ M v, P M v → decide (v = .non) = b) : Gv (tIsN ta) σ M (Bl b) := fun H mh Q q => h H mh _ fun v M1 H1 g1 p => q _ M1 H1 g1 (by rw [e M1 v p])
theorem gv_notN {ta : TE} [Mono P] (h : Gv ta σ M P) (e : ∀ M v, P M v → decide (v = .non) = b) : Gv (tNotN ta) σ M (Bl (!b)) := fun H mh Q q => h H mh _ fun v M1 H1 g1 p => q _ M1 H1 g1 (by rw [e M1 v p])
/-- arguments -/
theorem ga_nil : GvA tNil σ M (fun _ vs => vs = []) := fun H mh Q q => q [] M H (.refl mh) rfl
/-- displays -/
theorem gv_tup {ta : TA} {R : Hp → List V → Prop} {P : Pr} (h : GvA ta σ M R) (hz : ∀ M vs, R M vs → vs.length ≤ sizeLine) (hp : ∀ M vs p, R M vs → M p = none → P (upd M p (.tup vs)) (.ref p)) : Gv (tTup ta) σ M P := fun H mh Q q =>
  h H mh _ fun vs M1 H1 g1 p1 => ⟨hz M1 vs p1, fun p np => q _ _ _ (g1.trans (.new g1.mh np)) (hp M1 vs p p1 (g1.mh.free np))⟩
theorem gl_lst {ta : TA} {R : Hp → List V → Prop} (h : GvA ta σ M R) (hz : ∀ M vs, R M vs → vs.length ≤ sizeLine) : GvL (tLst ta) σ M R := fun H mh Q q =>
  h H mh _ fun vs M1 H1 g1 p1 => ⟨hz M1 vs p1, fun p np => q p vs M1 _ (g1.trans (.own g1.mh np)) (g1.hh.free np) (g1.mh.free np) upd_same p1⟩
/-- our new list, known from now on -/
theorem GvL.gv {R : Hp → List V → Prop} (h : GvL te σ M R) (hp : ∀ M vs p, R M vs → M p = none → P (upd M p (.lst vs)) (.ref p)) : Gv te σ M P := fun H mh Q q =>
  h H mh Q fun p vs M' H' g h0 m0 hv r => q _ _ H' (g.freeze h0 m0 hv) (hp M' vs p r m0)
theorem GvL.le {R : Hp → List V → Prop} (hR : ∀ M M' vs, Same M M' → R M vs → R M' vs) (h : GvL te σ M R) (e : Same M M1) : GvL te σ M1 R := fun H mh Q q =>
  h H (e.trans mh) Q fun p vs M' H' g h0 m0 hv r => q p vs _ H' (g.join e mh).1 h0 (by rw [jn_none (mh.free h0)]; exact m0) hv (hR _ _ _ (g.join e mh).2 r)
end
end L3

set_option Elab.async false
set_option linter.all false
set_option maxRecDepth 100000
set_option maxHeartbeats 1000000
namespace L3
open PySem PySem.Spec PyProof.Rows L2
/-! walking a value: one rule for each kind of value, joined by «or» -/
abbrev RI := V → Hp → (It → Hp → Prop) → Prop
def PIv (X : Cx) (tg : Expr) (r : RI) : Prop :=
  ∀ {pins : List (Addr × Obj)} {s : Shared} {σ : Sl} {H : Hp} {R : It → Hp → Prop} {x : V} {u : Value}, Inv X pins σ H s → RelV x u → r x H R → wpAny (model X.prog X.w) X.A (pyIter u) (PIE X pins σ tg R) X.xe s
section
variable {X : Cx} {tg : Expr} {r r' : RI}
theorem PIv.or (h : PIv X tg r) (h' : PIv X tg r') : PIv X tg fun x H R => r x H R ∨ r' x H R := fun I rx q => q.elim (h I rx) (h' I rx)
theorem PIv.pi {l : Expr} {te : TE} (h : PIv X tg r) (hl : PE X l te) : PI X tg l fun σ H R => te σ H fun x H1 => r x H1 R where
  run pins s σ H R I q := thn (hl.run pins s σ H _ I q) fun u s1 ⟨_, _, I1, rx, q1⟩ => h I1 rx q1
theorem fps_new {pins : List (Addr × Obj)} {s : Shared} {σ : Sl} {H : Hp} {fp : List Addr} (I : Inv X pins σ H s) (h : ∀ b ∈ fp, s.heap.objs.size ≤ b) : ∀ b ∈ fp, FpOk X pins H b :=
  fun b hb => I.fpOk (h b hb) (I.hok.fresh (h b hb))
/-- a value whose iterator is one new object -/
theorem walk_new {pins : List (Addr × Obj)} {s : Shared} {σ : Sl} {H : Hp} {R : It → Hp → Prop} {u : Value} {o : Obj} {G : Heap → Prop} {J : It} {tn : Addr → Nat → Heap → Prop} (B : Begins u o G) (I : Inv X pins σ H s) (g : G s.heap)
    (T : ∀ it, Turn X.prog X.w X.K tg J [it] it (tn it)) (h0 : ∀ it h, h.get? it = some o → tn it 0 h) (q : R J H) : wpAny (model X.prog X.w) X.A (pyIter u) (PIE X pins σ tg R) X.xe s :=
  B.iter _ _ _ _ s _ g ⟨s.heap.objs.size, _, _, J, H, rfl, I.kept (t' := s.toks) (fun _ _ z => Heap.get?_push_of_some _ z), T _, h0 _ _ (Heap.get?_push_size _ B.free), fps_new I (by intro b hb; rw [List.mem_singleton.mp hb]; exact Nat.le_refl _), q⟩
def wLst (K : PySem.W.Frag) : RI := fun x H R => ∃ a xs, x = .ref a ∧ SqL K H a xs ∧ R (Itl K a) H
def wTup (K : PySem.W.Frag) : RI := fun x H R => ∃ a xs, x = .ref a ∧ SqT K H a xs ∧ R (Itt K a) H
theorem pv_lst : PIv X tg (wLst X.K) := fun I rx ⟨a, xs, ea, hs, q⟩ => by
  subst ea; cases rx
  let ⟨its, _, pl, _⟩ := I.list hs
  exact walk_new (begins_list a its.toArray) I pl.isList (turn_list a) (fun it h e => ⟨_, e, rfl, rfl⟩) q
theorem pv_tup : PIv X tg (wTup X.K) := fun I rx ⟨a, xs, ea, hs, q⟩ => by
  subst ea; cases rx
  let ⟨its, _, pl, _⟩ := I.tuple hs
  exact walk_new (begins_tuple a its.toArray) I pl (turn_tuple a) (fun it h e => ⟨_, e, rfl, rfl⟩) q
/-- a list or a tuple walked -/
def iSq (K : PySem.W.Frag) (te : TE) : TI := fun σ H R => te σ H fun x H1 => ∃ a, x = .ref a ∧ ((∃ xs, SqL K H1 a xs ∧ R (Itl K a) H1) ∨ ∃ xs, SqT K H1 a xs ∧ R (Itt K a) H1)
theorem pi_sq {l : Expr} {te : TE} (hl : PE X l te) : PI X tg l (iSq X.K te) :=
  PIv.pi (r := fun x H1 R => ∃ a, x = .ref a ∧ ((∃ xs, SqL X.K H1 a xs ∧ R (Itl X.K a) H1) ∨ ∃ xs, SqT X.K H1 a xs ∧ R (Itt X.K a) H1))
    (fun I rx ⟨a, ea, q⟩ => (pv_lst.or pv_tup) I rx (q.imp (fun ⟨xs, z⟩ => ⟨a, xs, ea, z⟩) fun ⟨xs, z⟩ => ⟨a, xs, ea, z⟩)) hl
end

/-! enumerate over anything whose items stand still -/
structure Still (P : Program) (w : World) (K : PySem.W.Frag) (a : Addr) (o : Obj) (rd : Hp → List V → Prop) (pt : Addr → Nat → Heap → Prop) (fx : List Value → Heap → Prop) : Prop where
  got : ∀ {X : Cx} {pins : List (Addr × Obj)} {σ : Sl} {H : Hp} {s : Shared} {xs : List V}, X.K = K → Inv X pins σ H s → rd H xs → ∃ its, Vals xs its ∧ fx its s.heap
  one : ∀ {X : Cx} {pins : List (Addr × Obj)} {σ : Sl} {H : Hp} {s : Shared} {xs ys : List V}, X.K = K → Inv X pins σ H s → rd H xs → rd H ys → xs = ys
  dr : ∀ {A : Around} {it : Addr} (its : List Value), A.handled = none → a ≠ it → Draws P w A it [it, a] its.toArray.size (fun i v => its.toArray[i]? = some v) (fun i h => pt it i h ∧ fx its h)
  live : ∀ {it : Addr} {i : Nat} {h : Heap}, pt it i h → ∃ ob, h.get? it = some ob ∧ ∀ v, ob.data ≠ .cell v
  mv : ∀ {it : Addr} {i : Nat} {h h' : Heap}, pt it i h → (∀ ob, h.get? it = some ob → h'.get? it = some ob) → pt it i h'
  lt : ∀ {its : List Value} {h : Heap}, fx its h → a < h.objs.size
  bg : ∀ its : List Value, Begins (.ref a) o (fx its)
  st : ∀ {it : Addr} {h : Heap}, h.get? it = some o → pt it 0 h
theorem still_lst {P : Program} {w : World} {K : PySem.W.Frag} (a : Addr) : Still P w K a { cls := .type "list_iterator", data := .fields #[.ref a, .int 0 0] } (fun H xs => SqL K H a xs) (fun it i h => h.IsListIter it a i) (fun its h => h.IsList a its.toArray) where
  got hk I h := by subst hk; let ⟨its, r, p, _⟩ := I.list h; exact ⟨its, r, p.isList⟩
  one hk I h h' := by subst hk; exact I.list_inj h h'
  dr its hh hn := Draws.list hh _ _ hn _
  live h := let ⟨ob, e, _, d⟩ := h; ⟨ob, e, fun v z => by rw [d] at z; exact nomatch z⟩
  mv h k := let ⟨ob, e, z⟩ := h; ⟨ob, k ob e, z⟩
  lt h := let ⟨_, e, _⟩ := h; Heap.lt_size e
  bg its := begins_list a its.toArray
  st h := ⟨_, h, rfl, rfl⟩
theorem still_tup {P : Program} {w : World} {K : PySem.W.Frag} (a : Addr) : Still P w K a { cls := .type "tuple_iterator", data := .fields #[.ref a, .int 0 0] } (fun H xs => SqT K H a xs) (fun it i h => h.IsTupleIter it a i) (fun its h => h.IsTuple a its.toArray) where
  got hk I h := by subst hk; let ⟨its, r, p, _⟩ := I.tuple h; exact ⟨its, r, p⟩
  one hk I h h' := by subst hk; exact I.tuple_inj h h'
  dr its hh hn := Draws.tuple hh _ _ hn _
  live h := let ⟨ob, e, _, d⟩ := h; ⟨ob, e, fun v z => by rw [d] at z; exact nomatch z⟩
  mv h k := let ⟨ob, e, z⟩ := h; ⟨ob, k ob e, z⟩
  lt h := let ⟨_, e, _⟩ := h; Heap.lt_size e
  bg its := begins_tuple a its.toArray
  st h := ⟨_, h, rfl, rfl⟩
/-- the walk: number and item as a new pair -/
def IeS (rd : Hp → List V → Prop) : It :=
  ⟨fun i H => ∃ xs, rd H xs ∧ i < xs.length, fun i H v H' => ∃ p x, v = .ref p ∧ H p = none ∧ H' = upd H p (.tup [.int (i : Nat), x]) ∧ ∀ xs, rd H xs → xs[i]? = some x, fun i H => ∃ xs, rd H xs ∧ xs.length = i⟩
theorem walk_eS {rd : Hp → List V → Prop} {xs : List V} : Walk (IeS rd) xs.length (fun H => rd H xs) (YPair (fun i => some (.int (i : Nat))) (fun i => xs[i]?)) :=
  ⟨fun _ _ hi q => ⟨xs, q, hi⟩, fun _ q => ⟨xs, q, rfl⟩, fun i _ _ _ _ q ⟨p, x, h1, h2, h3, h4⟩ => ⟨p, _, x, h1, h2, h3, rfl, h4 xs q⟩⟩
section
variable {P : Program} {w : World} {K : PySem.W.Frag} {a : Addr} {o : Obj} {rd : Hp → List V → Prop} {pt : Addr → Nat → Heap → Prop} {fx : List Value → Heap → Prop} {elts : List Expr} {kk : Nat} {tpos : Pos}
/-- where the two objects of the walk stand -/
def EnAt (pt : Addr → Nat → Heap → Prop) (e it : Addr) (i : Nat) (h : Heap) : Prop := ∃ old, IsEnum h e it (i : Nat) old ∧ pt it i h
theorem turn_eS (S : Still P w K a o rd pt fx) {e it : Addr} (n1 : e ≠ it) (n2 : e ≠ a) (n3 : a ≠ it) : Turn P w K (.Tuple elts kk tpos) (IeS rd) [e, it] e (EnAt pt e it) where
  mem := .head _
  obj := fun i h ⟨old, he, hp⟩ b hb => by
    cases hb with
    | head => exact ⟨_, he, fun v z => nomatch z⟩
    | tail _ hb => rw [List.mem_singleton.mp hb]; exact S.live hp
  keep := fun i h h' ⟨old, he, hp⟩ k => ⟨old, k e (.head _) _ he, S.mv hp (k it (.tail _ (.head _)))⟩
  self := fun A i s Q E ⟨old, he, _⟩ q => wpAny_pyIter_enum he q
  done := fun X e1 e2 e3 hc i pins s σ H E I hf ⟨old, he, hp⟩ ⟨xs, hx, hl⟩ => by
    subst e1 e2
    obtain ⟨its, rv, fx0⟩ := S.got e3 I hx
    have hi : i = its.toArray.size := by rw [List.size_toArray, ← rv.length, hl]
    subst hi
    have f := hf it (.tail _ (.head _))
    exact wpAny_pyNext_enum_endD (S.dr (A := X.A.in1) its (I.ok.hd hc) n3) he ⟨hp, fx0⟩ fun h' k => ⟨rfl, I.turned (t' := s.toks) k f.1 f.2.1 f.2.2.2.1 f.2.2.2.2.1 f.2.2.2.2.2⟩
  item := fun X e1 e2 e3 hc i pins s σ H E I hf ⟨old, he, hp⟩ ⟨xs, hx, hl⟩ => by
    subst e1 e2
    obtain ⟨its, rv, fx0⟩ := S.got e3 I hx
    have hlt : i < its.toArray.size := by rw [List.size_toArray, ← rv.length]; exact hl
    have be := Heap.lt_size he
    have bi : it < s.heap.objs.size := let ⟨_, z, _⟩ := S.live hp; Heap.lt_size z
    have out : e ∉ [it, a] := fun z => by
      cases z with
      | head => exact n1 rfl
      | tail _ z => exact n2 (List.mem_singleton.mp z)
    refine wpAny_pyNext_enum_itemD (S.dr (A := X.A.in1) its (I.ok.hd hc) n3) he ⟨hp, fx0⟩ hlt n1 out fun y h1 tk hy eo pt1 new _ kp => ⟨_, rfl, ?_⟩
    refine wpAny_letOwnedTupleGo_enum (s := { s with heap := h1, toks := tk + 1 }) eo fun h2 en sb => ?_
    obtain ⟨x, gx, rx⟩ : ∃ x, xs[i]? = some x ∧ RelV x y := by
      have z := rv.get (x := xs[i]) (List.getElem?_eq_getElem hl)
      obtain ⟨y', g, rr⟩ := z
      rw [List.getElem?_toArray, g] at hy
      exact ⟨_, List.getElem?_eq_getElem hl, Option.some.inj hy ▸ rr⟩
    have stands : h2.get? s.heap.objs.size = some { cls := .type "tuple", data := .seq #[.int i tk, y] } := (sb.2 _ (Nat.ne_of_gt be)).trans new
    have kept : ∀ b ob, b ∉ [e, it] → s.heap.get? b = some ob → h2.get? b = some ob := fun b ob hb z =>
      have m1 : b ≠ e := fun q => hb (q ▸ .head _)
      (sb.2 b m1).trans (kp b ob m1 (fun q => hb (q ▸ .tail _ (.head _))) z)
    have J := I.turnedNew (t' := tk + 1) (ob := .tup [.int (i : Nat), x]) kept hf (Nat.le_refl _) ⟨(by show 2 ≤ sizeLine; decide), [.int i tk, y], .cons ⟨_, rfl⟩ (.cons rx .nil), ⟨_, stands, rfl, _, rfl⟩⟩
    refine ⟨.ref s.heap.objs.size, _, J, rfl, ⟨_, x, rfl, I.hok.fresh (Nat.le_refl _), rfl, fun ys hy' => S.one e3 I hx hy' ▸ gx⟩, ⟨y, en, S.mv pt1.1 fun ob z => (sb.2 it (Ne.symm n1)).trans z⟩, fun b hb => ?_⟩
    have bb : b ≠ s.heap.objs.size := by
      cases hb with
      | head => exact Nat.ne_of_lt be
      | tail _ hb => rw [List.mem_singleton.mp hb]; exact Nat.ne_of_lt bi
    rw [upd_ne bb]
    exact (hf b hb).1
/-- enumerate(v): two new objects -/
theorem en_new {v : Value} {o : Obj} {G : Heap → Prop} (B : Begins v o G) : Meets (Builtin.«enumerate.__new__» ⟨[.type "enumerate", v], []⟩) fun _ R s => G s.heap ∧
    R (.ok (.ret (.ref (s.heap.push o).objs.size))) { s with heap := (s.heap.push o).push { cls := .type "enumerate", data := .fields #[.none, .bool false, .ref s.heap.objs.size, rawInt 0, .none, .none] } } := by
  refine Meets.of_wp fun prog w A R ⟨hp, gs, dn, tk, os⟩ q => ?_
  have isub := sub_enumerate
  have first {A' : Around} {E Q : Value → Shared → Prop} (z : Q (.ref hp.objs.size) ⟨hp.push o, gs, dn, tk, os⟩) : wpAny (model prog w) A' (pyIter v) Q E ⟨hp, gs, dn, tk, os⟩ := B.iter prog w A' E ⟨hp, gs, dn, tk, os⟩ Q q.1 z
  wp_walk using first
  refine wpAny_stack_any fun st => wpAny_pure ?_
  split
  next c _ _ _ _ _ => by_cases hcl : (c == Value.type "enumerate") = true <;> simp only [hcl] <;> wp_walk using first <;> exact ⟨_, rfl, q.2⟩
  next => wp_walk using first; exact ⟨_, rfl, q.2⟩
theorem en_walk {X : Cx} {pins : List (Addr × Obj)} {s : Shared} {σ : Sl} {H : Hp} {R : It → Hp → Prop} {xs : List V} (S : Still X.prog X.w X.K a o rd pt fx) (I : Inv X pins σ H s) (hx : rd H xs) (q : R (IeS rd) H) :
    wpAny (model X.prog X.w) X.A (call (.type "enumerate") [.ref a]) (fun v s1 => wpAny (model X.prog X.w) X.A (pyIter v) (PIE X pins σ (.Tuple elts kk tpos) R) X.xe s1) X.xe s := by
  obtain ⟨its, _, f0⟩ := S.got rfl I hx
  have la := S.lt f0
  have B := S.bg its
  have hN : (s.heap.push o).objs.size = s.heap.objs.size + 1 := Heap.size_push ..
  apply callType_new F.called_enumerate (by decide) (F.typeCall_enumerate_1 _) (F.newCall_enumerate_1 _) (fun ob => F.args_object_init_2 ob _) F.entry_enumerate_new (en_new B)
  refine ⟨f0, ?_⟩
  have top := Heap.get?_push_size (s.heap.push o) (o := ({ cls := .type "enumerate", data := .fields #[.none, .bool false, .ref s.heap.objs.size, rawInt 0, .none, .none] } : Obj)) rfl
  have below : ∀ b ob, (s.heap.push o).get? b = some ob → ((s.heap.push o).push { cls := .type "enumerate", data := .fields #[.none, .bool false, .ref s.heap.objs.size, rawInt 0, .none, .none] }).get? b = some ob := fun b ob z => Heap.get?_push_of_some _ z
  refine ⟨⟨_, top, rfl⟩, ?_⟩
  rw [hN] at top ⊢
  refine wpAny_pyIter_enum top ⟨_, [s.heap.objs.size + 1, s.heap.objs.size], _, IeS rd, H, rfl, I.kept (t' := s.toks) (fun b ob z => below b ob (Heap.get?_push_of_some _ z)), turn_eS S (Nat.succ_ne_self _) (Nat.ne_of_gt (Nat.lt_succ_of_lt la)) (Nat.ne_of_lt la), ⟨.none, top, S.st (below _ _ (Heap.get?_push_size _ B.free))⟩, fps_new I fun b hb => ?_, q⟩
  cases hb with
  | head => exact Nat.le_succ _
  | tail _ hb => rw [List.mem_singleton.mp hb]; exact Nat.le_refl _
end
def iEn (K : PySem.W.Frag) (ta : TA) : TI := fun σ H R => ta σ H fun vs H1 => ∃ a, vs = [.ref a] ∧ ((∃ xs, SqL K H1 a xs ∧ R (IeS fun H xs => SqL K H a xs) H1) ∨ ∃ xs, SqT K H1 a xs ∧ R (IeS fun H xs => SqT K H a xs) H1)
theorem pi_en {X : Cx} {e : Expr} {ta : TA} {p pos tpos : Pos} {elts : List Expr} {kk : Nat} (hg : Gl X "enumerate") (hm : X.mg "enumerate" = none) (ha : PA X [e] ta) (hs : starEach [e] X.env = [(false, eval e X.env)] := by rfl) :
    PI X (.Tuple elts kk tpos) (.Call (.Name "enumerate" p) [e] [] pos) (iEn X.K ta) where
  run pins s σ H R I h := by
    refine Call_ (ld_blt I hg hm boot_enumerate (PyProof.Rows.callWith_type1 (thn (ha.run pos pins s σ H _ I h) fun us s1 z => ?_) hs rfl))
    obtain ⟨vs, H1, I1, rvs, a, rfl, q⟩ := z
    obtain ⟨_, rfl, rfl⟩ := vals1 rvs
    rcases q with ⟨xs, hx, q⟩ | ⟨xs, hx, q⟩
    · exact en_walk (still_lst a) I1 hx q
    · exact en_walk (still_tup a) I1 hx q
end L3

set_option Elab.async false
set_option linter.all false
set_option maxRecDepth 100000
set_option maxHeartbeats 1000000
namespace L3
open PySem PySem.Spec PyProof.Rows L2
/-! typed relations -/
abbrev Rl (α : Type) := α → Pr
class Mon {α : Type} (R : Rl α) : Prop where
  mono : ∀ {x : α} {M M' : Hp} {v : V}, Same M M' → R x M v → R x M' v
instance {α : Type} {R : Rl α} [h : Mon R] {x : α} : Mono (R x) := ⟨fun e p => h.mono e p⟩
instance : Mon Tx := ⟨fun _ h => h⟩
instance : Mon It' := ⟨fun _ h => h⟩
instance : Mon Bl := ⟨fun _ h => h⟩
instance {K : PySem.W.Frag} : Mon (Dd K) := ⟨fun e h => dp_mono e h⟩
abbrev Pd {α : Type} (R : Rl α) (M : Hp) : List α → List V → Prop := Paired fun x v => R x M v
theorem Pd.mono {α : Type} {R : Rl α} [Mon R] {M M' : Hp} (e : Same M M') {xs : List α} {vs : List V} (h : Pd R M xs vs) : Pd R M' xs vs := Paired.mapP h fun _ _ q => Mon.mono e q
theorem pd_get {α β : Type} {F : α → β → Prop} : ∀ {xs : List α} {vs : List β} {i : Nat} {x : α}, Paired F xs vs → xs[i]? = some x → ∃ v, vs[i]? = some v ∧ F x v
  | _, _, _, _, .nil, e => by simp at e
  | _, _, 0, _, .cons h _, e => by
    have e' := Option.some.inj (show some _ = some _ from e)
    subst e'
    exact ⟨_, rfl, h⟩
  | _, _, i + 1, _, .cons _ t, e => pd_get (i := i) t (by simpa using e)
theorem pd_get' {α β : Type} {F : α → β → Prop} : ∀ {xs : List α} {vs : List β} {i : Nat} {v : β}, Paired F xs vs → vs[i]? = some v → ∃ x, xs[i]? = some x ∧ F x v
  | _, _, _, _, .nil, e => by simp at e
  | _, _, 0, _, .cons h _, e => by
    have e' := Option.some.inj (show some _ = some _ from e)
    subst e'
    exact ⟨_, rfl, h⟩
  | _, _, i + 1, _, .cons _ t, e => pd_get' (i := i) t (by simpa using e)
theorem pd_app {α β : Type} {F : α → β → Prop} : ∀ {xs ys : List α} {vs ws : List β}, Paired F xs vs → Paired F ys ws → Paired F (xs ++ ys) (vs ++ ws)
  | _, _, _, _, .nil, s => s
  | _, _, _, _, .cons r t, s => .cons r (pd_app t s)
theorem pd_take {α β : Type} {F : α → β → Prop} : ∀ {xs : List α} {vs : List β} (n : Nat), Paired F xs vs → Paired F (xs.take n) (vs.take n)
  | _, _, 0, _ => .nil
  | _, _, _ + 1, .nil => .nil
  | _, _, n + 1, .cons r t => .cons r (pd_take n t)
theorem pd_drop {α β : Type} {F : α → β → Prop} : ∀ {xs : List α} {vs : List β} (n : Nat), Paired F xs vs → Paired F (xs.drop n) (vs.drop n)
  | _, _, 0, h => h
  | _, _, _ + 1, .nil => .nil
  | _, _, n + 1, .cons _ t => pd_drop n t
def TupR (K : PySem.W.Frag) {α : Type} (R : Rl α) : Rl (List α) := fun xs M v => ∃ a vs, v = .ref a ∧ SqT K M a vs ∧ Pd R M xs vs
def LstR (K : PySem.W.Frag) {α : Type} (R : Rl α) : Rl (List α) := fun xs M v => ∃ a vs, v = .ref a ∧ SqL K M a vs ∧ Pd R M xs vs
def SqR (K : PySem.W.Frag) {α : Type} (R : Rl α) : Rl (List α) := fun xs M v => LstR K R xs M v ∨ TupR K R xs M v
section
variable {K : PySem.W.Frag} {α : Type} {R : Rl α}
instance [Mon R] : Mon (TupR K R) := ⟨fun e ⟨a, vs, h1, h2, h3⟩ => ⟨a, vs, h1, st_mono e h2, h3.mono e⟩⟩
instance [Mon R] : Mon (LstR K R) := ⟨fun e ⟨a, vs, h1, h2, h3⟩ => ⟨a, vs, h1, sl_mono e h2, h3.mono e⟩⟩
instance [Mon R] : Mon (SqR K R) := ⟨fun e h => h.imp (Mon.mono e) (Mon.mono e)⟩
theorem TupR.sq {xs : List α} {M : Hp} {v : V} (h : TupR K R xs M v) : SqR K R xs M v := .inr h
theorem LstR.sq {xs : List α} {M : Hp} {v : V} (h : LstR K R xs M v) : SqR K R xs M v := .inl h
/-- as data -/
def PyR (K : PySem.W.Frag) (R : Rl α) (e : α → PyData) : Prop := ∀ x M v, R x M v → Dp K M v (e x)
theorem py_str : PyR K Tx PyData.str := fun x M v h => by cases (show v = .str x from h); exact .str x
theorem py_int : PyR K It' PyData.int := fun x M v h => by cases (show v = .int x from h); exact .int x
theorem py_all {e : α → PyData} (h : PyR K R e) {M : Hp} : ∀ {xs : List α} {vs : List V}, Pd R M xs vs → DpAll K M vs (xs.map e)
  | _, _, .nil => .nil
  | _, _, .cons q t => .cons (h _ _ _ q) (py_all h t)
theorem py_tup {e : α → PyData} (h : PyR K R e) : PyR K (TupR K R) fun xs => .tuple (xs.map e) := fun xs M v ⟨a, vs, h1, h2, h3⟩ => by subst h1; exact .tup h2 (py_all h h3)
theorem py_lst {e : α → PyData} (h : PyR K R e) : PyR K (LstR K R) fun xs => .list (xs.map e) := fun xs M v ⟨a, vs, h1, h2, h3⟩ => by subst h1; exact .lst h2 (py_all h h3)
theorem py_sq {e : α → PyData} (h : PyR K R e) {xs : List α} {M : Hp} {v : V} (q : SqR K R xs M v) : Sq K (xs.map e) M v := q.imp (py_lst h _ _ _) (py_tup h _ _ _)
/-- e tells things apart as == does -/
def Inj (e : α → PyData) [DecidableEq α] : Prop := ∀ x y, PyData.eqv (e x) (e y) = decide (x = y)
theorem str_beq (x y : Str) : (x == y) = decide (x = y) := by
  by_cases h : x = y
  · subst h; simp
  · rw [decide_eq_false h]; exact beq_eq_false_iff_ne.mpr h
theorem inj_str : Inj PyData.str := fun x y => by simp only [PyData.eqv]; exact str_beq x y
theorem inj_int : Inj PyData.int := fun x y => by
  simp only [PyData.eqv]
  by_cases h : x = y
  · subst h; simp
  · rw [decide_eq_false h]; exact beq_eq_false_iff_ne.mpr h
theorem inj_all {e : α → PyData} [DecidableEq α] (h : Inj e) : ∀ xs ys : List α, PyData.eqvAll (xs.map e) (ys.map e) = decide (xs = ys)
  | [], [] => by simp [PyData.eqvAll]
  | [], _ :: _ => by simp [PyData.eqvAll]
  | _ :: _, [] => by simp [PyData.eqvAll]
  | x :: xs, y :: ys => by
    simp only [List.map_cons, PyData.eqvAll, h x y, inj_all h xs ys]
    by_cases h1 : x = y <;> by_cases h2 : xs = ys <;> simp [h1, h2]
theorem inj_tup {e : α → PyData} [DecidableEq α] (h : Inj e) : Inj fun xs : List α => PyData.tuple (xs.map e) := fun xs ys => by simp only [PyData.eqv]; exact inj_all h xs ys
theorem inj_lst {e : α → PyData} [DecidableEq α] (h : Inj e) : Inj fun xs : List α => PyData.list (xs.map e) := fun xs ys => by simp only [PyData.eqv]; exact inj_all h xs ys
theorem any_mem {e : α → PyData} [DecidableEq α] (h : Inj e) (x : α) : ∀ xs : List α, ((xs.map e).any fun z => PyData.eqv z (e x)) = decide (x ∈ xs)
  | [] => by simp
  | y :: ys => by
    rw [List.map_cons, List.any_cons, any_mem h x ys, h y x]
    by_cases h1 : x = y
    · subst h1; simp
    · have h2 : ¬ y = x := fun z => h1 z.symm
      simp [h1, h2]
end
section
variable {K : PySem.W.Frag} {σ : Sl} {M : Hp} {ta tb te ts : TE} {tt : TT} {α β : Type} {R : Rl α} {S : Rl β}
theorem gv_eqT {e : α → PyData} [DecidableEq α] [Mon R] {neg : Bool} {x y : α} (pe : PyR K R e) (ie : Inj e) (ha : Gv ta σ M (R x)) (hb : Gv tb σ M (R y)) (hz : (e x).depth ≤ 60) : Gv (tOp (rEqP K neg) ta tb) σ M (Bl (xor neg (decide (x = y)))) := by
  rw [← ie]
  exact gv_eq (gv_is ha fun M v h => pe _ _ _ h) (gv_is hb fun M v h => pe _ _ _ h) hz
theorem wipe1 {j : Nat} {v : V} : wipe ((wipe σ [j]).set j (some v)) [j] = wipe σ [j] := by
  show ((σ.set j none).set j (some v)).set j none = σ.set j none
  rw [List.set_set, List.set_set]
/-- a comprehension over a list or tuple -/
theorem gl_lc [Mon R] [Mon S] {j : Nat} {xs : List α} (hsrc : Gv ts σ M (SqR K R xs)) (hz : xs.length ≤ sizeLine) (t : α → Bool) (f : α → β)
    (ht : ∀ x ∈ xs, ∀ M1 v, Same M M1 → R x M1 v → GvT tt ((wipe σ [j]).set j (some v)) M1 (t x))
    (he : ∀ x ∈ xs, t x = true → ∀ M1 v, Same M M1 → R x M1 v → Gv te ((wipe σ [j]).set j (some v)) M1 (S (f x))) :
    GvL (tLc (iSq K ts) (gName j) tt te [j]) σ M fun M vs => Pd S M ((xs.filter t).map f) vs := by
  intro H mh Q q
  refine hsrc H mh _ fun v M1 H1 g1 hv => ?_
  have core : ∀ (J : It) (G : Hp → Prop) (vs : List V), Walk J vs.length G (YAt vs) → (∀ M2 H2, Same M1 M2 → Same M2 H2 → G H2) → Pd R M1 xs vs →
      ∀ D, H1 D = none → ∃ W : Nat → Nat → Hp → Prop, (∃ m, W 0 m (upd H1 D (.lst []))) ∧ ∀ i m H, W i m H →
        (J.stop i H ∧ Q (.ref D) H) ∨ (J.go i H ∧ ∃ Nx : Hp → Prop, (∀ H', Nx H' → ∃ m', m' < m ∧ W (i + 1) m' H') ∧ ∀ x H', J.yld i H x H' → gName j x (wipe σ [j]) H' fun σ2 H2 => wipe σ2 [j] = wipe σ [j] ∧ tt σ2 H2 fun b H3 =>
          if b = true then te σ2 H3 fun y H4 => ∃ acc, H4 D = some (.lst acc) ∧ acc.length < sizeLine ∧ Nx (upd H4 D (.lst (acc ++ [y]))) else Nx H3) := by
    intro J G vs w hG hp D hD
    refine lc_it w (fun i H' => ∃ M' ws, Gr M1 H1 M' H' ∧ M' D = none ∧ H' D = some (.lst ws) ∧ ws.length ≤ i ∧ Pd S M' (((xs.take i).filter t).map f) ws) ⟨M1, [], .own g1.mh hD, g1.mh.free hD, upd_same, Nat.le_refl _, .nil⟩ (fun i H' _ ⟨M', ws, g, _⟩ => hG M' H' g.mm g.mh) ?_ ?_
    · rintro i y H' H'' hi ⟨M', ws, g, m0, hw, hl, hpd⟩ ⟨rfl, hy⟩
      obtain ⟨x, hx, rx⟩ := pd_get' hp hy
      have hxm : x ∈ xs := List.mem_of_getElem? hx
      have et : xs.take (i + 1) = xs.take i ++ [x] := by rw [List.take_add_one, hx]; rfl
      have hil : i < xs.length := (List.getElem?_eq_some_iff.mp hx).1
      refine ⟨wipe1, ht x hxm M' y (g1.mm.trans g.mm) (Mon.mono g.mm rx) H'' g.mh _ fun M2 H2 g2 => ?_⟩
      cases ex : t x with
      | true =>
        refine he x hxm ex M2 y ((g1.mm.trans g.mm).trans g2.mm) (Mon.mono (g.mm.trans g2.mm) rx) H2 g2.mh _ fun z M3 H3 g3 hz3 => ?_
        have g' := (g.trans g2).trans g3
        have k3 : H3 D = some (.lst ws) := g3.hh _ _ (g2.hh _ _ hw)
        have m3 : M3 D = none := (g2.trans g3).keep m0 hw
        refine ⟨ws, k3, Nat.lt_of_lt_of_le (Nat.lt_of_le_of_lt hl hil) hz, M3, ws ++ [z], g'.mut hD m3, m3, upd_same, by rw [List.length_append]; exact Nat.succ_le_succ hl, ?_⟩
        rw [et, List.filter_append, List.map_append, List.filter_cons, ex]
        exact pd_app (hpd.mono (g2.mm.trans g3.mm)) (.cons hz3 .nil)
      | false =>
        refine ⟨M2, ws, g.trans g2, g2.keep m0 hw, g2.hh _ _ hw, Nat.le_succ_of_le hl, ?_⟩
        rw [et, List.filter_append, List.map_append, List.filter_cons, ex]
        show Pd S M2 (_ ++ []) ws
        rw [List.append_nil]
        exact hpd.mono g2.mm
    · rintro H' ⟨M', ws, g, m0, hw, hl, hpd⟩
      rw [List.take_of_length_le (by rw [hp.length]; exact Nat.le_refl _)] at hpd
      exact q D ws M' H' (g1.trans g) (g1.hh.free hD) m0 hw hpd
  rcases hv with ⟨a, vs, rfl, hs, hp⟩ | ⟨a, vs, rfl, hs, hp⟩
  · exact ⟨a, rfl, .inl ⟨vs, sl_mono g1.mh hs, core (Itl K a) (fun H => SqL K H a vs) vs walk_list (fun M2 H2 s1 s2 => sl_mono (s1.trans s2) hs) hp⟩⟩
  · exact ⟨a, rfl, .inr ⟨vs, st_mono g1.mh hs, core (Itt K a) (fun H => SqT K H a vs) vs walk_tup (fun M2 H2 s1 s2 => st_mono (s1.trans s2) hs) hp⟩⟩
end
end L3

set_option Elab.async false
set_option linter.all false
set_option maxRecDepth 100000
set_option maxHeartbeats 1000000
namespace L3
open PySem PySem.Spec PyProof.Rows L2
/-! promises of pure defs -/
section
variable {α β γ : Type}
def sp1 (R1 : Rl α) (pre : α → Prop) (R : α → Pr) : Sp := fun vs H Q _ => ∃ x M v, vs = [v] ∧ Same M H ∧ R1 x M v ∧ pre x ∧ ∀ u M' H', Gr M H M' H' → R x M' u → Q u H'
def sp2 (R1 : Rl α) (R2 : Rl β) (pre : α → β → Prop) (R : α → β → Pr) : Sp := fun vs H Q _ => ∃ x y M v w, vs = [v, w] ∧ Same M H ∧ R1 x M v ∧ R2 y M w ∧ pre x y ∧ ∀ u M' H', Gr M H M' H' → R x y M' u → Q u H'
def sp3 (R1 : Rl α) (R2 : Rl β) (R3 : Rl γ) (pre : α → β → γ → Prop) (R : α → β → γ → Pr) : Sp := fun vs H Q _ => ∃ x y z M v w u, vs = [v, w, u] ∧ Same M H ∧ R1 x M v ∧ R2 y M w ∧ R3 z M u ∧ pre x y z ∧ ∀ u M' H', Gr M H M' H' → R x y z M' u → Q u H'
/-- a new list comes back -/
def sl1 (R1 : Rl α) (pre : α → Prop) (R : α → Hp → List V → Prop) : Sp := fun vs H Q _ => ∃ x M v, vs = [v] ∧ Same M H ∧ R1 x M v ∧ pre x ∧
  ∀ p ws M' H', Gr M H M' H' → H p = none → M' p = none → H' p = some (.lst ws) → R x M' ws → Q (.ref p) H'
def sl2 (R1 : Rl α) (R2 : Rl β) (pre : α → β → Prop) (R : α → β → Hp → List V → Prop) : Sp := fun vs H Q _ => ∃ x y M v w, vs = [v, w] ∧ Same M H ∧ R1 x M v ∧ R2 y M w ∧ pre x y ∧
  ∀ p ws M' H', Gr M H M' H' → H p = none → M' p = none → H' p = some (.lst ws) → R x y M' ws → Q (.ref p) H'
variable {K : PySem.W.Frag} {σ : Sl} {M : Hp} {t1 t2 t3 ta te ts : TE} {R1 : Rl α} {R2 : Rl β} {R3 : Rl γ} {E : XK}
theorem gv_call1 {pre : α → Prop} {R : α → Pr} {x : α} (h1 : Gv t1 σ M (R1 x)) (hp : pre x) : Gv (tCall (sp1 R1 pre R) [] E (tCons t1 tNil)) σ M (R x) := fun H mh Q q =>
  h1 H mh _ fun v M1 H1 g1 p1 => ⟨x, M1, v, rfl, g1.mh, p1, hp, fun u M' H' g r => q u M' H' (g1.trans g) r⟩
theorem gv_call2 [Mon R1] [Mon R2] {pre : α → β → Prop} {R : α → β → Pr} {x : α} {y : β} (h1 : Gv t1 σ M (R1 x)) (h2 : Gv t2 σ M (R2 y)) (hp : pre x y) : Gv (tCall (sp2 R1 R2 pre R) [] E (tCons t1 (tCons t2 tNil))) σ M (R x y) := fun H mh Q q =>
  h1 H mh _ fun v M1 H1 g1 p1 => h2.le g1.mm H1 g1.mh _ fun w M2 H2 g2 p2 => ⟨x, y, M2, v, w, rfl, g2.mh, Mon.mono g2.mm p1, p2, hp, fun u M' H' g r => q u M' H' ((g1.trans g2).trans g) r⟩
theorem gv_call3 [Mon R1] [Mon R2] [Mon R3] {pre : α → β → γ → Prop} {R : α → β → γ → Pr} {x : α} {y : β} {z : γ} (h1 : Gv t1 σ M (R1 x)) (h2 : Gv t2 σ M (R2 y)) (h3 : Gv t3 σ M (R3 z)) (hp : pre x y z) :
    Gv (tCall (sp3 R1 R2 R3 pre R) [] E (tCons t1 (tCons t2 (tCons t3 tNil)))) σ M (R x y z) := fun H mh Q q =>
  h1 H mh _ fun v M1 H1 g1 p1 => h2.le g1.mm H1 g1.mh _ fun w M2 H2 g2 p2 => h3.le (g1.mm.trans g2.mm) H2 g2.mh _ fun u M3 H3 g3 p3 =>
    ⟨x, y, z, M3, v, w, u, rfl, g3.mh, Mon.mono (g2.mm.trans g3.mm) p1, Mon.mono g3.mm p2, p3, hp, fun u M' H' g r => q u M' H' (((g1.trans g2).trans g3).trans g) r⟩
theorem gl_call2 [Mon R1] [Mon R2] {pre : α → β → Prop} {R : α → β → Hp → List V → Prop} {x : α} {y : β} (h1 : Gv t1 σ M (R1 x)) (h2 : Gv t2 σ M (R2 y)) (hp : pre x y) : GvL (tCall (sl2 R1 R2 pre R) [] E (tCons t1 (tCons t2 tNil))) σ M (R x y) := fun H mh Q q =>
  h1 H mh _ fun v M1 H1 g1 p1 => h2.le g1.mm H1 g1.mh _ fun w M2 H2 g2 p2 => ⟨x, y, M2, v, w, rfl, g2.mh, Mon.mono g2.mm p1, p2, hp, fun p ws M' H' g h0 m0 hw r => q p ws M' H' ((g1.trans g2).trans g) ((g1.trans g2).hh.free h0) m0 hw r⟩
/-! built-ins -/
theorem gv_cb1 {r : List V → Hp → VK → Prop} {P P' : Pr} [Mono P] (h : Gv te σ M P) (hr : ∀ M' v, P M' v → RV (r [v]) M' P') : Gv (tCB r (tCons te tNil)) σ M P' := fun H mh Q q =>
  h H mh _ fun v M1 H1 g1 p1 => hr M1 v p1 H1 g1.mh Q fun u M' H' g r => q u M' H' (g1.trans g) r
theorem pd_bl {bs : List Bool} {M : Hp} : ∀ {vs : List V}, Pd Bl M bs vs → vs = bs.map V.bl := by
  induction bs with
  | nil => intro vs h; cases h; rfl
  | cons b bs ih => intro vs h; cases h with | cons q t => rw [ih t, (show _ = V.bl b from q)]; rfl
theorem pd_tx {xs : List Str} {M : Hp} : ∀ {vs : List V}, Pd Tx M xs vs → vs = xs.map V.str := by
  induction xs with
  | nil => intro vs h; cases h; rfl
  | cons b bs ih => intro vs h; cases h with | cons q t => rw [ih t, (show _ = V.str b from q)]; rfl
theorem pd_of_tx {M : Hp} : ∀ (xs : List Str), Pd Tx M xs (xs.map V.str)
  | [] => .nil
  | _ :: r => .cons rfl (pd_of_tx r)
theorem gv_all {bs : List Bool} (h : GvL te σ M fun M vs => Pd Bl M bs vs) : Gv (tCB (rAll K) (tCons te tNil)) σ M (Bl (bs.all id)) := fun H mh Q q =>
  h H mh _ fun p vs M' H' g h0 m0 hw r => ⟨p, bs, rfl, by rw [pd_bl r] at hw; exact .inl (.inl hw), q _ M' H' g rfl⟩
theorem gv_any {bs : List Bool} (h : GvL te σ M fun M vs => Pd Bl M bs vs) : Gv (tCB (rAny K) (tCons te tNil)) σ M (Bl (bs.any id)) := fun H mh Q q =>
  h H mh _ fun p vs M' H' g h0 m0 hw r => ⟨p, bs, rfl, by rw [pd_bl r] at hw; exact .inl (.inl hw), q _ M' H' g rfl⟩
def rTupOf (K : PySem.W.Frag) : List V → Hp → VK → Prop := fun xs H Q => ∃ p ys, xs = [.ref p] ∧ ((SqL K H p ys ∧ ∀ l, H l = none → Q (.ref l) (upd H l (.tup ys))) ∨ (SqT K H p ys ∧ Q (.ref p) H))
def rLstOf (K : PySem.W.Frag) : List V → Hp → VK → Prop := fun xs H Q => ∃ p ys, xs = [.ref p] ∧ (SqL K H p ys ∨ SqT K H p ys) ∧ ∀ l, H l = none → Q (.ref l) (upd H l (.lst ys))
def rLenOf (K : PySem.W.Frag) : List V → Hp → VK → Prop := fun xs H Q => ∃ p ys, xs = [.ref p] ∧ (SqL K H p ys ∨ SqT K H p ys) ∧ Q (.int ys.length) H
theorem gv_tupOf [Mon R1] {xs : List α} (h : Gv te σ M (SqR K R1 xs)) : Gv (tCB (rTupOf K) (tCons te tNil)) σ M (TupR K R1 xs) := gv_cb1 h fun M' v hv H mh Q q => by
  rcases hv with ⟨a, vs, rfl, hs, hp⟩ | ⟨a, vs, rfl, hs, hp⟩
  · exact ⟨a, vs, rfl, .inl ⟨sl_mono mh hs, fun l nl => q _ _ _ (.new mh nl) ⟨l, vs, rfl, .inl (.inl upd_same), hp.mono (same_new (mh.free nl))⟩⟩⟩
  · exact ⟨a, vs, rfl, .inr ⟨st_mono mh hs, q _ M' H (.refl mh) ⟨a, vs, rfl, hs, hp⟩⟩⟩
theorem gl_lstOf [Mon R1] {xs : List α} (h : Gv te σ M (SqR K R1 xs)) : GvL (tCB (rLstOf K) (tCons te tNil)) σ M fun M vs => Pd R1 M xs vs := fun H mh Q q =>
  h H mh _ fun v M1 H1 g1 hv => by
    rcases hv with ⟨a, vs, rfl, hs, hp⟩ | ⟨a, vs, rfl, hs, hp⟩
    · exact ⟨a, vs, rfl, .inl (sl_mono g1.mh hs), fun l nl => q l vs M1 _ (g1.trans (.own g1.mh nl)) (g1.hh.free nl) (g1.mh.free nl) upd_same hp⟩
    · exact ⟨a, vs, rfl, .inr (st_mono g1.mh hs), fun l nl => q l vs M1 _ (g1.trans (.own g1.mh nl)) (g1.hh.free nl) (g1.mh.free nl) upd_same hp⟩
/-! texts cut -/
/-! loops -/
variable {D : Ends} {tb : TS}
theorem s_for [Mon R1] {j : Nat} {xs : List α} {H : Hp} (mh : Same M H) (hsrc : Gv ts σ M (SqR K R1 xs)) (Pv : Hp → Nat → Sl → Hp → Hp → Prop)
    (h0 : ∀ M1 H1, Gr M H M1 H1 → Pv M1 0 σ M1 H1) (hk : ∀ M1 i σ' M' H', Pv M1 i σ' M' H' → Same M1 M' ∧ Same M' H')
    (hs : ∀ M1 i x v σ' M' H', Same M M1 → xs[i]? = some x → Pv M1 i σ' M' H' → R1 x M' v → tb { D with nx := fun σ2 H2 => ∃ M2, Pv M1 (i + 1) σ2 M2 H2, ct := fun σ2 H2 => ∃ M2, Pv M1 (i + 1) σ2 M2 H2, bk := D.nx } (σ'.set j (some v)) H')
    (hd : ∀ M1 σ' M' H', Same M M1 → Pv M1 xs.length σ' M' H' → D.nx σ' H') : tFor (iSq K ts) (gName j) tb D σ H := by
  refine hsrc H mh _ fun v M1 H1 g1 hv => ?_
  have core : ∀ (J : It) (G : Hp → Prop) (vs : List V), Walk J vs.length G (YAt vs) → (∀ M2 H2, Same M1 M2 → Same M2 H2 → G H2) → Pd R1 M1 xs vs →
      ∃ W : Nat → Nat → L2.St → Hp → Prop, (∃ m, W 0 m σ H1) ∧ ∀ i m σ H, W i m σ H →
        (J.stop i H ∧ D.nx σ H) ∨ (J.go i H ∧ ∃ N : L2.St → Hp → Prop, (∀ σ' H', N σ' H' → ∃ m', m' < m ∧ W (i + 1) m' σ' H') ∧ ∀ x H', J.yld i H x H' → gName j x σ H' fun σ2 H2 => tb { D with nx := N, ct := N, bk := D.nx } σ2 H2) := by
    intro J G vs w hG hp
    refine for_it w (fun i σ' H' => ∃ M', Pv M1 i σ' M' H') ⟨M1, h0 M1 H1 g1⟩ (fun i σ' H' _ ⟨M', p⟩ => hG M' H' (hk _ _ _ _ _ p).1 (hk _ _ _ _ _ p).2) ?_ ?_
    · rintro i y σ' H' H'' hi ⟨M', p⟩ ⟨rfl, hy⟩
      obtain ⟨x, hx, rx⟩ := pd_get' hp hy
      exact hs M1 i x y σ' M' _ g1.mm hx p (Mon.mono (hk _ _ _ _ _ p).1 rx)
    · rintro σ' H' ⟨M', p⟩
      rw [← hp.length] at p
      exact hd M1 σ' M' H' g1.mm p
  rcases hv with ⟨a, vs, rfl, hs', hp⟩ | ⟨a, vs, rfl, hs', hp⟩
  · exact ⟨a, rfl, .inl ⟨vs, sl_mono g1.mh hs', core (Itl K a) (fun H => SqL K H a vs) vs walk_list (fun M2 H2 s1 s2 => sl_mono (s1.trans s2) hs') hp⟩⟩
  · exact ⟨a, rfl, .inr ⟨vs, st_mono g1.mh hs', core (Itt K a) (fun H => SqT K H a vs) vs walk_tup (fun M2 H2 s1 s2 => st_mono (s1.trans s2) hs') hp⟩⟩
/-- for i, x in enumerate(xs) -/
theorem s_forE [Mon R1] {j k : Nat} {xs : List α} {H : Hp} (mh : Same M H) (hsrc : Gv ts σ M (SqR K R1 xs)) (Pv : Hp → Nat → Sl → Hp → Hp → Prop)
    (h0 : ∀ M1 H1, Gr M H M1 H1 → Pv M1 0 σ M1 H1) (hk : ∀ M1 i σ' M' H', Pv M1 i σ' M' H' → Same M1 M' ∧ Same M' H')
    (hs : ∀ M1 i x v σ' M' H' H'', Same M M1 → xs[i]? = some x → Pv M1 i σ' M' H' → Gr M' H' M' H'' → R1 x M' v →
      tb { D with nx := fun σ2 H2 => ∃ M2, Pv M1 (i + 1) σ2 M2 H2, ct := fun σ2 H2 => ∃ M2, Pv M1 (i + 1) σ2 M2 H2, bk := D.nx } ((σ'.set j (some (.int (i : Nat)))).set k (some v)) H'')
    (hd : ∀ M1 σ' M' H', Same M M1 → Pv M1 xs.length σ' M' H' → D.nx σ' H') : tFor (iEn K (tCons ts tNil)) (gTup K 2 (gCons (gName j) (gCons (gName k) gNil))) tb D σ H := by
  refine hsrc H mh _ fun v M1 H1 g1 hv => ?_
  have core : ∀ (J : It) (G : Hp → Prop) (vs : List V), Walk J vs.length G (YPair (fun i => some (.int (i : Nat))) fun i => vs[i]?) → (∀ M2 H2, Same M1 M2 → Same M2 H2 → G H2) → Pd R1 M1 xs vs →
      ∃ W : Nat → Nat → L2.St → Hp → Prop, (∃ m, W 0 m σ H1) ∧ ∀ i m σ H, W i m σ H →
        (J.stop i H ∧ D.nx σ H) ∨ (J.go i H ∧ ∃ N : L2.St → Hp → Prop, (∀ σ' H', N σ' H' → ∃ m', m' < m ∧ W (i + 1) m' σ' H') ∧ ∀ x H', J.yld i H x H' → gTup K 2 (gCons (gName j) (gCons (gName k) gNil)) x σ H' fun σ2 H2 => tb { D with nx := N, ct := N, bk := D.nx } σ2 H2) := by
    intro J G vs w hG hp
    refine for_it w (fun i σ' H' => ∃ M', Pv M1 i σ' M' H') ⟨M1, h0 M1 H1 g1⟩ (fun i σ' H' _ ⟨M', p⟩ => hG M' H' (hk _ _ _ _ _ p).1 (hk _ _ _ _ _ p).2) ?_ ?_
    · rintro i y σ' H' H'' hi ⟨M', p⟩ ⟨T, x1, x2, rfl, nT, rfl, e1, hy⟩
      cases e1
      obtain ⟨x, hx, rx⟩ := pd_get' hp hy
      have km := hk _ _ _ _ _ p
      refine ⟨T, _, rfl, .inl (.inl upd_same), rfl, _, _, rfl, _, _, rfl, rfl, ?_⟩
      exact hs M1 i x x2 σ' M' H' _ g1.mm hx p (.own km.2 nT) (Mon.mono km.1 rx)
    · rintro σ' H' ⟨M', p⟩
      rw [← hp.length] at p
      exact hd M1 σ' M' H' g1.mm p
  rcases hv with ⟨a, vs, rfl, hs', hp⟩ | ⟨a, vs, rfl, hs', hp⟩
  · exact ⟨a, rfl, .inl ⟨vs, sl_mono g1.mh hs', core (IeS fun H xs => SqL K H a xs) (fun H => SqL K H a vs) vs walk_eS (fun M2 H2 s1 s2 => sl_mono (s1.trans s2) hs') hp⟩⟩
  · exact ⟨a, rfl, .inr ⟨vs, st_mono g1.mh hs', core (IeS fun H xs => SqT K H a xs) (fun H => SqT K H a vs) vs walk_eS (fun M2 H2 s1 s2 => st_mono (s1.trans s2) hs') hp⟩⟩
end
end L3

set_option Elab.async false
set_option linter.all false
set_option maxRecDepth 100000
set_option maxHeartbeats 1000000
namespace L3
open PySem PySem.Spec PyProof.Rows L2
/-! one rule for each operator, whatever the kinds -/
def rDIn (neg : Bool) : R2 := fun x y H Q => ∃ a o, y = .ref a ∧ DGet H a x o ∧ Q (.bl (xor neg o.isSome)) H
def rSgn (neg : Bool) : R2 := fun x y H Q => ∃ (c : Nat) (z : Str), x = .str ⟨#[c]⟩ ∧ y = .str z ∧ Q (.bl (xor neg (decide (c ∈ z.cps.toList)))) H
def rInA (K : PySem.W.Frag) (neg : Bool) : R2 := fun x y H Q => rInP K neg x y H Q ∨ rDIn neg x y H Q ∨ rSgn neg x y H Q
def rAddI : R2 := rI0 fun i j => .int (i + j)
def rAddS : R2 := fun x y H Q => ∃ i j, x = .str i ∧ y = .str j ∧ i.length + j.length ≤ sizeLine ∧ Q (.str (i ++ j)) H
def rAddA (K : PySem.W.Frag) : R2 := fun x y H Q => rAddI x y H Q ∨ rAddS x y H Q ∨ rCatA K x y H Q ∨ rCat x y H Q
def rLenS : List V → Hp → VK → Prop := fun xs H Q => ∃ z, xs = [.str z] ∧ z.length ≤ sizeLine ∧ Q (.int z.length) H
def rLenD : List V → Hp → VK → Prop := fun xs H Q => ∃ a kvs, xs = [V.ref a] ∧ H a = some (.dK kvs) ∧ Q (.int kvs.length) H
def rLenA (K : PySem.W.Frag) : List V → Hp → VK → Prop := fun xs H Q => rLenOf K xs H Q ∨ rLenS xs H Q ∨ rLenD xs H Q
def rSlX (K : PySem.W.Frag) : V → Option Int → Option Int → Hp → VK → Prop := fun x lo hi H Q => rSlS x lo hi H Q ∨ rSlL K x lo hi H Q ∨ rSlA K x lo hi H Q
def rIxX (K : PySem.W.Frag) : R2 := fun x y H Q => rIxL K x y H Q ∨ rIxT K x y H Q ∨ rIxS x y H Q
section
variable {X : Cx}
theorem CallR.or {f : Value} {r r' : List V → Hp → VK → Prop} (h : CallR X f r) (h' : CallR X f r') : CallR X f (fun xs H Q => r xs H Q ∨ r' xs H Q) := fun pins s σ H xs us Q I rx q => q.elim (h pins s σ H xs us Q I rx) (h' pins s σ H xs us Q I rx)
theorem op_dIn (hu : X.A.units + 64 < cLine) : OpR X (compareOp .In) (rDIn false) := by
  intro pins s σ H x y v u Q I rx ry ⟨a, o, ey, g, q⟩
  subst ey
  cases ry
  exact d_in (by omega) I g rx fun s' I' => ⟨.bl _, H, I', rfl, by simpa using q⟩
theorem op_dNotIn (hu : X.A.units + 64 < cLine) : OpR X (compareOp .NotIn) (rDIn true) := by
  intro pins s σ H x y v u Q I rx ry ⟨a, o, ey, g, q⟩
  subst ey
  cases ry
  exact d_notIn (by omega) I g rx fun s' I' => ⟨.bl _, H, I', rfl, by simpa using q⟩
theorem op_sgn : OpR X (compareOp .In) (rSgn false) := by
  intro pins s σ H x y v u Q I rx ry ⟨c, z, e1, e2, q⟩
  exact op_in_sign pins s σ H x y v u Q I rx ry ⟨c, z, e1, e2, by simpa using q⟩
theorem op_nsgn : OpR X (compareOp .NotIn) (rSgn true) := by
  intro pins s σ H x y v u Q I rx ry ⟨c, z, e1, e2, q⟩
  exact op_notIn_sign pins s σ H x y v u Q I rx ry ⟨c, z, e1, e2, by simpa using q⟩
theorem op_inA (hu : X.A.units + 64 < cLine) : OpR X (compareOp .In) (rInA X.K false) := (op_inP hu).or ((op_dIn hu).or op_sgn)
theorem op_niA (hu : X.A.units + 64 < cLine) : OpR X (compareOp .NotIn) (rInA X.K true) := (op_notInP hu).or ((op_dNotIn hu).or op_nsgn)
theorem op_addA : OpR X (binaryOp .Add) (rAddA X.K) := OpR.or op_add (OpR.or op_add_str (OpR.or op_catA op_cat))
theorem call_lenA : CallR X (.builtin "len") (rLenA X.K) := CallR.or call_len_seq (CallR.or call_len_str call_lenD)
theorem sl_X : SlR X (rSlX X.K) := SlR.or sl_str (SlR.or sl_list sl_tupA)
theorem ix_X : IxR X (rIxX X.K) := IxR.or ix_list (IxR.or ix_tup ix_str)
theorem call_tupA : CallR X (.type "tuple") (rTupOf X.K) := call_tuple_of
theorem call_lstA : CallR X (.type "list") (rLstOf X.K) := call_list_of
end
/-! dicts whose keys are texts, each with True -/
def kvT (ks : List Str) : List (Key × V) := ks.map fun k => (Sum.inr k, V.bl true)
def DcR : Rl (List Str) := fun ks M v => ∃ a, v = .ref a ∧ Rd M a (.dK (kvT ks))
instance : Mon DcR := ⟨fun e ⟨a, h, r⟩ => ⟨a, h, rd_mono e r⟩⟩
theorem val_kvT (x : Str) : ∀ ks : List Str, (valV (kvT ks) (Sum.inr x : Key)).isSome = decide (x ∈ ks)
  | [] => rfl
  | k :: ks => by
    have ih := val_kvT x ks
    unfold valV kvT at ih ⊢
    rw [List.map_cons, List.find?_cons]
    by_cases h : k = x
    · subst h; simp
    · have h1 : ¬ (Sum.inr k : Key) = Sum.inr x := fun z => h (Sum.inr.inj z)
      have h2 : ¬ x = k := fun z => h z.symm
      simp only [h1, decide_false, List.mem_cons, h2, false_or]
      exact ih
/-- anything with texts that «in» asks -/
def CtR (K : PySem.W.Frag) : Rl (List Str) := fun xs M v => SqR K Tx xs M v ∨ DcR xs M v
instance {K : PySem.W.Frag} : Mon (CtR K) := ⟨fun e h => h.imp (Mon.mono e) (Mon.mono e)⟩
section
variable {K : PySem.W.Frag} {σ : Sl} {M : Hp} {ta tb te ts : TE} {tt : TT} {α β : Type} {R : Rl α} {S : Rl β}
theorem gv_inA {neg : Bool} {x : Str} {xs : List Str} (ha : Gv ta σ M (Tx x)) (hb : Gv tb σ M (CtR K xs)) : Gv (tOp (rInA K neg) ta tb) σ M (Bl (xor neg (decide (x ∈ xs)))) :=
  gv_op ha hb fun M' u w px py => rv_pure (fun H mh Q q => by
    rcases py with py | ⟨a, e, r⟩
    · exact .inl ⟨.str x, _, (by cases px; exact .str x), (py_sq py_str py).mono mh, (by simp [PyData.depth]), (by rw [any_mem inj_str]; exact q)⟩
    · subst e
      cases px
      exact .inr (.inl ⟨a, _, rfl, .inl ⟨_, Sum.inr x, rd_mono mh r, rfl, rfl⟩, by rw [val_kvT]; exact q⟩)) rfl
/-- .. of data -/
theorem gv_inD {e : α → PyData} [DecidableEq α] [Mon R] {neg : Bool} {x : α} {xs : List α} (pe : PyR K R e) (ie : Inj e) (ha : Gv ta σ M (R x)) (hb : Gv tb σ M (SqR K R xs)) (hz : (e x).depth ≤ 60) : Gv (tOp (rInA K neg) ta tb) σ M (Bl (xor neg (decide (x ∈ xs)))) :=
  gv_op ha hb fun M' u w px py => rv_pure (fun H mh Q q => .inl ⟨e x, _, dp_mono mh (pe _ _ _ px), (py_sq pe py).mono mh, hz, by rw [any_mem ie]; exact q⟩) rfl
theorem gv_sgn {neg : Bool} {c : Nat} {z : Str} (ha : Gv ta σ M (Tx ⟨#[c]⟩)) (hb : Gv tb σ M (Tx z)) : Gv (tOp (rInA K neg) ta tb) σ M (Bl (xor neg (decide (c ∈ z.cps.toList)))) :=
  gv_op ha hb fun M' u w px py => rv_pure (fun H mh Q q => .inr (.inr ⟨c, z, px, py, q⟩)) rfl
theorem gv_addSt {x y : Str} (ha : Gv ta σ M (Tx x)) (hb : Gv tb σ M (Tx y)) (hz : x.length + y.length ≤ sizeLine) : Gv (tOp (rAddA K) ta tb) σ M (Tx (x ++ y)) :=
  gv_op ha hb fun M' u w px py => rv_pure (fun H mh Q q => .inr (.inl ⟨x, y, px, py, hz, q⟩)) rfl
theorem gv_addIn {x y : Int} (ha : Gv ta σ M (It' x)) (hb : Gv tb σ M (It' y)) : Gv (tOp (rAddA K) ta tb) σ M (It' (x + y)) :=
  gv_op ha hb fun M' u w px py => rv_pure (fun H mh Q q => .inl ⟨x, y, px, py, q⟩) rfl
theorem gv_lenA [Mon R] {xs : List α} (h : Gv te σ M (SqR K R xs)) : Gv (tCB (rLenA K) (tCons te tNil)) σ M (It' xs.length) := gv_cb1 h fun M' v hv H mh Q q => by
  rcases hv with ⟨a, vs, rfl, hs, hp⟩ | ⟨a, vs, rfl, hs, hp⟩
  · exact .inl ⟨a, vs, rfl, .inl (sl_mono mh hs), q _ M' H (.refl mh) (by rw [hp.length])⟩
  · exact .inl ⟨a, vs, rfl, .inr (st_mono mh hs), q _ M' H (.refl mh) (by rw [hp.length])⟩
theorem gv_lenS {x : Str} (h : Gv te σ M (Tx x)) (hz : x.length ≤ sizeLine) : Gv (tCB (rLenA K) (tCons te tNil)) σ M (It' x.length) := gv_cb1 h fun M' v hv H mh Q q => .inr (.inl ⟨x, by rw [hv], hz, q _ M' H (.refl mh) rfl⟩)
theorem gv_cutS {tl th : TO} {x : Str} {lo hi : Option Int} (h : Gv te σ M (Tx x)) (hz : x.length ≤ sizeLine)
    (hl : ∀ (H : Hp) (Q : Option Int → Hp → Prop), Q lo H → tl σ H Q) (hh : ∀ (H : Hp) (Q : Option Int → Hp → Prop), Q hi H → th σ H Q) : Gv (tSl (rSlX K) te tl th) σ M (Tx (cutS x lo hi)) := fun H mh Q q =>
  h H mh _ fun v M1 H1 g1 p => hl H1 _ (hh H1 _ (.inl ⟨x, p, hz, q _ M1 H1 g1 rfl⟩))
/-- an item -/
theorem gv_ix [Mon R] {xs : List α} {i : Int} {x : α} (ha : Gv ta σ M (SqR K R xs)) (hb : Gv tb σ M (It' i)) (hx : atI xs i = some x) : Gv (tOp (rIxX K) ta tb) σ M (R x) := by
  refine gv_op ha hb fun M' u w pu pw => ?_
  cases (show w = .int i from pw)
  unfold atI at hx
  obtain ⟨j, hj, hx⟩ := Option.bind_eq_some_iff.mp hx
  rcases pu with ⟨a, vs, rfl, hs, hp⟩ | ⟨a, vs, rfl, hs, hp⟩
  all_goals
    obtain ⟨v, hv, rv⟩ := pd_get hp hx
    have ha : atI vs i = some v := by unfold atI; rw [← hp.length, hj]; exact hv
  · exact rv_pure (v := v) (fun H mh Q q => .inl ⟨a, vs, i, v, rfl, rfl, sl_mono mh hs, ha, q⟩) rv
  · exact rv_pure (v := v) (fun H mh Q q => .inr (.inl ⟨a, vs, i, v, rfl, rfl, st_mono mh hs, ha, q⟩)) rv
theorem gv_ixS {x : Str} {i : Int} {c : Nat} (ha : Gv ta σ M (Tx x)) (hb : Gv tb σ M (It' i)) (hz : x.length ≤ sizeLine) (hx : atI x.cps.toList i = some c) : Gv (tOp (rIxX K) ta tb) σ M (Tx ⟨#[c]⟩) :=
  gv_op ha hb fun M' u w pu pw => rv_pure (fun H mh Q q => .inr (.inr ⟨x, i, c, pu, pw, hz, hx, q⟩)) rfl
/-- a written tuple of two texts -/
theorem gv_tup2 {x y : Str} (h1 : Gv ta σ M (Tx x)) (h2 : Gv tb σ M (Tx y)) : Gv (tTup (tCons ta (tCons tb tNil))) σ M (TupR K Tx [x, y]) := fun H mh Q q =>
  h1 H mh _ fun v M1 H1 g1 p1 => h2.le g1.mm H1 g1.mh _ fun w M2 H2 g2 p2 => ⟨by show 2 ≤ sizeLine; decide, fun p np => q _ _ _ ((g1.trans g2).trans (.new g2.mh np)) ⟨p, _, rfl, .inl (.inl upd_same), .cons p1 (.cons p2 .nil)⟩⟩
end
end L3

set_option Elab.async false
set_option linter.all false
set_option maxRecDepth 100000
set_option maxHeartbeats 1000000
namespace L3
open PySem PySem.Spec PyProof.Rows L2
/-! calls of defs by name -/
def Cal (P : Program) (w : World) (K : PySem.W.Frag) (mg : Str → Option Value) (base : Heap) (k : Nat) (x : Str) (ps : List Str) (sp : Sp) : Prop :=
  ∃ f fd, FnOk P w K mg base CX0 k f fd ps sp ∧ mg x = some (.ref f) ∧ PySem.W.keepIn K (.ref f) = true ∧ Binds K fd ps []
theorem pe_f {X : Cx} {k : Nat} {x : Str} {ps : List Str} {sp : Sp} {e : Expr} {es : List Expr} {t : TA} {p pos : Pos} (c : Cal X.prog X.w X.K X.mg X.base k x ps sp) (hr : Room k X.A) (ha : PA X (e :: es) t) (hg : Gl X x := by rfl)
    (hdb : (x == ("__debug__" : Str)) = false := by decide) (he : starEach (e :: es) X.env = (false, eval e X.env) :: starEach es X.env := by rfl) (hpl : (backTo pos (starEach es X.env)).any (·.1) = false := by rfl) :
    PE X (.Call (.Name x p) (e :: es) [] pos) (tCall sp [] E0 t) :=
  let ⟨_, _, G, m, kp, b⟩ := c
  pe_call G hr hg m kp b .nil pass0 ha hdb he hpl
/-! small statements -/
section
variable {K : PySem.W.Frag} {σ : Sl} {M H : Hp} {te : TE} {P : Pr} {D : Ends} {tu tw tz : TS} {tt : TT} {b : Bool}
theorem s_ret (mh : Same M H) (h : Gv te σ M P) (k : ∀ v M' H', Gr M H M' H' → P M' v → D.rt v H') : tRet te D σ H := h H mh _ k
theorem s_asg {i : Nat} (mh : Same M H) (h : Gv te σ M P) (k : ∀ v M' H', Gr M H M' H' → P M' v → D.nx (σ.set i (some v)) H') : tAsg te (gName i) D σ H := h H mh _ k
theorem q_asg {i : Nat} (mh : Same M H) (h : Gv te σ M P) (k : ∀ v M' H', Gr M H M' H' → P M' v → tz D (σ.set i (some v)) H') : tSeq (tAsg te (gName i)) tz D σ H := h H mh _ k
theorem q_asgL {i : Nat} {P : Hp → List V → Prop} (mh : Same M H) (h : GvL te σ M P) (k : ∀ p vs M' H', Gr M H M' H' → H p = none → M' p = none → H' p = some (.lst vs) → P M' vs → tz D (σ.set i (some (.ref p))) H') : tSeq (tAsg te (gName i)) tz D σ H := h H mh _ k
theorem q_if (mh : Same M H) (h : GvT tt σ M b) (h1 : b = true → ∀ H', Same H H' → tu { D with nx := tz D } σ H') (h2 : b = false → ∀ H', Same H H' → tw { D with nx := tz D } σ H') : tSeq (tIfS tt tu tw) tz D σ H := h H mh _ fun M' H' g => by
  cases b with
  | true => exact h1 rfl H' g.hh
  | false => exact h2 rfl H' g.hh
theorem s_if (mh : Same M H) (h : GvT tt σ M b) (h1 : b = true → ∀ H', Same H H' → tu D σ H') (h2 : b = false → ∀ H', Same H H' → tw D σ H') : tIfS tt tu tw D σ H := h H mh _ fun M' H' g => by
  cases b with
  | true => exact h1 rfl H' g.hh
  | false => exact h2 rfl H' g.hh
theorem Gr.idle {M H H' : Hp} (mh : Same M H) (hh : Same H H') : Gr M H M H' := ⟨Same.refl M, hh, mh.trans hh, fun _ _ e => .inl e, fun _ _ e => e⟩
/-- an empty list, ours -/
theorem gl_nil : GvL (tLst tNil) σ M fun _ vs => vs = [] := gl_lst ga_nil fun _ vs h => by rw [h]; exact Nat.zero_le _
/-- xs.append(e), xs in slot i at p -/
theorem s_app {i : Nat} {p : Addr} {vs : List V} (mh : Same M H) (hi : σ[i]? = some (some (.ref p))) (hp : H p = some (.lst vs)) (hz : vs.length < sizeLine) (h : Gv te σ M P)
    (k : ∀ v M' H', Gr M H M' H' → P M' v → D.nx σ (upd H' p (.lst (vs ++ [v])))) : tDrop (tBM K "list" rAppend (tVar i) (tCons te tNil)) D σ H :=
  ⟨.ref p, hi, .inl ⟨rfl, _, .inl (.inl hp)⟩, h H mh _ fun v M' H' g r => ⟨p, vs, v, rfl, rfl, g.hh _ _ hp, hz, k v M' H' g r⟩⟩
/-- xs.extend(e), e a new list -/
theorem s_ext {i : Nat} {p : Addr} {vs : List V} {P : Hp → List V → Prop} (mh : Same M H) (hi : σ[i]? = some (some (.ref p))) (hp : H p = some (.lst vs)) (h : GvL te σ M P) (hz : ∀ M' ws, P M' ws → vs.length + ws.length ≤ sizeLine)
    (k : ∀ ws M' H', Gr M H M' H' → P M' ws → D.nx σ (upd H' p (.lst (vs ++ ws)))) : tDrop (tBM K "list" rExtend (tVar i) (tCons te tNil)) D σ H :=
  ⟨.ref p, hi, .inl ⟨rfl, _, .inl (.inl hp)⟩, h H mh _ fun b ws M' H' g h0 m0 hb r => ⟨p, b, vs, ws, rfl, rfl, g.hh _ _ hp, hb, hz M' ws r, k ws M' H' g r⟩⟩
end
/-- what we own: new since H0, not known to M -/
structure Own (H0 M H : Hp) (p : Addr) (vs : List V) : Prop where
  h0 : H0 p = none
  m : M p = none
  h : H p = some (.lst vs)
theorem Own.fr {H0 M H : Hp} {p : Addr} {vs : List V} (o : Own H0 M H p vs) (mh : Same M H) : Same (upd M p (.lst vs)) H := fun b u e => by
  by_cases hb : b = p
  · subst hb; rw [upd_same] at e; rw [o.h]; exact e
  · rw [upd_ne hb] at e; exact mh b u e
theorem Own.up {H0 M H : Hp} {p : Addr} {vs : List V} (o : Own H0 M H p vs) : Same M (upd M p (.lst vs)) := same_new o.m
theorem Own.idle {H0 M H H' : Hp} {p : Addr} {vs : List V} (o : Own H0 M H p vs) (hh : Same H H') : Own H0 M H' p vs := ⟨o.h0, o.m, hh _ _ o.h⟩
theorem Own.put {H0 M H : Hp} {p : Addr} {vs ws : List V} (o : Own H0 M H p vs) : Own H0 M (upd H p (.lst ws)) p ws := ⟨o.h0, o.m, upd_same⟩
theorem Own.lst {K : PySem.W.Frag} {α : Type} {R : Rl α} {H0 M H : Hp} {p : Addr} {vs : List V} {xs : List α} [Mon R] (o : Own H0 M H p vs) (h : Pd R M xs vs) : LstR K R xs (upd M p (.lst vs)) (.ref p) := ⟨p, vs, rfl, .inl (.inl upd_same), h.mono o.up⟩
theorem Own.step {H0 M H M' H' : Hp} {p : Addr} {vs : List V} (o : Own H0 M H p vs) (g : Gr M H M' H') : Own H0 M' H' p vs := ⟨o.h0, g.keep o.m o.h, g.hh _ _ o.h⟩
section
variable {K : PySem.W.Frag} {σ : Sl} {M : Hp} {ts : TE} {α : Type} {R1 : Rl α} {D : Ends} {tb tz : TS}
theorem q_for [Mon R1] {j : Nat} {xs : List α} {H : Hp} (mh : Same M H) (hsrc : Gv ts σ M (SqR K R1 xs)) (Pv : Hp → Nat → Sl → Hp → Hp → Prop)
    (h0 : ∀ M1 H1, Gr M H M1 H1 → Pv M1 0 σ M1 H1) (hk : ∀ M1 i σ' M' H', Pv M1 i σ' M' H' → Same M1 M' ∧ Same M' H')
    (hs : ∀ M1 i x v σ' M' H', Same M M1 → xs[i]? = some x → Pv M1 i σ' M' H' → R1 x M' v → tb { D with nx := fun σ2 H2 => ∃ M2, Pv M1 (i + 1) σ2 M2 H2, ct := fun σ2 H2 => ∃ M2, Pv M1 (i + 1) σ2 M2 H2, bk := tz D } (σ'.set j (some v)) H')
    (hd : ∀ M1 σ' M' H', Same M M1 → Pv M1 xs.length σ' M' H' → tz D σ' H') : tSeq (tFor (iSq K ts) (gName j) tb) tz D σ H := s_for (D := { D with nx := tz D }) mh hsrc Pv h0 hk hs hd
theorem q_forE [Mon R1] {j k : Nat} {xs : List α} {H : Hp} (mh : Same M H) (hsrc : Gv ts σ M (SqR K R1 xs)) (Pv : Hp → Nat → Sl → Hp → Hp → Prop)
    (h0 : ∀ M1 H1, Gr M H M1 H1 → Pv M1 0 σ M1 H1) (hk : ∀ M1 i σ' M' H', Pv M1 i σ' M' H' → Same M1 M' ∧ Same M' H')
    (hs : ∀ M1 i x v σ' M' H' H'', Same M M1 → xs[i]? = some x → Pv M1 i σ' M' H' → Gr M' H' M' H'' → R1 x M' v →
      tb { D with nx := fun σ2 H2 => ∃ M2, Pv M1 (i + 1) σ2 M2 H2, ct := fun σ2 H2 => ∃ M2, Pv M1 (i + 1) σ2 M2 H2, bk := tz D } ((σ'.set j (some (.int (i : Nat)))).set k (some v)) H'')
    (hd : ∀ M1 σ' M' H', Same M M1 → Pv M1 xs.length σ' M' H' → tz D σ' H') : tSeq (tFor (iEn K (tCons ts tNil)) (gTup K 2 (gCons (gName j) (gCons (gName k) gNil))) tb) tz D σ H := s_forE (D := { D with nx := tz D }) mh hsrc Pv h0 hk hs hd
/-- the whole of a tuple of ours: tuple(xs) -/
theorem s_retTup {i : Nat} {p : Addr} {vs : List V} {H : Hp} (mh : Same M H) (hi : σ[i]? = some (some (.ref p))) (hp : H p = some (.lst vs))
    (k : ∀ l, H l = none → D.rt (.ref l) (upd H l (.tup vs))) : tRet (tCB (rTupOf K) (tCons (tVar i) tNil)) D σ H := ⟨.ref p, hi, p, vs, rfl, .inl ⟨.inl (.inl hp), k⟩⟩
end
end L3

set_option Elab.async false
set_option linter.all false
set_option maxRecDepth 100000
set_option maxHeartbeats 1000000
namespace L3
open PySem PySem.Spec PyProof.Rows L2
/-! isinstance of data -/
def tyN : PyData → String
  | .none => "NoneType" | .bool _ => "bool" | .int _ => "int" | .str _ => "str" | .list _ => "list" | .tuple _ => "tuple" | .dict _ => "dict"
theorem ty_of {K : PySem.W.Frag} {H : Hp} {v : V} {d : PyData} (h : Dp K H v d) : TyX K H v (.type (tyN d)) := by
  cases h with
  | non => exact .base .non
  | bl b => exact .base (.bl b)
  | int i => exact .base (.int i)
  | str x => exact .base (.str x)
  | lst hs ha =>
    rcases hs with (h | ⟨o, h⟩) | ⟨o, its, n, hk, hc, _⟩
    · exact .base (.lst h)
    · exact .base (.frz h)
    · exact .kList hk hc
  | tup hs ha =>
    rcases hs with (h | ⟨o, h⟩) | ⟨o, its, n, hk, hc, _⟩
    · exact .base (.tup h)
    · exact .fTuple h
    · exact .kTuple hk hc
section
variable {K : PySem.W.Frag} {σ : Sl} {M : Hp} {ta tb te ts : TE} {α : Type} {R : Rl α}
theorem gv_isi {d : PyData} {n : String} {b : Bool} (h : Gv ta σ M (Dd K d)) (hk : kitB (tyN d) n = some b) : Gv (tCB (rIsi K) (tCons ta (tCons (tC (.ty n)) tNil))) σ M (Bl b) := fun H mh Q q =>
  h H mh _ fun v M1 H1 g1 p => ⟨v, .ty n, _, _, b, rfl, .ty n, ty_of (dp_mono g1.mh p), kit_ty hk, q _ M1 H1 g1 rfl⟩
theorem gv_isi2 {d : PyData} {n m : String} {b c : Bool} (h : Gv ta σ M (Dd K d)) (hk : kitB (tyN d) n = some b) (hm : kitB (tyN d) m = some c) : Gv (tCB (rIsiT K) (tCons ta (tCons (tTup (tCons (tC (.ty n)) (tCons (tC (.ty m)) tNil))) tNil))) σ M (Bl (b || c)) := fun H mh Q q =>
  h H mh _ fun v M1 H1 g1 p => ⟨by show 2 ≤ sizeLine; decide, fun tp ntp => by
    refine ⟨v, tp, _, _, _, b || c, rfl, upd_same, .cons (.ty n) (.cons (.ty m) .nil), ty_of (dp_mono ((g1.mh).trans (same_new ntp)) p), ?_, q _ M1 _ (g1.trans (.own g1.mh ntp)) rfl⟩
    refine kitAny_cons (kit_ty hk) (fun hb => kitAny_cons (kit_ty hm) (fun hc => ?_) fun hc => ?_) fun h => ?_
    · rw [hb, hc]; exact kitAny_nil
    · rw [hb, hc]; rfl
    · rw [h]; rfl⟩
/-- None or a number -/
def OpN : Rl (Option Nat) := fun o _ v => v = match o with | none => .non | some i => .int (i : Nat)
instance : Mon OpN := ⟨fun _ h => h⟩
/-- None or something -/
def OpR' (R : Rl α) : Rl (Option α) := fun o M v => match o with | none => v = .non | some x => R x M v
instance [Mon R] : Mon (OpR' R) := ⟨fun {o M M' v} e h => by
  cases o with
  | none => exact h
  | some x => exact Mon.mono (R := R) e h⟩
theorem pd_d {M : Hp} : ∀ {vs : List V} {ds : List PyData}, DpAll K M vs ds → Pd (Dd K) M ds vs
  | _, _, .nil => .nil
  | _, _, .cons q t => .cons q (pd_d t)
theorem dp_sqL {ds : List PyData} {M : Hp} {v : V} (h : Dp K M v (.list ds)) : SqR K (Dd K) ds M v := by
  cases h with
  | lst hs ha => exact .inl ⟨_, _, rfl, hs, pd_d ha⟩
theorem dp_sqT {ds : List PyData} {M : Hp} {v : V} (h : Dp K M v (.tuple ds)) : SqR K (Dd K) ds M v := by
  cases h with
  | tup hs ha => exact .inr ⟨_, _, rfl, hs, pd_d ha⟩
end
end L3

set_option Elab.async false
set_option linter.all false
set_option maxRecDepth 100000
set_option maxHeartbeats 1000000
namespace L3
open PySem PySem.Spec PyProof.Rows L2
/-! anything walked: the items xs, each told by R -/
def GW {α : Type} (M1 : Hp) (J : It) (xs : List α) (R : Rl α) : Prop := ∃ (G : Hp → Prop) (Y : Nat → Hp → V → Hp → Prop), Walk J xs.length G Y ∧ (∀ M2 H2, Same M1 M2 → Same M2 H2 → G H2) ∧
  ∀ i M2 H2 v H3, Same M1 M2 → Same M2 H2 → i < xs.length → Y i H2 v H3 → ∃ x M3, xs[i]? = some x ∧ Gr M2 H2 M3 H3 ∧ R x M3 v
def GvI {α : Type} (wi : TI) (σ : Sl) (M : Hp) (xs : List α) (R : Rl α) : Prop := ∀ H, Same M H → ∀ Q : It → Hp → Prop, (∀ J M1 H1, Gr M H M1 H1 → GW M1 J xs R → Q J H1) → wi σ H Q
/-- a target: how the slots change -/
def TgOk {α : Type} (g : TG) (R : Rl α) (U : α → Hp → Sl → Sl → Prop) : Prop := ∀ x M v H σ (Q : L2.St → Hp → Prop), R x M v → Same M H → (∀ σ', U x M σ σ' → Q σ' H) → g v σ H Q
abbrev U1 {α : Type} (R : Rl α) (j : Nat) : α → Hp → Sl → Sl → Prop := fun x M σ σ' => ∃ v, R x M v ∧ σ' = σ.set j (some v)
/-- a pair in a tuple -/
def PrR (K : PySem.W.Frag) {α β : Type} (R : Rl α) (S : Rl β) : Rl (α × β) := fun x M v => ∃ a u w, v = .ref a ∧ SqT K M a [u, w] ∧ R x.1 M u ∧ S x.2 M w
instance {K : PySem.W.Frag} {α β : Type} {R : Rl α} {S : Rl β} [Mon R] [Mon S] : Mon (PrR K R S) := ⟨fun e ⟨a, u, w, h1, h2, h3, h4⟩ => ⟨a, u, w, h1, st_mono e h2, Mon.mono e h3, Mon.mono e h4⟩⟩
abbrev U2 {α β : Type} (R : Rl α) (S : Rl β) (j k : Nat) : α × β → Hp → Sl → Sl → Prop := fun x M σ σ' => ∃ v w, R x.1 M v ∧ S x.2 M w ∧ σ' = (σ.set j (some v)).set k (some w)
section
variable {K : PySem.W.Frag} {σ : Sl} {M : Hp} {ta tb te ts : TE} {tt : TT} {α β : Type} {R : Rl α} {S : Rl β} {wi : TI} {g : TG}
theorem tg_1 {j : Nat} : TgOk (gName j) R (U1 R j) := fun x M v H σ Q r mh q => q _ ⟨v, r, rfl⟩
theorem tg_2 {j k : Nat} : TgOk (gTup K 2 (gCons (gName j) (gCons (gName k) gNil))) (PrR K R S) (U2 R S j k) := by
  rintro x M v H σ Q ⟨a, u, w, rfl, h2, h3, h4⟩ mh q
  exact ⟨a, _, rfl, st_mono mh h2, rfl, u, _, rfl, w, _, rfl, rfl, q _ ⟨u, w, h3, h4, rfl⟩⟩
theorem gi_sq [Mon R] {xs : List α} (h : Gv ts σ M (SqR K R xs)) : GvI (iSq K ts) σ M xs R := fun H mh Q q => h H mh _ fun v M1 H1 g1 hv => by
  rcases hv with ⟨a, vs, rfl, hs, hp⟩ | ⟨a, vs, rfl, hs, hp⟩
  · refine ⟨a, rfl, .inl ⟨vs, sl_mono g1.mh hs, q _ M1 H1 g1 ⟨_, _, (by rw [hp.length]; exact walk_list (xs := vs)), fun M2 H2 s1 s2 => sl_mono (s1.trans s2) hs, ?_⟩⟩⟩
    rintro i M2 H2 v H3 s1 s2 hi ⟨rfl, hy⟩
    obtain ⟨x, hx, rx⟩ := pd_get' hp hy
    exact ⟨x, M2, hx, .refl s2, Mon.mono s1 rx⟩
  · refine ⟨a, rfl, .inr ⟨vs, st_mono g1.mh hs, q _ M1 H1 g1 ⟨_, _, (by rw [hp.length]; exact walk_tup (xs := vs)), fun M2 H2 s1 s2 => st_mono (s1.trans s2) hs, ?_⟩⟩⟩
    rintro i M2 H2 v H3 s1 s2 hi ⟨rfl, hy⟩
    obtain ⟨x, hx, rx⟩ := pd_get' hp hy
    exact ⟨x, M2, hx, .refl s2, Mon.mono s1 rx⟩
theorem gi_str {x : Str} (h : Gv ts σ M (Tx x)) : GvI (iStr ts) σ M x.cps.toList (fun c => Tx ⟨#[c]⟩) := fun H mh Q q => h H mh _ fun v M1 H1 g1 hv => by
  refine ⟨x, hv, q _ M1 H1 g1 ⟨_, _, (by rw [Array.length_toList]; exact walk_str (z := x)), fun _ _ _ _ => trivial, ?_⟩⟩
  rintro i M2 H2 v H3 s1 s2 hi ⟨rfl, c, hc, rfl⟩
  exact ⟨c, M2, by simpa using hc, .refl s2, rfl⟩
theorem gi_rng1 {n : Nat} (h : Gv te σ M (It' (n : Int))) (hn : n ≤ 1000000000) : GvI (iRng1 (tCons te tNil)) σ M (List.range n) (fun i => It' (i : Nat)) := fun H mh Q q => h H mh _ fun v M1 H1 g1 hv => by
  cases (show v = _ from hv)
  refine ⟨(n : Int), rfl, by omega, by omega, q _ M1 H1 g1 ⟨_, _, (by rw [List.length_range, Int.toNat_natCast]; exact walk_range), fun _ _ _ _ => trivial, ?_⟩⟩
  rintro i M2 H2 v H3 s1 s2 hi ⟨rfl, rfl⟩
  rw [List.length_range] at hi
  exact ⟨i, M2, by simp [hi], .refl s2, by show V.int _ = V.int _; rw [Int.zero_add]⟩
/-- the keys of a dict that is locked -/
def DcF : Rl (List Str) := fun ks M v => ∃ a o, v = .ref a ∧ M a = some (.frz o (.dK (kvT ks)))
instance : Mon DcF := ⟨fun e ⟨a, o, h, r⟩ => ⟨a, o, h, e _ _ r⟩⟩
theorem DcF.dc {ks : List Str} {M : Hp} {v : V} (h : DcF ks M v) : DcR ks M v := let ⟨a, o, e, r⟩ := h; ⟨a, e, .inr ⟨o, r⟩⟩
theorem gl_comp [Mon S] {U : α → Hp → Sl → Sl → Prop} {vs : List Nat} {xs : List α} (hsrc : GvI wi σ M xs R) (htg : TgOk g R U) (hw : ∀ x M' σ', U x M' (wipe σ vs) σ' → wipe σ' vs = wipe σ vs) (hz : xs.length ≤ sizeLine) (t : α → Bool) (f : α → β)
    (ht : ∀ x ∈ xs, ∀ M1 σ', Same M M1 → U x M1 (wipe σ vs) σ' → GvT tt σ' M1 (t x))
    (he : ∀ x ∈ xs, t x = true → ∀ M1 σ', Same M M1 → U x M1 (wipe σ vs) σ' → Gv te σ' M1 (S (f x))) :
    GvL (tLc wi g tt te vs) σ M fun M ws => Pd S M ((xs.filter t).map f) ws := by
  intro H mh Q q
  refine hsrc H mh _ fun J M1 H1 g1 ⟨G, Y, w, hG, hY⟩ D hD => ?_
  refine lc_it w (fun i H' => ∃ M' ws, Gr M1 H1 M' H' ∧ M' D = none ∧ H' D = some (.lst ws) ∧ ws.length ≤ i ∧ Pd S M' (((xs.take i).filter t).map f) ws) ⟨M1, [], .own g1.mh hD, g1.mh.free hD, upd_same, Nat.le_refl _, .nil⟩ (fun i H' _ ⟨M', ws, g, _⟩ => hG M' H' g.mm g.mh) ?_ ?_
  · rintro i y H' H'' hi ⟨M', ws, g, m0, hw', hl, hpd⟩ hy
    obtain ⟨x, M0, hx, g0, rx⟩ := hY i M' H' y H'' g.mm g.mh hi hy
    have hxm : x ∈ xs := List.mem_of_getElem? hx
    have et : xs.take (i + 1) = xs.take i ++ [x] := by rw [List.take_add_one, hx]; rfl
    have gg := g.trans g0
    have sm := g1.mm.trans gg.mm
    have k0 : H'' D = some (.lst ws) := g0.hh _ _ hw'
    have m0' : M0 D = none := g0.keep m0 hw'
    refine htg x M0 y H'' _ _ rx gg.mh fun σ2 hU => ⟨hw x M0 σ2 hU, ht x hxm M0 σ2 sm hU H'' gg.mh _ fun M2 H2 g2 => ?_⟩
    cases ex : t x with
    | true =>
      refine (he x hxm ex M0 σ2 sm hU).le g2.mm H2 g2.mh _ fun z M3 H3 g3 hz3 => ?_
      have m3 : M3 D = none := (g2.trans g3).keep m0' k0
      refine ⟨ws, g3.hh _ _ (g2.hh _ _ k0), Nat.lt_of_lt_of_le (Nat.lt_of_le_of_lt hl hi) hz, M3, ws ++ [z], ((gg.trans g2).trans g3).mut hD m3, m3, upd_same, by rw [List.length_append]; exact Nat.succ_le_succ hl, ?_⟩
      rw [et, List.filter_append, List.map_append, List.filter_cons, ex]
      exact pd_app (hpd.mono ((g0.mm.trans g2.mm).trans g3.mm)) (.cons hz3 .nil)
    | false =>
      refine ⟨M2, ws, gg.trans g2, g2.keep m0' k0, g2.hh _ _ k0, Nat.le_succ_of_le hl, ?_⟩
      rw [et, List.filter_append, List.map_append, List.filter_cons, ex]
      show Pd S M2 (_ ++ []) ws
      rw [List.append_nil]
      exact hpd.mono (g0.mm.trans g2.mm)
  · rintro H' ⟨M', ws, g, m0, hw', hl, hpd⟩
    rw [List.take_length] at hpd
    exact q D ws M' H' (g1.trans g) (g1.hh.free hD) m0 hw' hpd
/-- the plain form: a name for the target -/
theorem gl_c1 [Mon S] {j : Nat} {xs : List α} (hsrc : GvI wi σ M xs R) (hz : xs.length ≤ sizeLine) (t : α → Bool) (f : α → β)
    (ht : ∀ x ∈ xs, ∀ M1 v, Same M M1 → R x M1 v → GvT tt ((wipe σ [j]).set j (some v)) M1 (t x))
    (he : ∀ x ∈ xs, t x = true → ∀ M1 v, Same M M1 → R x M1 v → Gv te ((wipe σ [j]).set j (some v)) M1 (S (f x))) : GvL (tLc wi (gName j) tt te [j]) σ M fun M ws => Pd S M ((xs.filter t).map f) ws :=
  gl_comp hsrc tg_1 (fun x M' σ' ⟨v, _, e⟩ => by subst e; exact wipe1) hz t f (fun x hx M1 σ' sm ⟨v, r, e⟩ => by subst e; exact ht x hx M1 v sm r) (fun x hx e M1 σ' sm ⟨v, r, e'⟩ => by subst e'; exact he x hx e M1 v sm r)
theorem gt_yes : GvT tYes σ M true := fun H mh Q q => q M H (.refl mh)
/-- without a test -/
theorem gl_m1 [Mon S] {j : Nat} {xs : List α} (hsrc : GvI wi σ M xs R) (hz : xs.length ≤ sizeLine) (f : α → β)
    (he : ∀ x ∈ xs, ∀ M1 v, Same M M1 → R x M1 v → Gv te ((wipe σ [j]).set j (some v)) M1 (S (f x))) : GvL (tLc wi (gName j) tYes te [j]) σ M fun M ws => Pd S M (xs.map f) ws := by
  have h := gl_c1 (tt := tYes) (te := te) (S := S) (j := j) hsrc hz (fun _ => true) f (fun _ _ _ _ _ _ => gt_yes) (fun x hx _ M1 v sm r => he x hx M1 v sm r)
  rw [List.filter_eq_self.mpr fun _ _ => rfl] at h
  exact h
variable {D : Ends} {tz tbd : TS}
/-- for over anything -/
theorem q_forG {U : α → Hp → Sl → Sl → Prop} {xs : List α} {H : Hp} (mh : Same M H) (hsrc : GvI wi σ M xs R) (htg : TgOk g R U) (Pv : Hp → Nat → Sl → Hp → Hp → Prop)
    (h0 : ∀ M1 H1, Gr M H M1 H1 → Pv M1 0 σ M1 H1) (hk : ∀ M1 i σ' M' H', Pv M1 i σ' M' H' → Same M1 M' ∧ Same M' H')
    (hs : ∀ M1 i x σ' M' H' M2 H2 σ2, Same M M1 → xs[i]? = some x → Pv M1 i σ' M' H' → Gr M' H' M2 H2 → U x M2 σ' σ2 →
      tbd { D with nx := fun σ2 H2 => ∃ M2, Pv M1 (i + 1) σ2 M2 H2, ct := fun σ2 H2 => ∃ M2, Pv M1 (i + 1) σ2 M2 H2, bk := tz D } σ2 H2)
    (hd : ∀ M1 σ' M' H', Same M M1 → Pv M1 xs.length σ' M' H' → tz D σ' H') : tSeq (tFor wi g tbd) tz D σ H := by
  refine hsrc H mh _ fun J M1 H1 g1 ⟨G, Y, w, hG, hY⟩ => ?_
  refine for_it w (fun i σ' H' => ∃ M', Pv M1 i σ' M' H') ⟨M1, h0 M1 H1 g1⟩ (fun i σ' H' _ ⟨M', p⟩ => hG M' H' (hk _ _ _ _ _ p).1 (hk _ _ _ _ _ p).2) ?_ ?_
  · rintro i y σ' H' H'' hi ⟨M', p⟩ hy
    have km := hk _ _ _ _ _ p
    obtain ⟨x, M2, hx, g2, rx⟩ := hY i M' H' y H'' km.1 km.2 hi hy
    exact htg x M2 y H'' σ' _ rx g2.mh fun σ2 hU => hs M1 i x σ' M' H' M2 H'' σ2 g1.mm hx p g2 hU
  · rintro σ' H' ⟨M', p⟩
    exact hd M1 σ' M' H' g1.mm p
/-- i ≤ j ≤ k -/
theorem gv_chain {tc : TE} {i j k : Int} (ha : Gv ta σ M (It' i)) (hb : Gv tb σ M (It' j)) (hc : Gv tc σ M (It' k)) :
    Gv (tChain (rI0 fun i j => .bl (decide (i ≤ j))) (rI0 fun i j => .bl (decide (i ≤ j))) ta tb tc) σ M (Bl (decide (i ≤ j) && decide (j ≤ k))) := fun H mh Q q =>
  ha H mh _ fun x M1 H1 g1 p1 => hb.le g1.mm H1 g1.mh _ fun y M2 H2 g2 p2 => ⟨i, j, p1, p2, decide (i ≤ j), rfl, by
    cases hd : decide (i ≤ j) with
    | true =>
      refine (hc.le (g1.mm.trans g2.mm)) H2 g2.mh _ fun z M3 H3 g3 p3 => ⟨j, k, p2, p3, q _ M3 H3 ((g1.trans g2).trans g3) ?_⟩
      rw [hd]; rfl
    | false =>
      refine q _ M2 H2 (g1.trans g2) ?_
      rw [hd]; rfl⟩
end
end L3

set_option Elab.async false
set_option linter.all false
set_option maxRecDepth 100000
set_option maxHeartbeats 2000000
namespace L3
open PySem PySem.Spec PyProof.Rows L2
/-! tuple(x) where x is collected -/
theorem tup_by {prog : Program} {w : World} {A : Around} {E : Value → Shared → Prop} {s : Shared} {T : String} {r : Addr} {n : Nat} {P : Nat → Value → Prop} {Q : Value → Shared → Prop} (ty : s.TypeIs (.ref r) T) (nt : (Value.type T == Value.type "tuple") = false) (hn : n ≤ sizeLine)
    (col : ∀ (B : Around) (F : Value → Shared → Prop) (R : List Value → Shared → Prop), B.handled = A.handled → (∀ (h' : Heap) (tk : Nat) (acc : Array Value), (∀ b o, s.heap.get? b = some o → h'.get? b = some o) → ItemsOf P acc n → R acc.toList { s with heap := h', toks := tk }) → wpAny (model prog w) B (collect (.ref r)) R F s)
    (fin : ∀ (h' : Heap) (tk : Nat) (acc : Array Value), (∀ b o, s.heap.get? b = some o → h'.get? b = some o) → ItemsOf P acc n → Q (.ref h'.objs.size) { s with heap := h'.push { cls := .type "tuple", data := .seq acc }, toks := tk }) :
    wpAny (model prog w) A (call (.type "tuple") [.ref r]) Q E s := by
  have made : codeAny (model prog w) A.in1 (.call (.builtin "tuple.__new__") ⟨[.type "tuple", .ref r], []⟩) (wants (fun v s1 => s1.TypeIs v "tuple" ∧ Q v s1) E) s := by
    apply codeAny_of_tree
    apply wpAny_bind
    apply wpAny_of_eq (F.newCall_tuple_1 _)
    refine wpAny_pure ⟨plainId_quiet F.plain_tuple_new _, codeAny_builtin F.entry_tuple_new ?_⟩
    rw [Around.under_plainId F.plain_tuple_new _]
    have a1 := sub_tuple_self
    have a2 := init_tuple_lookup
    have a3 := madeHere_tuple
    have here {F : Value → Shared → Prop} {R : List Value → Shared → Prop} := col A.in1.in1 F R rfl
    wp_walk using wpAny_typeOf ty, here
    intro h' tk acc kp it
    have sz : acc.size ≤ sizeLine := it.1 ▸ hn
    have same : acc.toList.toArray = acc := by simp
    rw [same]
    refine wpAny_bind (wpAny_pure (wpAny_bind (wpAny_newObj_type ?_ (show sizeOk (Data.seq acc) from sz))))
    exact wpAny_pure ⟨⟨_, Heap.get?_push_size _ rfl, rfl⟩, fin h' tk acc kp it⟩
  refine callType_codes F.called_tuple (F.typeCall_tuple_1 _) F.entry_object_init made fun v s1 h => ⟨h.1, F.args_object_init_2 v _, ?_⟩
  exact object_init_meets F.called_tuple.init.lookup F.called_tuple.made (by decide) prog w A.in1 _ s1 ⟨h.1, rfl, h.2⟩
/-- the keys of a dict with tuple keys -/
def rTupD : List V → Hp → VK → Prop := fun xs H Q => ∃ d kvs, xs = [V.ref d] ∧ Rd H d (.dT kvs) ∧ ∀ p bs, H p = none → IsKeys H kvs bs → Q (.ref p) (upd H p (.tup (bs.map V.ref)))
theorem call_tupD {X : Cx} (hc : X.calm = true) : CallR X (.type "tuple") rTupD := fun pins s σ H xs us Q I r ⟨d, kvs, ex, hd, q⟩ => by
  subst ex
  obtain ⟨_, rfl, rfl⟩ := r.one
  obtain ⟨z, low, ks, pr, o, es, ep, ho, exact_, hdt, he, _⟩ := (show ObjOk X.prog X.w H s.heap d (.dT kvs) from hd.ok I.hok)
  have S := kdl_raw (prog := X.prog) (w := X.w) low exact_ hdt
  have n1 : es.size = ks.length := size_of_entries he
  have n2 := Paired.length pr
  refine tup_by (S.type s ho) S.notTuple (n := es.size) (by omega) (fun B F R hB h => PySem.W.kdu_collect S (hB.trans (I.ok.hd hc)) ho (by omega) h) fun h' tk acc kp it => ?_
  have vals : acc.toList = (ks.map (·.2.1)).map Value.ref := by
    apply List.ext_getElem
    · rw [Array.length_toList, List.length_map, List.length_map, it.1, n1]
    · intro j h1 h2
      rw [Array.length_toList] at h1
      have hj : j < ks.length := by rw [← n1, ← it.1]; exact h1
      obtain ⟨en, g, v⟩ := it.2 j acc[j] (Array.getElem?_eq_getElem h1)
      have g2 := entry_at he j
      rw [g, List.getElem?_eq_getElem hj] at g2
      rw [Array.getElem_toList, v, List.getElem_map, List.getElem_map, Option.some.inj g2]
      rfl
  have I' : Inv X pins σ H { s with heap := h', toks := tk } := I.kept kp
  refine ⟨.ref h'.objs.size, _, I'.laid (t' := tk) (o := .tup ((ks.map (·.2.1)).map V.ref)) (fun b u e => Heap.get?_push_of_some _ e) (Nat.le_refl _) ?_, rfl, q _ _ (I'.hok.fresh (Nat.le_refl _)) (isKeys_of pr)⟩
  refine ⟨by simp only [List.length_map]; omega, acc.toList, vals ▸ vals_refs _, ⟨_, Heap.get?_push_size _ rfl, rfl, 0, ?_⟩⟩
  simp
/-! the frame of a comprehension -/
abbrev InBlk (X : Cx) (scope : Scope) (J : Cx → Prop) : Prop := ∀ (s : Shared) (H : Hp) (C : Addr) (cl : List (Str × Addr)) (fp : List Addr), J (X.blk s H scope (compEnvC scope cl C X.env) fp)
section
variable {X : Cx} {pins : List (Addr × Obj)} {σ τ : Sl} {H0 H : Hp} {s0 s : Shared} {scope : Scope} {ce : Env} {fp : List Addr} {tn : Nat → Heap → Prop} {i : Nat}
theorem blk_fp (I : Inv (X.blk s0 H0 scope ce fp) [] τ H s) (h : ∀ b ∈ fp, H b = none) : ∀ b ∈ fp, FpOk (X.blk s0 H0 scope ce fp) [] H b := fun b hb =>
  have x := I.ok.exf b hb
  ⟨h b hb, x.1, I.ok.exfs b hb, .inl hb, x.2, fun p hp => (List.not_mem_nil (a := p) hp).elim⟩
/-- out of the frame -/
theorem blk_out (I0 : Inv X pins σ H0 s0) (f0 : ∀ b ∈ fp, FpOk X pins H0 b) (I : Inv (X.blk s0 H0 scope ce fp) [] τ H s) : Inv X pins σ H s :=
  I0.call' (ch := fp) I.os I.base I.hok I.bare fun b hb => have z := (f0 b hb).2; ⟨z.2.2.1, z.1, z.2.2.2.1, z.2.2.2.2⟩
/-- its variables let go -/
theorem blk_end (I0 : Inv X pins σ H0 s0) (f0 : ∀ b ∈ fp, FpOk X pins H0 b) (hC : ce.locals = s0.heap.objs.size) (I : Inv (X.blk s0 H0 scope ce fp) [] τ H s) :
    ∃ m, s.heap.Ns s0.heap.objs.size m ∧ ∀ h', Heap.SameBut s0.heap.objs.size s.heap h' → Inv X pins σ H { s with heap := h' } := by
  have fr : H s0.heap.objs.size = none := hC ▸ I.free
  have z := I0.fpOk (Nat.le_refl _) fr
  have O := blk_out I0 f0 I
  obtain ⟨m, ns, _⟩ := I.loc
  exact ⟨m, hC ▸ ns, fun h' sb => O.turned (t' := s.toks) (fun b o hb e => (sb.2 b hb).trans e) fr z.2.1 z.2.2.2.1 z.2.2.2.2.1 z.2.2.2.2.2⟩
/-- the frame between two turns: the walk stands ahead of item i -/
structure Ahead (Y : Cx) (fp : List Addr) (tn : Nat → Heap → Prop) (τ : Sl) (i : Nat) (H : Hp) (s : Shared) : Prop where
  inv : Inv Y [] τ H s
  at_ : tn i s.heap
  off : ∀ b ∈ fp, H b = none
/-- one item drawn, stored, looked at; whoever goes on from there may close the turn -/
theorem blk_turn {tg : Expr} {ifs : List Expr} {J : It} {it : Addr} {g : TG} {tt : TT} {vs : List Nat} {Body : Sl → Hp → Prop} {Nx : Hp → Prop} {E : Value → Shared → Prop} {F0 : Shared → Prop} {Fy Fn : Shared → Prop}
    (T : Turn X.prog X.w X.K tg J fp it tn) (hc : X.calm = true) (pg : PG (X.blk s0 H0 scope ce fp) tg g) (pt : PTs (X.blk s0 H0 scope ce fp) ifs tt) (a : Ahead (X.blk s0 H0 scope ce fp) fp tn (wipe σ vs) i H s) (go : J.go i H)
    (step : ∀ x H', J.yld i H x H' → g x (wipe σ vs) H' fun σ2 H2 => wipe σ2 vs = wipe σ vs ∧ tt σ2 H2 fun b H3 => if b = true then Body σ2 H3 else Nx H3)
    (yes : ∀ pl σ2 H2 s2, Inv (X.blk s0 H0 scope ce fp) pl σ2 H2 s2 → Body σ2 H2 → (∀ H' s', Inv (X.blk s0 H0 scope ce fp) pl σ2 H' s' → Ahead (X.blk s0 H0 scope ce fp) fp tn (wipe σ vs) (i + 1) H' s') → Fy s2)
    (no : ∀ H' s', Ahead (X.blk s0 H0 scope ce fp) fp tn (wipe σ vs) (i + 1) H' s' → Nx H' → Fn s') :
    wpAny (model X.prog X.w) X.A (pyNext (.ref it)) (fun r s1 => match r with
      | none => F0 s1
      | some v => wpAny (model X.prog X.w) X.A (letOwnedTupleGo tg (.ref it) v) (fun _ s2 => wpAny (model X.prog X.w) X.A (assign tg ce v) (fun _ s3 =>
          wpAny (model X.prog X.w) X.A (forIn ifs true fun c r => if r = true then do let ok ← isTrue c ce (eval c ce); pure (ForInStep.yield ok) else pure (ForInStep.yield r)) (fun ok s4 => if ok = true then Fy s4 else Fn s4) E s3) E s2) E s1) E s := by
  refine thnF (T.item (X.blk s0 H0 scope ce fp) rfl rfl rfl hc i [] s _ H _ a.inv (blk_fp a.inv a.off) a.at_ go) fun r s1 ⟨v, hr, h1⟩ => ?_
  subst hr
  refine thnF h1 fun _ s2 ⟨x, H2, I2, rx, y2, st2, off2⟩ => ?_
  have P2 := I2.pinned (blk_fp I2 off2) (T.obj _ _ st2)
  refine thnF (pg.run _ s2 _ H2 x v _ P2 rx (step x H2 y2)) fun _ s3 ⟨σ3, H3, I3, hw, q3⟩ => ?_
  have close : ∀ H' s', Inv (X.blk s0 H0 scope ce fp) ([] ++ pinsAt fp s2.heap) σ3 H' s' → Ahead (X.blk s0 H0 scope ce fp) fp tn (wipe σ vs) (i + 1) H' s' := fun H' s' I' => by
    have pin : ∀ b ∈ fp, ∀ o, s2.heap.get? b = some o → s'.heap.get? b = some o ∧ H' b = none := fun b hb o e =>
      have z := I'.pin (b, o) (List.mem_append_right _ (List.mem_append_right _ (mem_pinsAt hb e)))
      ⟨z.1, z.2.1⟩
    refine ⟨(I'.unpinned (pins := [])).weak (hw ▸ wipe_length σ3 vs) fun j v e => (wipe_some (hw ▸ e : (wipe σ3 vs)[j]? = _)).1, T.keep _ _ _ st2 fun b hb o e => (pin b hb o e).1, fun b hb => ?_⟩
    obtain ⟨o, e, _⟩ := T.obj _ _ st2 b hb
    exact (pin b hb o e).2
  refine thnF (pt.run _ s3 σ3 H3 _ I3 q3) fun ok s4 ⟨H4, I4, q4⟩ => ?_
  cases ok with
  | true => exact yes _ σ3 H4 s4 I4 q4 close
  | false => exact no H4 s4 (close H4 s4 I4) q4
/-- D[b] = r, b a tuple key -/
theorem put_T {E : Value → Shared → Prop} {D b : Addr} {kvs : List (List Key × V)} {k : List Key} {v : V} {r : Value} {Q : Unit → Shared → Prop} (hu : X.A.units + 1 < cLine) (I : Inv X pins σ H s) (hD : H D = some (.dT kvs)) (hz : kvs.length < sizeLine) (hb : H b = some (.tup (k.map kV))) (rv : RelV v r)
    (h : ∀ s', Inv X pins σ (upd H D (.dT (putK kvs k v))) s' → Q () s') : wpAny (model X.prog X.w) X.A (dictSet D (.ref b) r) Q E s := by
  have ⟨_, low, xs, rel, dd⟩ := dt_of I.hok hD
  have room : (tupleKind (mixKind X.prog X.w)).room X.A := Nat.lt_of_succ_lt hu
  apply wpAny_dictSet_heap room (key_of I.hok hb) dd (hsz := Paired.length rel ▸ Nat.le_of_lt hz)
  intro h' ⟨q, es, ep, hq, d1, d2, d3, _, d4⟩ sb
  have len : (putK kvs k v).length ≤ sizeLine := Nat.le_trans (length_putK kvs k v) hz
  have other : ∀ c ys, H c = some (.tup ys) → upd H D (.dT (putK kvs k v)) c = some (.tup ys) := fun c ys e => (upd_ne (ne_of e hD nofun)).trans e
  exact h _ (d_write I (by rw [hD]; trivial) sb ⟨q, hq⟩ ⟨len, low, _, (rel.put k hb rv).keeps other, q, es, ep, hq, d1, d2, d3, d4⟩)
end
/-! a dict comprehension whose keys are tuples -/
/-- the key c, the value z put in; then nx -/
def KeyPut (D : Addr) (tk tv : TE) (nx : Hp → Prop) : Sl → Hp → Prop := fun σ H => tk σ H fun y H1 => tv σ H1 fun z H2 => ∃ kvs k c, y = .ref c ∧ H2 c = some (.tup (List.map kV k)) ∧ H2 D = some (.dT kvs) ∧ kvs.length < sizeLine ∧ nx (upd H2 D (.dT (putK kvs k z)))
/-- what a turn is asked: the end, or an item with which the count goes down -/
def DcTurn (J : It) (g : TG) (tt : TT) (tk tv : TE) (τ : Sl) (vs : List Nat) (D : Addr) (fin : Hp → Prop) (W : Nat → Nat → Hp → Prop) (i m : Nat) (H : Hp) : Prop :=
  J.stop i H ∧ fin H ∨ J.go i H ∧ ∀ x H', J.yld i H x H' → g x τ H' fun σ2 H2 => wipe σ2 vs = τ ∧ tt σ2 H2 fun b H3 =>
    if b = true then KeyPut D tk tv (fun H4 => ∃ m', m' < m ∧ W (i + 1) m' H4) σ2 H3 else ∃ m', m' < m ∧ W (i + 1) m' H3
def tDcT (wi : TI) (g : TG) (tt : TT) (tk tv : TE) (vs : List Nat) : TE := fun σ H Q => wi σ H fun J H1 => ∀ D, H1 D = none → ∃ W : Nat → Nat → Hp → Prop,
  (∃ m, W 0 m (upd H1 D (.dT []))) ∧ ∀ i m H, W i m H → DcTurn J g tt tk tv (wipe σ vs) vs D (Q (.ref D)) W i m H
section
variable {X : Cx} {kx vx tg iter : Expr} {ifs : List Expr} {scope : Scope} {own : List (Str × Nat)} {pos : Pos} {wi : TI} {g : TG} {tt : TT} {tk tv : TE}
/-- the loop, once the frame stands -/
theorem dcT_loop {pins : List (Addr × Obj)} {σ : Sl} {H0 : Hp} {s0 s : Shared} {ce : Env} {fp : List Addr} {it D : Addr} {J : It} {tn : Nat → Heap → Prop} {Q : VK} {W : Nat → Nat → Hp → Prop} {m0 : Nat} (hu : X.A.units + 64 < cLine) (hc : X.calm = true) (T : Turn X.prog X.w X.K tg J fp it tn)
    (I0 : Inv X pins σ H0 s0) (f0 : ∀ b ∈ fp, FpOk X pins H0 b) (hC : ce.locals = s0.heap.objs.size) (pg : PG (X.blk s0 H0 scope ce fp) tg g) (pt : PTs (X.blk s0 H0 scope ce fp) ifs tt) (pk : PE (X.blk s0 H0 scope ce fp) kx tk) (pv : PE (X.blk s0 H0 scope ce fp) vx tv)
    (turn : ∀ i m H, W i m H → DcTurn J g tt tk tv (wipe σ (own.map (·.2))) (own.map (·.2)) D (Q (.ref D)) W i m H)
    (w0 : W 0 m0 H0) (a0 : Ahead (X.blk s0 H0 scope ce fp) fp tn (wipe σ (own.map (·.2))) 0 H0 s) :
    codeAny (model X.prog X.w) X.A (.compLoop (.DictComp kx vx [⟨tg, iter, ifs, 0⟩] scope pos) 0 (.ref it) (.ref D) ce) (compPost (model X.prog X.w) X.A X.xe none (EP X pins σ Q) (.ref D) s0.heap.objs.size) s := by
  refine compLoop_anyD (fun n s' => ∃ i H', W i n H' ∧ Ahead (X.blk s0 H0 scope ce fp) fp tn (wipe σ (own.map (·.2))) i H' s') (fun n s1 ⟨i, H1, w1, a1⟩ => ?_) m0 ⟨0, H0, w0, a0⟩
  rcases turn i n H1 w1 with ⟨stop, q⟩ | ⟨go, step⟩
  · refine thnF (T.done (X.blk s0 H0 scope ce fp) rfl rfl rfl hc i [] s1 _ H1 _ a1.inv (blk_fp a1.inv a1.off) a1.at_ stop) fun r s2 ⟨hr, I2⟩ => ?_
    subst hr
    obtain ⟨m, ns, out⟩ := blk_end I0 f0 hC I2
    exact ⟨m, ns, fun h' sb => ⟨.ref D, H1, out h' sb, rfl, q⟩⟩
  · have on : ∀ H' s', Ahead (X.blk s0 H0 scope ce fp) fp tn (wipe σ (own.map (·.2))) (i + 1) H' s' → (∃ m', m' < n ∧ W (i + 1) m' H') → ∃ m, m < n ∧ ∃ i H', W i m H' ∧ Ahead (X.blk s0 H0 scope ce fp) fp tn (wipe σ (own.map (·.2))) i H' s' := fun H' s' a' ⟨m', lt, w'⟩ => ⟨m', lt, i + 1, H', w', a'⟩
    refine blk_turn T hc pg pt a1 go step (fun pl σ2 H2 s2 I2 q2 close => ?_) on
    refine thnF (pk.run pl s2 σ2 H2 _ I2 q2) fun kv s3 ⟨y, H3, I3, ry, q3⟩ => thnF (pv.run pl s3 σ2 H3 _ I3 q3) fun vv s4 ⟨z, H4, I4, rz, kvs, k, c, ey, hk, hD, hz, nx⟩ => ?_
    subst ey
    obtain rfl : kv = .ref c := ry
    exact put_T (X := X.blk s0 H0 scope ce fp) (by show X.A.units + 1 < cLine; omega) I4 hD hz hk rz fun s5 I5 => on _ _ (close _ _ I5) nx
theorem pe_dcT (hu : X.A.units + 64 < cLine) (hc : X.calm = true) (hN : X.N.Nodup) (hi : PI X tg iter wi) (ok : BlkOk X.N X.env.scope scope own) (hg : InBlk X scope fun Y => PG Y tg g) (ht : InBlk X scope fun Y => PTs Y ifs tt)
    (hk : InBlk X scope fun Y => PE Y kx tk) (he : InBlk X scope fun Y => PE Y vx tv) (hs : ∀ x, foldedSetIterable iter X.env x = pure x := by intro _; rfl) :
    PE X (.DictComp kx vx [⟨tg, iter, ifs, 0⟩] scope pos) (tDcT wi g tt tk tv (own.map (·.2))) where
  run pins s σ H Q I h := by
    rw [arm_eval_DictComp]
    have cells : closureFor scope X.env = pure (cloFrom X.env.cells scope.names []) := closure_ok fun y hy e => I.ok.has _ (ok.free y hy e)
    refine wpAny_comprehension_free rfl hs cells ok.kind (fun y hy e => e ▸ ok.uniq y hy) (thn (hi.run pins s σ H _ I h) fun _ s1 h1 => thn h1 fun _ s2 ⟨it, fp, tn, J, H2, e, I2, T, st, f2, q⟩ => ?_)
    subst e
    have nD := I2.hok.fresh (Nat.le_refl s2.heap.objs.size)
    obtain ⟨W, ⟨m0, w0⟩, turn⟩ := q _ nD
    have below : ∀ b ∈ fp, b < s2.heap.objs.size := fun b hb => let ⟨_, e, _⟩ := T.obj _ _ st b hb; Heap.lt_size e
    have I3 := I2.laid (t' := s2.toks) (h' := s2.heap.push { cls := .type "dict", data := .dict #[] }) (fun b o e => Heap.get?_push_of_some _ e) (Nat.le_refl _) (dt_empty s2.heap I2.big)
    have off : ∀ b ∈ fp, upd H2 s2.heap.objs.size (.dT []) b = none := fun b hb => (upd_ne (Nat.ne_of_lt (below b hb))).trans (f2 b hb).1
    have f3 : ∀ b ∈ fp, FpOk X pins (upd H2 s2.heap.objs.size (.dT [])) b := fun b hb => ⟨off b hb, (f2 b hb).2⟩
    refine wpAny_newObj_type (newEnv_comp ?_)
    have I4 := block_start I3 ok hN fun b hb => ⟨f3 b hb, by show b < (s2.heap.push _).objs.size; rw [Heap.size_push]; exact Nat.lt_succ_of_lt (below b hb)⟩
    have st4 := T.keep _ _ _ st fun b _ o e => pushCells_keeps scope.names _ _ _ (Heap.get?_push_of_some { cls := .type "dict", data := .dict #[] } (Heap.get?_push_of_some { cls := .type "dict", data := .dict #[] } e))
    have loop := dcT_loop (kx := kx) (vx := vx) (iter := iter) (pos := pos) (Q := Q) hu hc T I3 f3 rfl (hg _ _ _ _ _) (ht _ _ _ _ _) (hk _ _ _ _ _) (he _ _ _ _ _) turn w0 ⟨I4, st4, off⟩
    exact codeAny_compStart_dict loop (T.self X.A 0 _ _ _ st4 loop)
end
end L3

set_option Elab.async false
set_option linter.all false
set_option maxRecDepth 100000
set_option maxHeartbeats 1000000
namespace L3
open PySem PySem.Spec PyProof.Rows L2
/-- a tuple of texts that stands in the heap itself; a tuple of anything -/
def TT : Rl (List Str) := fun xs M v => ∃ a, v = .ref a ∧ M a = some (.tup (xs.map V.str))
instance : Mon TT := ⟨fun e ⟨a, h, r⟩ => ⟨a, h, e _ _ r⟩⟩
theorem TT.tup {K : PySem.W.Frag} {xs : List Str} {M : Hp} {v : V} (h : TT xs M v) : TupR K Tx xs M v := let ⟨a, e, r⟩ := h; ⟨a, _, e, .inl (.inl r), pd_of_tx xs⟩
theorem TT.sq {K : PySem.W.Frag} {xs : List Str} {M : Hp} {v : V} (h : TT xs M v) : SqR K Tx xs M v := .inr h.tup
theorem py_TT {K : PySem.W.Frag} : PyR K TT fun xs => .tuple (xs.map .str) := fun xs M v h => py_tup py_str _ _ _ h.tup
theorem TT.new {M : Hp} {p : Addr} (xs : List Str) : TT xs (upd M p (.tup (xs.map V.str))) (.ref p) := ⟨p, rfl, upd_same⟩
theorem inj_TT : Inj fun xs : List Str => PyData.tuple (xs.map .str) := inj_tup inj_str
def TuR {α : Type} (R : Rl α) : Rl (List α) := fun xs M v => ∃ a vs, v = .ref a ∧ M a = some (.tup vs) ∧ Pd R M xs vs
def LiR {α : Type} (R : Rl α) : Rl (List α) := fun xs M v => ∃ a vs, v = .ref a ∧ M a = some (.lst vs) ∧ Pd R M xs vs
section
variable {K : PySem.W.Frag} {α : Type} {R : Rl α}
instance [Mon R] : Mon (TuR R) := ⟨fun e ⟨a, vs, h1, h2, h3⟩ => ⟨a, vs, h1, e _ _ h2, h3.mono e⟩⟩
instance [Mon R] : Mon (LiR R) := ⟨fun e ⟨a, vs, h1, h2, h3⟩ => ⟨a, vs, h1, e _ _ h2, h3.mono e⟩⟩
theorem TuR.tup {xs : List α} {M : Hp} {v : V} (h : TuR R xs M v) : TupR K R xs M v := let ⟨a, vs, e, r, p⟩ := h; ⟨a, vs, e, .inl (.inl r), p⟩
theorem TuR.sq {xs : List α} {M : Hp} {v : V} (h : TuR R xs M v) : SqR K R xs M v := .inr h.tup
theorem LiR.lst {xs : List α} {M : Hp} {v : V} (h : LiR R xs M v) : LstR K R xs M v := let ⟨a, vs, e, r, p⟩ := h; ⟨a, vs, e, .inl (.inl r), p⟩
theorem LiR.sq {xs : List α} {M : Hp} {v : V} (h : LiR R xs M v) : SqR K R xs M v := .inl h.lst
end
/-! tuple({x: True for x in xs}): each once -/
def onceP {α : Type} [DecidableEq α] (acc : List α) (x : α) : List α := if x ∈ acc then acc else acc ++ [x]
def once {α : Type} [DecidableEq α] (xs : List α) : List α := xs.foldl onceP []
def ent (acc : List (List Str)) : List (List Key × V) := acc.map fun c => (c.map Sum.inr, V.bl true)
theorem inr_inj : ∀ {a b : List Str}, a.map (Sum.inr : Str → Key) = b.map Sum.inr → a = b
  | [], [], _ => rfl
  | [], _ :: _, h => by simp at h
  | _ :: _, [], h => by simp at h
  | x :: a, y :: b, h => by
    simp only [List.map_cons, List.cons.injEq, Sum.inr.injEq] at h
    rw [h.1, inr_inj h.2]
theorem putK_ent (acc : List (List Str)) (c : List Str) : putK (ent acc) (c.map Sum.inr) (V.bl true) = ent (onceP acc c) := by
  unfold putK onceP
  have e : ((ent acc).any fun kv => decide (kv.1 = c.map Sum.inr)) = decide (c ∈ acc) := by
    unfold ent
    rw [List.any_map]
    induction acc with
    | nil => simp
    | cons x r ih =>
      rw [List.any_cons, ih]
      by_cases h : c = x
      · subst h; simp
      · have h1 : ¬ x.map (Sum.inr : Str → Key) = c.map Sum.inr := fun z => h (inr_inj z).symm
        simp [h, h1]
  rw [e]
  by_cases h : c ∈ acc
  · rw [decide_eq_true h, if_pos rfl, if_pos h]
    unfold ent
    rw [List.map_map]
    refine List.map_congr_left fun x _ => ?_
    show (if _ then _ else _) = _
    by_cases h2 : x.map (Sum.inr : Str → Key) = c.map Sum.inr
    · rw [if_pos h2]
    · rw [if_neg h2]
  · rw [decide_eq_false h, if_neg (by simp), if_neg h]
    unfold ent
    rw [List.map_append]
    rfl
theorem key_V (c : List Str) : (c.map (Sum.inr : Str → Key)).map kV = c.map V.str := by rw [List.map_map]; rfl
theorem onceP_len {α : Type} [DecidableEq α] (acc : List α) (x : α) : (onceP acc x).length ≤ acc.length + 1 := by
  unfold onceP; split
  · omega
  · simp
section
variable {K : PySem.W.Frag} {σ : Sl} {M : Hp} {wi : TI}
theorem gv_once {j : Nat} {xs : List (List Str)} (hj : j < σ.length) (hsrc : GvI wi σ M xs TT) (hz : xs.length ≤ sizeLine) :
    Gv (tCB rTupD (tCons (tDcT wi (gName j) tYes (tVar j) (tC (.bl true)) [j]) tNil)) σ M (TuR TT (once xs)) := by
  intro H mh Q q
  refine hsrc H mh _ fun J M1 H1 g1 ⟨G, Y, w, hG, hY⟩ D hD => ?_
  let Pv : Nat → Hp → Prop := fun i H' => ∃ M' acc, Gr M1 H1 M' H' ∧ M' D = none ∧ acc = (xs.take i).foldl onceP [] ∧ acc.length ≤ i ∧ H' D = some (.dT (ent acc))
  refine ⟨fun i m H' => m = xs.length - i ∧ i ≤ xs.length ∧ Pv i H', ⟨xs.length, by omega, Nat.zero_le _, M1, [], .own g1.mh hD, g1.mh.free hD, rfl, Nat.le_refl _, upd_same⟩, ?_⟩
  rintro i m H' ⟨rfl, hi, M', acc, g, m0, eacc, hl, hw⟩
  by_cases hlt : i < xs.length
  · refine .inr ⟨w.goes i H' hlt (hG M' H' g.mm g.mh), fun y H2 hy => ?_⟩
    obtain ⟨x, M2, hx, g2, ⟨b, rfl, rb⟩⟩ := hY i M' H' y H2 g.mm g.mh hlt (w.yields i H' y H2 hlt (hG M' H' g.mm g.mh) hy)
    have et : xs.take (i + 1) = xs.take i ++ [x] := by rw [List.take_add_one, hx]; rfl
    have hs : ((wipe σ [j]).set j (some (V.ref b)))[j]? = some (some (V.ref b)) := by rw [List.getElem?_set_self (by rw [wipe_length]; exact hj)]
    refine ⟨wipe1, .ref b, hs, ent acc, x.map Sum.inr, b, rfl, by rw [key_V]; exact g2.mh _ _ rb, g2.hh _ _ hw, by unfold ent; rw [List.length_map]; exact Nat.lt_of_le_of_lt hl (Nat.lt_of_lt_of_le hlt hz), ?_⟩
    refine ⟨xs.length - (i + 1), by omega, rfl, hlt, M2, onceP acc x, (g.trans g2).mut hD (g2.keep m0 hw), g2.keep m0 hw, by rw [et, List.foldl_append, ← eacc]; rfl, Nat.le_trans (onceP_len acc x) (Nat.succ_le_succ hl), ?_⟩
    rw [upd_same, putK_ent]
  · have e : i = xs.length := by omega
    subst e
    rw [List.take_length] at eacc
    refine .inl ⟨w.stops H' (hG M' H' g.mm g.mh), D, ent acc, rfl, .inl hw, fun p bs np hk => ?_⟩
    have hbs : ∀ b ∈ bs, ∃ ys, H' b = some (.tup ys) := by
      intro b hb
      have go : ∀ {kvs : List (List Key × V)} {bs : List Addr}, IsKeys H' kvs bs → ∀ b ∈ bs, ∃ ys, H' b = some (.tup ys) := by
        intro kvs bs h
        induction h with
        | nil => intro b hb; cases hb
        | cons q _ ih =>
          intro b hb
          rcases List.mem_cons.mp hb with rfl | hb
          · exact ⟨_, q⟩
          · exact ih b hb
      exact go hk b hb
    have gt := Gr.tups g.mh hbs
    have hpd : Pd TT (withT M' H' bs) acc (bs.map V.ref) := by
      have go : ∀ {acc : List (List Str)} {cs : List Addr}, (∀ c ∈ cs, c ∈ bs) → IsKeys H' (ent acc) cs → Pd TT (withT M' H' bs) acc (cs.map V.ref) := by
        intro acc
        induction acc with
        | nil => intro cs _ h; cases h; exact .nil
        | cons x r ih =>
          intro cs hc h
          cases h with
          | cons q t => exact .cons ⟨_, rfl, withT_in g.mh (hc _ List.mem_cons_self) (by rw [← key_V]; exact q)⟩ (ih (fun c h => hc c (List.mem_cons_of_mem _ h)) t)
      exact go (fun c h => h) hk
    have gn := Gr.new (o := .tup (bs.map V.ref)) gt.mh np
    refine q _ _ _ (((g1.trans g).trans gt).trans gn) ⟨p, _, rfl, upd_same, ?_⟩
    unfold once
    rw [← eacc]
    exact hpd.mono gn.mm
end
end L3

set_option Elab.async false
set_option linter.all false
set_option maxRecDepth 100000
set_option maxHeartbeats 1000000
namespace L3
open PySem PySem.Spec PyProof.Rows L2
/-! something of ours is lent to the known part while an expression runs -/
def del (M : Hp) (x : Addr) : Hp := fun a => if a = x then none else M a
theorem del_ne {M : Hp} {x a : Addr} (h : a ≠ x) : del M x a = M a := if_neg h
theorem del_at {M : Hp} {x : Addr} : del M x x = none := if_pos rfl
class Stb (P : Pr) : Prop where
  del : ∀ {M : Hp} {v : V} {x : Addr} {o : HO}, (∀ xs, o ≠ HO.tup xs) → M x = some o → P M v → P (del M x) v
class Stl {α : Type} (R : Rl α) : Prop where
  del : ∀ {y : α} {M : Hp} {v : V} {x : Addr} {o : HO}, (∀ xs, o ≠ HO.tup xs) → M x = some o → R y M v → R y (del M x) v
instance {α : Type} {R : Rl α} [h : Stl R] {y : α} : Stb (R y) := ⟨fun a b c => h.del a b c⟩
instance : Stl Tx := ⟨fun _ _ h => h⟩
instance : Stl It' := ⟨fun _ _ h => h⟩
instance : Stl Bl := ⟨fun _ _ h => h⟩
instance : Stl OpN := ⟨fun _ _ h => h⟩
theorem tup_ne {M : Hp} {a x : Addr} {o : HO} {xs : List V} (hn : ∀ xs, o ≠ HO.tup xs) (hx : M x = some o) (ha : M a = some (.tup xs)) : a ≠ x := fun z => by
  subst z; rw [hx] at ha; exact hn xs (Option.some.inj ha)
instance : Stl TT := ⟨fun hn hx ⟨a, e, r⟩ => ⟨a, e, by rw [del_ne (tup_ne hn hx r)]; exact r⟩⟩
theorem Pd.del {α : Type} {R : Rl α} [Stl R] {M : Hp} {x : Addr} {o : HO} (hn : ∀ xs, o ≠ HO.tup xs) (hx : M x = some o) {ys : List α} {vs : List V} (h : Pd R M ys vs) : Pd R (L3.del M x) ys vs := Paired.mapP h fun _ _ q => Stl.del hn hx q
instance {α : Type} {R : Rl α} [Stl R] : Stl (TuR R) := ⟨fun hn hx ⟨a, vs, e, r, p⟩ => ⟨a, vs, e, by rw [del_ne (tup_ne hn hx r)]; exact r, p.del hn hx⟩⟩
theorem same_lent {M H : Hp} {x : Addr} {o : HO} (mh : Same M H) (hx : H x = some o) : Same (upd M x o) H := fun b u e => by
  by_cases hb : b = x
  · subst hb; rw [upd_same] at e; rw [hx]; exact e
  · rw [upd_ne hb] at e; exact mh b u e
theorem Gr.back {M H M' H' : Hp} {x : Addr} {o : HO} (g : Gr (upd M x o) H M' H') (hm : M x = none) : Gr M H (del M' x) H' := by
  refine ⟨fun a u e => ?_, g.hh, fun a u e => ?_, fun a u e => ?_, fun a ps e => by
    by_cases ha : a = x
    · subst ha; rw [del_at] at e; cases e
    · rw [del_ne ha] at e
      have h := g.nt a ps e
      rw [upd_ne ha] at h
      exact h⟩
  · have na : a ≠ x := ne_of_none e hm
    rw [del_ne na]
    exact g.mm a u (by rw [upd_ne na]; exact e)
  · by_cases ha : a = x
    · subst ha; rw [del_at] at e; cases e
    · rw [del_ne ha] at e; exact g.mh a u e
  · by_cases ha : a = x
    · subst ha; rw [del_at] at e; cases e
    · rw [del_ne ha] at e
      rcases g.nw a u e with h | h
      · rw [upd_ne ha] at h; exact .inl h
      · exact .inr h
section
variable {K : PySem.W.Frag} {σ : Sl} {M H : Hp} {te : TE} {P : Pr} {x : Addr} {o : HO}
theorem Gv.lend [Stb P] (h : Gv te σ (upd M x o) P) (hm : M x = none) (mh : Same M H) (hx : H x = some o) (hn : ∀ xs, o ≠ HO.tup xs) {Q : VK} (q : ∀ v M' H', Gr M H M' H' → M' x = none → H' x = some o → P M' v → Q v H') : te σ H Q :=
  h H (same_lent mh hx) Q fun v M' H' g p => q v _ H' (g.back hm) del_at (g.hh _ _ hx) (Stb.del hn (g.mm x o upd_same) p)
end
/-! our instance -/
structure OwnI (H0 M H : Hp) (x C dx : Addr) (fs : List (Str × V)) : Prop where
  h0 : H0 x = none
  m : M x = none
  h : H x = some (.ins C dx fs)
theorem ins_nt {C dx : Addr} {fs : List (Str × V)} : ∀ xs, HO.ins C dx fs ≠ HO.tup xs := by intro _ z; cases z
/-- self.f = e, self in slot i -/
theorem s_fld {K : PySem.W.Frag} {σ : Sl} {M H : Hp} {te : TE} {P : Pr} {D : Ends} {i : Nat} {x C dx : Addr} {fs : List (Str × V)} {f : Str} [Stb P] (mh : Same M H) (hm : M x = none) (hx : H x = some (.ins C dx fs)) (hi : σ[i]? = some (some (.ref x))) (cl : Cls K C) (na : NoAttr K C f) (hl : fs.length < 1000)
    (h : Gv te σ (upd M x (.ins C dx fs)) P) (k : ∀ v M' H', Gr M H M' H' → M' x = none → P M' v → D.nx σ (upd H' x (.ins C dx (putF f v fs)))) : sFld K (tVar i) te f D σ H :=
  h.lend hm mh hx ins_nt fun v M' H' g m0 hx' p => ⟨.ref x, hi, x, C, dx, fs, rfl, hx', cl, na, hl, k v M' H' g m0 p⟩
theorem q_fld {K : PySem.W.Frag} {σ : Sl} {M H : Hp} {te : TE} {P : Pr} {D : Ends} {tz : TS} {i : Nat} {x C dx : Addr} {fs : List (Str × V)} {f : Str} [Stb P] (mh : Same M H) (hm : M x = none) (hx : H x = some (.ins C dx fs)) (hi : σ[i]? = some (some (.ref x))) (cl : Cls K C) (na : NoAttr K C f) (hl : fs.length < 1000)
    (h : Gv te σ (upd M x (.ins C dx fs)) P) (k : ∀ v M' H', Gr M H M' H' → M' x = none → P M' v → tz D σ (upd H' x (.ins C dx (putF f v fs)))) : tSeq (sFld K (tVar i) te f) tz D σ H :=
  s_fld (D := { D with nx := tz D }) mh hm hx hi cl na hl h k
theorem gv_self {K : PySem.W.Frag} {σ : Sl} {M : Hp} {P : Pr} {i : Nat} {x C dx : Addr} {fs : List (Str × V)} {f : Str} {u : V} (hi : σ[i]? = some (some (.ref x))) (hx : M x = some (.ins C dx fs)) (cl : Cls K C) (na : NoAttr K C f) (l : fs.lookup f = some u) (p : P M u) : Gv (tFld K (tVar i) f) σ M P :=
  fun H mh Q q => ⟨.ref x, hi, x, C, dx, fs, u, rfl, mh _ _ hx, cl, na, l, q u M H (.refl mh) p⟩
theorem putF_len {f : Str} {v : V} {fs : List (Str × V)} {n : Nat} (h : fs.length ≤ n) : (putF f v fs).length ≤ n + 1 := Nat.le_trans (length_putF f v fs) (Nat.succ_le_succ h)
theorem lt1000 {n m : Nat} (h : n ≤ m) (hm : m < 1000 := by decide) : n < 1000 := Nat.lt_of_le_of_lt h hm
/-- e.f of an instance that is known -/
theorem gv_fld {K : PySem.W.Frag} {σ : Sl} {M : Hp} {te : TE} {P P' : Pr} {f : Str} [Mono P'] (h : Gv te σ M P') (hf : ∀ M' v, P' M' v → ∃ a C dx fs u, v = .ref a ∧ M' a = some (.ins C dx fs) ∧ Cls K C ∧ NoAttr K C f ∧ fs.lookup f = some u ∧ P M' u) : Gv (tFld K te f) σ M P := fun H mh Q q =>
  h H mh _ fun v M1 H1 g1 p1 => let ⟨a, C, dx, fs, u, e, hm, cl, na, l, p⟩ := hf M1 v p1; ⟨a, C, dx, fs, u, e, g1.mh _ _ hm, cl, na, l, q _ M1 H1 g1 p⟩
section
variable {K : PySem.W.Frag} {σ : Sl} {M : Hp} {ta tb te : TE} {α : Type} {R : Rl α}
/-- tuple + tuple -/
theorem gv_addT [Mon R] {xs ys : List α} (ha : Gv ta σ M (TuR R xs)) (hb : Gv tb σ M (TuR R ys)) (hz : xs.length + ys.length ≤ sizeLine) : Gv (tOp (rAddA K) ta tb) σ M (TuR R (xs ++ ys)) := by
  refine gv_op ha hb fun M' u w ⟨a, vs, e1, r1, p1⟩ ⟨b, ws, e2, r2, p2⟩ H mh Q q => .inr (.inr (.inl ⟨a, b, vs, ws, e1, e2, .inl (.inl (mh _ _ r1)), .inl (.inl (mh _ _ r2)), by rw [← p1.length, ← p2.length]; exact hz, fun e => ?_, fun e1 e2 => ?_, fun _ _ p np => ?_⟩))
  · subst e; cases p1
    exact q _ M' H (.refl mh) ⟨b, ws, rfl, r2, p2⟩
  · subst e2; cases p2
    exact q _ M' H (.refl mh) ⟨a, vs, rfl, r1, by rw [List.append_nil]; exact p1⟩
  · exact q _ _ _ (.new mh np) ⟨p, _, rfl, upd_same, Pd.mono (R := R) (same_new (mh.free np)) (pd_app p1 p2)⟩
theorem TT.ts {xs : List Str} {M : Hp} {v : V} (h : TT xs M v) : TuR Tx xs M v := let ⟨a, e, r⟩ := h; ⟨a, _, e, r, pd_of_tx xs⟩
theorem TuR.tt {xs : List Str} {M : Hp} {v : V} (h : TuR Tx xs M v) : TT xs M v := let ⟨a, vs, e, r, p⟩ := h; ⟨a, e, by rw [← pd_tx p]; exact r⟩
theorem gv_addTT {xs ys : List Str} (ha : Gv ta σ M (TT xs)) (hb : Gv tb σ M (TT ys)) (hz : xs.length + ys.length ≤ sizeLine) : Gv (tOp (rAddA K) ta tb) σ M (TT (xs ++ ys)) :=
  gv_is (gv_addT (R := Tx) (gv_is ha fun _ _ h => h.ts) (gv_is hb fun _ _ h => h.ts) hz) fun _ _ h => h.tt
theorem gv_nilT : Gv (tTup tNil) σ M (TT []) := gv_tup ga_nil (fun _ vs h => by rw [h]; exact Nat.zero_le _) fun M' vs p h _ => by subst h; exact ⟨p, rfl, upd_same⟩
end
/-- a def with defaults, no exception leaves it -/
theorem funD_ok {P : Program} {w : World} {K : PySem.W.Frag} {mg : Str → Option Value} {base : Heap} {x qual : Str} {params : Arguments} {body : List Stmt} {scope : Scope} {dvs : List V} {kws : List (Str × V)} {f : Addr} {fd : FuncData} {N ps : List Str} {k : Nat} {sp : Sp}
    (F : FunD K x qual params body scope dvs kws f fd) (S : FnScope N ps scope) (len : ∀ vs H Q E, sp vs H Q E → vs.length = ps.length)
    (hb : ∀ (cdv : Value) (A : Around) (outer : List Env) (s : Shared) (H : Hp) (vs : List V) (Q : VK) (E : XK), Room k (A.deeper (envOfC qual scope s.heap.objs.size f cdv)) → sp vs H Q E →
      ∃ t, PSs (cxOf CX0 P w K mg base N qual scope f cdv A outer s H E).nox body t ∧ t { nx := fun _ H' => Q .non H', rt := Q } (start N vs) H) : FnOk P w K mg base CX0 (k + 1) f fd ps sp :=
  FunD.ok F S len fun cdv A outer s H vs Q E hr hs => let ⟨t, h, q⟩ := hb cdv A outer s H vs Q E hr hs; ⟨t, h.nox, q⟩
end L3

set_option Elab.async false
set_option linter.all false
set_option maxRecDepth 100000
set_option maxHeartbeats 1000000
namespace L3
open PySem PySem.Spec PyProof.Rows L2
/-! a dict of ours whose keys are texts -/
def GvK (te : TE) (σ : Sl) (M : Hp) (ks : List Str) : Prop := ∀ H, Same M H → ∀ Q : VK, (∀ p M' H', Gr M H M' H' → H p = none → M' p = none → H' p = some (.dK (kvT ks)) → Q (.ref p) H') → te σ H Q
theorem putK_kvT (acc : List Str) (x : Str) : putK (kvT acc) (Sum.inr x : Key) (V.bl true) = kvT (onceP acc x) := by
  unfold putK onceP
  have e : ((kvT acc).any fun kv => decide (kv.1 = (Sum.inr x : Key))) = decide (x ∈ acc) := by
    unfold kvT
    rw [List.any_map]
    induction acc with
    | nil => simp
    | cons y r ih =>
      rw [List.any_cons, ih]
      by_cases h : x = y
      · subst h; simp
      · have h1 : ¬ (Sum.inr y : Key) = Sum.inr x := fun z => h (Sum.inr.inj z).symm
        simp [h, h1]
  rw [e]
  by_cases h : x ∈ acc
  · rw [decide_eq_true h, if_pos rfl, if_pos h]
    unfold kvT
    rw [List.map_map]
    refine List.map_congr_left fun y _ => ?_
    show (if _ then _ else _) = _
    by_cases h2 : (Sum.inr y : Key) = Sum.inr x
    · rw [if_pos h2]
    · rw [if_neg h2]
  · rw [decide_eq_false h, if_neg (by simp), if_neg h]
    unfold kvT
    rw [List.map_append]
    rfl
theorem kvT_len (ks : List Str) : (kvT ks).length = ks.length := by unfold kvT; rw [List.length_map]
section
variable {K : PySem.W.Frag} {σ : Sl} {M : Hp} {wi : TI}
theorem gk_dc {j : Nat} {xs : List Str} (hj : j < σ.length) (hsrc : GvI wi σ M xs Tx) (hz : xs.length ≤ sizeLine) : GvK (tDc wi (gName j) tYes (tVar j) (tC (.bl true)) [j]) σ M (once xs) := by
  intro H mh Q q
  refine hsrc H mh _ fun J M1 H1 g1 ⟨G, Y, w, hG, hY⟩ D hD => ?_
  let Pv : Nat → Hp → Prop := fun i H' => ∃ M' acc, Gr M1 H1 M' H' ∧ M' D = none ∧ acc = (xs.take i).foldl onceP [] ∧ acc.length ≤ i ∧ H' D = some (.dK (kvT acc))
  refine ⟨fun i m H' => m = xs.length - i ∧ i ≤ xs.length ∧ Pv i H', ⟨xs.length, by omega, Nat.zero_le _, M1, [], .own g1.mh hD, g1.mh.free hD, rfl, Nat.le_refl _, upd_same⟩, ?_⟩
  rintro i m H' ⟨rfl, hi, M', acc, g, m0, eacc, hl, hw⟩
  by_cases hlt : i < xs.length
  · refine .inr ⟨w.goes i H' hlt (hG M' H' g.mm g.mh), Pv (i + 1), fun H2 p2 => ⟨xs.length - (i + 1), by omega, rfl, hlt, p2⟩, fun y H2 hy => ?_⟩
    obtain ⟨x, M2, hx, g2, ry⟩ := hY i M' H' y H2 g.mm g.mh hlt (w.yields i H' y H2 hlt (hG M' H' g.mm g.mh) hy)
    cases (show y = _ from ry)
    have et : xs.take (i + 1) = xs.take i ++ [x] := by rw [List.take_add_one, hx]; rfl
    have hs : ((wipe σ [j]).set j (some (V.str x)))[j]? = some (some (V.str x)) := by rw [List.getElem?_set_self (by rw [wipe_length]; exact hj)]
    refine ⟨wipe1, .str x, hs, kvT acc, Sum.inr x, rfl, g2.hh _ _ hw, by rw [kvT_len]; exact Nat.lt_of_le_of_lt hl (Nat.lt_of_lt_of_le hlt hz), ?_⟩
    refine ⟨M2, onceP acc x, (g.trans g2).mut hD (g2.keep m0 hw), g2.keep m0 hw, by rw [et, List.foldl_append, ← eacc]; rfl, Nat.le_trans (onceP_len acc x) (Nat.succ_le_succ hl), ?_⟩
    rw [upd_same, putK_kvT]
  · have e : i = xs.length := by omega
    subst e
    rw [List.take_length] at eacc
    unfold once at q
    rw [← eacc] at q
    exact .inl ⟨w.stops H' (hG M' H' g.mm g.mh), q D M' H' (g1.trans g) (g1.hh.free hD) m0 hw⟩
end
/-- what we own: a dict -/
structure OwnK (H0 M H : Hp) (p : Addr) (ks : List Str) : Prop where
  h0 : H0 p = none
  m : M p = none
  h : H p = some (.dK (kvT ks))
theorem OwnK.step {H0 M H M' H' : Hp} {p : Addr} {ks : List Str} (o : OwnK H0 M H p ks) (g : Gr M H M' H') : OwnK H0 M' H' p ks := ⟨o.h0, g.keep o.m o.h, g.hh _ _ o.h⟩
theorem OwnK.idle {H0 M H H' : Hp} {p : Addr} {ks : List Str} (o : OwnK H0 M H p ks) (hh : Same H H') : OwnK H0 M H' p ks := ⟨o.h0, o.m, hh _ _ o.h⟩
theorem OwnK.put {H0 M H : Hp} {p : Addr} {ks ls : List Str} (o : OwnK H0 M H p ks) : OwnK H0 M (upd H p (.dK (kvT ls))) p ls := ⟨o.h0, o.m, upd_same⟩
/-- another thing of ours changes -/
theorem OwnK.off {H0 M H : Hp} {p b : Addr} {ks : List Str} {u : HO} (o : OwnK H0 M H p ks) (h : p ≠ b) : OwnK H0 M (upd H b u) p ks := ⟨o.h0, o.m, by rw [upd_ne h]; exact o.h⟩
theorem Own.off {H0 M H : Hp} {p b : Addr} {vs : List V} {u : HO} (o : Own H0 M H p vs) (h : p ≠ b) : Own H0 M (upd H b u) p vs := ⟨o.h0, o.m, by rw [upd_ne h]; exact o.h⟩
theorem OwnK.ne {H0 M H : Hp} {p b : Addr} {ks : List Str} {vs : List V} (o : OwnK H0 M H p ks) (q : Own H0 M H b vs) : p ≠ b := ne_of o.h q.h (by intro z; cases z)
theorem OwnK.ct {K : PySem.W.Frag} {M : Hp} {p : Addr} {ks : List Str} : CtR K ks (upd M p (.dK (kvT ks))) (.ref p) := .inr ⟨p, rfl, .inl upd_same⟩
theorem kt_nt {kvs : List (Key × V)} : ∀ xs, HO.dK kvs ≠ HO.tup xs := by intro _ z; cases z
theorem ls_nt {vs : List V} : ∀ xs, HO.lst vs ≠ HO.tup xs := by intro _ z; cases z
/-! a thing is locked for good behind an expression -/
def tFrz (te : TE) : TE := fun σ H Q => te σ H fun v H1 => ∃ a u, v = .ref a ∧ H1 a = some u ∧ Mut (some u) ∧ ∀ o, Q v (upd H1 a (.frz o u))
theorem pe_frz {X : Cx} {e : Expr} {te : TE} (h : PE X e te) : PE X e (tFrz te) := by
  refine ⟨fun pins s σ H Q I hw => thn (h.run pins s σ H _ I hw) fun v s1 ⟨x, H1, I1, r, a, u, ex, ha, mu, q⟩ => ?_⟩
  obtain ⟨od, I2⟩ := I1.lock ha mu
  exact ⟨x, _, I2, r, q od⟩
section
variable {K : PySem.W.Frag} {σ : Sl} {M : Hp} {D : Ends} {tc : L2.TT} {tb tz : TS}
theorem q_while {H : Hp} (W : Nat → Sl → Hp → Hp → Prop) {m0 : Nat} (h0 : W m0 σ M H) (hs : ∀ m σ' M' H', W m σ' M' H' → ∃ b Mp, Same Mp H' ∧ GvT tc σ' Mp b ∧
      (b = true → ∀ H1, Same H' H1 → tb { D with nx := fun σ2 H2 => ∃ m' M2, m' < m ∧ W m' σ2 M2 H2, ct := fun σ2 H2 => ∃ m' M2, m' < m ∧ W m' σ2 M2 H2, bk := tz D } σ' H1) ∧ (b = false → ∀ H1, Same H' H1 → tz D σ' H1)) :
    tSeq (tWhile tc tb) tz D σ H := by
  refine ⟨fun m σ' H' => ∃ M', W m σ' M' H', ⟨m0, M, h0⟩, ?_⟩
  rintro m σ' H' ⟨M', w⟩
  obtain ⟨b, Mp, mp, hb, h1, h2⟩ := hs m σ' M' H' w
  refine hb H' mp _ fun M2 H2 g => ?_
  cases b with
  | true => exact ⟨_, fun σ2 H3 ⟨m', M3, hm, w'⟩ => ⟨m', hm, M3, w'⟩, h1 rfl H2 g.hh⟩
  | false => exact h2 rfl H2 g.hh
end
end L3

set_option Elab.async false
set_option linter.all false
set_option maxRecDepth 100000
set_option maxHeartbeats 1000000
namespace L3
open PySem PySem.Spec PyProof.Rows L2
/-! a dict of ours is lent -/
class Sdk (P : Pr) : Prop where
  del : ∀ {M : Hp} {v : V} {x : Addr} {kvs : List (Key × V)}, M x = some (.dK kvs) → P M v → P (L3.del M x) v
class Sdl {α : Type} (R : Rl α) : Prop where
  del : ∀ {y : α} {M : Hp} {v : V} {x : Addr} {kvs : List (Key × V)}, M x = some (.dK kvs) → R y M v → R y (L3.del M x) v
instance {α : Type} {R : Rl α} [h : Sdl R] {y : α} : Sdk (R y) := ⟨fun b c => h.del b c⟩
instance {α : Type} {R : Rl α} [h : Stl R] : Sdl R := ⟨fun b c => h.del kt_nt b c⟩
theorem Pd.delK {α : Type} {R : Rl α} [Sdl R] {M : Hp} {x : Addr} {kvs : List (Key × V)} (hx : M x = some (.dK kvs)) {ys : List α} {vs : List V} (h : Pd R M ys vs) : Pd R (L3.del M x) ys vs := Paired.mapP h fun _ _ q => Sdl.del hx q
instance {α : Type} {R : Rl α} [Sdl R] : Sdl (LiR R) := ⟨fun hx ⟨a, vs, e, r, p⟩ => ⟨a, vs, e, by
  rw [del_ne (fun z => by subst z; rw [hx] at r; cases r)]; exact r, p.delK hx⟩⟩
instance {α : Type} {R : Rl α} [h : Sdl R] : Sdl (OpR' R) := ⟨fun {y M v x kvs} hx r => by
  cases y with
  | none => exact r
  | some y => exact h.del hx r⟩
section
variable {K : PySem.W.Frag} {σ : Sl} {M H : Hp} {te : TE} {P : Pr} {x : Addr} {kvs : List (Key × V)} {D : Ends} {tz : TS}
theorem Gv.lendK [Sdk P] (h : Gv te σ (upd M x (.dK kvs)) P) (hm : M x = none) (mh : Same M H) (hx : H x = some (.dK kvs)) {Q : VK} (q : ∀ v M' H', Gr M H M' H' → M' x = none → H' x = some (.dK kvs) → P M' v → Q v H') : te σ H Q :=
  h H (same_lent mh hx) Q fun v M' H' g p => q v _ H' (g.back hm) del_at (g.hh _ _ hx) (Sdk.del (g.mm x _ upd_same) p)
theorem q_asgK {i : Nat} [Sdk P] (mh : Same M H) (hm : M x = none) (hx : H x = some (.dK kvs)) (h : Gv te σ (upd M x (.dK kvs)) P) (k : ∀ v M' H', Gr M H M' H' → P M' v → tz D (σ.set i (some v)) H') : tSeq (tAsg te (gName i)) tz D σ H :=
  h.lendK hm mh hx fun v M' H' g _ _ p => k v M' H' g p
theorem q_if0 {tt : L2.TT} {b : Bool} {tu : TS} (mh : Same M H) (h : GvT tt σ M b) (h1 : b = true → ∀ H', Same H H' → tu { D with nx := tz D } σ H') (h2 : b = false → ∀ H', Same H H' → tz D σ H') : tSeq (tIfS tt tu tNext) tz D σ H := q_if mh h h1 h2
theorem s_if0 {tt : L2.TT} {b : Bool} {tu : TS} (mh : Same M H) (h : GvT tt σ M b) (h1 : b = true → ∀ H', Same H H' → tu D σ H') (h2 : b = false → ∀ H', Same H H' → D.nx σ H') : tIfS tt tu tNext D σ H := s_if mh h h1 h2
/-! arguments one by one -/
variable {tr ta : TA} {QA : List V → Hp → Prop}
theorem a_V (mh : Same M H) (h : Gv te σ M P) (k : ∀ v M' H', Gr M H M' H' → P M' v → tr σ H' fun vs H2 => QA (v :: vs) H2) : tCons te tr σ H QA := h H mh _ k
theorem a_L {P : Hp → List V → Prop} (mh : Same M H) (h : GvL te σ M P) (k : ∀ p vs M' H', Gr M H M' H' → H p = none → M' p = none → H' p = some (.lst vs) → P M' vs → tr σ H' fun us H2 => QA (.ref p :: us) H2) : tCons te tr σ H QA := h H mh _ k
theorem a_K {ks : List Str} (mh : Same M H) (h : GvK te σ M ks) (k : ∀ p M' H', Gr M H M' H' → H p = none → M' p = none → H' p = some (.dK (kvT ks)) → tr σ H' fun us H2 => QA (.ref p :: us) H2) : tCons te tr σ H QA := h H mh _ k
theorem a_nil (k : QA [] H) : tNil σ H QA := k
theorem q_par3 {i j l : Nat} (h : ta σ H fun vs H1 => ∃ u v w, vs = [u, v, w] ∧ tz D (((σ.set i (some u)).set j (some v)).set l (some w)) H1) : tSeq (tPar3 i j l ta) tz D σ H := h
theorem q_par2 {i j : Nat} (h : ta σ H fun vs H1 => ∃ u v, vs = [u, v] ∧ tz D ((σ.set i (some u)).set j (some v)) H1) : tSeq (tPar i j ta) tz D σ H := h
theorem s_dputT {i : Nat} {p : Addr} {so : List Str} {l : Str} {tk : TE} (mh : Same M H) (hi : σ[i]? = some (some (.ref p))) (hp : H p = some (.dK (kvT so))) (hz : so.length < sizeLine) (h : Gv tk σ M (Tx l))
    (k : ∀ M' H', Gr M H M' H' → D.nx σ (upd H' p (.dK (kvT (onceP so l))))) : sDPut (tVar i) tk (tC (.bl true)) D σ H :=
  ⟨.ref p, hi, h H mh _ fun v M' H' g r => ⟨p, _, rfl, .inl ⟨kvT so, Sum.inr l, g.hh _ _ hp, r, by rw [kvT_len]; exact hz, rfl⟩, by rw [putK_kvT]; exact k M' H' g⟩⟩
theorem q_dputT {i : Nat} {p : Addr} {so : List Str} {l : Str} {tk : TE} (mh : Same M H) (hi : σ[i]? = some (some (.ref p))) (hp : H p = some (.dK (kvT so))) (hz : so.length < sizeLine) (h : Gv tk σ M (Tx l))
    (k : ∀ M' H', Gr M H M' H' → tz D σ (upd H' p (.dK (kvT (onceP so l))))) : tSeq (sDPut (tVar i) tk (tC (.bl true))) tz D σ H := s_dputT (D := { D with nx := tz D }) mh hi hp hz h k
theorem q_app {i : Nat} {p : Addr} {vs : List V} (mh : Same M H) (hi : σ[i]? = some (some (.ref p))) (hp : H p = some (.lst vs)) (hz : vs.length < sizeLine) (h : Gv te σ M P)
    (k : ∀ v M' H', Gr M H M' H' → P M' v → tz D σ (upd H' p (.lst (vs ++ [v])))) : tSeq (tDrop (tBM K "list" rAppend (tVar i) (tCons te tNil))) tz D σ H := s_app (D := { D with nx := tz D }) mh hi hp hz h k
theorem Own.new' {M0 H0 M H : Hp} {p : Addr} {vs : List V} (g : Gr M0 H0 M H) (np : H p = none) : Own H0 M (upd H p (.lst vs)) p vs := ⟨g.hh.free np, g.mh.free np, upd_same⟩
theorem Own.both {H0 M H : Hp} {p b : Addr} {vs : List V} {u : HO} (o : Own H0 M H p vs) (h : p ≠ b) : Own H0 (upd M b u) (upd H b u) p vs := ⟨o.h0, by rw [upd_ne h]; exact o.m, by rw [upd_ne h]; exact o.h⟩
end
end L3

set_option Elab.async false
set_option linter.all false
set_option maxRecDepth 100000
set_option maxHeartbeats 1000000
namespace L3
open PySem PySem.Spec PyProof.Rows L2
/-! len(x) by an own __len__ -/
section
variable {X : Cx} {CX : CXT} {pins : List (Addr × Obj)} {σ : L2.St} {H : Hp} {s : Shared} {a C dx f : Addr} {fs : List (Str × V)} {k : Nat} {fd : FuncData} {ps : List Str} {sp : Sp} {E : XK}
theorem own_inst (I : Inv X pins σ H s) (e : H a = some (.ins C dx fs)) : ∃ ox od, PySem.W.InstAt s.heap a ox C od := let ⟨_, O, _⟩ := ins_get I.hok e; let ⟨_, J, _⟩ := O.look; ⟨_, _, J⟩
/-- the callee runs somewhat deeper -/
theorem run_deep {A : Around} {Q : VK} {us : List Value} {vs : List V} (F : FnOk X.prog X.w X.K X.mg X.base CX k f fd ps sp) (hr : Room k A) (e0 : Env0 X.prog X.w X.K X.mg X.base A X.stack s H) (hb : Binds X.K fd ps []) (hx : Passes CX X E)
    (I : Inv X pins σ H s) (r : Vals vs us) (h : sp vs H Q E) : wpAny (model X.prog X.w) A (call (.ref f) us) (EP X pins σ Q) X.xe s := by
  have hl : (us ++ []).length = ps.length := by rw [List.append_nil, ← r.length]; exact F.len _ _ _ _ h
  have hb' := hb s us I.kIn hl
  rw [List.append_nil] at hb'
  refine wpAny_call (codeAny_mono (F.run A X.stack s H ⟨us, []⟩ us vs Q E hr e0 hb' r h) fun r s' hq => ?_)
  cases r with
  | error e => exact hx pins σ H s e s' I hq
  | ok fl =>
    cases fl with
    | ret u => exact I.after hq
    | next => exact False.elim hq
    | brk => exact False.elim hq
    | cont => exact False.elim hq
def rLenO (C : Addr) (sp : Sp) : List V → Hp → VK → Prop := fun xs H Q => ∃ a dx fs, xs = [V.ref a] ∧ H a = some (.ins C dx fs) ∧ sp [.ref a] H (fun v H' => ∃ n : Nat, v = .int (n : Nat) ∧ n ≤ 1000000000 ∧ Q v H') E0
/-- a class with an own __len__ -/
structure OwnLen (P : Program) (w : World) (K : PySem.W.Frag) (mg : Str → Option Value) (base : Heap) (k : Nat) (C : Addr) (sp : Sp) : Prop where
  ok : ∃ f fd, FnOk P w K mg base CX0 k f fd ["self"] sp ∧ PySem.W.findIn K (.ref C) "__len__" = some (some (.ref f)) ∧ PySem.W.isFn K (.ref f) = true ∧ Binds K fd ["self"] []
theorem call_lenO (o : OwnLen X.prog X.w X.K X.mg X.base k C sp) (hr : Room (k + 1) X.A) : CallR X (.builtin "len") (rLenO C sp) := by
  intro pins s σ H xs us Q I r h
  obtain ⟨f, fd, F, hs, hf, hb⟩ := o.ok
  obtain ⟨a, dx, fs, rfl, ha, q⟩ := h
  obtain ⟨u, rfl, ru⟩ := r.one
  cases (show u = Value.ref a from ru)
  obtain ⟨ox, od, J⟩ := own_inst I ha
  obtain ⟨m, hF⟩ := I.fr
  refine PySem.W.len_K hF I.ok.mod.kin J hs hf (wpAny_mono (run_deep (us := [.ref a]) (vs := [.ref a]) F hr.in1 I.env0.in1 hb pass0 I (.cons rfl .nil) q) (fun w s' z => ?_) fun _ _ x => x)
  obtain ⟨z', H', I', rz, n, ei, hn, qz⟩ := z
  subst ei
  obtain ⟨t, e⟩ := (show ∃ t, w = Value.int n t from rz)
  cases e
  exact ⟨⟨by omega, by omega⟩, .int n, H', I'.tok _, ⟨_, rfl⟩, qz⟩
end
section
variable {α : Type} {σ : Sl} {M : Hp} {te : TE} {R1 : Rl α} {C : Addr}
theorem gv_lenO {pre : α → Prop} {R : α → Pr} {x : α} {n : Nat} (h : Gv te σ M (R1 x)) (hi : ∀ M v, R1 x M v → ∃ a dx fs, v = .ref a ∧ M a = some (.ins C dx fs)) (hp : pre x) (hn : n ≤ 1000000000) (hR : ∀ M v, R x M v → v = .int (n : Nat)) :
    Gv (tCB (rLenO C (sp1 R1 pre R)) (tCons te tNil)) σ M (It' n) := fun H mh Q q => h H mh _ fun v M1 H1 g1 p1 => by
  obtain ⟨a, dx, fs, rfl, ha⟩ := hi M1 v p1
  exact ⟨a, dx, fs, rfl, g1.mh _ _ ha, x, M1, _, rfl, g1.mh, p1, hp, fun u M' H' g r => ⟨n, hR _ _ r, hn, q _ M' H' (g1.trans g) (hR _ _ r)⟩⟩
end
section
variable {σ : Sl} {M H : Hp} {te : TE} {ta : TA} {P : Pr} {D : Ends} {tz : TS} {g : TG} {sp : Sp}
theorem q_asgC (h : ta σ H fun vs H1 => sp (vs ++ []) H1 (fun v H2 => g v σ H2 fun σ' H3 => tz D σ' H3) E0) : tSeq (tAsg (tCall sp [] E0 ta) g) tz D σ H := h
end
end L3

set_option Elab.async false
set_option linter.all false
set_option maxRecDepth 100000
set_option maxHeartbeats 1000000
namespace L3
open PySem PySem.Spec PyProof.Rows L2
/-! the law's stream: two lists that change behind all else -/
structure Strm where
  a : Addr
  b : Addr
namespace Strm
def off (S : Strm) (x : Addr) : Prop := x = S.a ∨ x = S.b
instance {S : Strm} {x : Addr} : Decidable (S.off x) := by unfold off; infer_instance
def cut (S : Strm) (H : Hp) : Hp := fun x => if S.off x then none else H x
/-- the stream stands, k draws are left -/
structure At (S : Strm) (k : Nat) (H : Hp) : Prop where
  ne : S.a ≠ S.b
  ex : ∃ (cells : List Int) (x n m : Int), H S.a = some (.lst [.ref S.b, .int x, .int n, .int m]) ∧ H S.b = some (.lst (cells.map V.int)) ∧ 0 ≤ x ∧ 0 ≤ n ∧ n + k ≤ 10000000 ∧ 0 ≤ m ∧ m < 2147483647
variable {S : Strm} {H H' M M' : Hp} {x p : Addr} {o : HO} {j k : Nat}
theorem cut_off (h : S.off x) : S.cut H x = none := if_pos h
theorem cut_on (h : ¬ S.off x) : S.cut H x = H x := if_neg h
theorem on_of (h : S.cut H x = some o) : ¬ S.off x := fun z => by rw [cut_off z] at h; cases h
theorem of_cut (h : S.cut H x = some o) : H x = some o := by rw [← cut_on (S := S) (H := H) (on_of h)]; exact h
theorem cut_same : Same (S.cut H) H := fun _ _ h => of_cut h
theorem cut_upd (h : ¬ S.off p) : S.cut (upd H p o) = upd (S.cut H) p o := by
  funext y
  by_cases hy : y = p
  · subst hy; rw [cut_on h, upd_same, upd_same]
  · rw [upd_ne hy]
    by_cases ho : S.off y
    · rw [cut_off ho, cut_off ho]
    · rw [cut_on ho, cut_on ho, upd_ne hy]
theorem At.le (h : S.At k H) (e : j ≤ k) : S.At j H := let ⟨c, x, n, m, h1, h2, h3, h4, h5, h6⟩ := h.ex; ⟨h.ne, c, x, n, m, h1, h2, h3, h4, by omega, h6⟩
theorem At.same (h : S.At k H) (e : Same H H') : S.At k H' := let ⟨c, x, n, m, h1, h2, h3⟩ := h.ex; ⟨h.ne, c, x, n, m, e _ _ h1, e _ _ h2, h3⟩
theorem At.upd (h : S.At k H) (hp : ¬ S.off p) : S.At k (upd H p o) := let ⟨c, x, n, m, h1, h2, h3⟩ := h.ex
  ⟨h.ne, c, x, n, m, by rw [upd_ne (fun z => hp (.inl z.symm))]; exact h1, by rw [upd_ne (fun z => hp (.inr z.symm))]; exact h2, h3⟩
theorem At.at_ (h : S.At k H) (ho : S.off x) : ∃ vs, H x = some (.lst vs) := let ⟨c, y, n, m, h1, h2, h3⟩ := h.ex; by
  rcases ho with rfl | rfl
  · exact ⟨_, h1⟩
  · exact ⟨_, h2⟩
theorem At.fresh (h : S.At k H) (hp : H p = none) : ¬ S.off p := fun z => by obtain ⟨vs, e⟩ := h.at_ z; rw [hp] at e; cases e
theorem At.cutn (h : S.At k H) (hp : H p = none) : S.cut H p = none := by rw [cut_on (h.fresh hp)]; exact hp
theorem off_none (mh : Same M (S.cut H)) (ho : S.off x) : M x = none := by
  cases e : M x with
  | none => rfl
  | some o => have := mh x o e; rw [cut_off ho] at this; cases this
theorem lift (mh : Same M (S.cut H)) (h : S.At k H) (g : Gr M H M' H') : Gr M (S.cut H) M' (S.cut H') := by
  refine ⟨g.mm, fun y u e => ?_, fun y u e => ?_, fun y u e => ?_, g.nt⟩
  · rw [cut_on (on_of e)]; exact g.hh y u (of_cut e)
  · have ny : ¬ S.off y := fun z => by
      obtain ⟨vs, hy⟩ := h.at_ z
      rw [g.keep (off_none mh z) hy] at e
      cases e
    rw [cut_on ny]; exact g.mh y u e
  · rcases g.nw y u e with z | z | z
    · exact .inl z
    · by_cases ho : S.off y
      · exact .inr (.inl (cut_off ho))
      · exact .inr (.inl (by rw [cut_on ho]; exact z))
    · exact .inr (.inr z)
end Strm
open Strm
/-- a value behind draws -/
def GvS (S : Strm) (c : Nat) (te : TE) (σ : Sl) (M : Hp) (P : Pr) : Prop := ∀ H k, Same M (S.cut H) → S.At (k + c) H → ∀ Q : VK, (∀ v M' H', Gr M (S.cut H) M' (S.cut H') → S.At k H' → P M' v → Q v H') → te σ H Q
def GvTS (S : Strm) (c : Nat) (tt : L2.TT) (σ : Sl) (M : Hp) (B : Bool → Prop) : Prop := ∀ H k, Same M (S.cut H) → S.At (k + c) H → ∀ Q : Bool → Hp → Prop, (∀ b M' H', Gr M (S.cut H) M' (S.cut H') → S.At k H' → B b → Q b H') → tt σ H Q
def GvLS (S : Strm) (c : Nat) (te : TE) (σ : Sl) (M : Hp) (P : Hp → List V → Prop) : Prop := ∀ H k, Same M (S.cut H) → S.At (k + c) H → ∀ Q : VK,
  (∀ p vs M' H', Gr M (S.cut H) M' (S.cut H') → S.At k H' → S.cut H p = none → M' p = none → S.cut H' p = some (.lst vs) → P M' vs → Q (.ref p) H') → te σ H Q
def GvIS {α : Type} (S : Strm) (c : Nat) (wi : TI) (σ : Sl) (M : Hp) (G : List α → Prop) (R : Rl α) : Prop := ∀ H k, Same M (S.cut H) → S.At (k + c) H → ∀ Q : It → Hp → Prop, (∀ J xs M1 H1, Gr M (S.cut H) M1 (S.cut H1) → S.At k H1 → G xs → GW M1 J xs R → Q J H1) → wi σ H Q
/-- some x that is good -/
def Ex {α : Type} (R : Rl α) (good : α → Prop) : Pr := fun M v => ∃ x, good x ∧ R x M v
instance {α : Type} {R : Rl α} [Mon R] {good : α → Prop} : Mono (Ex R good) := ⟨fun e ⟨x, g, r⟩ => ⟨x, g, Mon.mono e r⟩⟩
section
variable {K : PySem.W.Frag} {S : Strm} {c c1 c2 : Nat} {σ : Sl} {M M1 : Hp} {ta tb te : TE} {tt tu : L2.TT} {P P1 : Pr} {α : Type} {R : Rl α}
theorem Gv.s (h : Gv te σ M P) : GvS S 0 te σ M P := fun H k mh at_ Q q => h H (mh.trans cut_same) Q fun v M' H' g p => q v M' H' (lift mh at_ g) (at_.same g.hh) p
theorem GvT.s {b : Bool} (h : GvT tt σ M b) : GvTS S 0 tt σ M (· = b) := fun H k mh at_ Q q => h H (mh.trans cut_same) Q fun M' H' g => q b M' H' (lift mh at_ g) (at_.same g.hh) rfl
theorem GvI.s {wi : TI} {xs : List α} (h : GvI wi σ M xs R) : GvIS S 0 wi σ M (· = xs) R := fun H k mh at_ Q q => h H (mh.trans cut_same) Q fun J M' H' g w => q J xs M' H' (lift mh at_ g) (at_.same g.hh) rfl w
theorem GvL.s {P : Hp → List V → Prop} (h : GvL te σ M P) : GvLS S 0 te σ M P := fun H k mh at_ Q q => h H (mh.trans cut_same) Q fun p vs M' H' g h0 m0 hp r =>
  q p vs M' H' (lift mh at_ g) (at_.same g.hh) (Strm.At.cutn at_ h0) m0 (by rw [cut_on (Strm.At.fresh at_ h0)]; exact hp) r
theorem GvS.is {P' : Pr} (h : GvS S c te σ M P) (e : ∀ M v, P M v → P' M v) : GvS S c te σ M P' := fun H k mh at_ Q q => h H k mh at_ Q fun v M' H' g a p => q v M' H' g a (e M' v p)
theorem GvS.cost (h : GvS S c te σ M P) (e : c ≤ c1) : GvS S c1 te σ M P := fun H k mh at_ Q q => h H k mh (at_.le (by omega)) Q q
theorem GvLS.cost {P : Hp → List V → Prop} (h : GvLS S c te σ M P) (e : c ≤ c1) : GvLS S c1 te σ M P := fun H k mh at_ Q q => h H k mh (at_.le (by omega)) Q q
theorem GvTS.cost {B : Bool → Prop} (h : GvTS S c tt σ M B) (e : c ≤ c1) : GvTS S c1 tt σ M B := fun H k mh at_ Q q => h H k mh (at_.le (by omega)) Q q
theorem GvTS.is {B B' : Bool → Prop} (h : GvTS S c tt σ M B) (e : ∀ b, B b → B' b) : GvTS S c tt σ M B' := fun H k mh at_ Q q => h H k mh at_ Q fun b M' H' g a p => q b M' H' g a (e b p)
theorem GvS.le [Mono P] (h : GvS S c te σ M P) (e : Same M M1) : GvS S c te σ M1 P := fun H k mh at_ Q q =>
  h H k (e.trans mh) at_ Q fun v M' H' g a p => q v _ H' (g.join e mh).1 a (Mono.mono (g.join e mh).2 p)
theorem GvTS.le {B : Bool → Prop} (h : GvTS S c tt σ M B) (e : Same M M1) : GvTS S c tt σ M1 B := fun H k mh at_ Q q => h H k (e.trans mh) at_ Q fun b M' H' g a p => q b _ H' (g.join e mh).1 a p
theorem GvLS.gv {R : Hp → List V → Prop} (h : GvLS S c te σ M R) (hp : ∀ M vs p, R M vs → M p = none → P (upd M p (.lst vs)) (.ref p)) : GvS S c te σ M P := fun H k mh at_ Q q =>
  h H k mh at_ Q fun p vs M' H' g a h0 m0 hw r => q (.ref p) _ H' (g.freeze h0 m0 hw) a (hp M' vs p r m0)
theorem GvLS.is {R R' : Hp → List V → Prop} (h : GvLS S c te σ M R) (e : ∀ M vs, R M vs → R' M vs) : GvLS S c te σ M R' := fun H k mh at_ Q q => h H k mh at_ Q fun p vs M' H' g a h0 m0 hw r => q p vs M' H' g a h0 m0 hw (e M' vs r)
theorem gs_op {r : R2} {R : Pr} [Mono P] [Mono P1] (ha : GvS S c1 ta σ M P) (hb : GvS S c2 tb σ M P1) (hr : ∀ M' x y, P M' x → P1 M' y → RV (r x y) M' R) : GvS S (c1 + c2) (tOp r ta tb) σ M R := fun H k mh at_ Q q =>
  ha H (k + c2) mh (at_.le (by omega)) _ fun x M1 H1 g1 a1 p1 => hb.le g1.mm H1 k g1.mh a1 _ fun y M2 H2 g2 a2 p2 =>
    hr M2 x y (Mono.mono g2.mm p1) p2 H2 (g2.mh.trans cut_same) _ fun v M3 H3 g3 p3 => q v M3 H3 ((g1.trans g2).trans (lift g2.mh a2 g3)) (a2.same g3.hh) p3
theorem gs_cb1 {r : List V → Hp → VK → Prop} {P' : Pr} (h : GvS S c te σ M P) (hr : ∀ M' v, P M' v → RV (r [v]) M' P') : GvS S c (tCB r (tCons te tNil)) σ M P' := fun H k mh at_ Q q =>
  h H k mh at_ _ fun v M1 H1 g1 a1 p1 => hr M1 v p1 H1 (g1.mh.trans cut_same) Q fun u M' H' g r => q u M' H' (g1.trans (lift g1.mh a1 g)) (a1.same g.hh) r
theorem gts_test (h : GvS S c te σ M P) {B : Bool → Prop} (e : ∀ M v, P M v → ∃ b, v = .bl b ∧ B b) : GvTS S c (tTest te) σ M B := fun H k mh at_ Q q => h H k mh at_ _ fun v M' H' g a p => let ⟨b, e1, e2⟩ := e M' v p; ⟨b, e1, q b M' H' g a e2⟩
theorem gts_B (h : GvS S c te σ M P) {B : Bool → Prop} (e : ∀ M v, P M v → ∃ b, v = .bl b ∧ B b) : GvTS S c (tB te) σ M B := fun H k mh at_ Q q => h H k mh at_ _ fun v M' H' g a p => let ⟨b, e1, e2⟩ := e M' v p; ⟨b, e1, q b M' H' g a e2⟩
theorem gts_or {B C : Bool → Prop} (h : GvTS S c1 tt σ M B) (h2 : B false → GvTS S c2 tu σ M C) : GvTS S (c1 + c2) (tOr tt tu) σ M (fun b => (b = true ∧ B true) ∨ (B false ∧ C b)) := fun H k mh at_ Q q => h H (k + c2) mh (at_.le (by omega)) _ fun b M1 H1 g1 a1 p => by
  cases b with
  | true => exact q true M1 H1 g1 (a1.le (by omega)) (.inl ⟨rfl, p⟩)
  | false => exact (h2 p).le g1.mm H1 k g1.mh a1 _ fun b2 M2 H2 g2 a2 p2 => q b2 M2 H2 (g1.trans g2) a2 (.inr ⟨p, p2⟩)
theorem gts_not {B : Bool → Prop} (h : GvTS S c tt σ M B) : GvTS S c (tNot tt) σ M (fun b => B (!b)) := fun H k mh at_ Q q => h H k mh at_ _ fun b M1 H1 g1 a1 p => q (!b) M1 H1 g1 a1 (by show B (!(!b)); rw [Bool.not_not]; exact p)
theorem gs_if {B : Bool → Prop} [Mono P] (h : GvTS S c1 tt σ M B) (h1 : B true → GvS S c2 ta σ M P) (h2 : B false → GvS S c2 tb σ M P) : GvS S (c1 + c2) (tIf tt ta tb) σ M P := fun H k mh at_ Q q => h H (k + c2) mh (at_.le (by omega)) _ fun b M1 H1 g1 a1 p => by
  cases b with
  | true => exact (h1 p).le g1.mm H1 k g1.mh a1 _ fun v M2 H2 g2 a2 p2 => q v M2 H2 (g1.trans g2) a2 p2
  | false => exact (h2 p).le g1.mm H1 k g1.mh a1 _ fun v M2 H2 g2 a2 p2 => q v M2 H2 (g1.trans g2) a2 p2
theorem gis_sq [Mon R] {ts : TE} {good : List α → Prop} (h : GvS S c ts σ M (Ex (SqR K R) good)) : GvIS S c (iSq K ts) σ M good R := fun H k mh at_ Q q => h H k mh at_ _ fun v M1 H1 g1 a1 ⟨xs, gx, hv⟩ =>
  gi_sq (K := K) (σ := σ) (M := M1) (ts := tC v) (gv_c hv) H1 (g1.mh.trans cut_same) _ fun J M2 H2 g2 w => q J xs M2 H2 (g1.trans (lift g1.mh a1 g2)) (a1.same g2.hh) gx w
theorem gis_rng1 {good : Nat → Prop} (h : GvS S c te σ M (Ex (fun n : Nat => It' (n : Int)) good)) (hn : ∀ n, good n → n ≤ 1000000000) : GvIS S c (iRng1 (tCons te tNil)) σ M (fun xs => ∃ n, good n ∧ xs = List.range n) (fun i => It' (i : Nat)) := fun H k mh at_ Q q => h H k mh at_ _ fun v M1 H1 g1 a1 ⟨n, gx, hv⟩ =>
  gi_rng1 (σ := σ) (M := M1) (te := tC v) (gv_c hv) (hn n gx) H1 (g1.mh.trans cut_same) _ fun J M2 H2 g2 w => q J _ M2 H2 (g1.trans (lift g1.mh a1 g2)) (a1.same g2.hh) ⟨n, gx, rfl⟩ w
end
end L3

set_option Elab.async false
set_option linter.all false
set_option maxRecDepth 100000
set_option maxHeartbeats 1000000
namespace L3
open PySem PySem.Spec PyProof.Rows L2
open Strm
instance {α : Type} {R : Rl α} [h : Stl R] {good : α → Prop} : Stb (Ex R good) := ⟨fun a b ⟨x, g, r⟩ => ⟨x, g, h.del a b r⟩⟩
/-! statements behind draws -/
section
variable {K : PySem.W.Frag} {S : Strm} {c c1 c2 k : Nat} {σ : Sl} {M H : Hp} {ta tb te : TE} {tt tu : L2.TT} {P P1 : Pr} {α β : Type} {R : Rl α} {D : Ends} {tz tx tw : TS}
theorem z_ret (mh : Same M (S.cut H)) (a : S.At (k + c) H) (h : GvS S c te σ M P) (q : ∀ v M' H', Gr M (S.cut H) M' (S.cut H') → S.At k H' → P M' v → D.rt v H') : tRet te D σ H := h H k mh a _ q
theorem z_retL {P : Hp → List V → Prop} (mh : Same M (S.cut H)) (a : S.At (k + c) H) (h : GvLS S c te σ M P)
    (q : ∀ p vs M' H', Gr M (S.cut H) M' (S.cut H') → S.At k H' → S.cut H p = none → M' p = none → S.cut H' p = some (.lst vs) → P M' vs → D.rt (.ref p) H') : tRet te D σ H := h H k mh a _ q
theorem z_asg {i : Nat} (mh : Same M (S.cut H)) (a : S.At (k + c) H) (h : GvS S c te σ M P) (q : ∀ v M' H', Gr M (S.cut H) M' (S.cut H') → S.At k H' → P M' v → tz D (σ.set i (some v)) H') : tSeq (tAsg te (gName i)) tz D σ H := h H k mh a _ q
theorem z_asgL {i : Nat} {P : Hp → List V → Prop} (mh : Same M (S.cut H)) (a : S.At (k + c) H) (h : GvLS S c te σ M P)
    (q : ∀ p vs M' H', Gr M (S.cut H) M' (S.cut H') → S.At k H' → S.cut H p = none → M' p = none → S.cut H' p = some (.lst vs) → P M' vs → tz D (σ.set i (some (.ref p))) H') : tSeq (tAsg te (gName i)) tz D σ H := h H k mh a _ q
theorem z_if {B : Bool → Prop} (mh : Same M (S.cut H)) (a : S.At (k + c) H) (h : GvTS S c tt σ M B) (h1 : B true → ∀ M' H', Gr M (S.cut H) M' (S.cut H') → S.At k H' → tx { D with nx := tz D } σ H') (h2 : B false → ∀ M' H', Gr M (S.cut H) M' (S.cut H') → S.At k H' → tz D σ H') :
    tSeq (tIfS tt tx tNext) tz D σ H := h H k mh a _ fun b M' H' g a' p => by
  cases b with
  | true => exact h1 p M' H' g a'
  | false => exact h2 p M' H' g a'
theorem z_appE {i : Nat} {p : Addr} {vs : List V} (mh : Same M (S.cut H)) (a : S.At (k + c) H) (hi : σ[i]? = some (some (.ref p))) (hp : S.cut H p = some (.lst vs)) (hz : vs.length < sizeLine) (h : GvS S c te σ M P)
    (q : ∀ v M' H', Gr M (S.cut H) M' (S.cut H') → S.At k H' → P M' v → D.nx σ (upd H' p (.lst (vs ++ [v])))) : tDrop (tBM K "list" rAppend (tVar i) (tCons te tNil)) D σ H :=
  ⟨.ref p, hi, .inl ⟨rfl, _, .inl (.inl (of_cut hp))⟩, h H k mh a _ fun v M' H' g a' r => ⟨p, vs, v, rfl, rfl, of_cut (g.hh _ _ hp), hz, q v M' H' g a' r⟩⟩
/-- a list of ours changes -/
theorem cut_put {p : Addr} {o u : HO} (hp : S.cut H p = some o) : S.cut (upd H p u) = upd (S.cut H) p u := cut_upd (on_of hp)
/-- something of ours is lent -/
theorem GvS.lend {x : Addr} {o : HO} [Stb P] (h : GvS S c te σ (upd M x o) P) (hm : M x = none) (mh : Same M (S.cut H)) (a : S.At (k + c) H) (hx : S.cut H x = some o) (hn : ∀ xs, o ≠ HO.tup xs) {Q : VK}
    (q : ∀ v M' H', Gr M (S.cut H) M' (S.cut H') → S.At k H' → P M' v → Q v H') : te σ H Q :=
  h H k (same_lent mh hx) a Q fun v M' H' g a' p => q v _ H' (g.back hm) a' (Stb.del hn (g.mm x o upd_same) p)
/-- for over anything, drawing -/
theorem z_for {wi : TI} {g : TG} {tbd : TS} {U : α → Hp → Sl → Sl → Prop} {G : List α → Prop} (mh : Same M (S.cut H)) (a : S.At (k + c) H) (hsrc : GvIS S c wi σ M G R) (htg : TgOk g R U) (Pv : List α → Hp → Nat → Sl → Hp → Hp → Prop)
    (h0 : ∀ xs M1 H1, G xs → Gr M (S.cut H) M1 (S.cut H1) → S.At k H1 → Pv xs M1 0 σ M1 H1) (hk : ∀ xs M1 i σ' M' H', Pv xs M1 i σ' M' H' → Same M1 M' ∧ Same M' (S.cut H') ∧ S.At 0 H')
    (hs : ∀ xs M1 i x σ' M' H' M2 H2 σ2, G xs → Same M M1 → xs[i]? = some x → Pv xs M1 i σ' M' H' → Gr M' H' M2 H2 → U x M2 σ' σ2 →
      tbd { D with nx := fun σ2 H2 => ∃ M2, Pv xs M1 (i + 1) σ2 M2 H2, ct := fun σ2 H2 => ∃ M2, Pv xs M1 (i + 1) σ2 M2 H2, bk := tz D } σ2 H2)
    (hd : ∀ xs M1 σ' M' H', G xs → Same M M1 → Pv xs M1 xs.length σ' M' H' → tz D σ' H') : tSeq (tFor wi g tbd) tz D σ H := by
  refine hsrc H k mh a _ fun J xs M1 H1 g1 a1 gx ⟨GG, Y, w, hG, hY⟩ => ?_
  refine for_it w (fun i σ' H' => ∃ M', Pv xs M1 i σ' M' H') ⟨M1, h0 xs M1 H1 gx g1 a1⟩ (fun i σ' H' _ ⟨M', p⟩ => hG M' H' (hk _ _ _ _ _ _ p).1 ((hk _ _ _ _ _ _ p).2.1.trans cut_same)) ?_ ?_
  · rintro i y σ' H' H'' hi ⟨M', p⟩ hy
    have km := hk _ _ _ _ _ _ p
    obtain ⟨x, M2, hx, g2, rx⟩ := hY i M' H' y H'' km.1 (km.2.1.trans cut_same) hi hy
    exact htg x M2 y H'' σ' _ rx g2.mh fun σ2 hU => hs xs M1 i x σ' M' H' M2 H'' σ2 gx g1.mm hx p g2 hU
  · rintro σ' H' ⟨M', p⟩
    exact hd xs M1 σ' M' H' gx g1.mm p
/-- a comprehension without a test, drawing at each item -/
theorem gls_m1 {T : Rl β} [Mon T] {j n : Nat} {wi : TI} {G : List α → Prop} {good : α → β → Prop} (hsrc : GvIS S c1 wi σ M G R) (hn : ∀ xs, G xs → xs.length ≤ n) (hz : n ≤ sizeLine)
    (he : ∀ xs, G xs → ∀ x ∈ xs, ∀ M1 v, Same M M1 → R x M1 v → GvS S c2 te ((wipe σ [j]).set j (some v)) M1 (Ex T (good x))) :
    GvLS S (c1 + n * c2) (tLc wi (gName j) tYes te [j]) σ M fun M ws => ∃ xs ys, G xs ∧ Paired good xs ys ∧ Pd T M ys ws := by
  intro H k mh at_ Q q
  refine hsrc H (k + n * c2) mh (at_.le (by omega)) _ fun J xs M1 H1 g1 a1 gx ⟨GG, Y, w, hG, hY⟩ D hD => ?_
  have hxn := hn xs gx
  have nD := a1.fresh hD
  refine lc_it w (fun i H' => ∃ M' ys ws, Gr M1 (S.cut H1) M' (S.cut H') ∧ S.At (k + (n - i) * c2) H' ∧ M' D = none ∧ S.cut H' D = some (.lst ws) ∧ ws.length ≤ i ∧ Paired good (xs.take i) ys ∧ Pd T M' ys ws)
    ⟨M1, [], [], by rw [cut_upd nD]; exact .own g1.mh (a1.cutn hD), a1.upd nD, g1.mh.free (a1.cutn hD), by rw [cut_upd nD, upd_same], Nat.le_refl _, .nil, .nil⟩ (fun i H' _ ⟨M', ys, ws, g, _⟩ => hG M' H' g.mm (g.mh.trans cut_same)) ?_ ?_
  · rintro i y H' H'' hi ⟨M', ys, ws, g, a', m0, hw', hl, hg, hpd⟩ hy
    obtain ⟨x, M0, hx, g0, rx⟩ := hY i M' H' y H'' g.mm (g.mh.trans cut_same) hi hy
    have hxm : x ∈ xs := List.mem_of_getElem? hx
    have et : xs.take (i + 1) = xs.take i ++ [x] := by rw [List.take_add_one, hx]; rfl
    have gg := g.trans (lift g.mh a' g0)
    have ag := a'.same g0.hh
    have k0 : S.cut H'' D = some (.lst ws) := (lift g.mh a' g0).hh _ _ hw'
    have m0' : M0 D = none := (lift g.mh a' g0).keep m0 hw'
    have hni : n - i = (n - (i + 1)) + 1 := by omega
    refine ⟨wipe1, ?_⟩
    show te _ H'' _
    refine he xs gx x hxm M0 y (g1.mm.trans gg.mm) rx H'' (k + (n - (i + 1)) * c2) gg.mh (ag.le (by rw [hni, Nat.add_mul]; omega)) _ fun z M3 H3 g3 a3 ⟨b, gb, hb⟩ => ?_
    have m3 : M3 D = none := g3.keep m0' k0
    have k3 := g3.hh _ _ k0
    have n3 := on_of k3
    refine ⟨ws, of_cut k3, Nat.lt_of_lt_of_le (Nat.lt_of_le_of_lt hl hi) (Nat.le_trans hxn hz), M3, ys ++ [b], ws ++ [z], by rw [cut_upd n3]; exact (gg.trans g3).mut (a1.cutn hD) m3, a3.upd n3, m3, by rw [cut_upd n3, upd_same], by rw [List.length_append]; exact Nat.succ_le_succ hl, ?_, ?_⟩
    · rw [et]; exact pd_app hg (.cons gb .nil)
    · exact pd_app (hpd.mono ((lift g.mh a' g0).mm.trans g3.mm)) (.cons hb .nil)
  · rintro H' ⟨M', ys, ws, g, a', m0, hw', hl, hg, hpd⟩
    rw [List.take_length] at hg
    exact q D ws M' H' (g1.trans g) (a'.le (by omega)) (g1.hh.free (a1.cutn hD)) m0 hw' ⟨xs, ys, gx, hg, hpd⟩
end
/-! promises of defs that draw -/
section
variable {α β γ : Type} {S : Strm} {c : Nat} {σ : Sl} {M : Hp} {t1 t2 t3 : TE} {R1 : Rl α} {R2 : Rl β} {R3 : Rl γ} {i : Nat}
def spS1 (R1 : Rl α) (pre : α → Prop) (c : α → Nat) (R : α → Pr) : Sp := fun vs H Q _ => ∃ (S : Strm) (x : α) (M : Hp) (v : V) (k : Nat), vs = [.ref S.a, v] ∧ Same M (S.cut H) ∧ S.At (k + c x) H ∧ R1 x M v ∧ pre x ∧ ∀ u M' H', Gr M (S.cut H) M' (S.cut H') → S.At k H' → R x M' u → Q u H'
def slS1 (R1 : Rl α) (pre : α → Prop) (c : α → Nat) (R : α → Hp → List V → Prop) : Sp := fun vs H Q _ => ∃ (S : Strm) (x : α) (M : Hp) (v : V) (k : Nat), vs = [.ref S.a, v] ∧ Same M (S.cut H) ∧ S.At (k + c x) H ∧ R1 x M v ∧ pre x ∧
  ∀ p ws M' H', Gr M (S.cut H) M' (S.cut H') → S.At k H' → S.cut H p = none → M' p = none → S.cut H' p = some (.lst ws) → R x M' ws → Q (.ref p) H'
def slS2 (R1 : Rl α) (R2 : Rl β) (pre : α → β → Prop) (c : α → β → Nat) (R : α → β → Hp → List V → Prop) : Sp := fun vs H Q _ => ∃ (S : Strm) (x : α) (y : β) (M : Hp) (v w : V) (k : Nat), vs = [.ref S.a, v, w] ∧ Same M (S.cut H) ∧ S.At (k + c x y) H ∧ R1 x M v ∧ R2 y M w ∧ pre x y ∧
  ∀ p ws M' H', Gr M (S.cut H) M' (S.cut H') → S.At k H' → S.cut H p = none → M' p = none → S.cut H' p = some (.lst ws) → R x y M' ws → Q (.ref p) H'
theorem gs_call1 {pre : α → Prop} {cs : α → Nat} {R : α → Pr} {x : α} (hi : σ[i]? = some (some (.ref S.a))) (h1 : Gv t1 σ M (R1 x)) (hp : pre x) : GvS S (cs x) (tCall (spS1 R1 pre cs R) [] E0 (tCons (tVar i) (tCons t1 tNil))) σ M (R x) := fun H k mh a Q q =>
  ⟨_, hi, h1 H (mh.trans cut_same) _ fun v M1 H1 g1 p1 => ⟨S, x, M1, v, k, rfl, (lift mh a g1).mh, a.same g1.hh, p1, hp, fun u M' H' g a' r => q u M' H' ((lift mh a g1).trans g) a' r⟩⟩
theorem gls_call1 {pre : α → Prop} {cs : α → Nat} {R : α → Hp → List V → Prop} {x : α} (hi : σ[i]? = some (some (.ref S.a))) (h1 : Gv t1 σ M (R1 x)) (hp : pre x) : GvLS S (cs x) (tCall (slS1 R1 pre cs R) [] E0 (tCons (tVar i) (tCons t1 tNil))) σ M (R x) := fun H k mh a Q q =>
  ⟨_, hi, h1 H (mh.trans cut_same) _ fun v M1 H1 g1 p1 => ⟨S, x, M1, v, k, rfl, (lift mh a g1).mh, a.same g1.hh, p1, hp, fun p ws M' H' g a' h0 m0 hw r => q p ws M' H' ((lift mh a g1).trans g) a' ((lift mh a g1).hh.free h0) m0 hw r⟩⟩
theorem gls_call2 [Mon R1] [Mon R2] {pre : α → β → Prop} {cs : α → β → Nat} {R : α → β → Hp → List V → Prop} {x : α} {y : β} (hi : σ[i]? = some (some (.ref S.a))) (h1 : Gv t1 σ M (R1 x)) (h2 : Gv t2 σ M (R2 y)) (hp : pre x y) :
    GvLS S (cs x y) (tCall (slS2 R1 R2 pre cs R) [] E0 (tCons (tVar i) (tCons t1 (tCons t2 tNil)))) σ M (R x y) := fun H k mh a Q q =>
  ⟨_, hi, h1 H (mh.trans cut_same) _ fun v M1 H1 g1 p1 => h2.le g1.mm H1 g1.mh _ fun w M2 H2 g2 p2 => ⟨S, x, y, M2, v, w, k, rfl, (lift mh a (g1.trans g2)).mh, a.same (g1.trans g2).hh, Mon.mono g2.mm p1, p2, hp,
    fun p ws M' H' g a' h0 m0 hw r => q p ws M' H' ((lift mh a (g1.trans g2)).trans g) a' ((lift mh a (g1.trans g2)).hh.free h0) m0 hw r⟩⟩
end
end L3

set_option Elab.async false
set_option linter.all false
set_option maxRecDepth 100000
set_option maxHeartbeats 1000000
namespace L3
open PySem PySem.Spec PyProof.Rows L2
open Strm
namespace Strm
variable {S : Strm} {H H' M M' : Hp} {x p : Addr} {o : HO} {j k : Nat}
/-- the stream lent -/
def full (S : Strm) (M H : Hp) : Hp := fun x => if S.off x then H x else M x
theorem full_off (h : S.off x) : S.full M H x = H x := if_pos h
theorem full_on (h : ¬ S.off x) : S.full M H x = M x := if_neg h
theorem full_same (mh : Same M (S.cut H)) : Same (S.full M H) H := fun y u e => by
  by_cases h : S.off y
  · rw [full_off h] at e; exact e
  · rw [full_on h] at e; exact of_cut (mh y u e)
theorem cut_updo (h : S.off p) : S.cut (upd H p o) = S.cut H := by
  funext y
  by_cases ho : S.off y
  · rw [cut_off ho, cut_off ho]
  · rw [cut_on ho, cut_on ho, upd_ne (fun z => ho (by rw [z]; exact h))]
theorem unfull (mh : Same M (S.cut H)) (g : Gr (S.full M H) H M' H') : Gr M (S.cut H) (S.cut M') (S.cut H') := by
  refine ⟨fun y u e => ?_, fun y u e => ?_, fun y u e => ?_, fun y u e => ?_, fun y ps e => by
    have h := g.nt y ps (of_cut e)
    rw [full_on (on_of e)] at h
    exact h⟩
  · have ny := on_of (mh y u e)
    rw [cut_on ny]; exact g.mm y u (by rw [full_on ny]; exact e)
  · rw [cut_on (on_of e)]; exact g.hh y u (of_cut e)
  · rw [cut_on (on_of e)]; exact g.mh y u (of_cut e)
  · have ny := on_of e
    rcases g.nw y u (of_cut e) with z | z | z
    · rw [full_on ny] at z; exact .inl z
    · exact .inr (.inl (by rw [cut_on ny]; exact z))
    · exact .inr (.inr z)
end Strm
def cellD (cells : List Int) (x n m : Int) : List PyData := [.list (cells.map .int), .int x, .int n, .int m]
structure StAt (S : Strm) (H : Hp) (cells : List Int) (x n m : Int) : Prop where
  ne : S.a ≠ S.b
  a : H S.a = some (.lst [.ref S.b, .int x, .int n, .int m])
  b : H S.b = some (.lst (cells.map V.int))
/-- one statement, then what follows it is proved once -/
theorem q_cut {t tz : TS} {D : Ends} {σ : Sl} {H : Hp} (J : Sl → Hp → Prop) (h : ∀ nx, (∀ σ H, J σ H → nx σ H) → t { D with nx := nx } σ H) (hz : ∀ σ H, J σ H → tz D σ H) : tSeq t tz D σ H := h _ hz
section
variable {K : PySem.W.Frag} {S : Strm} {c k : Nat} {σ : Sl} {M H H' : Hp} {te : TE} {D : Ends} {tz tb : TS} {cells : List Int} {x n m : Int}
theorem StAt.same (st : StAt S H cells x n m) (e : Same H H') : StAt S H' cells x n m := ⟨st.ne, e _ _ st.a, e _ _ st.b⟩
theorem pd_int {M : Hp} : ∀ (cs : List Int), Pd (Dd K) M (cs.map PyData.int) (cs.map V.int)
  | [] => .nil
  | c :: r => .cons (.int c) (pd_int r)
theorem dpa_pd {M : Hp} {ds : List PyData} {vs : List V} (h : Pd (Dd K) M ds vs) : DpAll K M vs ds := by
  induction h with
  | nil => exact .nil
  | cons q _ ih => exact .cons q ih
theorem StAt.sq (st : StAt S H cells x n m) : SqR K (Dd K) (cellD cells x n m) (S.full M H) (.ref S.a) :=
  .inl ⟨_, _, rfl, .inl (.inl (by rw [full_off (.inl rfl)]; exact st.a)), .cons (.lst (.inl (.inl (by rw [full_off (.inr rfl)]; exact st.b))) (dpa_pd (pd_int cells))) (.cons (.int x) (.cons (.int n) (.cons (.int m) .nil)))⟩
/-- stream[j] = e -/
theorem z_subE {j : Int} {jn : Nat} {z : Int} (hσ : σ[0]? = some (some (.ref S.a))) (mh : Same M (S.cut H)) (st : StAt S H cells x n m) (hj : ixN 4 j = some jn) (h : Gv te σ (S.full M H) (It' z))
    (q : ∀ M' H', Gr M (S.cut H) M' (S.cut H') → H' S.a = some (.lst ([V.ref S.b, .int x, .int n, .int m].set jn (.int z))) → H' S.b = some (.lst (cells.map V.int)) → D.nx σ H') :
    tAsg te (gSub (tVar 0) (tC (.int j)) rSetL) D σ H := h H (full_same mh) _ fun v M' H' g p => by
  have st' := st.same g.hh
  refine ⟨.ref S.a, hσ, S.a, _, j, jn, rfl, rfl, st'.a, hj, ?_⟩
  cases (show v = _ from p)
  refine q _ _ (by rw [cut_updo (.inl rfl)]; exact unfull mh g) upd_same ?_
  rw [upd_ne (Ne.symm st.ne)]
  exact st'.b
theorem z_sub {j : Int} {jn : Nat} {z : Int} (hσ : σ[0]? = some (some (.ref S.a))) (mh : Same M (S.cut H)) (st : StAt S H cells x n m) (hj : ixN 4 j = some jn) (h : Gv te σ (S.full M H) (It' z))
    (q : ∀ M' H', Gr M (S.cut H) M' (S.cut H') → H' S.a = some (.lst ([V.ref S.b, .int x, .int n, .int m].set jn (.int z))) → H' S.b = some (.lst (cells.map V.int)) → tz D σ H') :
    tSeq (tAsg te (gSub (tVar 0) (tC (.int j)) rSetL)) tz D σ H := z_subE (D := { D with nx := tz D }) hσ mh st hj h q
end
end L3

set_option Elab.async false
set_option linter.all false
set_option maxRecDepth 100000
set_option maxHeartbeats 1000000
namespace L3
open PySem PySem.Spec PyProof.Rows L2
open Strm
section
variable {σ : Sl} {M H : Hp} {te0 te : TE}
/-- [e for k in range(n)], n told while something of ours is lent -/
theorem lc_rngL {x : Addr} {o : HO} {n j : Nat} (h : Gv te0 σ (upd M x o) (It' (n : Int))) (hm : M x = none) (mh : Same M H) (hx : H x = some o) (hn : n ≤ 1000000000) (ho : ∀ xs, o ≠ HO.tup xs) {Q : VK} (Pv : Addr → Nat → Hp → Hp → Prop)
    (h0 : ∀ M1 H1 D, Gr M H M1 H1 → H1 D = none → Pv D 0 M1 (upd H1 D (.lst [])))
    (hs : ∀ D i M' H', i < n → Pv D i M' H' → te ((wipe σ [j]).set j (some (.int (i : Nat)))) H' fun z H3 => ∃ acc, H3 D = some (.lst acc) ∧ acc.length < sizeLine ∧ ∃ M3, Pv D (i + 1) M3 (upd H3 D (.lst (acc ++ [z]))))
    (hd : ∀ D M' H', Pv D n M' H' → Q (.ref D) H') : tLc (iRng1 (tCons te0 tNil)) (gName j) tYes te [j] σ H Q := by
  refine h.lend hm mh hx ho fun v M1 H1 g1 _ _ hv => ?_
  cases (show v = _ from hv)
  refine ⟨(n : Int), rfl, by omega, by omega, fun D hD => ?_⟩
  have w := walk_range (lo := 0) (n := (n : Int).toNat)
  refine lc_it w (fun i H' => ∃ M', Pv D i M' H') ⟨M1, h0 M1 H1 D g1 hD⟩ (fun _ _ _ _ => trivial) ?_ ?_
  · rintro i y H' H'' hi ⟨M', p⟩ ⟨rfl, rfl⟩
    rw [Int.toNat_natCast] at hi
    have e0 : (fun i : Nat => V.int (0 + (i : Int))) i = V.int (i : Nat) := by show V.int _ = V.int _; rw [Int.zero_add]
    rw [e0]
    exact ⟨wipe1, hs D i M' _ hi p⟩
  · rintro H' ⟨M', p⟩
    rw [Int.toNat_natCast] at p
    exact hd D M' H' p
end
end L3
namespace L3
open PySem PySem.Spec PyProof.Rows L2
open Strm
section
variable {K : PySem.W.Frag} {S : Strm} {c k : Nat} {σ : Sl} {M H : Hp} {te ta tb : TE} {P : Pr} {α β : Type} {R : Rl α} {T : Rl β} {D : Ends} {tz : TS} {g : TG} {U : α → Hp → Sl → Sl → Prop}
theorem z_asgT {x : α} (mh : Same M (S.cut H)) (a : S.At (k + c) H) (h : GvS S c te σ M (R x)) (htg : TgOk g R U) (q : ∀ σ' M' H', Gr M (S.cut H) M' (S.cut H') → S.At k H' → U x M' σ σ' → tz D σ' H') : tSeq (tAsg te g) tz D σ H :=
  h H k mh a _ fun v M' H' g' a' r => htg x M' v H' σ _ r (g'.mh.trans cut_same) fun σ' u => q σ' M' H' g' a' u
theorem gv_pair [Mon R] [Mon T] {x : α} {y : β} (h1 : Gv ta σ M (R x)) (h2 : Gv tb σ M (T y)) : Gv (tTup (tCons ta (tCons tb tNil))) σ M (PrR K R T (x, y)) := fun H mh Q q =>
  h1 H mh _ fun v M1 H1 g1 p1 => h2.le g1.mm H1 g1.mh _ fun w M2 H2 g2 p2 => ⟨by show 2 ≤ sizeLine; decide, fun p np => q _ _ _ ((g1.trans g2).trans (.new g2.mh np)) ⟨p, _, _, rfl, .inl (.inl upd_same), Mon.mono (g2.mm.trans (same_new (g2.mh.free np))) p1, Mon.mono (same_new (g2.mh.free np)) p2⟩⟩
/-- constants in a row -/
def tCs : List V → TA
  | [] => tNil
  | v :: r => tCons (tC v) (tCs r)
theorem ga_cs : ∀ vs : List V, GvA (tCs vs) σ M fun _ ws => ws = vs
  | [] => ga_nil
  | v :: r => fun H mh Q q => ga_cs r H mh _ fun ws M' H' g e => q _ M' H' g (by rw [e])
theorem gl_cs (vs : List V) (hz : vs.length ≤ 1000) : GvL (tLst (tCs vs)) σ M fun _ ws => ws = vs := gl_lst (ga_cs vs) fun _ ws e => by rw [e]; exact Nat.le_trans hz (by decide)
theorem gv_strs (xs : List Str) (hz : xs.length ≤ 1000) : Gv (tLst (tCs (xs.map V.str))) σ M (LiR Tx xs) := (gl_cs _ (by rw [List.length_map]; exact hz)).gv fun M vs p e m => by subst e; exact ⟨p, _, rfl, upd_same, pd_of_tx xs⟩
theorem pd_of_it {M : Hp} : ∀ (xs : List Int), Pd It' M xs (xs.map V.int)
  | [] => .nil
  | _ :: r => .cons rfl (pd_of_it r)
theorem gv_ints (xs : List Int) (hz : xs.length ≤ 1000) : Gv (tLst (tCs (xs.map V.int))) σ M (LiR It' xs) := (gl_cs _ (by rw [List.length_map]; exact hz)).gv fun M vs p e m => by subst e; exact ⟨p, _, rfl, upd_same, pd_of_it xs⟩
/-- sep.join(a new list of texts) -/
theorem gs_join {good : List Str → Prop} {x : Str} (h : GvLS S c te σ M fun M ws => ∃ ys, good ys ∧ Pd Tx M ys ws) (hz : ∀ ys, good ys → (ys.map (·.length)).sum + ys.length * x.length ≤ 16777216) :
    GvS S c (tM1 (fun x xs H Q => ∃ a p, ∃ ys : List Str, x = .str a ∧ xs = [.ref p] ∧ (SqL K H p (ys.map V.str) ∨ SqT K H p (ys.map V.str)) ∧ (ys.map (·.length)).sum + ys.length * a.length ≤ 16777216 ∧ Q (.str (Txt.join a ys)) H) (tC (.str x)) te) σ M (Ex (fun ys => Tx (Txt.join x ys)) good) := fun H k mh a Q q =>
  ⟨⟨x, rfl⟩, h H k mh a _ fun p vs M' H' g a' h0 m0 hw ⟨ys, gy, hp⟩ => ⟨x, p, ys, rfl, rfl, .inl (.inl (.inl (by rw [← pd_tx hp]; exact of_cut hw))), hz ys gy, q _ M' H' g a' ⟨ys, gy, rfl⟩⟩⟩
end
end L3
namespace L3
open PySem PySem.Spec PyProof.Rows L2
open Strm
section
variable {K : PySem.W.Frag} {S : Strm} {c k : Nat} {σ : Sl} {M H : Hp} {te : TE} {P : Pr} {D : Ends} {tz : TS}
/-- xs.append(e), e asks xs itself -/
theorem z_appL {i : Nat} {p : Addr} {vs : List V} [Stb P] (mh : Same M (S.cut H)) (a : S.At (k + c) H) (hi : σ[i]? = some (some (.ref p))) (hm : M p = none) (hp : S.cut H p = some (.lst vs)) (hz : vs.length < sizeLine) (h : GvS S c te σ (upd M p (.lst vs)) P)
    (q : ∀ v M' H', Gr M (S.cut H) M' (S.cut H') → S.At k H' → P M' v → D.nx σ (upd H' p (.lst (vs ++ [v])))) : tDrop (tBM K "list" rAppend (tVar i) (tCons te tNil)) D σ H :=
  ⟨.ref p, hi, .inl ⟨rfl, _, .inl (.inl (of_cut hp))⟩, h.lend hm mh a hp ls_nt fun v M' H' g a' r => ⟨p, vs, v, rfl, rfl, of_cut (g.hh _ _ hp), hz, q v M' H' g a' r⟩⟩
end
/-- a list of ours behind the stream -/
structure OwS (S : Strm) (H0 M H : Hp) (p : Addr) (vs : List V) : Prop where
  o : Own (S.cut H0) M (S.cut H) p vs
theorem OwS.put {S : Strm} {H0 M H : Hp} {p : Addr} {vs ws : List V} (o : OwS S H0 M H p vs) : OwS S H0 M (upd H p (.lst ws)) p ws := ⟨by rw [cut_put o.o.h]; exact o.o.put⟩
theorem OwS.step {S : Strm} {H0 M H M' H' : Hp} {p : Addr} {vs : List V} (o : OwS S H0 M H p vs) (g : Gr M (S.cut H) M' (S.cut H')) : OwS S H0 M' H' p vs := ⟨o.o.step g⟩
theorem OwS.mut {S : Strm} {M0 H0 M H : Hp} {p : Addr} {vs ws : List V} (o : OwS S H0 M H p vs) (g : Gr M0 (S.cut H0) M (S.cut H)) : Gr M0 (S.cut H0) M (S.cut (upd H p (.lst ws))) := by rw [cut_put o.o.h]; exact g.mut o.o.h0 o.o.m
theorem OwS.on {S : Strm} {H0 M H : Hp} {p : Addr} {vs : List V} (o : OwS S H0 M H p vs) : ¬ S.off p := on_of o.o.h
end L3
namespace L3
open PySem PySem.Spec PyProof.Rows L2
open Strm
def cutL {α : Type} (xs : List α) (lo hi : Option Int) : List α := (xs.drop (HT.sIx xs.length 0 lo)).take (HT.sIx xs.length xs.length hi - HT.sIx xs.length 0 lo)
theorem pd_cut {α : Type} {R : Rl α} {M : Hp} {xs : List α} {vs : List V} {lo hi : Option Int} (h : Pd R M xs vs) : Pd R M (cutL xs lo hi) (cutV vs lo hi) := by
  have e : cutV vs lo hi = cutL vs lo hi := rfl
  rw [e]
  unfold cutL
  rw [← h.length]
  exact pd_take _ (pd_drop _ h)
theorem cut_sub {α : Type} (xs : List α) (lo hi : Option Int) : (cutL xs lo hi).Sublist xs := (List.take_sublist _ _).trans (List.drop_sublist _ _)
section
variable {K : PySem.W.Frag} {S : Strm} {c1 c2 : Nat} {σ : Sl} {M : Hp} {te th : TE} {α : Type} {R : Rl α}
theorem gl_cut [Mon R] {tl th : TO} {xs : List α} {lo hi : Option Int} (h : Gv te σ M (LstR K R xs)) (hl : ∀ (H : Hp) (Q : Option Int → Hp → Prop), Q lo H → tl σ H Q) (hh : ∀ (H : Hp) (Q : Option Int → Hp → Prop), Q hi H → th σ H Q) :
    GvL (tSl (rSlX K) te tl th) σ M fun M ws => Pd R M (cutL xs lo hi) ws := fun H mh Q q =>
  h H mh _ fun v M1 H1 g1 ⟨a, vs, e, hs, hp⟩ => hl H1 _ (hh H1 _ (.inr (.inl ⟨a, vs, e, sl_mono g1.mh hs, fun p np => q p _ M1 _ (g1.trans (.own g1.mh np)) (g1.hh.free np) (g1.mh.free np) upd_same (pd_cut hp)⟩)))
theorem gls_cut [Mon R] {good : List α → Prop} (h : GvS S c1 te σ M (Ex (LiR R) good)) (hh : GvS S c2 th σ M (Ex It' fun _ => True)) :
    GvLS S (c1 + c2) (tSl (rSlX K) te tNoPart (tPart th)) σ M fun M ws => ∃ xs i, good xs ∧ Pd R M (cutL xs none (some i)) ws := fun H k mh at_ Q q =>
  h H (k + c2) mh (at_.le (by omega)) _ fun v M1 H1 g1 a1 ⟨xs, gx, a, vs, e, hs, hp⟩ => hh.le g1.mm H1 k g1.mh a1 _ fun w M2 H2 g2 a2 ⟨i, _, ew⟩ =>
    ⟨i, ew, .inr (.inl ⟨a, vs, e, .inl (.inl (of_cut (g2.mh _ _ (g2.mm _ _ hs)))), fun p np => by
      have n2 := a2.fresh np
      exact q p _ M2 _ ((g1.trans g2).trans (by rw [cut_upd n2]; exact .own g2.mh (a2.cutn np))) (a2.upd n2) ((g1.trans g2).hh.free (a2.cutn np)) (g2.mh.free (a2.cutn np)) (by rw [cut_upd n2, upd_same]) ⟨xs, i, gx, (pd_cut hp).mono g2.mm⟩⟩)⟩
end
end L3
namespace L3
open PySem PySem.Spec PyProof.Rows L2
section
end
end L3

set_option Elab.async false
set_option linter.all false
set_option maxRecDepth 100000
set_option maxHeartbeats 1000000
namespace L3
open PySem PySem.Spec PyProof.Rows L2
open Strm
/-! instances made by name -/
def Mak (P : Program) (w : World) (K : PySem.W.Frag) (mg : Str → Option Value) (base : Heap) (k : Nat) (x : Str) (C : Addr) (ps : List Str) (sp : Sp) : Prop :=
  ∃ f fd, Mk K C f ∧ FnOk P w K mg base CX0 k f fd ps sp ∧ mg x = some (.ref C) ∧ Binds K fd ps []
theorem pe_mk {X : Cx} {k : Nat} {x : Str} {C : Addr} {ps : List Str} {sp : Sp} {e : Expr} {es : List Expr} {t : TA} {p pos : Pos} (c : Mak X.prog X.w X.K X.mg X.base k x C ps sp) (hr : Room (k + 1) X.A) (ha : PA X (e :: es) t) (hg : Gl X x := by rfl)
    (hdb : (x == ("__debug__" : Str)) = false := by decide) (he : starEach (e :: es) X.env = (false, eval e X.env) :: starEach es X.env := by rfl) (hpl : (backTo pos (starEach es X.env)).any (·.1) = false := by rfl) :
    PE X (.Call (.Name x p) (e :: es) [] pos) (tMake C sp [] E0 t) :=
  let ⟨_, _, M, F, m, b⟩ := c
  pe_make M F hr hg m b .nil pass0 ha hdb he hpl
theorem cut_take {α : Type} (xs : List α) (n : Nat) : cutL xs none (some (n : Int)) = xs.take n := by
  unfold cutL
  rw [HT.sIx_none, HT.sIx_nat]
  simp only [List.drop_zero, Nat.sub_zero]
  by_cases h : n ≤ xs.length
  · rw [Nat.min_eq_left h]
  · rw [Nat.min_eq_right (by omega), List.take_length, List.take_of_length_le (by omega)]
theorem cut_drop {α : Type} (xs : List α) (n : Nat) : cutL xs (some (n : Int)) none = xs.drop n := by
  unfold cutL
  rw [HT.sIx_none, HT.sIx_nat]
  by_cases h : n ≤ xs.length
  · rw [Nat.min_eq_left h, List.take_of_length_le (by rw [List.length_drop]; omega)]
  · rw [Nat.min_eq_right (by omega), List.drop_length, List.drop_of_length_le (by omega)]; simp
section
end
end L3
namespace L3
open PySem PySem.Spec PyProof.Rows L2
open Strm
section
variable {K : PySem.W.Frag} {S : Strm} {c k : Nat} {σ : Sl} {M H : Hp} {te t1 t2 t3 : TE} {P : Pr} {tr : TA} {QA : List V → Hp → Prop}
theorem z_V (mh : Same M (S.cut H)) (a : S.At (k + c) H) (h : GvS S c te σ M P) (q : ∀ v M' H', Gr M (S.cut H) M' (S.cut H') → S.At k H' → P M' v → tr σ H' fun vs H2 => QA (v :: vs) H2) : tCons te tr σ H QA := h H k mh a _ q
end
end L3
namespace L3
open PySem PySem.Spec PyProof.Rows L2
/-- a, b = x, y through a real tuple -/
def Fin2 (K : PySem.W.Frag) (i j : Nat) (tz : TS) (D : Ends) (σ : Sl) : List V → Hp → Prop := fun vs H1 => vs.length ≤ sizeLine ∧ ∀ p, H1 p = none → gTup K 2 (gCons (gName i) (gCons (gName j) gNil)) (.ref p) σ (upd H1 p (.tup vs)) fun σ' H' => tz D σ' H'
theorem fin2 {K : PySem.W.Frag} {i j : Nat} {tz : TS} {D : Ends} {σ : Sl} {H1 : Hp} {u v : V} (h : ∀ p, H1 p = none → tz D ((σ.set i (some u)).set j (some v)) (upd H1 p (.tup [u, v]))) : Fin2 K i j tz D σ [u, v] H1 :=
  ⟨by show 2 ≤ sizeLine; decide, fun p np => ⟨p, _, rfl, .inl (.inl upd_same), rfl, u, _, rfl, v, _, rfl, rfl, h p np⟩⟩
end L3
namespace L3
open PySem PySem.Spec PyProof.Rows L2
end L3
namespace L3
open PySem PySem.Spec PyProof.Rows L2
def CalG (P : Program) (w : World) (K : PySem.W.Frag) (mg : Str → Option Value) (base : Heap) (k : Nat) (x : Str) (ps : List Str) (sp : Sp) : Prop :=
  ∃ f fd, FnG P w K mg base CX0 k f fd ps sp ∧ mg x = some (.ref f) ∧ PySem.W.keepIn K (.ref f) = true ∧ Binds K fd ps []
theorem pe_fG {X : Cx} {k : Nat} {x : Str} {ps : List Str} {sp : Sp} {e : Expr} {es : List Expr} {t : TA} {p pos : Pos} (c : CalG X.prog X.w X.K X.mg X.base k x ps sp) (hgu : X.A.guards = some []) (hr : Room k X.A) (ha : PA X (e :: es) t) (hg : Gl X x := by rfl)
    (hdb : (x == ("__debug__" : Str)) = false := by decide) (he : starEach (e :: es) X.env = (false, eval e X.env) :: starEach es X.env := by rfl) (hpl : (backTo pos (starEach es X.env)).any (·.1) = false := by rfl) :
    PE X (.Call (.Name x p) (e :: es) [] pos) (tCall sp [] E0 t) :=
  let ⟨_, _, G, m, kp, b⟩ := c
  pe_callG G hgu hr hg m kp b .nil pass0 ha hdb he hpl
end L3

set_option Elab.async false
set_option linter.all false
set_option maxRecDepth 100000
set_option maxHeartbeats 1000000
namespace L3
open PySem PySem.Spec PyProof.Rows L2
open Strm
section
variable {K : PySem.W.Frag} {S : Strm} {c k : Nat} {σ : Sl} {M H : Hp} {te t1 t2 t3 : TE} {ta tr : TA} {tt : L2.TT} {tx tz : TS} {P : Pr} {D : Ends} {α β γ : Type} {R : Rl α} {R1 : Rl α} {R2 : Rl β} {R3 : Rl γ} {QA : List V → Hp → Prop} {E : XK}
theorem q_asgS {i : Nat} (h : te σ H fun v H1 => tz D (σ.set i (some v)) H1) : tSeq (tAsg te (gName i)) tz D σ H := h
theorem lst_in {Q : VK} (h : ta σ H fun vs H1 => vs.length ≤ sizeLine ∧ ∀ p, H1 p = none → Q (.ref p) (upd H1 p (.lst vs))) : tLst ta σ H Q := h
/-- list + list -/
theorem gl_addL [Mon R] {xs ys : List α} (h1 : Gv t1 σ M (LiR R xs)) (h2 : Gv t2 σ M (LiR R ys)) (hz : xs.length + ys.length ≤ sizeLine) : GvL (tOp (rAddA K) t1 t2) σ M fun M ws => Pd R M (xs ++ ys) ws := fun H mh Q q =>
  h1 H mh _ fun v M1 H1 g1 p1 => h2.le g1.mm H1 g1.mh _ fun w M2 H2 g2 p2 => by
    obtain ⟨a, us, e1, r1, d1⟩ := (Mon.mono g2.mm p1 : LiR R xs M2 v)
    obtain ⟨b, ws, e2, r2, d2⟩ := p2
    exact .inr (.inr (.inr ⟨a, b, us, ws, e1, e2, g2.mh _ _ r1, g2.mh _ _ r2, by rw [← d1.length, ← d2.length]; exact hz, fun p np => q p _ M2 _ ((g1.trans g2).trans (.own g2.mh np)) ((g1.trans g2).hh.free np) (g2.mh.free np) upd_same (pd_app d1 d2)⟩))
end
section
end
theorem pd_itv {M : Hp} {xs : List Int} {vs : List V} (h : Pd It' M xs vs) : vs = xs.map V.int := by
  induction h with
  | nil => rfl
  | cons q _ ih => rw [ih, show _ = V.int _ from q]; rfl
end L3

set_option Elab.async false
set_option linter.all false
set_option maxRecDepth 100000
set_option maxHeartbeats 1000000
namespace L3
open PySem PySem.Spec PyProof.Rows L2
open Strm
/-- a walk whose turns are told by one statement -/
theorem turns_of {J : It} {n : Nat} {G : Hp → Prop} {Y : Nat → Hp → V → Hp → Prop} (w : Walk J n G Y) {H1 : Hp} {fin : Hp → Prop} {B : V → Hp → (Hp → Prop) → Prop} (Pv : Nat → Hp → Prop) (h0 : Pv 0 H1) (hG : ∀ i H, i ≤ n → Pv i H → G H)
    (hs : ∀ i x H H', i < n → Pv i H → Y i H x H' → B x H' (Pv (i + 1))) (hd : ∀ H, Pv n H → fin H) :
    ∃ W : Nat → Nat → Hp → Prop, (∃ m, W 0 m H1) ∧ ∀ i m H, W i m H → (J.stop i H ∧ fin H) ∨ (J.go i H ∧ ∃ N : Hp → Prop, (∀ H', N H' → ∃ m', m' < m ∧ W (i + 1) m' H') ∧ ∀ x H', J.yld i H x H' → B x H' N) := by
  refine ⟨fun i m H => i + m = n ∧ Pv i H, ⟨n, Nat.zero_add n, h0⟩, fun i m H ⟨e, p⟩ => ?_⟩
  cases m with
  | zero =>
    have e' : i = n := e
    subst e'
    exact .inl ⟨w.stops H (hG _ H (Nat.le_refl _) p), hd H p⟩
  | succ m =>
    have hi : i < n := by omega
    have g := hG i H (Nat.le_of_lt hi) p
    exact .inr ⟨w.goes i H hi g, Pv (i + 1), fun H' p' => ⟨m, Nat.lt_succ_self m, by omega, p'⟩, fun x H' y => hs i x H H' hi p (w.yields i H x H' hi g y)⟩
section
variable {K : PySem.W.Frag} {σ : Sl} {M : Hp} {ta tb te ts : TE} {tt : L2.TT} {α β γ : Type} {R : Rl α} {R1 : Rl β} {T : Rl γ} {wi wi1 : TI} {g : TG}
theorem wipe2a {i j : Nat} {u : V} : wipe ((wipe σ [i, j]).set i (some u)) [i, j] = wipe σ [i, j] := by
  show ((((σ.set j none).set i none).set i (some u)).set j none).set i none = (σ.set j none).set i none
  rw [List.set_set]
  by_cases h : i = j
  · subst h; simp
  · rw [List.set_comm _ _ h, List.set_set, List.set_set]
theorem take_flat {α β : Type} {xs : List α} {i : Nat} {x : α} (f : α → List β) (h : xs[i]? = some x) : (xs.take (i + 1)).flatMap f = (xs.take i).flatMap f ++ f x := by
  rw [List.take_add_one, h]
  simp
/-- [e for x in xs for y in ys] -/
theorem gl_two [Mon T] {i j : Nat} {xs : List α} {ys : α → List β} {f : α → β → γ} (hsrc : GvI wi σ M xs R) (hz : (xs.flatMap ys).length ≤ sizeLine)
    (hy : ∀ x ∈ xs, ∀ M1 v, Same M M1 → R x M1 v → GvI wi1 ((wipe σ [i, j]).set i (some v)) M1 (ys x) R1)
    (he : ∀ x ∈ xs, ∀ y ∈ ys x, ∀ M1 v w, Same M M1 → R x M1 v → R1 y M1 w → Gv te ((wipe ((wipe σ [i, j]).set i (some v)) [j]).set j (some w)) M1 (T (f x y))) [Mon R] :
    GvL (tLc2 wi (gName i) tYes wi1 (gName j) tYes te [i, j] [j]) σ M fun M ws => Pd T M (xs.flatMap fun x => (ys x).map (f x)) ws := by
  intro H mh Q q
  refine hsrc H mh _ fun J M1 H1 g1 ⟨G, Y, w, hG, hY⟩ D hD => ?_
  have lens : ∀ zs : List α, (zs.flatMap fun x => (ys x).map (f x)).length = (zs.flatMap ys).length := fun zs => by
    induction zs with
    | nil => rfl
    | cons z zs ih => rw [List.flatMap_cons, List.flatMap_cons, List.length_append, List.length_append, List.length_map, ih]
  refine turns_of w (fun a H' => ∃ M' ws, Gr M1 H1 M' H' ∧ M' D = none ∧ H' D = some (.lst ws) ∧ Pd T M' ((xs.take a).flatMap fun x => (ys x).map (f x)) ws) ⟨M1, [], .own g1.mh hD, g1.mh.free hD, upd_same, .nil⟩ (fun a H' _ ⟨M', ws, g, _⟩ => hG M' H' g.mm g.mh) ?_ ?_
  · rintro a y H' H'' ha ⟨M', ws, gr, m0, hw, hpd⟩ hya
    obtain ⟨x, M0, hx, g0, rx⟩ := hY a M' H' y H'' gr.mm gr.mh ha hya
    have hxm := List.mem_of_getElem? hx
    have G0 := gr.trans g0
    have sm := g1.mm.trans G0.mm
    refine ⟨wipe2a, hy x hxm M0 y sm rx H'' G0.mh _ fun J1 M2 H2 g2 ⟨GG, YY, w2, hG2, hY2⟩ => ?_⟩
    have whole : ((xs.take a).flatMap ys).length + (ys x).length ≤ sizeLine := by
      have e : (xs.flatMap ys).length = ((xs.take (a + 1)).flatMap ys).length + ((xs.drop (a + 1)).flatMap ys).length := by rw [← List.length_append, ← List.flatMap_append, List.take_append_drop]
      rw [take_flat ys hx, List.length_append] at e
      omega
    have s02 : Gr M1 H1 M2 H2 := G0.trans g2
    have mm02 : Same M' M2 := g0.mm.trans g2.mm
    have w2D : H2 D = some (.lst ws) := g2.hh _ _ (g0.hh _ _ hw)
    have m2D : M2 D = none := (g0.trans g2).keep m0 hw
    refine turns_of w2 (fun b H3 => ∃ M3 us, Gr M1 H1 M3 H3 ∧ Same M2 M3 ∧ M3 D = none ∧ H3 D = some (.lst us) ∧ Pd T M3 (((xs.take a).flatMap fun x => (ys x).map (f x)) ++ ((ys x).take b).map (f x)) us) ⟨M2, ws, s02, Same.refl _, m2D, w2D, by simpa using hpd.mono mm02⟩ (fun b H3 _ ⟨M3, us, g3, s3, _⟩ => hG2 M3 H3 s3 g3.mh) ?_ ?_
    · rintro b z H3 H4 hb ⟨M3, us, g3, s3, m3, hw3, hp3⟩ hz4
      obtain ⟨c, M4, hc, g4, rc⟩ := hY2 b M3 H3 z H4 s3 g3.mh hb hz4
      have G4 := g3.trans g4
      have up : Same M0 M4 := g2.mm.trans (s3.trans g4.mm)
      have h4 : H4 D = some (.lst us) := g4.hh _ _ hw3
      refine ⟨wipe1, he x hxm c (List.mem_of_getElem? hc) M4 y z (sm.trans up) (Mon.mono up rx) rc H4 G4.mh _ fun u M5 H5 g5 hu => ?_⟩
      have m5 : M5 D = none := g5.keep (g4.keep m3 hw3) h4
      have len := hp3.length
      rw [List.length_append, lens, List.length_map, List.length_take] at len
      refine ⟨us, g5.hh _ _ h4, by omega, M5, us ++ [u], (G4.trans g5).mut hD m5, s3.trans (g4.mm.trans g5.mm), m5, upd_same, ?_⟩
      rw [List.take_add_one, hc]
      simp only [Option.toList_some, List.map_append, List.map_cons, List.map_nil, ← List.append_assoc]
      exact pd_app (hp3.mono (g4.mm.trans g5.mm)) (.cons hu .nil)
    · rintro H3 ⟨M3, us, g3, s3, m3, hw3, hp3⟩
      refine ⟨M3, us, g3, m3, hw3, ?_⟩
      rw [take_flat _ hx]
      rw [List.take_length] at hp3
      exact hp3
  · rintro H' ⟨M', ws, gr, m0, hw, hpd⟩
    rw [List.take_length] at hpd
    exact q D ws M' H' (g1.trans gr) (g1.hh.free hD) m0 hw hpd
end
/-! methods -/
def Met (P : Program) (w : World) (K : PySem.W.Frag) (mg : Str → Option Value) (base : Heap) (k : Nat) (C : Addr) (m : Str) (ps : List Str) (sp : Sp) : Prop := ∃ f fd, Cls K C ∧ Meth K C m f ∧ FnOk P w K mg base CX0 k f fd ps sp ∧ Binds K fd ps []
section
variable {X : Cx} {k : Nat} {C : Addr} {m : Str} {ps : List Str} {sp : Sp} {o e : Expr} {es : List Expr} {to : TE} {t : TA} {apos pos : Pos} {pl : Sem Bool}
theorem pe_m (c : Met X.prog X.w X.K X.mg X.base k C m ps sp) (hr : Room k X.A) (ho : PE X o to) (ha : PA X (e :: es) t) (hst : starEach (e :: es) X.env = (false, eval e X.env) :: starEach es X.env := by rfl) (hpl : (backTo pos (starEach es X.env)).any (·.1) = false := by rfl)
    (ht : eval (.Call (.Attribute o m apos) (e :: es) [] pos) X.env = (do let ov ← eval o X.env; standAt apos.atName; let (f, first) ← holding [ov] (getMethod ov m pl); callWith pos f first (backTo pos (starEach (e :: es) X.env)) (backToKw pos (keywordEach [] X.env))) := by rfl) :
    PE X (.Call (.Attribute o m apos) (e :: es) [] pos) (tMeth C m sp [] E0 to t) := by
  obtain ⟨f, fd, cl, hm, F, hb⟩ := c
  exact pe_meth ho cl hm F hr hb .nil pass0 ha hst hpl ht
theorem pe_m0 (c : Met X.prog X.w X.K X.mg X.base k C m ps sp) (hr : Room k X.A) (ho : PE X o to)
    (ht : eval (.Call (.Attribute o m apos) [] [] pos) X.env = (do let ov ← eval o X.env; standAt apos.atName; let (f, first) ← holding [ov] (getMethod ov m pl); callWith pos f first (backTo pos (starEach [] X.env)) (backToKw pos (keywordEach [] X.env))) := by rfl) :
    PE X (.Call (.Attribute o m apos) [] [] pos) (tMeth C m sp [] E0 to tNil) := by
  obtain ⟨f, fd, cl, hm, F, hb⟩ := c
  exact pe_meth0 ho cl hm F hr hb .nil pass0 ht
end
section
variable {σ : Sl} {M : Hp} {α β : Type} {R1 : Rl α} {R2 : Rl β} {to te : TE} {C : Addr} {m : Str}
/-- an instance of C without a variable of the method's name -/
def InsR (C : Addr) (m : Str) (P : Pr) : Prop := ∀ M v, P M v → ∃ a dx fs, v = .ref a ∧ M a = some (.ins C dx fs) ∧ fs.lookup m = none
theorem gv_met1 {pre : α → Prop} {R : α → Pr} {x : α} (hi : InsR C m (R1 x)) (h : Gv to σ M (R1 x)) (hp : pre x) : Gv (tMeth C m (sp1 R1 pre R) [] E0 to tNil) σ M (R x) := fun H mh Q q => h H mh _ fun v M1 H1 g1 p1 => by
  obtain ⟨a, dx, fs, e, ha, hl⟩ := hi M1 v p1
  exact ⟨a, dx, fs, e, g1.mh _ _ ha, hl, x, M1, v, rfl, g1.mh, p1, hp, fun u M' H' g r => q u M' H' (g1.trans g) r⟩
theorem gl_met1 {pre : α → Prop} {R : α → Hp → List V → Prop} {x : α} (hi : InsR C m (R1 x)) (h : Gv to σ M (R1 x)) (hp : pre x) : GvL (tMeth C m (sl1 R1 pre R) [] E0 to tNil) σ M (R x) := fun H mh Q q => h H mh _ fun v M1 H1 g1 p1 => by
  obtain ⟨a, dx, fs, e, ha, hl⟩ := hi M1 v p1
  exact ⟨a, dx, fs, e, g1.mh _ _ ha, hl, x, M1, v, rfl, g1.mh, p1, hp, fun p vs M' H' g h0 m0 hw r => q p vs M' H' (g1.trans g) (g1.hh.free h0) m0 hw r⟩
theorem gv_met2 [Mon R1] [Mon R2] {pre : α → β → Prop} {R : α → β → Pr} {x : α} {y : β} (hi : InsR C m (R1 x)) (h : Gv to σ M (R1 x)) (h2 : Gv te σ M (R2 y)) (hp : pre x y) : Gv (tMeth C m (sp2 R1 R2 pre R) [] E0 to (tCons te tNil)) σ M (R x y) := fun H mh Q q => h H mh _ fun v M1 H1 g1 p1 => by
  obtain ⟨a, dx, fs, e, ha, hl⟩ := hi M1 v p1
  refine ⟨a, dx, fs, e, g1.mh _ _ ha, hl, h2.le g1.mm H1 g1.mh _ fun w M2 H2 g2 p2 => ⟨x, y, M2, v, w, rfl, g2.mh, Mon.mono g2.mm p1, p2, hp, fun u M' H' g r => q u M' H' ((g1.trans g2).trans g) r⟩⟩
end
/-! dicts with tuple keys, known -/
def DtR : Rl (List (List Str)) := fun ks M v => ∃ a, v = .ref a ∧ M a = some (.dT (ent ks))
instance : Mon DtR := ⟨fun e ⟨a, h, r⟩ => ⟨a, h, e _ _ r⟩⟩
theorem val_ent (x : List Str) : ∀ ks : List (List Str), (valV (ent ks) (x.map (Sum.inr : Str → Key))).isSome = decide (x ∈ ks)
  | [] => rfl
  | k :: ks => by
    have ih := val_ent x ks
    unfold valV ent at ih ⊢
    rw [List.map_cons, List.find?_cons]
    by_cases h : k = x
    · subst h
      simp
    · have h1 : ¬ (k.map (Sum.inr : Str → Key)) = x.map Sum.inr := fun e => h (inr_inj e)
      rw [decide_eq_false (by simpa using h1)]
      rw [ih]
      simp [Ne.symm h]
section
end
end L3

set_option Elab.async false
set_option linter.all false
set_option maxRecDepth 100000
set_option maxHeartbeats 1000000
namespace L3
open PySem PySem.Spec PyProof.Rows L2
/-! *d in a display, d a dict with texts for keys -/
def tStarK (te : TE) (t : TA) : TA := fun σ H Q => te σ H fun x H1 => ∃ d ks, x = V.ref d ∧ Rd H1 d (.dK (kvT ks)) ∧ t σ H1 fun ys H2 => Q (ks.map V.str ++ ys) H2
section
variable {X : Cx} {e : Expr} {es : List Expr} {te : TE} {t : TA} {p : Pos}
theorem pa_starK (hc : X.calm = true) (he : PE X e te) (hr : PA X es t) (hs : starEach (.Starred e p :: es) X.env = (true, eval e X.env) :: starEach es X.env := by rfl) : PA X (.Starred e p :: es) (tStarK te t) where
  run pos pins s σ H Q I h := by
    apply PySem.W.items_star _ hs
    refine thn (he.run pins s σ H _ I h) fun v s1 z => ?_
    obtain ⟨_, H1, I1, rv, d, ks, rfl, hd, q⟩ := z
    obtain rfl : v = Value.ref d := rv
    have ⟨z, low, vs, rk, dd⟩ := (show ObjOk X.prog X.w H1 s1.heap d (.dK (kvT ks)) from hd.ok I1.hok)
    have ⟨ep, at_⟩ := dd.dictAt
    have S := PySem.W.kdl_dict (prog := X.prog) (w := X.w) (knd := mixKind X.prog X.w) (kvs := vs) (ep := ep) low
    have n1 : (kvT ks).length = vs.length := Paired.length rk
    have n2 : (kvT ks).length = ks.length := by unfold kvT; rw [List.length_map]
    unfold PySem.W.StarOf notIterableAtAll
    refine wpAny_bind (wpAny_specialOf (S.type s1 at_) PySem.F.slot_dict_iter.lookup (wpAny_pure ⟨rfl, PySem.W.kdu_collect S (I1.ok.hd hc) at_ (by omega) fun h' tk acc kp it => ?_⟩))
    have I2 : Inv X pins σ H1 { s1 with heap := h', toks := tk } := I1.kept kp
    have rel : Vals (ks.map V.str) acc.toList := by
      refine vals_of_at (by have h1 := it.1; have h2 : acc.toList.length = acc.size := Array.length_toList; rw [List.length_map, h2]; omega) fun j x u hx hu => ?_
      rw [Array.getElem?_toList] at hu
      obtain ⟨k, y, hk, is⟩ := it.2 j u hu
      have keys := congrArg (fun l => l[j]?) (KV.keys rk)
      simp only [kvT, List.map_map, List.getElem?_map, hk] at keys
      rw [List.getElem?_map] at hx
      cases hj : ks[j]? with
      | none => rw [hj] at hx; cases hx
      | some a =>
        rw [hj] at hx keys
        cases Option.some.inj hx
        have ek : (Sum.inr a : Key) = k := Option.some.inj keys
        rw [← ek] at is
        exact keyIs_rel (show keyIs (Sum.inr a) u = true from is)
    exact thn (hr.run pos pins _ σ H1 _ I2 q) fun ws s3 ⟨us, H3, I3, r3, q3⟩ => ⟨_, H3, I3, rel.append r3, q3⟩
end
/-! defs called with defaults -/
section
end
end L3

set_option Elab.async false
set_option linter.all false
set_option maxRecDepth 100000
set_option maxHeartbeats 1000000
namespace L3
open PySem PySem.Spec PyProof.Rows L2
/-! x in o, x not in o by an own __contains__; o == p, o != p by an own __eq__ -/
theorem ne_slot : Slot "object" "__ne__" "object.__ne__" := PySem.F.slot_object_ne
section
variable {X : Cx} {CX : CXT} {pins : List (Addr × Obj)} {σ : L2.St} {H : Hp} {s : Shared} {C : Addr} {k : Nat} {ps : List Str} {sp : Sp} {E : XK}
/-- a class with an own method of a special name -/
def OwnSp (P : Program) (w : World) (K : PySem.W.Frag) (mg : Str → Option Value) (base : Heap) (k : Nat) (C : Addr) (nm : Str) (ps : List Str) (sp : Sp) : Prop :=
  ∃ f fd, FnOk P w K mg base CX0 k f fd ps sp ∧ PySem.W.findIn K (.ref C) nm = some (some (.ref f)) ∧ PySem.W.isFn K (.ref f) = true ∧ Binds K fd ps []
def rInO (C : Addr) (sp : Sp) (neg : Bool) : R2 := fun x y H Q => ∃ a dx fs, y = V.ref a ∧ H a = some (.ins C dx fs) ∧ sp [.ref a, x] H (fun v H' => ∃ b, v = .bl b ∧ Q (.bl (xor neg b)) H') E0
theorem op_inO (o : OwnSp X.prog X.w X.K X.mg X.base k C "__contains__" ps sp) (hr : Room k X.A) : OpR X (compareOp .In) (rInO C sp false) := by
  intro pins s σ H x y u v Q I rx ry h
  obtain ⟨f, fd, F, hs, hf, hb⟩ := o
  obtain ⟨a, dx, fs, rfl, ha, q⟩ := h
  cases (show v = Value.ref a from ry)
  obtain ⟨ox, od, J⟩ := own_inst I ha
  obtain ⟨m, hF⟩ := I.fr
  refine PySem.W.in_K hF I.ok.mod.kin J hs hf (wpAny_mono (run_deep (us := [.ref a, u]) (vs := [.ref a, x]) F hr I.env0 hb pass0 I (.cons rfl (.cons rx .nil)) q) (fun w s' z => ?_) fun _ _ x => x)
  obtain ⟨z', H', I', rz, b, e, qz⟩ := z
  subst e
  cases (show w = Value.bool b from rz)
  exact wpAny_truthy_bool ⟨.bl b, H', I', rfl, by simpa using qz⟩
def rEqO (C : Addr) (sp : Sp) (neg : Bool) : R2 := fun x y H Q => ∃ a b dx dy fs gs, x = V.ref a ∧ y = V.ref b ∧ H a = some (.ins C dx fs) ∧ H b = some (.ins C dy gs) ∧ sp [.ref a, .ref b] H (fun v H' => ∃ c, v = .bl c ∧ Q (.bl (xor neg c)) H') E0
theorem op_eqO (o : OwnSp X.prog X.w X.K X.mg X.base k C "__eq__" ps sp) (hr : Room k X.A) : OpR X (compareOp .Eq) (rEqO C sp false) := by
  intro pins s σ H x y u v Q I rx ry h
  obtain ⟨f, fd, F, hs, hf, hb⟩ := o
  obtain ⟨a, b, dx, dy, fs, gs, rfl, rfl, ha, hb', q⟩ := h
  cases (show u = Value.ref a from rx)
  cases (show v = Value.ref b from ry)
  obtain ⟨ox, od, J⟩ := own_inst I ha
  obtain ⟨oy, od', J'⟩ := own_inst I hb'
  obtain ⟨m, hF⟩ := I.fr
  refine PySem.W.cmp_K (op := .Eq) (tb := .ref C) hr.units0 hF I.ok.mod.kin J J'.type (by simp [PySem.W.notFirst]) hs hf (wpAny_mono (run_deep (us := [.ref a, .ref b]) (vs := [.ref a, .ref b]) F hr I.env0 hb pass0 I (.cons rfl (.cons rfl .nil)) q) (fun w s' z => ?_) fun _ _ x => x)
  obtain ⟨z', H', I', rz, c, e, qz⟩ := z
  subst e
  cases (show w = Value.bool c from rz)
  exact ⟨.bl c, H', I', rfl, by simpa using qz⟩
/-- a class that has object's != -/
structure NeObj (K : PySem.W.Frag) (C : Addr) : Prop where
  ne : PySem.W.findIn K (.ref C) "__ne__" = some (some (.builtin "object.__ne__"))
  ob : PySem.W.subIn K (.ref C) (.type "object") = some true
theorem ne_bound {M : Model} {A : Around} {F : Value → Shared → Prop} {K : PySem.W.Frag} {x : Addr} {ox : Obj} {od : Option Obj} {r : Value} {Z : Option Value → Shared → Prop} (KX : K.In s.heap) (n : NeObj K C) (J : PySem.W.InstAt s.heap x ox C od)
    (go : wpAny M A (call (.builtin "object.__ne__") [.ref x, r]) (fun v => Z (some v)) F s) : wpAny M A (callSpecialIfBound? (.ref x) "__ne__" [r]) Z F s := by
  have last : wpAny M A (do let v ← call (.builtin "object.__ne__") ([Value.ref x] ++ [r]); pure (some v)) Z F s := wpAny_bind (wpAny_mono go (fun _ _ z => wpAny_pure z) fun _ _ z => z)
  unfold callSpecialIfBound? bindSpecialIfBound?
  refine wpAny_holding (wpAny_bind (wpAny_bind (wpAny_bind (J.type.here ((PySem.W.looks_findIn KX n.ne).here ?_)))))
  simp only [ne_slot.bind]
  refine wpAny_bind (wpAny_askSetting (wpAny_ite ?_))
  split
  · exact wpAny_bind (wpAny_pure (wpAny_pure last))
  · exact wpAny_tryCatch (wpAny_bind (wpAny_pure (wpAny_pure last)))
theorem ne_check {M : Model} {A : Around} {F : Value → Shared → Prop} {K : PySem.W.Frag} {x : Addr} {ox : Obj} {od : Option Obj} {r : Value} {Z : Unit → Shared → Prop} (KX : K.In s.heap) (n : NeObj K C) (J : PySem.W.InstAt s.heap x ox C od) (z : Z () s) :
    wpAny M A (checkBuiltinCall "object.__ne__" ⟨[.ref x, r], []⟩) Z F s := by
  unfold checkBuiltinCall
  simp only [PySem.F.cmpKind_ne, PySem.F.cmpSplit_ne]
  refine wpAny_bind ?_
  unfold isInstance
  refine wpAny_bind (J.type.here ((PySem.W.looks_subIn KX n.ob).here ?_))
  have ar := PySem.F.cmpArgs_ne (.ref x) r
  show wpAny M A (match Manifest.signature? "object.__ne__" with | none => pure () | some g => Bind.checkArgs "object.__ne__" g ⟨[.ref x, r], []⟩) Z F s
  cases sg : Manifest.signature? "object.__ne__" with
  | none => exact wpAny_pure z
  | some g =>
    unfold argsOk at ar
    rw [sg] at ar
    show wpAny M A (Bind.checkArgs "object.__ne__" g ⟨[.ref x, r], []⟩) Z F s
    rw [show Bind.checkArgs "object.__ne__" g ⟨[.ref x, r], []⟩ = pure () from ar]
    exact wpAny_pure z
theorem op_neO (o : OwnSp X.prog X.w X.K X.mg X.base k C "__eq__" ps sp) (n : NeObj X.K C) (hr : Room (k + 1) X.A) : OpR X (compareOp .NotEq) (rEqO C sp true) := by
  intro pins s σ H x y u v Q I rx ry h
  obtain ⟨f, fd, F, hs, hf, hb⟩ := o
  obtain ⟨a, b, dx, dy, fs, gs, rfl, rfl, ha, hb', q⟩ := h
  cases (show u = Value.ref a from rx)
  cases (show v = Value.ref b from ry)
  obtain ⟨ox, od, J⟩ := own_inst I ha
  obtain ⟨oy, od', J'⟩ := own_inst I hb'
  obtain ⟨m, hF⟩ := I.fr
  have KX := I.ok.mod.kin.keeps hF.keep
  have body : wpAny (model X.prog X.w) X.A.in1 (Builtin.«object.__ne__» ⟨[.ref a, .ref b], []⟩) (fun fin s' => ∃ c, fin = .done (.ret (.bool c)) ∧ EP X pins σ Q (.bool c) s') X.xe s := by
    unfold Builtin.«object.__ne__»
    refine wpAny_bind (wpAny_pure ?_)
    refine wpAny_bind (wpAny_cRoomFor hr.in1.units0 ?_)
    refine wpAny_bind (PySem.W.ifBound_K KX J hs hf (wpAny_mono (run_deep (us := [.ref a, .ref b]) (vs := [.ref a, .ref b]) F hr.in1 I.env0.in1 hb pass0 I (.cons rfl (.cons rfl .nil)) q) (fun w s' z => ?_) fun _ _ x => x))
    obtain ⟨z', H', I', rz, c, e, qz⟩ := z
    subst e
    cases (show w = Value.bool c from rz)
    refine wpAny_bind (wpAny_truthy_bool (wpAny_pure ⟨!c, rfl, .bl (!c), H', I', rfl, by simpa using qz⟩))
  have one : wpAny (model X.prog X.w) X.A (tryCompare (.ref a) "__ne__" (.ref b)) (fun r s' => ∃ c, r = some (.bool c) ∧ EP X pins σ Q (.bool c) s') X.xe s := by
    unfold tryCompare
    refine wpAny_bind (ne_bound KX n J (wpAny_call (codeAny_call_builtin ne_slot.plain PySem.F.cmpEntry_ne (ne_check KX n J (wpAny_mono body (fun fin s' z => ?_) fun _ _ x => x)))))
    obtain ⟨c, rfl, qz⟩ := z
    exact wpAny_pure ⟨c, rfl, qz⟩
  show wpAny (model X.prog X.w) X.A (richCompare .NotEq (.ref a) (.ref b)) (EP X pins σ Q) X.xe s
  unfold richCompare
  simp only [oneThing_ref]
  refine wpAny_holding (wpAny_bind (wpAny_cRoomFor hr.units0 (wpAny_bind (J.type.here (wpAny_bind (J'.type.here ?_))))))
  rw [if_neg (by simp)]
  refine wpAny_bind (wpAny_pure ?_)
  simp only [Bool.false_eq_true, if_false]
  refine wpAny_bind (wpAny_mono one (fun r s' z => ?_) fun _ _ e => e)
  obtain ⟨c, rfl, qz⟩ := z
  exact wpAny_pure qz
end
end L3

set_option Elab.async false
set_option linter.all false
set_option maxRecDepth 100000
set_option maxHeartbeats 1000000
namespace L3
open PySem PySem.Spec PyProof.Rows L2
/-! lists of data: remove, index; insert -/
def rIns : V → List V → Hp → VK → Prop := fun x vs H Q => ∃ (l : Addr) (xs : List V) (i : Int) (y : V), x = .ref l ∧ vs = [.int i, y] ∧ H l = some (.lst xs) ∧ xs.length < sizeLine ∧ 0 ≤ i ∧ i < 2 ^ 63 ∧ Q .non (upd H l (.lst (xs.take i.toNat ++ [y] ++ xs.drop i.toNat)))
theorem mt_ins {X : Cx} : MtR X "list.insert" rIns := mt_insert
section
variable {K : PySem.W.Frag} {σ : Sl} {M H : Hp} {te tb : TE} {P : Pr} {D : Ends} {tz : TS} {α : Type} {R : Rl α}
/-- what isinstance asks of a class of the text -/
structure InsF (K : PySem.W.Frag) (C : Addr) : Prop where
  cl : Cls K C
  gc : PySem.W.findIn K (.ref C) "__class__" = some (some (.builtin "object.__class__"))
  sp : PySem.W.specialIn K (.builtin "object.__class__") "__get__" = some (some (.builtin "getset_descriptor.__get__"))
  tk : PySem.W.takesIn K (.builtin "object.__class__") = some true
  mr : PySem.W.mroIn K C (.type "object") = some true
/-- isinstance(x, C), x an instance of C -/
theorem gv_isC {C : Addr} (I : InsF K C) (h : Gv te σ M P) (hi : ∀ M v, P M v → ∃ a dx fs, v = .ref a ∧ M a = some (.ins C dx fs)) : Gv (tCB (rIsi K) (tCons te (tCons (tC (.ref C)) tNil))) σ M (Bl true) := fun H mh Q q =>
  h H mh _ fun v M1 H1 g1 p1 => by
    obtain ⟨a, dx, fs, rfl, ha⟩ := hi M1 v p1
    exact ⟨_, _, .ref C, .ref C, true, rfl, .own C, .base (.ins (g1.mh _ _ ha) I.cl I.gc I.sp I.tk I.mr), by unfold PySem.W.kitOne; simp, q _ M1 H1 g1 rfl⟩
end
section
variable {α β : Type} {σ : Sl} {M : Hp} {ta tb : TE} {R1 : Rl α} {R2 : Rl β} {C : Addr}
/-- x in o, o == p by own methods -/
theorem gv_inO [Mon R1] [Mon R2] {pre : α → β → Prop} {B : α → β → Bool} {x : α} {y : β} {neg : Bool} (ha : Gv ta σ M (R2 y)) (hb : Gv tb σ M (R1 x)) (hi : ∀ M v, R1 x M v → ∃ a dx fs, v = .ref a ∧ M a = some (.ins C dx fs)) (hp : pre x y) :
    Gv (tOp (rInO C (sp2 R1 R2 pre fun x y => Bl (B x y)) neg) ta tb) σ M (Bl (xor neg (B x y))) := fun H mh Q q =>
  ha H mh _ fun v M1 H1 g1 p1 => hb.le g1.mm H1 g1.mh _ fun w M2 H2 g2 p2 => by
    obtain ⟨a, dx, fs, rfl, h2⟩ := hi M2 w p2
    exact ⟨a, dx, fs, rfl, g2.mh _ _ h2, x, y, M2, _, v, rfl, g2.mh, p2, Mon.mono g2.mm p1, hp, fun u M' H' g r => ⟨_, r, q _ M' H' ((g1.trans g2).trans g) rfl⟩⟩
theorem gv_eqO [Mon R1] {pre : α → α → Prop} {B : α → α → Bool} {x y : α} {neg : Bool} (ha : Gv ta σ M (R1 x)) (hb : Gv tb σ M (R1 y)) (hi : ∀ z M v, R1 z M v → ∃ a dx fs, v = .ref a ∧ M a = some (.ins C dx fs)) (hp : pre x y) :
    Gv (tOp (rEqO C (sp2 R1 R1 pre fun x y => Bl (B x y)) neg) ta tb) σ M (Bl (xor neg (B x y))) := fun H mh Q q =>
  ha H mh _ fun v M1 H1 g1 p1 => hb.le g1.mm H1 g1.mh _ fun w M2 H2 g2 p2 => by
    have p12 : R1 x M2 v := Mon.mono g2.mm p1
    obtain ⟨a, dx, fs, rfl, h1⟩ := hi x M2 v p12
    obtain ⟨b, dy, gs, rfl, h2⟩ := hi y M2 w p2
    exact ⟨a, b, dx, dy, fs, gs, rfl, rfl, g2.mh _ _ h1, g2.mh _ _ h2, x, y, M2, _, _, rfl, g2.mh, p12, p2, hp, fun u M' H' g r => ⟨_, r, q _ M' H' ((g1.trans g2).trans g) rfl⟩⟩
end
end L3

set_option Elab.async false
set_option linter.all false
set_option maxRecDepth 100000
set_option maxHeartbeats 1000000
namespace L3
open PySem PySem.Spec PyProof.Rows L2
/-! instances made with defaults -/
def MakD (P : Program) (w : World) (K : PySem.W.Frag) (mg : Str → Option Value) (base : Heap) (k : Nat) (x : Str) (C : Addr) (ps : List Str) (dvs : List V) (sp : Sp) : Prop :=
  ∃ f fd ds, Mk K C f ∧ FnOk P w K mg base CX0 k f fd ps sp ∧ mg x = some (.ref C) ∧ Binds K fd ps ds ∧ Vals dvs ds
theorem pe_mkD {X : Cx} {k : Nat} {x : Str} {C : Addr} {ps : List Str} {dvs : List V} {sp : Sp} {e : Expr} {es : List Expr} {t : TA} {p pos : Pos} (c : MakD X.prog X.w X.K X.mg X.base k x C ps dvs sp) (hr : Room (k + 1) X.A) (ha : PA X (e :: es) t) (hg : Gl X x := by rfl)
    (hdb : (x == ("__debug__" : Str)) = false := by decide) (he : starEach (e :: es) X.env = (false, eval e X.env) :: starEach es X.env := by rfl) (hpl : (backTo pos (starEach es X.env)).any (·.1) = false := by rfl) : PE X (.Call (.Name x p) (e :: es) [] pos) (tMake C sp dvs E0 t) :=
  let ⟨_, _, _, M, F, m, b, d⟩ := c
  pe_make M F hr hg m b d pass0 ha hdb he hpl
end L3

set_option Elab.async false
set_option linter.all false
set_option maxRecDepth 100000
set_option maxHeartbeats 1000000
namespace L3
open PySem PySem.Spec PyProof.Rows L2
section
end
end L3

set_option Elab.async false
set_option linter.all false
set_option maxRecDepth 100000
set_option maxHeartbeats 1000000
namespace L3
open PySem PySem.Spec PyProof.Rows L2
/-! texts cut, lists repeated, several things of ours lent, a dict of new lists -/
section
/-! several things of ours, lent at once -/
end
section
end
end L3

set_option Elab.async false
set_option linter.all false
set_option maxRecDepth 100000
set_option maxHeartbeats 2000000
namespace L3
open PySem PySem.Spec PyProof.Rows PySem.Calls L2 NdefX
/-! own exceptions whose __init__ says super().__init__('..') and then self.f = x -/
/-- the body of such an __init__ -/
abbrev supBody (p0 p1 p2 p3 p4 p5 p6 p7 p8 p9 : Pos) (k : Nat) (tx : Str) (f x : Str) : List Stmt :=
  [.Expr (.Call (.Attribute (.Call (.Name "super" p0) [] [] p1) "__init__" p2) [.Constant (.str tx) k p3] [] p4) p5, .Assign [.Attribute (.Name "self" p6) f p7] (.Name x p8) p9]
/-- what the written part says of the class at C and its __init__ at fI -/
structure SupC (P : Program) (K : PySem.W.Frag) (C fI : Addr) (q : Str) (args : Arguments) (body : List Stmt) (sc : Scope) : Prop where
  T : OexC K C
  fn : ∃ oc od kV doc pm an cda ct osl cc cl cld csl ccl cdd vs ccs file tf, K.lookup fI = some ⟨oc, od, .func (PySem.W.fnX "__init__" q args body sc [("__class__", cc)] .none kV doc pm an (.ref cda) ct), osl⟩ ∧ PySem.W.codeIn K (.ref cda) q = true ∧
    K.lookup cc = some ⟨cl, cld, .cell (some (.ref C)), csl⟩ ∧ K.lookup cda = some ⟨ccl, cdd, .fields vs, ccs⟩ ∧ vs[2]? = some (.str file tf) ∧ ((P.main.file : Str) == file) = true
  sup : PySem.W.nsIn K mainGlobals "super" = some none
  opq : PySem.W.nsIn K cStatics "thirdparty.any" = some none
  hm : PySem.W.ks_superIn K C C "__init__" = some (some (.builtin "ValueError.__init__"))
  hB : PySem.W.subIn K (.ref C) (.type "ValueError") = some true
  hS : PySem.W.mroIn K C (.ref C) = some true
  top : (P.main.scope.names.lookup ("super" : Str)).isSome = false
/-- what such an __init__ does -/
def spSup (K : PySem.W.Frag) (C : Addr) (f : Str) : Sp := fun vs H Q _ => ∃ a v, vs = [.ref a, v] ∧ H a = some (exo a C none) ∧ ∀ dx, H dx = none → dx ≠ a → Q .non (upd (upd H dx (exd dx [(f, v)])) a (exo a C (some dx)))
section
variable {prog : Program} {w : World} {A : Around} {E : Value → Shared → Prop}
/-- the wrapper of ValueError.__init__, called -/
theorem call_mw {u e t0 C : Addr} {dv : Option Addr} {h : Heap} {g : Array GenState} {d : Drawn} {t : Nat} {os : OsState} {rest : List Value} {Q : Value → Shared → Prop} {nm q : Str} {N : Addr} {bs bm : List Value} {hdct : Bool} {sn : List Str} {sub : List Value} {ab : Bool} {col : Option Bool} {dd : Option Addr} {k0 k1 k2 k3 k5 : Option Value}
    (hC : h.get? C = some (excClassObj nm q C N bs bm hdct sn sub ab col dd k0 k1 k2 k3 k5 "ValueError.__new__")) (he : h.get? e = some (PySem.W.excRec (.ref C) t0 dv .none .none (.bool false))) (hu : h.get? u = some (PySem.W.kxs_mw "ValueError.__init__" e)) (hz : rest.length ≤ sizeLine)
    (hq : ∀ h', (∀ b o, b ≠ e → h.get? b = some o → h'.get? b = some o) → h'.get? e = some (PySem.W.excRec (.ref C) h.objs.size dv .none .none (.bool false)) → Q .none ⟨h', g, d, t, os⟩) : wpAny (model prog w) A (call (.ref u) rest) Q E ⟨h, g, d, t, os⟩ := by
  refine wpAny_call (codeAny_of_tree ?_)
  show wpAny _ A.in1 (callAny (.ref u) ⟨rest, []⟩) _ _ _
  simp only [callAny]
  refine wpAny_bind (wpAny_load hu ?_)
  simp only [PySem.W.kxs_mw, show (Value.type "method-wrapper" == Value.type "method" || Value.type "method-wrapper" == Value.type "builtin_function_or_method" || Value.type "method-wrapper" == Value.type "method-wrapper") = true by decide, if_true]
  refine PySem.W.KFB.if_so (by decide) ?_
  refine wpAny_bind (PySem.W.check_bound_init PySem.F.excBase_ValueError.toExcCallFacts hC he rfl ?_)
  refine wpAny_bind (wpAny_pure (wpAny_pure ?_))
  refine ⟨plainId_quiet PySem.F.excBase_ValueError.init.plain _, codeAny_builtin PySem.F.excBase_ValueError.initEntry ?_⟩
  exact PySem.W.exc_init_tree he hz fun h' k e' _ => hq h' k e'
end
/-- FnOk of such an __init__ -/
theorem sup_ok {CX : CXT} {P : Program} {w : World} {K : PySem.W.Frag} {mg : Str → Option Value} {base : Heap} {k : Nat} {C fI : Addr} {q : Str} {args : Arguments} {sc : Scope} {p0 p1 p2 p3 p4 p5 p6 p7 p8 p9 : Pos} {kk : Nat} {tx f x : Str}
    (S : SupC P K C fI q args (supBody p0 p1 p2 p3 p4 p5 p6 p7 p8 p9 kk tx f x) sc) (hno : PySem.W.findIn K (.ref C) f = some none) (hx1 : (x == ("__debug__" : Str)) = false) (hx2 : (x == ("__classdict__" : Str)) = false) (NS : NScope ["self", x, "__class__"] ["self", x] ["__class__"] sc) (hks : sc.names.lookup ("super" : Str) = some .globalImplicit)
    (har : ∃ ar : Arg, (args.posonlyargs ++ args.args).head? = some ar ∧ ar.arg = "self") (hev : ∀ env : Env, ∃ pl : Sem Bool, eval (.Call (.Attribute (.Call (.Name "super" p0) [] [] p1) "__init__" p2) [.Constant (.str tx) kk p3] [] p4) env = (do
      let ov ← attributeBase (.Call (.Name "super" p0) [] [] p1) "__init__" env (eval (.Call (.Name "super" p0) [] [] p1) env)
      standAt p2.atName
      let (f, first) ← holding [ov] (getMethod ov "__init__" pl)
      callWith p4 f first (backTo p4 (starEach [.Constant (.str tx) kk p3] env)) []))
    (hbind : ∀ (kV doc pm : Value) (an : Option Addr) (cdv ct : Value) (cl : List (Str × Addr)) (us : List Value), us.length = 2 → bindArgs (PySem.W.fnX "__init__" q args (supBody p0 p1 p2 p3 p4 p5 p6 p7 p8 p9 kk tx f x) sc cl .none kV doc pm an cdv ct) ⟨us, []⟩ = pure (([("self" : Str), x]).zip us)) :
    ∃ fd, Binds K fd ["self", x] [] ∧ FnOk P w K mg base CX (k + 1) fI fd ["self", x] (spSup K C f) := by
  obtain ⟨oc, od, kV, doc, pm, an, cda, ct, osl, cc, cl, cld, csl, ccl, cdd, vs, ccs, file, tf, lk, hcd, hcell, hcode, hvs, hfile⟩ := S.fn
  refine ⟨PySem.W.fnX "__init__" q args (supBody p0 p1 p2 p3 p4 p5 p6 p7 p8 p9 kk tx f x) sc [("__class__", cc)] .none kV doc pm an (.ref cda) ct, .all fun us hl => hbind _ _ _ _ _ _ _ us hl, ⟨fun vs H Q E h => ?_, fun A outer s H as us vs' Q E hr e0 hb r hsp => ?_⟩⟩
  · obtain ⟨a, v, rfl, _⟩ := h
    rfl
  have hl : vs'.length = 2 := by obtain ⟨a, v, rfl, _⟩ := hsp; rfl
  have KB : ∀ b o, K.lookup b = some o → s.heap.get? b = some o ∧ H b = none := fun b o e => e0.bs b o (e0.mod.kin b o e)
  have KX : K.In s.heap := fun b o e => (KB b o e).1
  have lim : s.heap.NoLimit := e0.mod.nolimit.keeps fun b o e => (e0.bs b o e).1
  let F : NF := ⟨"__init__", q, args, supBody p0 p1 p2 p3 p4 p5 p6 p7 p8 p9 kk tx f x, sc, [("__class__", cc)], cda⟩
  have hl2 : us.length = 2 := by rw [← r.length]; exact hl
  refine ks_codeAny_call_defAt hr.depth (KX _ _ lk) rfl lim (PySem.W.codeRec_of KX hcd) rfl hb NS.nocell (fun ⟨n, _⟩ hy => NS.par n (List.of_mem_zip hy).1) (fun h₁ hns kp => ?_) NS.co NS.gen NS.kind
  have one : ∀ {y : Str} {c : Addr}, F.cl.lookup y = some c → y = "__class__" ∧ c = cc := fun {y c} e => by
    have e : (match (y == ("__class__" : Str)) with | true => some cc | false => none) = some c := e
    cases hy : (y == ("__class__" : Str)) with
    | true => rw [hy] at e; exact ⟨beq_iff_eq.mp hy, (Option.some.inj e).symm⟩
    | false => rw [hy] at e; cases e
  have CA : CellsAt F.cl ["__class__"] [none] s.heap H := by
    refine ⟨rfl, fun y c e => ?_, fun x y c e1 e2 => (one e1).1.trans (one e2).1.symm, fun i y e => ?_⟩
    · obtain ⟨rfl, rfl⟩ := one e
      exact ⟨(KB _ _ hcell).2, _, ⟨_, (KB _ _ hcell).1, rfl⟩⟩
    · cases i with
      | zero =>
        cases (show (some ("__class__" : Str)) = some y from e)
        exact ⟨cc, rfl, fun v e => by cases (show (some none : Option (Option V)) = some (some v) from e)⟩
      | succ i => cases (show (none : Option Str) = some y from by simpa using e)
  have I : Inv (ncx CX P w K mg base ["self", x, "__class__"] F fI A outer s H E) [] (startF ["self", x, "__class__"] vs' [none]) H { s with heap := h₁, toks := s.toks + (([("self" : Str), x]).zip us).length } := inv_startN NS hr.hd e0 hl r CA hns kp
  obtain ⟨a, v, rfl, ha, hq⟩ := hsp
  obtain ⟨u0, u1, rfl⟩ : ∃ u0 u1, us = [u0, u1] := match us, hl2 with | [u0, u1], _ => ⟨u0, u1, rfl⟩
  obtain rfl : u0 = .ref a := by cases r with | cons r1 _ => exact r1
  obtain ⟨env, henv⟩ : ∃ env, env = envF F fI s.heap.objs.size := ⟨_, rfl⟩
  have goal : _root_.PySem.wpAt (model P w) (A.deeper env) (.func F.body env) (execs F.body env) (fun f s' => CR CX outer P w H s Q E (.ok (.ret (match f with | .ret v => v | _ => .none))) s')
      (fun e s' => wpAny (model P w) (A.deeper env) (leaving env e) (fun _ s'' => CR CX outer P w H s Q E (.error e) s'') (fun e' s'' => CR CX outer P w H s Q E (.error e') s'') s') { s with heap := h₁, toks := s.toks + (([("self" : Str), x]).zip [Value.ref a, u1]).length } := by
    have hk : env.scope.kind = .function := by rw [henv]; exact NS.kind
    have hin : interactive env = false := by unfold interactive; rw [hk]; rfl
    obtain ⟨pl, he⟩ := hev env
    refine ks_wpAt_execs_cons (ks_wpAt_Expr_any (ks_wpAt_MethodCall (pl := pl) ?_ he) hin ?_)
    · obtain ⟨ar, har1, har2⟩ := har
      have nd2 : ([("self" : Str), x] : List Str).Nodup := by
        have h := NS.nd
        have h2 : ([("self" : Str), x] ++ [("__class__" : Str)]).Nodup := h
        exact (List.nodup_append.mp h2).1
      have m0 : (([("self" : Str), x]).zip [Value.ref a, u1]).reverse.lookup ("self" : Str) = some (.ref a) := zip_look nd2 (i := 0) rfl rfl
      obtain ⟨nm, qC, NC, bs, bm, sn, sub, ab, col, dd, k0, k1, k2, k3, k5, hC, hbm⟩ := S.T.cls
      have hcl : PySem.W.clsIn K C = some { name := nm, bases := bs, mro := .ref C :: bm, ns := NC, qualname := qC, hasDict := true, slotNames := sn, subclasses := sub, abstract := ab, collection := col, hasDel := false } := by unfold PySem.W.clsIn; rw [hC] <;> rfl
      have KX1 : K.In h₁ := KX.keeps kp
      obtain ⟨t1, hoe⟩ := exo_at e0.hok ha
      have hoe1 := kp _ _ hoe
      obtain ⟨mb, hb1, hb2⟩ := e0.mod.blt
      have kB : ∀ b o, base.get? b = some o → h₁.get? b = some o := fun b o e => kp _ _ (e0.bs b o e).1
      refine ks_wpAt_super_base (cc := cda) (f := fI) (ar := ar) (by rw [henv]; exact hks) (by rw [henv]; exact NS.frk _ (by simp)) (by decide) (by rw [henv]) (kp _ _ (KX _ _ lk)) rfl har1 (by rw [henv]) (kp _ _ (KX _ _ hcode)) rfl hvs hfile S.top ?_
      refine PySem.W.ks_loadName_global hk (by rw [henv]; exact hks) (Calls.loadGlobal_builtin (mg := mg) (mb := mb) (by rw [henv]; exact e0.mod.glob.keeps kB) (PySem.W.mg_none_of e0.mod.kin e0.mod.glob S.sup) (by rw [henv]; exact hb1.keeps kB) ((hb2 "super" (by decide)).trans (by kernel_rfl)) ⟨rfl, ?_⟩)
      refine wpAny_loadName_free hk (by rw [henv]; exact NS.frk _ (by simp)) (by rw [henv]; rfl) ⟨_, KX1 _ _ hcell, rfl⟩ ?_
      rw [har2]
      refine wpAny_loadName_local hk (by rw [henv]; exact NS.par _ (by simp)) (by rw [henv]; exact hns) m0 ?_
      refine ks_wpAny_isType_cls (KX1 _ _ hC) rfl ⟨rfl, ?_⟩
      refine ks_wpAny_call_super (KX1 _ _ hC) rfl hoe1 rfl (fun c z => by cases z) (PySem.W.looks_mroIn KX1 S.hS) (fun h2 e2 k2 => ?_)
      have KX2 : K.In h2 := KX1.keeps k2
      have I2 : PySem.W.InstAt h2 a _ C none := ⟨k2 _ _ hoe1, rfl, rfl, trivial⟩
      have hm := S.hm
      unfold PySem.W.ks_superIn at hm
      rw [hcl] at hm
      refine PySem.W.kxs_getMethod PySem.W.kxs_ValueError e2 (PySem.W.looks_opaque KX2 S.opq) (l₀ := .ref C :: bm) (fun A Q E s k q => wpAny_bind ((PySem.W.looks_clsIn KX2 hcl) A _ E s k (wpAny_pure q))) rfl KX2 hm (I2.type.andThen (PySem.W.looks_subIn KX2 S.hB)) (PySem.W.ks_ne KX2 I2 hcl) (by decide) ?_
      -- the wrapper stands
      obtain ⟨u, hu⟩ : ∃ u, u = h2.objs.size := ⟨_, rfl⟩
      have k3 : ∀ b o, h₁.get? b = some o → (h2.push (PySem.W.kxs_mw "ValueError.__init__" a)).get? b = some o := fun b o e => Heap.get?_push_of_some _ (k2 _ _ e)
      have eu : (h2.push (PySem.W.kxs_mw "ValueError.__init__" a)).get? u = some (PySem.W.kxs_mw "ValueError.__init__" a) := by rw [hu]; exact Heap.get?_push_size _ rfl
      have lu : h₁.objs.size ≤ u := by
        rw [hu]
        refine Nat.le_of_not_lt fun z => ?_
        obtain ⟨oS, hS⟩ : ∃ oS, h2.get? h₁.objs.size = some oS := ⟨_, e2⟩
        exact absurd (Heap.lt_size hS) (Nat.not_lt.mpr (Nat.le_of_lt z))
      have I3 : Inv (ncx CX P w K mg base ["self", x, "__class__"] F fI A outer s H E) [] (startF ["self", x, "__class__"] [.ref a, v] [none]) H { s with heap := h2.push (PySem.W.kxs_mw "ValueError.__init__" a), toks := s.toks + (([("self" : Str), x]).zip [Value.ref a, u1]).length + 1 } := I.kept (t' := s.toks + (([("self" : Str), x]).zip [Value.ref a, u1]).length + 1) k3
      have I4 : Inv (ncx CX P w K mg base ["self", x, "__class__"] F fI A outer s H E) [(u, PySem.W.kxs_mw "ValueError.__init__" a)] (startF ["self", x, "__class__"] [.ref a, v] [none]) H { s with heap := h2.push (PySem.W.kxs_mw "ValueError.__init__" a), toks := s.toks + (([("self" : Str), x]).zip [Value.ref a, u1]).length + 1 } := I3.pins_of fun p hp => by
        rw [List.mem_singleton.mp hp]
        exact ⟨eu, I.hok.fresh lu, fun z => by
          have := I.lt
          rw [← z] at this
          exact absurd (Nat.lt_of_lt_of_le this lu) (Nat.lt_irrefl _), I.nofs lu, fun v z => by cases z⟩
      rw [← hu]
      show wpAny (model P w) (A.deeper env) (callWith p4 (.ref u) [] (backTo p4 (starEach [.Constant (.str tx) kk p3] env)) []) _ _ _
      refine PySem.W.kxs_callWith1 (i := "ValueError.__init__") (x := a) (h₀ := h₁) (L := s.heap.objs.size) (news := [(u, PySem.W.kxs_mw "ValueError.__init__" a)]) (fun p hp => ?_) (by simp) ?_ (by rfl) (by rfl)
      · rw [List.mem_singleton.mp hp]
        refine ⟨eu, fun z => ?_, ?_⟩
        · have z : u = s.heap.objs.size := z
          have := I.lt
          have this : s.heap.objs.size < h₁.objs.size := this
          omega
        · show h₁.get? u = none
          cases e : h₁.get? u with
          | none => rfl
          | some o => exact absurd (Heap.lt_size e) (Nat.not_lt.mpr lu)
      rw [henv]
      refine thn ((pa_cons (X := ncx CX P w K mg base ["self", x, "__class__"] F fI A outer s H E) (pe_str (x := tx)) pa_nil).run p4 [(u, PySem.W.kxs_mw "ValueError.__init__" a)] _ _ H (fun vs H' => vs = [.str tx] ∧ H' = H) I4 ⟨rfl, rfl⟩) fun us s5 hAP => ?_
      obtain ⟨vs5, H5, I5, r5, rfl, rfl⟩ := hAP
      have hu5 := (I5.pin (u, PySem.W.kxs_mw "ValueError.__init__" a) (List.mem_append_right _ List.mem_cons_self)).1
      obtain ⟨t5, he5⟩ := exo_at I5.hok ha
      have hz5 : us.length ≤ sizeLine := by rw [← r5.length]; show 1 ≤ sizeLine; decide
      obtain ⟨h5, g5, d5, tk5, os5⟩ := s5
      refine ⟨hu5, call_mw (I5.kIn _ _ hC) he5 hu5 hz5 fun h6 k6 e6 => ?_⟩
      have J := I5.write (t' := tk5) (x := a) (e := a) (o := exo a C none) (by rw [ha]; exact True.intro) (.inl rfl) k6 ⟨_, e6⟩ (exo_ok e6)
      have eH : upd H5 a (exo a C none) = H5 := by
        funext b
        by_cases hb : b = a
        · rw [hb, upd_same, ha]
        · rw [upd_ne hb]
      rw [eH] at J
      have J2 := J.pins_of (pins' := []) fun p hp => absurd hp (by simp)
      refine wpAt_of_wpAny (wpAny_mono ((pss_one (ps_ost (X := ncx CX P w K mg base ["self", x, "__class__"] F fI A outer s H5 E) (pv 0 rfl (.inl (NS.par _ (by simp)))) (pv 1 rfl (.inl (NS.par _ (by simp))) hx1 hx2))).run [] _ _ H5 { nx := fun _ H' => Q .non H', rt := Q } J2 ?_) (fun fl s' hs => ?_) fun e s' z => z)
      · exact ⟨v, rfl, .ref a, rfl, a, C, rfl, S.T, hno, .inl ⟨ha, fun dx n ne => hq dx n ne⟩⟩
      · have fin : ∀ {σ' : L2.St} {H' : Hp} {v : V} {u : Value}, Inv (ncx CX P w K mg base ["self", x, "__class__"] F fI A outer s H5 E) [] σ' H' s' → L2.RelV v u → Q v H' → CE outer P w H5 s Q u s' :=
          fun {σ' H' v u} J rv q => ⟨v, H', J.os, J.bare, J.base, J.hok, rv, q⟩
        cases fl with
        | ret u =>
          obtain ⟨v, σ', H', J, rv, q⟩ := hs
          exact fin J rv q
        | next =>
          obtain ⟨σ', H', J, q⟩ := hs
          exact fin (v := V.non) (u := Value.none) J rfl q
        | brk =>
          obtain ⟨_, _, _, q⟩ := hs
          exact False.elim q
        | cont =>
          obtain ⟨_, _, _, q⟩ := hs
          exact False.elim q
    · rfl
  rw [henv] at goal
  exact goal
end L3

set_option Elab.async false
set_option linter.all false
set_option maxRecDepth 100000
set_option maxHeartbeats 2000000
namespace L3
open PySem PySem.Spec PyProof.Rows L2
/-! own exceptions raised, caught, asked for their field -/
/-- an own exception class x of the module, its instances made with one thing, kept as field f -/
structure Rai (P : Program) (w : World) (K : PySem.W.Frag) (mg : Str → Option Value) (base : Heap) (k : Nat) (x : Str) (C : Addr) (f : Str) : Prop where
  T : OexC K C
  gl : mg x = some (.ref C)
  ini : ∃ (fI : Addr) (fd : FuncData) (p : Str), PySem.W.findIn K (.ref C) "__init__" = some (some (.ref fI)) ∧ PySem.W.typeIn K (.ref fI) = some (.type "function") ∧ FnOk P w K mg base CX0 k fI fd ["self", p] (spSup K C f) ∧ Binds K fd ["self", p] []
/-- raise C(e) -/
def tRai (K : PySem.W.Frag) (C : Addr) (f : Str) (W : WX) (te : TE) : TS := fun _ σ H => tMkO C (spSup K C f) [] (tCons te tNil) σ H fun cls d H' => W cls d σ H'
theorem ps_rai {X : Cx} {W : WX} {k : Nat} {x : Str} {C : Addr} {f : Str} {e : Expr} {te : TE} {p p2 p3 : Pos} (R : Rai X.prog X.w X.K X.mg X.base k x C f) (hr : Room (k + 1) X.A) (hc : X.calm = true) (tk : Takes X W) (h : PA X [e] (tCons te tNil)) (hg : Gl X x := by rfl)
    (hdb : (x == ("__debug__" : Str)) = false := by decide) (he : starEach [e] X.env = (false, eval e X.env) :: starEach [] X.env := by rfl) (hpl : (backTo p2 (starEach [] X.env)).any (·.1) = false := by rfl) :
    PS X (.Raise (some (.Call (.Name x p) [e] [] p2)) none p3) (tRai X.K C f W te) :=
  let ⟨_, _, _, h1, h2, h3, h4⟩ := R.ini
  ps_raise hc tk (pmk_oex R.T h1 h2 h3 hr h4 .nil pass0 hg R.gl h hdb he hpl)
theorem s_rai {K : PySem.W.Frag} {C : Addr} {f : Str} {W : WX} {te : TE} {D : Ends} {σ : Sl} {M H : Hp} {P : Pr} (mh : Same M H) (h : Gv te σ M P) (q : ∀ v M' H' d, Gr M H M' H' → P M' v → H' d = none → W (.ref C) (some d) σ (upd H' d (.xd [(f, v)]))) : tRai K C f W te D σ H :=
  h H mh _ fun v M1 H1 g1 p1 => ⟨by show 1 ≤ 1000; decide, fun a na => ⟨a, v, rfl, upd_same, fun dx ndx nda => ⟨rfl, dx, [(f, v)], upd_same, by rw [upd_ne nda]; exact upd_same, by rw [upd_ne nda] at ndx; exact ndx, by
    have nd1 : H1 dx = none := by rw [upd_ne nda] at ndx; exact ndx
    have e : upd (L2.del (upd (upd (upd H1 a (exo a C none)) dx (exd dx [(f, v)])) a (exo a C (some dx))) a) dx (.xd [(f, v)]) = upd H1 dx (.xd [(f, v)]) := by
      funext b
      by_cases hb : b = dx
      · rw [hb, upd_same, upd_same]
      · rw [upd_ne hb, upd_ne hb]
        by_cases ha : b = a
        · rw [ha, L2.del_same, na]
        · rw [L2.del_ne ha, upd_ne ha, upd_ne hb, upd_ne ha]
    rw [e]
    exact q v M1 H1 dx g1 p1 nd1⟩⟩⟩
end L3

set_option Elab.async false
set_option linter.all false
set_option maxRecDepth 100000
set_option maxHeartbeats 2000000
namespace L3
open PySem PySem.Spec PyProof.Rows L2
/-! what the head must see of an own exception class, as a Boolean -/
def oexM (C : Addr) (cd : ClassData) : List Value → List (Option Value) → Bool
  | .ref C' :: bm, [_, _, _, _, some (.builtin n), _] => decide (C' = C) && (decide (n = "ValueError.__new__") && (cd.hasDict && (!cd.hasDel && PySem.HandSPX.refsVE bm)))
  | _, _ => false
def oexB (K : PySem.W.Frag) (C : Addr) : Bool := match K.lookup C with
  | some ⟨.type c, _, .cls cd, sl⟩ => decide (c = "type") && oexM C cd cd.mro sl.toList
  | _ => false
theorem oexM_ok {C : Addr} {cd : ClassData} {mro : List Value} {sl : List (Option Value)} (h : oexM C cd mro sl = true) : ∃ bm k0 k1 k2 k3 k5, mro = .ref C :: bm ∧ sl = [k0, k1, k2, k3, some (.builtin "ValueError.__new__"), k5] ∧ cd.hasDict = true ∧ cd.hasDel = false ∧ PySem.HandSPX.refsVE bm = true := by
  unfold oexM at h
  split at h
  · rename_i C' bm a0 a1 a2 a3 n a5
    obtain ⟨g1, h2⟩ := He.ba h
    obtain ⟨g2, h2⟩ := He.ba h2
    obtain ⟨g3, h2⟩ := He.ba h2
    obtain ⟨g4, g5⟩ := He.ba h2
    cases of_decide_eq_true g1
    cases of_decide_eq_true g2
    exact ⟨_, _, _, _, _, _, rfl, rfl, g3, by simpa using g4, g5⟩
  · cases h
theorem oexB_ok {K : PySem.W.Frag} {C : Addr} (h : oexB K C = true) : ∃ nm q N bs bm sn sub ab col dd k0 k1 k2 k3 k5, K.lookup C = some (excClassObj nm q C N bs bm true sn sub ab col dd k0 k1 k2 k3 k5 "ValueError.__new__") ∧ PySem.HandSPX.refsVE bm = true := by
  unfold oexB at h
  cases e : K.lookup C with
  | none => rw [e] at h; cases h
  | some o =>
    obtain ⟨oc, od, dt, ⟨sl⟩⟩ := o
    rw [e] at h
    cases oc with
    | type c =>
      cases dt with
      | cls cd =>
        obtain ⟨h1, h2⟩ := He.ba (show (decide (c = "type") && oexM C cd cd.mro sl) = true from h)
        cases of_decide_eq_true h1
        obtain ⟨bm, a0, a1, a2, a3, a5, e1, rfl, e3, e4, g5⟩ := oexM_ok h2
        obtain ⟨nm, bs, mro, ns, qn, hd, sn, sb, ab, col, del⟩ := cd
        dsimp only at e1 e3 e4
        subst e1 e3 e4
        exact ⟨nm, qn, ns, bs, bm, sn, sb, ab, col, od, a0, a1, a2, a3, a5, rfl, g5⟩
      | _ => cases h
    | _ => cases dt <;> cases h
/-- the words of the __init__ at fI -/
abbrev FnC : Type := Option (Str × Str × Arguments × FuncBody × Scope × Addr × List Str × Addr)
def fnC (K : PySem.W.Frag) (x : Str) : FnC := match K.lookup (He.ma K (He.ga K x) "__init__") with
  | some ⟨_, _, .func fd, _⟩ => some (fd.name, fd.qualname, fd.params, fd.body, fd.scope, fd.globals, fd.closure.map (·.1), fd.builtins)
  | _ => none
def fnCv (q : Str) (st : Stmt) : FnC := some ("__init__", q, defArgs st, .stmts (defBody st), defScope st, mainGlobals, ["__class__"], builtinsNs)
/-- its cell, its code, its defaults -/
def cellB (K : PySem.W.Frag) (C : Addr) : List (Str × Addr) → Bool
  | [(_, cc)] => (match K.lookup cc with
    | some ⟨_, _, .cell (some (.ref D)), _⟩ => decide (D = C)
    | _ => false)
  | _ => false
def fileB (P : Program) (K : PySem.W.Frag) : Value → Bool
  | .ref cda => (match K.lookup cda with
    | some ⟨_, _, .fields vs, _⟩ => (match (vs[2]? : Option Value) with
      | some (.str file _) => (P.main.file : Str) == file
      | _ => false)
    | _ => false)
  | _ => false
def noneB : Value → Bool
  | .none => true
  | _ => false
def restB (P : Program) (K : PySem.W.Frag) (x q : Str) : Bool := match K.lookup (He.ma K (He.ga K x) "__init__") with
  | some ⟨_, _, .func fd, _⟩ => PySem.W.codeIn K fd.code q && (fileB P K fd.code && (cellB K (He.ga K x) fd.closure && noneB fd.defaults))
  | _ => false
theorem cellB_ok {K : PySem.W.Frag} {C : Addr} {cl : List (Str × Addr)} (h : cellB K C cl = true) (e : cl.map (·.1) = [("__class__" : Str)]) : ∃ cc oc od osl, cl = [(("__class__" : Str), cc)] ∧ K.lookup cc = some ⟨oc, od, .cell (some (.ref C)), osl⟩ := by
  match cl, h, e with
  | [(n, cc)], h, e =>
    obtain rfl : n = "__class__" := by simpa using e
    have h : (match K.lookup cc with
      | some ⟨_, _, .cell (some (.ref D)), _⟩ => decide (D = C)
      | _ => false) = true := h
    split at h
    · rename_i oc od D osl hl
      cases of_decide_eq_true h
      exact ⟨cc, oc, od, osl, rfl, hl⟩
    · cases h
theorem fileB_ok {P : Program} {K : PySem.W.Frag} {v : Value} (h : fileB P K v = true) : ∃ cda ccl cdd vs ccs file tf, v = .ref cda ∧ K.lookup cda = some ⟨ccl, cdd, .fields vs, ccs⟩ ∧ vs[2]? = some (.str file tf) ∧ ((P.main.file : Str) == file) = true := by
  cases v with
  | ref cda =>
    have h : (match K.lookup cda with
      | some ⟨_, _, .fields vs, _⟩ => (match (vs[2]? : Option Value) with
        | some (.str file _) => (P.main.file : Str) == file
        | _ => false)
      | _ => false) = true := h
    split at h
    · rename_i ccl cdd vs ccs hl
      split at h
      · rename_i file tf hv
        exact ⟨cda, ccl, cdd, vs, ccs, file, tf, rfl, hl, hv, h⟩
      · cases h
    · cases h
  | _ => cases h
/-- all else of the class -/
def supB (P : Program) (K : PySem.W.Frag) (x q f : Str) : Bool :=
  oexB K (He.ga K x) && (decide (PySem.W.findIn K (.ref (He.ga K x)) "__setattr__" = some (some (.builtin "object.__setattr__"))) && (decide (PySem.W.subIn K (.ref (He.ga K x)) (.type "BaseException") = some true) && (decide (PySem.W.typeIn K (.ref (He.ga K x)) = some (.type "type")) &&
  (PySem.W.keepIn K (.ref (He.ga K x)) && (decide (PySem.W.nsIn K mainGlobals "super" = some none) && (decide (PySem.W.nsIn K cStatics "thirdparty.any" = some none) && (decide (PySem.W.ks_superIn K (He.ga K x) (He.ga K x) "__init__" = some (some (.builtin "ValueError.__init__"))) &&
  (decide (PySem.W.subIn K (.ref (He.ga K x)) (.type "ValueError") = some true) && (decide (PySem.W.mroIn K (He.ga K x) (.ref (He.ga K x)) = some true) && (decide (PySem.W.findIn K (.ref (He.ga K x)) "__init__" = some (some (.ref (He.ma K (He.ga K x) "__init__")))) &&
  (decide (PySem.W.typeIn K (.ref (He.ma K (He.ga K x) "__init__")) = some (.type "function")) && (decide (PySem.W.findIn K (.ref (He.ga K x)) f = some none) && (xfB K (He.ga K x) && restB P K x q)))))))))))))
structure SupF (P : Program) (K : PySem.W.Frag) (x q f : Str) (st : Stmt) : Prop where
  S : SupC P K (He.ga K x) (He.ma K (He.ga K x) "__init__") q (defArgs st) (defBody st) (defScope st)
  xf : XfC K (He.ga K x)
  ini : PySem.W.findIn K (.ref (He.ga K x)) "__init__" = some (some (.ref (He.ma K (He.ga K x) "__init__")))
  ty : PySem.W.typeIn K (.ref (He.ma K (He.ga K x) "__init__")) = some (.type "function")
  no : PySem.W.findIn K (.ref (He.ga K x)) f = some none
theorem supB_ok {P : Program} {K : PySem.W.Frag} {x q f : Str} {st : Stmt} (h : supB P K x q f = true) (e : fnC K x = fnCv q st) (top : (P.main.scope.names.lookup ("super" : Str)).isSome = false) : SupF P K x q f st := by
  obtain ⟨a1, h⟩ := He.ba h
  obtain ⟨a2, h⟩ := He.ba h
  obtain ⟨a3, h⟩ := He.ba h
  obtain ⟨a4, h⟩ := He.ba h
  obtain ⟨a5, h⟩ := He.ba h
  obtain ⟨a6, h⟩ := He.ba h
  obtain ⟨a7, h⟩ := He.ba h
  obtain ⟨a8, h⟩ := He.ba h
  obtain ⟨a9, h⟩ := He.ba h
  obtain ⟨b1, h⟩ := He.ba h
  obtain ⟨b2, h⟩ := He.ba h
  obtain ⟨b3, h⟩ := He.ba h
  obtain ⟨b4, h⟩ := He.ba h
  obtain ⟨b5, b6⟩ := He.ba h
  refine ⟨⟨⟨oexB_ok a1, of_decide_eq_true a2, of_decide_eq_true a3, of_decide_eq_true a4, a5⟩, ?_, of_decide_eq_true a6, of_decide_eq_true a7, of_decide_eq_true a8, of_decide_eq_true a9, of_decide_eq_true b1, top⟩, xfB_ok b5, of_decide_eq_true b2, of_decide_eq_true b3, of_decide_eq_true b4⟩
  unfold restB at b6
  unfold fnC at e
  cases hl : K.lookup (He.ma K (He.ga K x) "__init__") with
  | none => rw [hl] at b6; cases b6
  | some o =>
    obtain ⟨oc, od, dt, osl⟩ := o
    rw [hl] at b6 e
    cases dt with
    | func fd =>
      obtain ⟨n1, n2, n3, n4, n5, n6, n7, n8, n9, n10, n11, n12, n13, n14, n15⟩ := fd
      have e2 : (some (n1, n2, n3, n4, n5, n6, n7.map (·.1), n15) : FnC) = fnCv q st := e
      unfold fnCv at e2
      simp only [Option.some.injEq, Prod.mk.injEq] at e2
      obtain ⟨h1, h2, h3, h4, h5, h6, h7, h8⟩ := e2
      subst h1 h2 h3 h4 h5 h6 h8
      obtain ⟨c1, d2⟩ := He.ba (show (PySem.W.codeIn K n13 n2 && (fileB P K n13 && (cellB K (He.ga K x) n7 && noneB n8))) = true from b6)
      obtain ⟨c2, d3⟩ := He.ba d2
      obtain ⟨c3, c4⟩ := He.ba d3
      obtain ⟨cc, cl, cld, csl, rfl, hcell⟩ := cellB_ok c3 h7
      obtain ⟨cda, ccl, cdd, vs, ccs, file, tf, rfl, hcode, hvs, hfile⟩ := fileB_ok c2
      obtain rfl : n8 = .none := by cases n8 <;> first | rfl | cases c4
      exact ⟨_, _, _, _, _, _, cda, _, _, cc, cl, cld, csl, ccl, cdd, vs, ccs, file, tf, rfl, c1, hcell, hcode, hvs, hfile⟩
    | _ => cases b6
end L3

set_option Elab.async false
set_option linter.all false
set_option maxRecDepth 100000
set_option maxHeartbeats 1000000
namespace L3
open PySem PySem.Spec PyProof.Rows L2
/-! ~o by an own __invert__, o <= p by an own __le__, o op p by an own method of both's class -/
section
end
/-! dicts with tuple keys, locked -/
def DtF : Rl (List (List Str)) := fun ks M v => ∃ a o, v = .ref a ∧ M a = some (.frz o (.dT (ent ks)))
instance : Mon DtF := ⟨fun e ⟨a, o, h, r⟩ => ⟨a, o, h, e _ _ r⟩⟩
section
variable {K : PySem.W.Frag} {σ : Sl} {M : Hp} {ta tb te ts : TE} {wi : TI}
theorem gv_inDtF {neg : Bool} {x : List Str} {ks : List (List Str)} (ha : Gv ta σ M (TT x)) (hb : Gv tb σ M (DtF ks)) : Gv (tOp (rInA K neg) ta tb) σ M (Bl (xor neg (decide (x ∈ ks)))) :=
  gv_op ha hb fun M' u v pu pv => by
    obtain ⟨b, e1, r1⟩ := pu
    obtain ⟨d, o, e2, r2⟩ := pv
    subst e1 e2
    refine rv_pure (v := .bl (xor neg (decide (x ∈ ks)))) (fun H mh Q q => .inr (.inl ⟨d, _, rfl, .inr ⟨ent ks, x.map Sum.inr, b, .inr ⟨o, mh _ _ r2⟩, rfl, (by rw [key_V]; exact mh _ _ r1), rfl⟩, ?_⟩)) rfl
    rw [val_ent]
    exact q
/-- a new dict with tuple keys that is ours -/
def GvKT (te : TE) (σ : Sl) (M : Hp) (ks : List (List Str)) : Prop := ∀ H, Same M H → ∀ Q : VK, (∀ p M' H', Gr M H M' H' → H p = none → M' p = none → H' p = some (.dT (ent ks)) → Q (.ref p) H') → te σ H Q
theorem gk_dcT {j : Nat} {xs : List (List Str)} (hj : j < σ.length) (hsrc : GvI wi σ M xs TT) (hz : xs.length ≤ sizeLine) : GvKT (tDcT wi (gName j) tYes (tVar j) (tC (.bl true)) [j]) σ M (once xs) := by
  intro H mh Q q
  refine hsrc H mh _ fun J M1 H1 g1 ⟨G, Y, w, hG, hY⟩ D hD => ?_
  refine ⟨fun i m H' => i + m = xs.length ∧ ∃ M', Gr M1 H1 M' H' ∧ M' D = none ∧ ((xs.take i).foldl onceP []).length ≤ i ∧ H' D = some (.dT (ent ((xs.take i).foldl onceP []))), ⟨xs.length, Nat.zero_add _, M1, .own g1.mh hD, g1.mh.free hD, Nat.le_refl _, upd_same⟩, fun i m H' ⟨e, M', gr, m0, hl, hw⟩ => ?_⟩
  have gG := hG M' H' gr.mm gr.mh
  cases m with
  | zero =>
    have e' : i = xs.length := e
    subst e'
    rw [List.take_length] at hw
    exact .inl ⟨w.stops H' gG, q _ _ H' (g1.trans gr) (g1.hh.free hD) m0 hw⟩
  | succ m =>
    have hi : i < xs.length := by omega
    refine .inr ⟨w.goes i H' hi gG, fun y H2 hy => ?_⟩
    obtain ⟨x, M2, hx, g2, b, ey, rb⟩ := hY i M' H' y H2 gr.mm gr.mh hi (w.yields i H' y H2 hi gG hy)
    subst ey
    have at_j : ((wipe σ [j]).set j (some (V.ref b)))[j]? = some (some (V.ref b)) := List.getElem?_set_self (by rw [wipe_length]; exact hj)
    refine ⟨wipe1, _, at_j, ent ((xs.take i).foldl onceP []), x.map Sum.inr, b, rfl, by rw [key_V]; exact g2.mh _ _ rb, g2.hh _ _ hw, ?_, m, Nat.lt_succ_self m, by omega, M2, (gr.trans g2).mut hD (g2.keep m0 hw), g2.keep m0 hw, ?_, ?_⟩
    · unfold ent; rw [List.length_map]; omega
    · rw [List.take_add_one, hx, List.foldl_append]
      exact Nat.le_trans (onceP_len _ x) (Nat.succ_le_succ hl)
    · rw [upd_same, putK_ent, List.take_add_one, hx, List.foldl_append]
      rfl
theorem gv_frzT {ks : List (List Str)} (h : GvKT te σ M ks) : Gv (tFrz te) σ M (DtF ks) := fun H mh Q q =>
  h H mh _ fun p M' H' g h0 m0 hp => ⟨p, _, rfl, hp, trivial, fun o => q _ _ _ ((g.mut h0 m0).freeze h0 m0 upd_same) ⟨p, o, rfl, upd_same⟩⟩
/-- self.f = e where e gives a locked dict -/
theorem s_fldF {H : Hp} {D : Ends} {i : Nat} {x dx : Addr} {fs : List (Str × V)} {f : Str} {ks : List (List Str)} {C : Addr} (mh : Same M H) (hm : M x = none) (hx : H x = some (.ins C dx fs)) (hi : σ[i]? = some (some (.ref x))) (cl : Cls K C) (na : NoAttr K C f) (hl : fs.length < 1000)
    (h : Gv te σ (upd M x (.ins C dx fs)) (DtF ks)) (k : ∀ v M' H', Gr M H M' H' → M' x = none → DtF ks M' v → D.nx σ (upd H' x (.ins C dx (putF f v fs)))) : sFld K (tVar i) te f D σ H :=
  h H (same_lent mh hx) _ fun v M' H' g ⟨d, o, e, hd⟩ => ⟨.ref x, hi, x, C, dx, fs, rfl, g.hh _ _ hx, cl, na, hl, k v _ H' (g.back hm) del_at ⟨d, o, e, by
    have n : d ≠ x := fun z => by subst z; rw [g.mm d _ upd_same] at hd; cases hd
    rw [L3.del_ne n]; exact hd⟩⟩
end
end L3

set_option Elab.async false
set_option linter.all false
set_option maxRecDepth 100000
set_option maxHeartbeats 1000000
namespace L3
open PySem PySem.Spec PyProof.Rows L2 LamX
open Strm
/-! a lambda handed to a def of the law, behind the stream -/
/-- a def whose code object stands at c -/
def FunC (K : PySem.W.Frag) (x qual : Str) (st : Stmt) (fd : FuncData) (f c : Addr) : Prop := ∃ (oc : Value) (od : Option Addr) (kV doc pm : Value) (an : Option Addr) (ct : Value) (osl : Array (Option Value)),
  fd = PySem.W.fnOf x qual (defArgs st) (defBody st) (defScope st) .none kV doc pm an (.ref c) ct ∧ K.lookup f = some ⟨oc, od, .func (PySem.W.fnOf x qual (defArgs st) (defBody st) (defScope st) .none kV doc pm an (.ref c) ct), osl⟩ ∧ PySem.W.codeIn K (.ref c) qual = true
/-- a def keeps its promise where no repr is under way; its code object is known -/
theorem fun_okGC {P : Program} {w : World} {K : PySem.W.Frag} {mg : Str → Option Value} {base : Heap} {x qual : Str} {st : Stmt} {f c : Addr} {fd : FuncData} {N ps : List Str} {k : Nat} {sp : Sp} (F : FunC K x qual st fd f c) (S : FnScope N ps (defScope st))
    (ar : ∀ vs H Q E, sp vs H Q E → vs.length = ps.length) (hb : ∀ (A : Around) (outer : List Env) (s : Shared) (H : Hp) (vs : List V) (Q : VK) (E : XK), A.guards = some [] → Room k (A.deeper (envOfC qual (defScope st) s.heap.objs.size f (.ref c))) → sp vs H Q E →
      ∃ t, PSs (cxOf CX0 P w K mg base N qual (defScope st) f (.ref c) A outer s H E).nox (defBody st) t ∧ t { nx := fun _ H' => Q .non H', rt := Q } (start N vs) H) :
    FnG P w K mg base CX0 (k + 1) f fd ps sp where
  len := ar
  run A outer s H args us vs Q E hgu hr e0 hbi rv hsp := by
    have ⟨c1, c2, c3, c4, c5, c6, c7, c8, efd, lk, hcd⟩ := F
    subst efd
    have grown : ∀ b o, base.get? b = some o → s.heap.get? b = some o := fun b o e => (e0.bs b o e).1
    have inK := e0.mod.kin.keeps grown
    apply codeAny_call_function hr.depth (inK _ _ lk) rfl S.co S.gen rfl (PySem.W.codeRec_of inK hcd)
    apply hbi
    refine wpAny_newFunctionEnv_cells S.kind (fun ⟨n, v⟩ hy => ?_) fun env he s1 new => ?_
    · rcases S.par n (List.of_mem_zip hy).1 with q | q
      · exact .inl q
      · exact .inr ⟨q, PySem.W.cellsFrom_some _ _ _ (.inl q)⟩
    subst he
    have ⟨t, pt, q⟩ := hb A outer s H vs Q E hgu (hr.deeper _) hsp
    have I0 := inv_start (CX := CX0) (E := E) S hr.hd e0 (ar _ _ _ _ hsp) rv new
    refine ⟨(e0.mod.nolimit.keeps grown).keeps new.toInCall.keep, codeAny_func (wpAny_mono (pt.nox.run [] s1 _ H _ I0 q) ?_ fun _ _ z => z)⟩
    rintro (_ | _ | _ | u) s2 h2
    · have ⟨_, _, J, z⟩ := h2
      exact ⟨V.non, _, J.os, J.bare, J.base, J.hok, rfl, z⟩
    · exact h2.elim fun _ h => h.elim fun _ h => h.2.elim
    · exact h2.elim fun _ h => h.elim fun _ h => h.2.elim
    · have ⟨v, _, _, J, ru, z⟩ := h2
      exact ⟨v, _, J.os, J.bare, J.base, J.hok, ru, z⟩
/-- x(lambda: body), x a def of the text -/
theorem pe_lamR {X : Cx} {T : List (Addr × Str)} {TT : (XK → Hp → VK → Prop) → Hp → VK → Prop} {x a : Str} {g c P : Addr} {k : Nat} {fd : FuncData} {st : Stmt} {Ng : List Str} {params : Arguments} {body : Expr} {scope : Scope} {t : XK → TE} {p lpos pos : Pos}
    (F : Fun X.K x x st g fd) (hm : X.mg x = some (.ref g)) (hb : L2.Binds X.K fd [a] []) (Sg : FnScope Ng [a] (defScope st)) (hNg : Ng[0]? = some a) (hva : Vis (defScope st) a)
    (hG : ∀ cdv, GivesTo X Ng x (defScope st) g cdv (defBody st) a (X.env.qual ++ "<lambda>") TT) (TB : TabB X.base X.mg c P) (hcode : X.env.code = .ref c) (hT : T = [(P, X.env.qual ++ "<lambda>")]) (hr : Room (k + 2) X.A) (L : LamS X.env.scope scope)
    (hbody : ∀ (A : Around) (outer : List Env) (s : Shared) (H : Hp) (E : XK) (f c' : Addr), Room k (A.deeper (lamEnv X scope s.heap.objs.size f c')) → PE (lamCx X A outer s H E scope f c') body (t E))
    (hg : Gl X x := by rfl) (hdef : defaultsOf params X.env = ([], []) := by rfl) (hbind : ∀ (q : Str) (cl : List (Str × Addr)) (pm cv ctv : Value), bindArgs (PySem.W.kla_fn "<lambda>" q params body scope cl pm cv ctv) ⟨[], []⟩ = pure [] := by intros; rfl)
    (hdb : (x == ("__debug__" : Str)) = false := by decide) (hd : (a == ("__debug__" : Str)) = false := by decide) (hcd : (a == ("__classdict__" : Str)) = false := by decide) :
    PE X (.Call (.Name x p) [.Lambda params body scope lpos] [] pos) (tLam T TT t) := by
  obtain ⟨oc, od, kV, doc, pm, an, cdv, ct, osl, efd, lk, hc⟩ := F.ex
  subst efd
  subst hT
  exact pe_lamcall hg hm F.kp lk hc hb Sg hNg hva (hG cdv) TB hcode (List.mem_singleton.mpr rfl) (fun q hq _ => by rw [List.mem_singleton.mp hq]) hr L hdef hbind hbody hdb hd hcd
section
variable {S : Strm} {H H' M M' : Hp} {j k : Nat} {Pt : Addr} {q : Str} {σ : Sl} {P : Pr}
theorem Strm.At.ext (h : S.At k H) (e : ExtN H H') : S.At k H' := let ⟨c, x, n, m, h1, h2, h3⟩ := h.ex; ⟨h.ne, c, x, n, m, e _ _ h1 (fun _ z => by cases z), e _ _ h2 (fun _ z => by cases z), h3⟩
/-- the state of a law with a table of code objects -/
structure LS (S : Strm) (Pt : Addr) (q : Str) (M H : Hp) (k : Nat) : Prop where
  mh : Same M (S.cut H)
  at_ : S.At k H
  tb : TabS H Pt q
  mp : M Pt = none
  nt : ∀ a ps, M a ≠ some (.tbl ps)
theorem LS.le (L : LS S Pt q M H k) (e : j ≤ k) : LS S Pt q M H j := ⟨L.mh, L.at_.le e, L.tb, L.mp, L.nt⟩
theorem LS.step (L : LS S Pt q M H k) (g : Gr M (S.cut H) M' (S.cut H')) (a : S.At j H') : LS S Pt q M' H' j := by
  have kp : ∀ x o, H x = some o → (∀ vs, o ≠ HO.lst vs) → S.cut H x = some o ∧ H' x = some o := fun x o e n => by
    have no : ¬ S.off x := fun z => by
      obtain ⟨vs, hv⟩ := L.at_.at_ z
      rw [hv] at e
      exact n vs (Option.some.inj e).symm
    have e1 : S.cut H x = some o := by rw [cut_on no]; exact e
    exact ⟨e1, of_cut (g.hh x o e1)⟩
  obtain ⟨ps, hP, ok, h3⟩ := L.tb
  have h1 := kp Pt _ hP (fun _ z => by cases z)
  refine ⟨g.mh, a, ⟨ps, h1.2, ok, fun pos cv hc => ?_⟩, g.keep L.mp h1.1, fun x qs e => L.nt x qs (g.nt x qs e)⟩
  obtain ⟨c, e1, e2⟩ := h3 pos cv hc
  exact ⟨c, e1, (kp c _ e2 (fun _ z => by unfold CodeO at z; cases z)).2⟩
/-- a step that leaves all as it is -/
theorem LS.idle (L : LS S Pt q M H k) (hh : Same H H') : LS S Pt q M H' k := by
  have m1 : Same M (S.cut H') := fun x o e => by
    have h1 := L.mh x o e
    rw [cut_on (on_of h1)]
    exact hh _ _ (of_cut h1)
  exact ⟨m1, L.at_.same hh, L.tb.ext hh, L.mp, L.nt⟩
theorem LS.put (L : LS S Pt q M H k) {p : Addr} {o : HO} {vs : List V} (hp : S.cut H p = some (.lst vs)) (hm : M p = none) : LS S Pt q M (upd H p o) k := by
  have no : ¬ S.off p := on_of hp
  have hp' := of_cut hp
  obtain ⟨ps, hP, ok, h3⟩ := L.tb
  have n1 : Pt ≠ p := fun z => by rw [z, hp'] at hP; cases hP
  refine ⟨by rw [cut_upd no]; exact same_mut L.mh hm, L.at_.upd no, ⟨ps, by rw [upd_ne n1]; exact hP, ok, fun pos cv hc => ?_⟩, L.mp, L.nt⟩
  obtain ⟨c, e1, e2⟩ := h3 pos cv hc
  have n2 : c ≠ p := fun z => by rw [z, hp'] at e2; unfold CodeO at e2; cases e2
  exact ⟨c, e1, by rw [upd_ne n2]; exact e2⟩
/-- the lambda's reading, then what follows -/
theorem lam_step {TT : (XK → Hp → VK → Prop) → Hp → VK → Prop} {t : XK → TE} (L : LS S Pt q M H k) (h : Gv (fun σ H Q => TT (fun E H' Q' => t E σ H' Q') H Q) σ M P) {Q : VK} (go : ∀ v M' H', Same M M' → LS S Pt q M' H' k → ExtN H H' → P M' v → Q v H') : tLam [(Pt, q)] TT t σ H Q :=
  ⟨fun p hp => by rw [List.mem_singleton.mp hp]; exact L.tb, fun H1 eN T1 => by
    have m1 : Same M H1 := fun x o e => eN x o (cut_same _ _ (L.mh x o e)) fun ps z => L.nt x ps (z ▸ e)
    have a1 : S.At k H1 := L.at_.ext eN
    have c1 : Same M (S.cut H1) := fun x o e => by rw [cut_on (on_of (L.mh x o e))]; exact m1 x o e
    have L1 : LS S Pt q M H1 k := ⟨c1, a1, T1 _ (List.mem_singleton.mpr rfl), L.mp, L.nt⟩
    exact h H1 m1 Q fun v M' H' g p => go v M' H' g.mm (L1.step (lift c1 a1 g) (a1.same g.hh)) (eN.trans (.of g.hh)) p⟩
end
end L3

set_option Elab.async false
set_option linter.all false
set_option maxRecDepth 100000
set_option maxHeartbeats 1000000
namespace L3
open PySem PySem.Spec PyProof.Rows L2
/-! data among which an empty dict may stand -/
/-- data, or an empty dict -/
def DdF (K : PySem.W.Frag) : Rl PyData := fun d M v => Dd K d M v ∨ (d = .dict [] ∧ ∃ a, v = .ref a ∧ M a = some (.dK []))
/-- .. or a list of such -/
def DdE (K : PySem.W.Frag) : Rl PyData := fun d M v => DdF K d M v ∨ ∃ a ds vs, d = .list ds ∧ v = .ref a ∧ SqL K M a vs ∧ Pd (DdF K) M ds vs
instance {K : PySem.W.Frag} : Mon (DdF K) := ⟨fun e h => h.elim (fun h => .inl (dp_mono e h)) fun ⟨h1, a, h2, h3⟩ => .inr ⟨h1, a, h2, e _ _ h3⟩⟩
instance {K : PySem.W.Frag} : Mon (DdE K) := ⟨fun e h => h.elim (fun h => .inl (Mon.mono e h)) fun ⟨a, ds, vs, h1, h2, h3, h4⟩ => .inr ⟨a, ds, vs, h1, h2, sl_mono e h3, h4.mono e⟩⟩
theorem ty_F {K : PySem.W.Frag} {M : Hp} {d : PyData} {v : V} (h : DdF K d M v) : TyX K M v (.type (tyN d)) := by
  rcases h with h | ⟨rfl, a, rfl, h⟩
  · exact ty_of h
  · exact .base (.dK h)
theorem ty_E {K : PySem.W.Frag} {M : Hp} {d : PyData} {v : V} (h : DdE K d M v) : TyX K M v (.type (tyN d)) := by
  rcases h with h | ⟨a, ds, vs, rfl, rfl, hs, _⟩
  · exact ty_F h
  · rcases hs with (h | ⟨o, h⟩) | ⟨o, its, n, hk, hc, _⟩
    · exact .base (.lst h)
    · exact .base (.frz h)
    · exact .kList hk hc
section
variable {K : PySem.W.Frag} {σ : Sl} {M : Hp} {ta : TE}
theorem gv_isiF {d : PyData} {n : String} {b : Bool} (h : Gv ta σ M (DdF K d)) (hk : kitB (tyN d) n = some b) : Gv (tCB (rIsi K) (tCons ta (tCons (tC (.ty n)) tNil))) σ M (Bl b) := fun H mh Q q =>
  h H mh _ fun v M1 H1 g1 p => ⟨v, .ty n, _, _, b, rfl, .ty n, ty_F (Mon.mono g1.mh p), kit_ty hk, q _ M1 H1 g1 rfl⟩
theorem gv_isi2E {d : PyData} {n m : String} {b c : Bool} (h : Gv ta σ M (DdE K d)) (hk : kitB (tyN d) n = some b) (hm : kitB (tyN d) m = some c) : Gv (tCB (rIsiT K) (tCons ta (tCons (tTup (tCons (tC (.ty n)) (tCons (tC (.ty m)) tNil))) tNil))) σ M (Bl (b || c)) := fun H mh Q q =>
  h H mh _ fun v M1 H1 g1 p => ⟨by show 2 ≤ sizeLine; decide, fun tp ntp => by
    refine ⟨v, tp, _, _, _, b || c, rfl, upd_same, .cons (.ty n) (.cons (.ty m) .nil), ty_E (Mon.mono ((g1.mh).trans (same_new ntp)) p), ?_, q _ M1 _ (g1.trans (.own g1.mh ntp)) rfl⟩
    refine kitAny_cons (kit_ty hk) (fun hb => kitAny_cons (kit_ty hm) (fun hc => ?_) fun hc => ?_) fun h => ?_
    · rw [hb, hc]; exact kitAny_nil
    · rw [hb, hc]; rfl
    · rw [h]; rfl⟩
theorem sqF {ds : List PyData} {v : V} (h : SqR K (Dd K) ds M v) : SqR K (DdF K) ds M v := by
  rcases h with ⟨a, vs, e, hs, hp⟩ | ⟨a, vs, e, hs, hp⟩
  · exact .inl ⟨a, vs, e, hs, Paired.mapP hp fun _ _ q => .inl q⟩
  · exact .inr ⟨a, vs, e, hs, Paired.mapP hp fun _ _ q => .inl q⟩
end
end L3

set_option Elab.async false
set_option linter.all false
set_option maxRecDepth 100000
set_option maxHeartbeats 1000000
namespace L3
open PySem PySem.Spec PyProof.Rows L2
/-! a written dict of three texts, locked at the return: it can be walked -/
def Dc3F (a b c : Str) (R1 R2 R3 : Pr) : Pr := fun M v => ∃ p o u1 u2 u3, v = .ref p ∧ M p = some (.frz o (.dK [(Sum.inr a, u1), (Sum.inr b, u2), (Sum.inr c, u3)])) ∧ R1 M u1 ∧ R2 M u2 ∧ R3 M u3
section
end
section
end
end L3
namespace L3
open PySem PySem.Spec PyProof.Rows L2 LamX
open Strm
end L3

set_option Elab.async false
set_option linter.all false
set_option maxRecDepth 100000
set_option maxHeartbeats 1000000
namespace L3
open PySem PySem.Spec PyProof.Rows L2 LamX
/-! the law's own end, a table of code objects at Pt tracked from the start, empty -/
def scrT (K : PySem.W.Frag) (a : Addr) (vs : List Value) (xs : List V) (Pt : Addr) : Hp := fun b => if b = Pt then some (.tbl #[]) else scrH K a vs xs b
section
variable {K : PySem.W.Frag} {a b Pt : Addr} {vs : List Value} {xs : List V}
theorem scrT_at : scrT K a vs xs Pt Pt = some (.tbl #[]) := if_pos rfl
theorem scrT_off (n : b ≠ Pt) : scrT K a vs xs Pt b = scrH K a vs xs b := if_neg n
/-- what is known at the start: all but the table -/
theorem start_law {H : Hp} {ns : List Int} (hP : H Pt = some (.tbl #[])) (hs : SqL K H a (ns.map V.int)) (only : ∀ b qs, H b = some (.tbl qs) → b = Pt) : ∃ M : Hp, L2.Same M H ∧ SqR K It' ns M (.ref a) ∧ M Pt = none ∧ ∀ b qs, M b ≠ some (.tbl qs) := by
  refine ⟨fun b => if b = Pt then none else H b, fun b o e => ?_, ?_, if_pos rfl, fun b qs e => ?_⟩
  · have e : (if b = Pt then none else H b) = some o := e
    by_cases n : b = Pt
    · rw [if_pos n] at e; cases e
    · rw [if_neg n] at e; exact e
  · have at_a : ∀ o, H a = some o → (∀ qs, o ≠ .tbl qs) → (fun b => if b = Pt then none else H b) a = some o := fun o e no => by
      have n : a ≠ Pt := fun z => by rw [z, hP] at e; exact no _ (Option.some.inj e).symm
      show (if a = Pt then none else H a) = some o
      rw [if_neg n]; exact e
    refine .inl ⟨a, _, rfl, ?_, pd_of_it ns⟩
    rcases hs with (h | ⟨o, h⟩) | h
    · exact .inl (.inl (at_a _ h (by intro qs z; cases z)))
    · exact .inl (.inr ⟨o, at_a _ h (by intro qs z; cases z)⟩)
    · exact .inr h
  · have e : (if b = Pt then none else H b) = some (.tbl qs) := e
    by_cases n : b = Pt
    · rw [if_pos n] at e; cases e
    · rw [if_neg n] at e; exact n (only b qs e)
end
theorem walk_GT {l : PySem.W.OpenLaw} {n k : Nat} {q : Program} {loose : List Str} {XP : (Str → Option Value) → Heap → Prop} {YP : World → Heap → Prop} {d : DefRec} {sp : PySem.W.Frag → Addr → Sp} {x : Str} (hn : l.most = some n) (hn2 : n ≤ sizeLine) (hdf : d.params.defaults = [])
    (hr : Room k callerA) (F : ∀ (w : World) (mg : Str → Option Value) (fa : Addr) (h : Heap), YP w h → h.Ns mainGlobals mg → mg d.name = some (.ref fa) → ∃ (K : PySem.W.Frag) (fd : FuncData) (c Pt : Addr), K.In h ∧ PySem.W.codeHdIn K c Pt = true ∧ K.lookup Pt = none ∧ h.get? Pt = some { cls := .none, data := .fields #[] } ∧
      (∀ (s : Shared) (u : Value), BindsTo s fd ⟨[u], []⟩ [(x, u)]) ∧ ∀ base : Heap, K.In base → base.Ns mainGlobals mg → TabB base mg c Pt → FnG l.prog w K mg base CX0 k fa fd [x] (sp K Pt))
    (hsp : ∀ (K : PySem.W.Frag) (Pt : Addr) (H : Hp) (a : Addr) (ns : List Int), ns.length ≤ n → (∀ z ∈ ns, Builtin.Int.intBits z ≤ 1048576) → H Pt = some (.tbl #[]) → SqL K H a (ns.map V.int) → (∀ b qs, H b = some (.tbl qs) → b = Pt) → sp K Pt [.ref a] H (fun v _ => v = .bl true) fun _ _ _ => False) : PySem.W.WalkO q loose XP YP l.row.toRowW d [] (fun f vs => PySem.call f vs) := by
  apply Att.attach_callB hn hdf
  intro w s0 s mg mb fa o pm cd doc a vs ns G Y ho hd hcd hmg hobj hints hlen hbits hgens
  obtain ⟨K, fd, c, Pt, KX, hcp, hPK, hPt, bind, hF⟩ := F w mg fa _ Y G.T.g hmg
  have rv := vals_ints hints
  have hz : (ns.map V.int).length ≤ sizeLine := by rw [List.length_map]; exact Nat.le_trans hlen hn2
  have hobj : s.heap.get? a = some (scrO vs) := hobj
  have aP : a ≠ Pt := fun z => by
    rw [← z, hobj] at hPt
    cases (show Data.seq vs.toArray _ = Data.fields #[] from congrArg Obj.data (Option.some.inj hPt))
  -- what stands in s and is neither the table nor the script is seen
  have free : ∀ {b : Addr} {ob : Obj}, s.heap.get? b = some ob → ob ≠ { cls := .none, data := .fields #[] } → (scrH K a vs (ns.map V.int) b = none) → (hidT s.heap (scrT K a vs (ns.map V.int) Pt)).get? b = some ob := fun {b ob} e h1 h2 => hidT_get e (by
    have nb : b ≠ Pt := fun z => by rw [z, hPt] at e; exact h1 (Option.some.inj e).symm
    rw [scrT_off nb]; exact h2)
  have noscr : ∀ {b : Addr} {ob : Obj}, s.heap.get? b = some ob → (∀ its m, ob.data ≠ .seq its m) → scrH K a vs (ns.map V.int) b = none := fun {b ob} e h1 => by
    cases z : scrH K a vs (ns.map V.int) b with
    | none => rfl
    | some u =>
      rw [(scrH_some z).1, hobj] at e
      cases e
      exact (h1 _ _ rfl).elim
  have KB : K.In (hidT s.heap (scrT K a vs (ns.map V.int) Pt)) := fun b ob e => hidT_get (KX b ob e) (by
    have nb : b ≠ Pt := fun z => by rw [z, hPK] at e; cases e
    rw [scrT_off nb]
    cases z : scrH K a vs (ns.map V.int) b with
    | none => rfl
    | some u =>
      have z2 := scrH_some z
      rw [z2.1, z2.2.1] at e
      cases e)
  have NS : ∀ b m, s.heap.Ns b m → (hidT s.heap (scrT K a vs (ns.map V.int) Pt)).Ns b m := fun b m ⟨ob, es, ep, e, dd, r⟩ => ⟨ob, es, ep, free e (fun z => by rw [z] at dd; cases dd) (noscr e fun its m z => by rw [dd] at z; cases z), dd, r⟩
  have hok : HOk l.prog w (scrT K a vs (ns.map V.int) Pt) s.heap := fun b u e => by
    by_cases nb : b = Pt
    · subst nb
      rw [scrT_at] at e
      cases e
      exact hPt
    · rw [scrT_off nb] at e
      obtain ⟨e1, _, e3⟩ := scrH_some e
      subst e1 e3
      exact ⟨hobj, hz, vs, _, rv, hobj⟩
  have gP : mainGlobals ≠ Pt := fun z => by
    obtain ⟨ob, es, ep, e, dd, _⟩ := G.T.g
    rw [z, hPt] at e
    cases e
    cases dd
  have bm : (hidT s.heap (scrT K a vs (ns.map V.int) Pt)).BuiltinsAt mg Pt := by
    obtain ⟨bm, ob, b1, b2, b3, b4, b5, b6⟩ := G.T.bmain
    refine ⟨bm, ob, b1, b2, fun z => ?_, fun z => ?_, free b3 (fun z => by rw [z] at b6; cases b6) (noscr b3 fun its m z => by rw [b6] at z; cases z), b4, b5, b6⟩
    · obtain ⟨o2, es, ep, e, dd, _⟩ := G.T.g
      rw [← z, b3] at e
      cases e
      rw [b6] at dd
      cases dd
    · rw [z, hPt] at b3
      cases b3
      cases b6
  have ⟨mc, l1, l2⟩ := G.T.nolimit
  have env : Env0 l.prog w K mg (hidT s.heap (scrT K a vs (ns.map V.int) Pt)) callerA [] s (scrT K a vs (ns.map V.int) Pt) :=
    ⟨rfl, ⟨KB, NS _ _ G.T.g, ⟨mb, NS _ _ G.T.b, G.T.builtins⟩, ⟨mc, NS _ _ l1, l2⟩⟩, fun b o e => of_hidT e, Nat.le_of_eq (hidT_size _ _), trivial, nofun, hok, .of_eq hgens⟩
  have sq : SqL K (scrT K a vs (ns.map V.int) Pt) a (ns.map V.int) := sl_mono (fun b u e => by
    have nb : b ≠ Pt := fun z => aP ((scrH_some e).1.symm.trans z)
    rw [scrT_off nb]; exact e) (scrH_sq KX hobj rv hz)
  have only : ∀ b qs, scrT K a vs (ns.map V.int) Pt b = some (.tbl qs) → b = Pt := fun b qs e => by
    by_cases nb : b = Pt
    · exact nb
    · rw [scrT_off nb] at e
      cases (scrH_some e).2.2
  refine codeAny_mono ((hF _ KB (NS _ _ G.T.g) ⟨PySem.W.codeHd_of_K KB hcp, bm, gP⟩).run callerA [] s _ ⟨[.ref a], []⟩ [.ref a] [.ref a] _ _ rfl hr env (bind _ _) (.cons rfl .nil) (hsp _ _ _ a ns hlen hbits scrT_at sq only)) ?_
  intro r s1 h
  match r, h with
  | .ok (.ret u), h =>
    have ⟨v, H1, os, bare, un, hok1, ru, ev⟩ := h
    have e1 : v = .bl true := ev
    subst e1
    cases (show u = Value.bool true from ru)
    obtain ⟨more, hm⟩ := un.tbls Pt #[] scrT_at
    have grown : s1.heap.get? Pt = some { cls := .none, data := .fields more } := by
      have z := hok1 Pt _ hm
      rw [Array.empty_append] at z
      exact z
    have kept : ∀ b ob, b ≠ Pt → s.heap.get? b = some ob → s1.heap.get? b = some ob := fun b ob nb e => by
      cases z : scrT K a vs (ns.map V.int) Pt b with
      | none => exact un.keep b ob e z nofun nofun
      | some y =>
        have z0 := z
        rw [scrT_off nb] at z0
        have hy := scrH_some z0
        rw [hy.2.2] at z
        have now := (hok1 b _ (un.frzs b _ _ z)).1
        rw [hy.1, hobj] at e
        cases e
        exact now
    refine ⟨rfl, ⟨fun b ob e => ?_, fun b ob e => ?_⟩, os, bare⟩
    · by_cases nb : b = Pt
      · subst nb
        rw [hPt] at e
        cases e
        exact .inr (.inl ⟨((PySem.W.codeHd_of_K KX hcp).tab hPt).isCodeTable, rfl, #[], more, rfl, by rw [Array.empty_append]; exact grown⟩)
      · exact .inl (kept b ob nb e)
    · by_cases nb : b = Pt
      · subst nb
        exact ⟨_, grown⟩
      · exact ⟨ob, kept b ob nb e⟩
end L3

set_option Elab.async false
set_option linter.all false
set_option maxRecDepth 100000
set_option maxHeartbeats 1000000
namespace L3
open PySem PySem.Spec PyProof.Rows L2
/-! a quiet def (one that raises nothing and walks no range) called while an exception is handled -/
structure FnQ (P : Program) (w : World) (K : PySem.W.Frag) (mg : Str → Option Value) (base : Heap) (k : Nat) (f : Addr) (fd : FuncData) (ps : List Str) (sp : Sp) : Prop where
  len (vs : List V) (H : Hp) (Q : VK) (E : XK) : sp vs H Q E → vs.length = ps.length
  run : ∀ (A : Around) (outer : List Env) (s : Shared) (H : Hp) (args : Args) (us : List Value) (vs : List V) (Q : VK) (E : XK) (p : Addr × Obj), A.guards = some [] → L2H.RoomH k A → L2H.PinOk outer H s p →
    Env0 P w K mg base A outer s H → BindsTo s fd args (ps.zip us) → Vals vs us → sp vs H Q E → codeAny (model P w) A (.call (.ref f) args) (CR CX0 outer P w H s Q E) s
section
end
end L3

set_option Elab.async false
set_option linter.all false
set_option maxRecDepth 100000
set_option maxHeartbeats 4000000
namespace My
open PySem PySem.Spec PyProof.Rows L2 L3
def topS (i : Nat) : Stmt := PySem.Challenge.pw_lastopen_k62_webs_made_and_refused.main.body.getD i (.Pass ⟨0, 0, 0, 0⟩)
/-! the plain functions -/
def nameOf (x : Str) : Str := if cutS x none (some 1) = "-" then cutS x (some 1) none else x
def opp (x : Str) : Str := if cutS x none (some 1) = "-" then cutS x (some 1) none else "-" ++ x
def isListD : PyData → Bool
  | .list _ => true | .tuple _ => true | _ => false
def isLit (ns : List Str) : PyData → Bool
  | .str x => decide (nameOf x ∈ ns) | _ => false
def nameD : PyData → Str
  | .str x => nameOf x | _ => ""
def fwGo (ns : List Str) : List PyData → List Str → Nat → Option Nat
  | [], _, _ => none
  | d :: r, met, i => if isLit ns d = false ∨ nameD d ∈ met then some i else fwGo ns r (met ++ [nameD d]) (i + 1)
/-- the index of the first thing that is no literal, or whose name stood before -/
def firstWrong (ns : List Str) : PyData → Option Nat
  | .list ds => fwGo ns ds [] 0 | .tuple ds => fwGo ns ds [] 0 | _ => some 0
def shortD : PyData → Prop
  | .str x => x.length ≤ 1000 | _ => True
def shortL : PyData → Prop
  | .list ds => ds.length ≤ 1000000 ∧ ∀ d ∈ ds, shortD d | .tuple ds => ds.length ≤ 1000000 ∧ ∀ d ∈ ds, shortD d | _ => True
def asc (ls ns : List Str) : List Str := ns.flatMap fun n => [n, ("-" : Str) ++ n].filter fun l => decide (l ∈ ls)
/-- built-ins that the module does not shade -/
structure Bi (mg : Str → Option Value) : Prop where
  len : mg "len" = none
  tuple : mg "tuple" = none
  list : mg "list" = none
  str : mg "str" = none
  int : mg "int" = none
  all : mg "all" = none
  any : mg "any" = none
  isinstance : mg "isinstance" = none
  enumerate : mg "enumerate" = none
  range : mg "range" = none
  repr : mg "repr" = none
theorem sz1000 {n : Nat} (h : n ≤ 1000) : n ≤ sizeLine := Nat.le_trans h (by decide)
theorem szM {n : Nat} (h : n ≤ 16000000) : n ≤ sizeLine := Nat.le_trans h (by decide)
theorem szL {n : Nat} (h : n ≤ 16000000) : n < sizeLine := Nat.lt_of_le_of_lt h (by decide)
section
variable {P : Program} {w : World} {K : PySem.W.Frag} {mg : Str → Option Value} {base : Heap}
abbrev s_name_of : Stmt := topS 16
theorem sc_name_of : FnScope ["literal"] ["literal"] (defScope s_name_of) := ⟨rfl, rfl, rfl, by decide +kernel, rfl, by decide +kernel, by decide +kernel⟩
def sp_name_of (K : PySem.W.Frag) : Sp := sp1 Tx (fun x => x.length ≤ 1000) fun x => Tx (nameOf x)
theorem ok_name_of {f : Addr} {fd : FuncData} (F : Fun K "name_of" "name_of" s_name_of f fd) : FnOk P w K mg base CX0 1 f fd ["literal"] (sp_name_of K) := by
  refine F.ok sc_name_of (fun vs H Q E h => ?_) (fun cdv A outer s H vs Q E hr h => ?_)
  · obtain ⟨x, M, v, rfl, _⟩ := h
    rfl
  · obtain ⟨x, M, v, rfl, mh, r1, hp, q⟩ := h
    have hu := hr.units
    refine ⟨_, (pss_one (ps_ret (pe_ifExp (pt_cmpR (op_eqP hu) (pe_slice sl_X (pv 0) po_none (po_some pe_int)) pe_str (nomark _)) (pe_slice sl_X (pv 0) (po_some pe_int) po_none) (pv 0)))), ?_⟩
    have hv : Gv (tVar 0) (start ["literal"] [v]) M (Tx x) := gv_var rfl r1
    refine s_ret mh (gv_if (gt_test (gv_eqT py_str inj_str (gv_cutS hv (sz1000 hp) (fun _ _ h => h) (fun _ _ h => ⟨1, rfl, h⟩)) (gv_c rfl) (by simp [PyData.depth]))) (fun hb => gv_is (gv_cutS hv (sz1000 hp) (fun _ _ h => ⟨1, rfl, h⟩) fun _ _ h => h) fun M' v h => ?_) fun hb => gv_is hv fun M' v h => ?_) q
    · show Tx (nameOf x) M' v
      rw [show nameOf x = _ from if_pos (by simpa using hb)]; exact h
    · show Tx (nameOf x) M' v
      rw [show nameOf x = _ from if_neg (by simpa using hb)]; exact h
abbrev s_opposite : Stmt := topS 17
theorem sc_opposite : FnScope ["literal"] ["literal"] (defScope s_opposite) := ⟨rfl, rfl, rfl, by decide +kernel, rfl, by decide +kernel, by decide +kernel⟩
def sp_opposite (K : PySem.W.Frag) : Sp := sp1 Tx (fun x => x.length ≤ 1000) fun x => Tx (opp x)
theorem ok_opposite {f : Addr} {fd : FuncData} (F : Fun K "opposite" "opposite" s_opposite f fd) : FnOk P w K mg base CX0 1 f fd ["literal"] (sp_opposite K) := by
  refine F.ok sc_opposite (fun vs H Q E h => ?_) (fun cdv A outer s H vs Q E hr h => ?_)
  · obtain ⟨x, M, v, rfl, _⟩ := h
    rfl
  · obtain ⟨x, M, v, rfl, mh, r1, hp, q⟩ := h
    have hu := hr.units
    refine ⟨_, (pss_one (ps_ret (pe_ifExp (pt_cmpR (op_eqP hu) (pe_slice sl_X (pv 0) po_none (po_some pe_int)) pe_str (nomark _)) (pe_slice sl_X (pv 0) (po_some pe_int) po_none) (pe_op op_addA pe_str (pv 0))))), ?_⟩
    have hv : Gv (tVar 0) (start ["literal"] [v]) M (Tx x) := gv_var rfl r1
    refine s_ret mh (gv_if (gt_test (gv_eqT py_str inj_str (gv_cutS hv (sz1000 hp) (fun _ _ h => h) (fun _ _ h => ⟨1, rfl, h⟩)) (gv_c rfl) (by simp [PyData.depth]))) (fun hb => gv_is (gv_cutS hv (sz1000 hp) (fun _ _ h => ⟨1, rfl, h⟩) fun _ _ h => h) fun M' v h => ?_) fun hb => gv_is (gv_addSt (gv_c rfl) hv (szM (by show 1 + x.length ≤ _; omega))) fun M' v h => ?_) q
    · show Tx (opp x) M' v
      rw [show opp x = _ from if_pos (by simpa using hb)]; exact h
    · show Tx (opp x) M' v
      rw [show opp x = _ from if_neg (by simpa using hb)]; exact h
abbrev s_is_list : Stmt := topS 13
theorem sc_is_list : FnScope ["thing"] ["thing"] (defScope s_is_list) := ⟨rfl, rfl, rfl, by decide +kernel, rfl, by decide +kernel, by decide +kernel⟩
def sp_is_list (K : PySem.W.Frag) : Sp := sp1 (Dd K) (fun _ => True) fun d => Bl (isListD d)
theorem ok_is_list {f : Addr} {fd : FuncData} (F : Fun K "is_list" "is_list" s_is_list f fd) (T : Bi mg) : FnOk P w K mg base CX0 1 f fd ["thing"] (sp_is_list K) := by
  refine F.ok sc_is_list (fun vs H Q E h => ?_) (fun cdv A outer s H vs Q E hr h => ?_)
  · obtain ⟨x, M, v, rfl, _⟩ := h
    rfl
  · obtain ⟨d, M, v, rfl, mh, r1, hp, q⟩ := h
    refine ⟨_, (pss_one (ps_ret (pe_callB call_isiT (by rfl) T.isinstance boot_isinstance (pa_cons (pv 0) (pa_cons (pe_tup (pa_cons (pe_bltn (v := .ty "list") (u := .type "list") (by rfl) T.list (by decide +kernel) rfl) (pa_cons (pe_bltn (v := .ty "tuple") (u := .type "tuple") (by rfl) T.tuple (by decide +kernel) rfl) pa_nil))) pa_nil))))), ?_⟩
    have hv : Gv (tVar 0) (start ["thing"] [v]) M (Dd K d) := gv_var rfl r1
    cases d with
    | list _ => exact s_ret mh (gv_isi2 (b := true) (c := false) hv (by simp only [tyN]; decide +kernel) (by simp only [tyN]; decide +kernel)) q
    | tuple _ => exact s_ret mh (gv_isi2 (b := false) (c := true) hv (by simp only [tyN]; decide +kernel) (by simp only [tyN]; decide +kernel)) q
    | _ => exact s_ret mh (gv_isi2 (b := false) (c := false) hv (by simp only [tyN]; decide +kernel) (by simp only [tyN]; decide +kernel)) q
abbrev s_is_literal : Stmt := topS 18
theorem sc_is_literal : FnScope ["thing", "names"] ["thing", "names"] (defScope s_is_literal) := ⟨rfl, rfl, rfl, by decide +kernel, rfl, by decide +kernel, by decide +kernel⟩
def sp_is_literal (K : PySem.W.Frag) : Sp := sp2 (Dd K) (SqR K Tx) (fun d _ => shortD d) fun d ns => Bl (isLit ns d)
theorem ok_is_literal {f : Addr} {fd : FuncData} (F : Fun K "is_literal" "is_literal" s_is_literal f fd) (T : Bi mg) (c_name_of : Cal P w K mg base 1 "name_of" ["literal"] (sp_name_of K)) : FnOk P w K mg base CX0 2 f fd ["thing", "names"] (sp_is_literal K) := by
  refine F.ok sc_is_literal (fun vs H Q E h => ?_) (fun cdv A outer s H vs Q E hr h => ?_)
  · obtain ⟨x, y, M, v, w, rfl, _⟩ := h
    rfl
  · obtain ⟨d, ns, M, v, w, rfl, mh, r1, r2, hp, q⟩ := h
    have hu := hr.units
    refine ⟨_, (pss_one (ps_ret (pe_and (pe_callB call_isi (by rfl) T.isinstance boot_isinstance (pa_cons (pv 0) (pa_cons (pe_bltn (v := .ty "str") (u := .type "str") (by rfl) T.str (by decide +kernel) rfl) pa_nil))) (pe_one (pe_cmpR (op_inA hu) (pe_f c_name_of (hr.mono (by decide)) (pa_cons (pv 0) pa_nil)) (pv 1) (by rfl)))))), ?_⟩
    have hv : Gv (tVar 0) (start ["thing", "names"] [v, w]) M (Dd K d) := gv_var rfl r1
    cases d with
    | str x =>
      cases r1
      exact s_ret mh (gv_is (gv_andV (gv_isi (b := true) hv (by simp only [tyN]; decide +kernel)) fun _ => gv_inA (K := K) (gv_call1 (gv_var rfl rfl) hp) (gv_var rfl (.inl r2))) fun M' v h => by simpa [isLit] using h) q
    | _ => exact s_ret mh (gv_andV (c := false) (gv_isi (b := false) hv (by simp only [tyN]; decide +kernel)) fun h => nomatch h) q
end
end My

set_option Elab.async false
set_option linter.all false
set_option maxRecDepth 100000
set_option maxHeartbeats 4000000
namespace My
open PySem PySem.Spec PyProof.Rows L2 L3
section
variable {P : Program} {w : World} {K : PySem.W.Frag} {mg : Str → Option Value} {base : Heap}
abbrev s_first_wrong : Stmt := topS 19
theorem sc_first_wrong : FnScope ["things", "names", "met", "index", "thing"] ["things", "names"] (defScope s_first_wrong) := ⟨rfl, rfl, rfl, by decide +kernel, rfl, by decide +kernel, by decide +kernel⟩
def sp_first_wrong (K : PySem.W.Frag) : Sp := sp2 (Dd K) (SqR K Tx) (fun d _ => shortL d) fun d ns => OpN (firstWrong ns d)
theorem lit_shape {ns : List Str} {d : PyData} (h : isLit ns d = true) : ∃ x, d = .str x ∧ nameOf x ∈ ns := by
  cases d with
  | str x => exact ⟨x, rfl, by simpa [isLit] using h⟩
  | _ => exact absurd h (by simp [isLit])
theorem ok_first_wrong {f : Addr} {fd : FuncData} (F : Fun K "first_wrong" "first_wrong" s_first_wrong f fd) (T : Bi mg) (c_is_list : Cal P w K mg base 1 "is_list" ["thing"] (sp_is_list K)) (c_name_of : Cal P w K mg base 1 "name_of" ["literal"] (sp_name_of K))
    (c_is_literal : Cal P w K mg base 2 "is_literal" ["thing", "names"] (sp_is_literal K)) : FnOk P w K mg base CX0 3 f fd ["things", "names"] (sp_first_wrong K) := by
  refine F.ok sc_first_wrong (fun vs H Q E h => ?_) (fun cdv A outer s H vs Q E hr h => ?_)
  · obtain ⟨x, y, M, v, w, rfl, _⟩ := h
    rfl
  · obtain ⟨d, ns, M, v, w, rfl, mh, r1, r2, hp, q⟩ := h
    have hu := hr.units
    refine ⟨_, (pss_cons (ps_if (pt_not (pt_val (pe_f c_is_list (hr.mono (by decide)) (pa_cons (pv 0) pa_nil)))) (pss_one (ps_ret pe_int)) pss_nil)
      (pss_cons (ps_set (i := 2) sc_first_wrong.nd rfl (by first | exact .inl rfl | exact .inr rfl) (pe_lst pa_nil))
      (pss_cons (ps_for PassesOwn.never (by rfl) (pi_en (by rfl) T.enumerate (pa_cons (pv 0) pa_nil)) (pg_tup (by rfl) (pgs_cons (pg_name (i := 3) sc_first_wrong.nd rfl (by first | exact .inl rfl | exact .inr rfl)) (pgs_cons (pg_name (i := 4) sc_first_wrong.nd rfl (by first | exact .inl rfl | exact .inr rfl)) pgs_nil))) (pss_cons (ps_if (PW.pt (pw_or (pt_not (pt_val (pe_f c_is_literal (hr.mono (by decide)) (pa_cons (pv 4) (pa_cons (pv 1) pa_nil))))) (pw_or1 (pt_cmpR (op_inA hu) (pe_f c_name_of (hr.mono (by decide)) (pa_cons (pv 4) pa_nil)) (pv 2) (by rfl))))) (pss_one (ps_ret (pv 3))) pss_nil)
      (pss_one (ps_expr (pe_bm PySem.F.plainAttrs_list PySem.F.slot_list_append PySem.F.type_list_append mt_append (pv 2) (pa_cons (pe_f c_name_of (hr.mono (by decide)) (pa_cons (pv 4) pa_nil)) pa_nil))))))
      (pss_one (ps_ret pe_non))))), ?_⟩
    refine q_if mh (gt_not (gt_B (gv_call1 (gv_var rfl r1) trivial))) (fun hb H1 hh1 => ?_) (fun hb H1 hh1 => ?_)
    all_goals have g1 := Gr.idle mh hh1
    · refine s_ret g1.mh (P := It' 0) (gv_c rfl) fun v M' H' g r => q v M' H' (g1.trans g) ?_
      have : firstWrong ns d = some 0 := by
        cases d with
        | list _ => simp [isListD] at hb
        | tuple _ => simp [isListD] at hb
        | _ => rfl
      show v = match firstWrong ns d with | none => V.non | some i => V.int (i : Nat)
      rw [this]
      exact r
    · obtain ⟨ds, sq, efw, hlen, hsh⟩ : ∃ ds, SqR K (Dd K) ds M v ∧ firstWrong ns d = fwGo ns ds [] 0 ∧ ds.length ≤ 1000000 ∧ ∀ d ∈ ds, shortD d := by
        cases d with
        | list ds => exact ⟨ds, dp_sqL r1, rfl, hp.1, hp.2⟩
        | tuple ds => exact ⟨ds, dp_sqT r1, rfl, hp.1, hp.2⟩
        | _ => simp [isListD] at hb
      refine q_asgL g1.mh gl_nil fun p vs M2 H2 g2 h0 m0 hp2 hv => ?_
      subst hv
      have g02 := g1.trans g2
      refine q_forE (R1 := Dd K) (xs := ds) g2.mh (gv_var rfl (Mon.mono g02.mm sq))
        (fun M1' i σ' M' H' => ∃ y3 y4, Gr M H M' H' ∧ Same M1' M' ∧ Same M M' ∧ Own H M' H' p ((((ds.take i).map nameD)).map V.str) ∧ σ' = [some v, some w, some (.ref p), y3, y4] ∧ fwGo ns ds [] 0 = fwGo ns (ds.drop i) ((ds.take i).map nameD) i)
        (fun M3 H3 g3 => ⟨none, none, g02.trans g3, Same.refl _, (g02.trans g3).mm, Own.step ⟨g1.hh.free h0, m0, hp2⟩ g3, rfl, rfl⟩)
        (fun M3 i σ' M' H' ⟨_, _, g, s1, _⟩ => ⟨s1, g.mh⟩) ?_ ?_
      · rintro M3 i x v' σ' M' H' H'' sM hx ⟨y3, y4, g, s1, s2, ow, rfl, efw2⟩ gE rx
        have hxm : x ∈ ds := List.mem_of_getElem? hx
        have hil : i < ds.length := (List.getElem?_eq_some_iff.mp hx).1
        have g' := g.trans gE
        have ow' := ow.step gE
        have r2' : SqR K Tx ns M' w := Mon.mono s2 r2
        have et : ds.take (i + 1) = ds.take i ++ [x] := by rw [List.take_add_one, hx]; rfl
        have ed : ds.drop i = x :: ds.drop (i + 1) := by rw [List.drop_eq_getElem_cons hil]; congr 1; exact (List.getElem?_eq_some_iff.mp hx).2
        have up := ow'.up
        have pd := pd_of_tx (M := M') ((ds.take i).map nameD)
        refine q_if (ow'.fr g'.mh) (gt_or (c := decide (nameD x ∈ (ds.take i).map nameD)) (gt_not (gt_B (gv_call2 (R1 := Dd K) (R2 := SqR K Tx) (gv_var rfl (Mon.mono up rx)) (gv_var rfl (Mon.mono up r2')) (hsh x hxm)))) fun hl => ?_) (fun hb H4 hh4 => ?_) (fun hb H4 hh4 => ?_)
        · obtain ⟨y, rfl, _⟩ := lit_shape (d := x) (ns := ns) (by simpa using hl)
          cases rx
          exact gt_is (gt_test (gv_inA (K := K) (gv_call1 (gv_var rfl rfl) (hsh _ hxm)) (gv_var rfl (.inl (.inl (ow'.lst pd)))))) (by simp [nameD])
        · refine s_ret (P := It' (i : Nat)) (g'.mh.trans hh4) (gv_var rfl rfl) fun v5 M5 H5 g5 r5 => q v5 M5 H5 ((g'.trans (.idle g'.mh hh4)).trans g5) ?_
          show v5 = match firstWrong ns d with | none => V.non | some i => V.int (i : Nat)
          rw [efw, efw2, ed, fwGo, if_pos (by simpa using hb)]
          exact r5
        · obtain ⟨hb1, hb2⟩ : isLit ns x = true ∧ ¬ nameD x ∈ (ds.take i).map nameD := by simpa using hb
          obtain ⟨y, rfl, _⟩ := lit_shape hb1
          cases rx
          have g4 := g'.trans (.idle g'.mh hh4)
          have ow4 := ow'.idle hh4
          refine s_app (P := Tx (nameOf y)) g4.mh rfl ow4.h (szL (by simp; omega)) (gv_call1 (gv_var rfl rfl) (hsh _ hxm)) fun v5 M5 H5 g5 r5 => ?_
          cases r5
          have ow5 := ow4.step g5
          refine ⟨M5, _, _, (g4.trans g5).mut ow5.h0 ow5.m, s1.trans g5.mm, s2.trans g5.mm, ?_, rfl, ?_⟩
          · rw [et, List.map_append, List.map_append]
            exact ow5.put
          · rw [efw2, ed, fwGo, if_neg (by simpa using hb), et, List.map_append]
            rfl
      · rintro M3 σ' M' H' sM ⟨y3, y4, g, s1, s2, ow, rfl, efw2⟩
        refine s_ret g.mh (P := fun _ v => v = .non) (gv_c rfl) fun v M' H' g3 r => q v M' H' (g.trans g3) ?_
        show v = match firstWrong ns d with | none => V.non | some i => V.int (i : Nat)
        rw [efw, efw2, List.drop_length]
        exact r
end
end My

set_option Elab.async false
set_option linter.all false
set_option maxRecDepth 100000
set_option maxHeartbeats 4000000
namespace My
open PySem PySem.Spec PyProof.Rows L2 L3
section
variable {P : Program} {w : World} {K : PySem.W.Frag} {mg : Str → Option Value} {base : Heap}
def Shorts (ns : List Str) : Prop := ns.length ≤ 1000 ∧ ∀ n ∈ ns, n.length ≤ 900
abbrev s_ascending : Stmt := topS 20
theorem sc_ascending : FnScope ["literals", "names", "found", "name", "literal"] ["literals", "names"] (defScope s_ascending) := ⟨rfl, rfl, rfl, by decide +kernel, rfl, by decide +kernel, by decide +kernel⟩
def sp_ascending (K : PySem.W.Frag) : Sp := sp2 (CtR K) (SqR K Tx) (fun _ ns => Shorts ns) fun ls ns => TT (asc ls ns)
theorem asc_len (ls : List Str) : ∀ ns : List Str, (asc ls ns).length ≤ 2 * ns.length
  | [] => Nat.le_refl _
  | n :: ns => by
    have ih := asc_len ls ns
    have h2 := List.length_filter_le (fun l => decide (l ∈ ls)) [n, ("-" : Str) ++ n]
    unfold asc at ih ⊢
    rw [List.flatMap_cons, List.length_append, List.length_cons]
    simp only [List.length_cons, List.length_nil] at h2
    omega
theorem ok_ascending {f : Addr} {fd : FuncData} (F : Fun K "ascending" "ascending" s_ascending f fd) (T : Bi mg) : FnOk P w K mg base CX0 1 f fd ["literals", "names"] (sp_ascending K) := by
  refine F.ok sc_ascending (fun vs H Q E h => ?_) (fun cdv A outer s H vs Q E hr h => ?_)
  · obtain ⟨x, y, M, v, w, rfl, _⟩ := h
    rfl
  · obtain ⟨ls, ns, M, v, w, rfl, mh, r1, r2, hp, q⟩ := h
    have hu := hr.units
    refine ⟨_, (pss_cons (ps_set (i := 2) sc_ascending.nd rfl (by first | exact .inl rfl | exact .inr rfl) (pe_lst pa_nil))
      (pss_cons (ps_for PassesOwn.never (by rfl) (pi_sq (pv 1)) (pg_name (i := 3) sc_ascending.nd rfl (by first | exact .inl rfl | exact .inr rfl)) (pss_one (ps_expr (pe_bm PySem.F.plainAttrs_list PySem.F.slot_list_extend PySem.F.type_list_extend mt_extend (pv 2) (pa_cons (pe_lc (own := [("literal", 4)]) (g := (gName 4)) (tt := (tTest (tOp (rInA K false) (tVar 4) (tVar 0)))) (te := (tVar 4)) (by rfl) sc_ascending.nd (pi_sq (pe_tup (pa_cons (pv 3) (pa_cons (pe_op op_addA pe_str (pv 3)) pa_nil)))) (blkOk_by (by rfl)) (fun _ _ _ _ _ => (pg_name (i := 4) sc_ascending.nd rfl (by first | exact .inl rfl | exact .inr rfl))) (fun _ _ _ _ _ => (pts_one (pt_cmpR (op_inA hu) (pv 4) (pv 0) (by rfl)))) (fun _ _ _ _ _ => (pv 4))) pa_nil)))))
      (pss_one (ps_ret (pe_callTy call_tupA (by rfl) T.tuple boot_tuple (pa_cons (pv 2) pa_nil)))))), ?_⟩
    refine q_asgL mh gl_nil fun p vs M2 H2 g2 h0 m0 hp2 hv => ?_
    subst hv
    refine q_for (R1 := Tx) (xs := ns) g2.mh (gv_var rfl (Mon.mono g2.mm r2))
      (fun M1' i σ' M' H' => ∃ y3 y4, Gr M H M' H' ∧ Same M1' M' ∧ Same M M' ∧ Own H M' H' p ((asc ls (ns.take i)).map V.str) ∧ σ' = [some v, some w, some (.ref p), y3, y4])
      (fun M3 H3 g3 => ⟨none, none, g2.trans g3, Same.refl _, (g2.trans g3).mm, Own.step ⟨h0, m0, hp2⟩ g3, rfl⟩)
      (fun M3 i σ' M' H' ⟨_, _, g, s1, _⟩ => ⟨s1, g.mh⟩) ?_ ?_
    · rintro M3 i n v' σ' M' H' sM hx ⟨y3, y4, g, s1, s2, ow, rfl⟩ rx
      cases rx
      have hn : n.length ≤ 900 := hp.2 n (List.mem_of_getElem? hx)
      have hil : i < ns.length := (List.getElem?_eq_some_iff.mp hx).1
      have et : ns.take (i + 1) = ns.take i ++ [n] := by rw [List.take_add_one, hx]; rfl
      refine s_ext g.mh rfl ow.h (gl_lc (R := Tx) (S := Tx) (gv_is (gv_tup2 (K := K) (gv_var rfl rfl) (gv_addSt (gv_c rfl) (gv_var rfl rfl) (szM (by show 1 + n.length ≤ _; omega)))) fun _ _ h => .inr h) (by show 2 ≤ sizeLine; decide) (fun l => decide (l ∈ ls)) id
        (fun l _ M1 vl sm hl => gt_is (gt_test (gv_inA (K := K) (gv_var rfl hl) (gv_var rfl (Mon.mono (s2.trans sm) r1)))) (by simp)) (fun l _ _ M1 vl sm hl => gv_var rfl hl)) (fun M4 ws h => ?_) fun ws M4 H4 g4 h => ?_
      · have l1 := h.length
        have l2 := asc_len ls (ns.take i)
        have l3 := List.length_filter_le (fun l => decide (l ∈ ls)) [n, ("-" : Str) ++ n]
        have l4 := hp.1
        rw [List.length_map] at l1 ⊢
        rw [List.length_take] at l2
        simp only [List.length_cons, List.length_nil] at l3
        exact szM (by omega)
      · have e4 := pd_tx h
        subst e4
        have ow4 := ow.step g4
        refine ⟨M4, _, _, (g.trans g4).mut ow4.h0 ow4.m, s1.trans g4.mm, s2.trans g4.mm, ?_, rfl⟩
        have e5 : asc ls (ns.take (i + 1)) = asc ls (ns.take i) ++ ([n, ("-" : Str) ++ n].filter fun l => decide (l ∈ ls)).map id := by
          rw [et, List.map_id]; unfold asc; rw [List.flatMap_append]; simp
        rw [e5, List.map_append]
        exact ow4.put
    · rintro M3 σ' M' H' sM ⟨y3, y4, g, s1, s2, ow, rfl⟩
      rw [List.take_length] at ow
      exact s_retTup g.mh rfl ow.h fun l nl => q _ _ _ (g.trans (.new g.mh nl)) (TT.new _)
end
end My

set_option Elab.async false
set_option linter.all false
set_option maxRecDepth 100000
set_option maxHeartbeats 4000000
namespace My
open PySem PySem.Spec PyProof.Rows L2 L3
def g_LETTERS : Str := "abcdefghijklmnopqrstuvwxyz"
structure Gb (mg : Str → Option Value) : Prop extends Bi mg where
  g_LETTERS : ∃ t, mg "LETTERS" = some (.str My.g_LETTERS t)
def isNm (x : Str) : Bool := decide (1 ≤ x.length) && decide (x.length ≤ 8) && x.cps.toList.all fun c => decide (c ∈ g_LETTERS.cps.toList)
def isNmD : PyData → Bool
  | .str x => isNm x | _ => false
section
variable {P : Program} {w : World} {K : PySem.W.Frag} {mg : Str → Option Value} {base : Heap}
abbrev s_is_name : Stmt := topS 14
theorem sc_is_name : FnScope ["thing", "sign"] ["thing"] (defScope s_is_name) := ⟨rfl, rfl, rfl, by decide +kernel, rfl, by decide +kernel, by decide +kernel⟩
def sp_is_name (K : PySem.W.Frag) : Sp := sp1 (Dd K) (fun d => shortD d) fun d => Bl (isNmD d)
theorem ok_is_name {f : Addr} {fd : FuncData} (F : Fun K "is_name" "is_name" s_is_name f fd) (T : Gb mg) : FnOk P w K mg base CX0 1 f fd ["thing"] (sp_is_name K) := by
  refine F.ok sc_is_name (fun vs H Q E h => ?_) (fun cdv A outer s H vs Q E hr h => ?_)
  · obtain ⟨x, M, v, rfl, _⟩ := h
    rfl
  · obtain ⟨d, M, v, rfl, mh, r1, hp, q⟩ := h
    have hu := hr.units
    obtain ⟨tk, hL⟩ := T.g_LETTERS
    refine ⟨_, (pss_one (ps_ret (pe_and (pe_callB call_isi (by rfl) T.isinstance boot_isinstance (pa_cons (pv 0) (pa_cons (pe_bltn (v := .ty "str") (u := .type "str") (by rfl) T.str (by decide +kernel) rfl) pa_nil))) (pe_and (pe_chain op_le op_le pe_int (pe_callB call_lenA (by rfl) T.len boot_len (pa_cons (pv 0) pa_nil)) pe_int) (pe_one (pe_callB (cr_all rfl) (by rfl) T.all boot_all (pa_cons (pe_lc (own := [("sign", 1)]) (g := (gName 1)) (tt := tYes) (te := (tOp (rInA K false) (tVar 1) (tC (.str g_LETTERS)))) (by rfl) sc_is_name.nd (pi_str (pv 0)) (blkOk_by (by rfl)) (fun _ _ _ _ _ => (pg_name (i := 1) sc_is_name.nd rfl (by first | exact .inl rfl | exact .inr rfl))) (fun _ _ _ _ _ => pts_nil) (fun _ _ _ _ _ => (pe_cmpR (op_inA hu) (pv 1) (pe_glob (by rfl) hL ⟨_, rfl⟩) (by rfl)))) pa_nil))))))), ?_⟩
    have hv : Gv (tVar 0) (start ["thing", "sign"] [v]) M (Dd K d) := gv_var rfl r1
    cases d with
    | str x =>
      cases r1
      have hx : Gv (tVar 0) (start ["thing", "sign"] [.str x]) M (Tx x) := gv_var rfl rfl
      refine s_ret mh (gv_is (gv_andV (gv_isi (b := true) hv (by simp only [tyN]; decide +kernel)) fun _ => gv_andV (gv_chain (gv_c rfl) (gv_lenS (K := K) hx (sz1000 hp)) (gv_c rfl)) fun hb => gv_all (K := K)
        (gl_m1 (S := Bl) (gi_str hx) ?_ (fun c => decide (c ∈ g_LETTERS.cps.toList)) fun c _ M1 v sm r => gv_is (gv_sgn (K := K) (c := c) (gv_var rfl r) (gv_c rfl)) fun M' v h => by simpa using h)) fun M' v h => ?_) q
      · exact sz1000 (by rw [Array.length_toList]; exact hp)
      · show v = .bl (isNm x)
        rw [show v = _ from h]
        have e1 : ∀ n : Nat, decide ((1 : Int) ≤ (n : Int)) = decide (1 ≤ n) := fun n => by simp only [decide_eq_decide]; omega
        have e2 : ∀ n : Nat, decide ((n : Int) ≤ 8) = decide (n ≤ 8) := fun n => by simp only [decide_eq_decide]; omega
        simp only [isNm, List.all_map, Bool.true_and, e1, e2]
        rfl
    | _ => exact s_ret mh (gv_andV (c := false) (gv_isi (b := false) hv (by simp only [tyN]; decide +kernel)) fun h => nomatch h) q
abbrev s_checked_names : Stmt := topS 15
theorem sc_checked_names : FnScope ["things", "known", "found", "index", "thing"] ["things", "known"] (defScope s_checked_names) := ⟨rfl, rfl, rfl, by decide +kernel, rfl, by decide +kernel, by decide +kernel⟩
/-- names, no one twice, none known -/
def NamesOk (xs known : List Str) : Prop := xs.Nodup ∧ (∀ x ∈ xs, isNm x = true ∧ x ∉ known) ∧ xs.length ≤ 1000
theorem isNm_len {x : Str} (h : isNm x = true) : x.length ≤ 8 := by
  simp only [isNm, Bool.and_eq_true, decide_eq_true_eq] at h
  exact h.1.2
def sp_checked_names (K : PySem.W.Frag) : Sp := sp2 (SqR K Tx) (SqR K Tx) (fun xs known => NamesOk xs known) fun xs _ => TT xs
theorem ok_checked_names {f : Addr} {fd : FuncData} (F : Fun K "checked_names" "checked_names" s_checked_names f fd) (T : Gb mg) (c_is_name : Cal P w K mg base 1 "is_name" ["thing"] (sp_is_name K)) : FnOk P w K mg base CX0 2 f fd ["things", "known"] (sp_checked_names K) := by
  refine F.ok sc_checked_names (fun vs H Q E h => ?_) (fun cdv A outer s H vs Q E hr h => ?_)
  · obtain ⟨x, y, M, v, w, rfl, _⟩ := h
    rfl
  · obtain ⟨xs, kn, M, v, w, rfl, mh, r1, r2, hp, q⟩ := h
    have hu := hr.units
    refine ⟨_, (pss_cons (ps_set (i := 2) sc_checked_names.nd rfl (by first | exact .inl rfl | exact .inr rfl) (pe_lst pa_nil))
      (pss_cons (ps_for PassesOwn.never (by rfl) (pi_en (by rfl) T.enumerate (pa_cons (pv 0) pa_nil)) (pg_tup (by rfl) (pgs_cons (pg_name (i := 3) sc_checked_names.nd rfl (by first | exact .inl rfl | exact .inr rfl)) (pgs_cons (pg_name (i := 4) sc_checked_names.nd rfl (by first | exact .inl rfl | exact .inr rfl)) pgs_nil))) (pss_cons (ps_if (PW.pt (pw_or (pt_not (pt_val (pe_f c_is_name (hr.mono (by decide)) (pa_cons (pv 4) pa_nil)))) (pw_or (pt_cmpR (op_inA hu) (pv 4) (pv 2) (by rfl)) (pw_or1 (pt_cmpR (op_inA hu) (pv 4) (pv 1) (by rfl)))))) (pss_one ps_never) pss_nil)
      (pss_one (ps_expr (pe_bm PySem.F.plainAttrs_list PySem.F.slot_list_append PySem.F.type_list_append mt_append (pv 2) (pa_cons (pv 4) pa_nil))))))
      (pss_one (ps_ret (pe_callTy call_tupA (by rfl) T.tuple boot_tuple (pa_cons (pv 2) pa_nil)))))), ?_⟩
    obtain ⟨nd, ok, hl⟩ := hp
    refine q_asgL mh gl_nil fun p vs M2 H2 g2 h0 m0 hp2 hv => ?_
    subst hv
    refine q_forE (R1 := Tx) (xs := xs) g2.mh (gv_var rfl (Mon.mono g2.mm r1))
      (fun M1' i σ' M' H' => ∃ y3 y4, Gr M H M' H' ∧ Same M1' M' ∧ Same M M' ∧ Own H M' H' p ((xs.take i).map V.str) ∧ σ' = [some v, some w, some (.ref p), y3, y4])
      (fun M3 H3 g3 => ⟨none, none, g2.trans g3, Same.refl _, (g2.trans g3).mm, Own.step ⟨h0, m0, hp2⟩ g3, rfl⟩)
      (fun M3 i σ' M' H' ⟨_, _, g, s1, _⟩ => ⟨s1, g.mh⟩) ?_ ?_
    · rintro M3 i x v' σ' M' H' H'' sM hx ⟨y3, y4, g, s1, s2, ow, rfl⟩ gE rx
      cases rx
      have hxm : x ∈ xs := List.mem_of_getElem? hx
      have hil : i < xs.length := (List.getElem?_eq_some_iff.mp hx).1
      have et : xs.take (i + 1) = xs.take i ++ [x] := by rw [List.take_add_one, hx]; rfl
      have hnt : x ∉ xs.take i := fun hm => by
        obtain ⟨k, hk, ek⟩ := List.mem_take_iff_getElem.mp hm
        have e2 := (List.getElem?_eq_some_iff.mp hx).2
        have := (List.getElem_inj nd).mp (ek.trans e2.symm)
        omega
      have g' := g.trans gE
      have ow' := ow.step gE
      have up := ow'.up
      refine q_if (ow'.fr g'.mh) (b := false) (gt_is (gt_or (c := false) (gt_not (gt_B (gv_call1 (R1 := Dd K) (x := .str x) (gv_var rfl (.str x)) (Nat.le_trans (isNm_len (ok x hxm).1) (by decide))))) fun _ => gt_is (gt_or (c := false)
          (gt_test (gv_inA (K := K) (gv_var rfl rfl) (gv_var rfl (.inl (.inl (ow'.lst (pd_of_tx _))))))) fun _ => gt_is (gt_test (gv_inA (K := K) (gv_var rfl rfl) (gv_var rfl (.inl (Mon.mono (s2.trans up) r2))))) (by simp [(ok x hxm).2])) (by simp [hnt])) (by simp [isNmD, (ok x hxm).1]))
        (fun hb => nomatch hb) (fun _ H4 hh4 => ?_)
      have g4 := g'.trans (.idle g'.mh hh4)
      have ow4 := ow'.idle hh4
      refine s_app (P := Tx x) g4.mh rfl ow4.h (szL (by simp; omega)) (gv_var rfl rfl) fun v5 M5 H5 g5 r5 => ?_
      cases r5
      have ow5 := ow4.step g5
      refine ⟨M5, _, _, (g4.trans g5).mut ow5.h0 ow5.m, s1.trans g5.mm, s2.trans g5.mm, ?_, rfl⟩
      rw [et, List.map_append]
      exact ow5.put
    · rintro M3 σ' M' H' sM ⟨y3, y4, g, s1, s2, ow, rfl⟩
      rw [List.take_length] at ow
      exact s_retTup g.mh rfl ow.h fun l nl => q _ _ _ (g.trans (.new g.mh nl)) (TT.new _)
end
end My

set_option Elab.async false
set_option linter.all false
set_option maxRecDepth 100000
set_option maxHeartbeats 4000000
namespace My
open PySem PySem.Spec PyProof.Rows L2 L3
/-- a code: signs, helpers, clauses -/
structure CodeD where
  signs : List Str
  helpers : List Str
  clauses : List (List Str)
def CodeD.names (c : CodeD) : List Str := c.signs ++ c.helpers
def codeF (va vb vn vc : V) : List (Str × V) := putF "clause_row" vc (putF "names" vn (putF "helper_row" vb (putF "sign_row" va [])))
def CodeR (C : Addr) : Rl CodeD := fun c M v => ∃ a dx va vb vn vc, v = .ref a ∧ M a = some (.ins C dx (codeF va vb vn vc)) ∧ TT c.signs M va ∧ TT c.helpers M vb ∧ TT c.names M vn ∧ TuR TT c.clauses M vc
instance {C : Addr} : Mon (CodeR C) := ⟨fun e ⟨a, dx, va, vb, vn, vc, h1, h2, h3, h4, h5, h6⟩ => ⟨a, dx, va, vb, vn, vc, h1, e _ _ h2, Mon.mono e h3, Mon.mono e h4, Mon.mono e h5, Mon.mono e h6⟩⟩
/-- the class as the top has made it -/
structure CodeT (K : PySem.W.Frag) (mg : Str → Option Value) (C : Addr) : Prop where
  cl : Cls K C
  nS : NoAttr K C "sign_row"
  nH : NoAttr K C "helper_row"
  nN : NoAttr K C "names"
  nC : NoAttr K C "clause_row"
def mkCode (ss hs : List Str) (cs : List (List Str)) : CodeD := ⟨ss, hs, once (cs.map fun c => asc c (ss ++ hs))⟩
theorem codeF_sign (va vb vn vc : V) : (codeF va vb vn vc).lookup ("sign_row" : Str) = some va := by
  unfold codeF
  rw [lookup_putF, if_neg (by decide +kernel), lookup_putF, if_neg (by decide +kernel), lookup_putF, if_neg (by decide +kernel), lookup_putF, if_pos rfl]
theorem codeF_helper (va vb vn vc : V) : (codeF va vb vn vc).lookup ("helper_row" : Str) = some vb := by
  unfold codeF
  rw [lookup_putF, if_neg (by decide +kernel), lookup_putF, if_neg (by decide +kernel), lookup_putF, if_pos rfl]
theorem codeF_names (va vb vn vc : V) : (codeF va vb vn vc).lookup ("names" : Str) = some vn := by
  unfold codeF
  rw [lookup_putF, if_neg (by decide +kernel), lookup_putF, if_pos rfl]
theorem codeF_clause (va vb vn vc : V) : (codeF va vb vn vc).lookup ("clause_row" : Str) = some vc := by
  unfold codeF
  rw [lookup_putF, if_pos rfl]
section
variable {K : PySem.W.Frag} {mg : Str → Option Value} {σ : Sl} {M : Hp} {te : TE} {C : Addr} {c : CodeD}
theorem gv_sign (T : CodeT K mg C) (h : Gv te σ M (CodeR C c)) : Gv (tFld K te "sign_row") σ M (TT c.signs) := gv_fld h fun M' v ⟨a, dx, va, vb, vn, vc, h1, h2, h3, h4, h5, h6⟩ => ⟨a, C, dx, _, va, h1, h2, T.cl, T.nS, codeF_sign .., h3⟩
theorem gv_helper (T : CodeT K mg C) (h : Gv te σ M (CodeR C c)) : Gv (tFld K te "helper_row") σ M (TT c.helpers) := gv_fld h fun M' v ⟨a, dx, va, vb, vn, vc, h1, h2, h3, h4, h5, h6⟩ => ⟨a, C, dx, _, vb, h1, h2, T.cl, T.nH, codeF_helper .., h4⟩
theorem gv_names (T : CodeT K mg C) (h : Gv te σ M (CodeR C c)) : Gv (tFld K te "names") σ M (TT c.names) := gv_fld h fun M' v ⟨a, dx, va, vb, vn, vc, h1, h2, h3, h4, h5, h6⟩ => ⟨a, C, dx, _, vn, h1, h2, T.cl, T.nN, codeF_names .., h5⟩
theorem gv_clause (T : CodeT K mg C) (h : Gv te σ M (CodeR C c)) : Gv (tFld K te "clause_row") σ M (TuR TT c.clauses) := gv_fld h fun M' v ⟨a, dx, va, vb, vn, vc, h1, h2, h3, h4, h5, h6⟩ => ⟨a, C, dx, _, vc, h1, h2, T.cl, T.nC, codeF_clause .., h6⟩
end
section
variable {P : Program} {w : World} {K : PySem.W.Frag} {mg : Str → Option Value} {base : Heap}
def ClOk (ns c : List Str) : Prop := fwGo ns (c.map PyData.str) [] 0 = none ∧ c.length ≤ 1000000 ∧ ∀ l ∈ c, l.length ≤ 1000
theorem cl_d {ns c : List Str} {M : Hp} {v : V} (h : SqR K Tx c M v) (ok : ClOk ns c) : ∃ d, Dp K M v d ∧ shortL d ∧ firstWrong ns d = none := by
  have hs : ∀ d ∈ c.map PyData.str, shortD d := fun d hd => by
    obtain ⟨l, hl, rfl⟩ := List.mem_map.mp hd
    exact ok.2.2 l hl
  rcases h with h | h
  · exact ⟨_, py_lst py_str _ _ _ h, ⟨by rw [List.length_map]; exact ok.2.1, hs⟩, ok.1⟩
  · exact ⟨_, py_tup py_str _ _ _ h, ⟨by rw [List.length_map]; exact ok.2.1, hs⟩, ok.1⟩
abbrev s_checked_clauses : Stmt := topS 33
theorem sc_checked_clauses : FnScope ["clauses", "names", "found", "index", "thing"] ["clauses", "names"] (defScope s_checked_clauses) := ⟨rfl, rfl, rfl, by decide +kernel, rfl, by decide +kernel, by decide +kernel⟩
def sp_checked_clauses (K : PySem.W.Frag) : Sp := sl2 (SqR K (SqR K Tx)) (SqR K Tx) (fun cs ns => Shorts ns ∧ cs.length ≤ 1000000 ∧ ∀ c ∈ cs, ClOk ns c) fun cs ns M ws => Pd TT M (cs.map fun c => asc c ns) ws
theorem ok_checked_clauses {f : Addr} {fd : FuncData} (F : Fun K "checked_clauses" "checked_clauses" s_checked_clauses f fd) (T : Gb mg) (c_first_wrong : Cal P w K mg base 3 "first_wrong" ["things", "names"] (sp_first_wrong K)) (c_ascending : Cal P w K mg base 1 "ascending" ["literals", "names"] (sp_ascending K)) :
    FnOk P w K mg base CX0 4 f fd ["clauses", "names"] (sp_checked_clauses K) := by
  refine F.ok sc_checked_clauses (fun vs H Q E h => ?_) (fun cdv A outer s H vs Q E hr h => ?_)
  · obtain ⟨x, y, M, v, w, rfl, _⟩ := h
    rfl
  · obtain ⟨cs, ns, M, v, w, rfl, mh, r1, r2, ⟨hsh, hcl, hok⟩, q⟩ := h
    have hu := hr.units
    refine ⟨_, (pss_cons (ps_set (i := 2) sc_checked_clauses.nd rfl (by first | exact .inl rfl | exact .inr rfl) (pe_lst pa_nil))
      (pss_cons (ps_for PassesOwn.never (by rfl) (pi_en (by rfl) T.enumerate (pa_cons (pv 0) pa_nil)) (pg_tup (by rfl) (pgs_cons (pg_name (i := 3) sc_checked_clauses.nd rfl (by first | exact .inl rfl | exact .inr rfl)) (pgs_cons (pg_name (i := 4) sc_checked_clauses.nd rfl (by first | exact .inl rfl | exact .inr rfl)) pgs_nil))) (pss_cons (ps_if (pt_cmp (pc_notN (pe_f c_first_wrong (hr.mono (by decide)) (pa_cons (pv 4) (pa_cons (pv 1) pa_nil))))) (pss_one ps_never) pss_nil)
      (pss_one (ps_expr (pe_bm PySem.F.plainAttrs_list PySem.F.slot_list_append PySem.F.type_list_append mt_append (pv 2) (pa_cons (pe_f c_ascending (hr.mono (by decide)) (pa_cons (pv 4) (pa_cons (pv 1) pa_nil))) pa_nil))))))
      (pss_one (ps_ret (pv 2))))), ?_⟩
    refine q_asgL mh gl_nil fun p vs M2 H2 g2 h0 m0 hp2 hv => ?_
    subst hv
    refine q_forE (R1 := SqR K Tx) (xs := cs) g2.mh (gv_var rfl (Mon.mono g2.mm r1))
      (fun M1' i σ' M' H' => ∃ y3 y4 ws, Gr M H M' H' ∧ Same M1' M' ∧ Same M M' ∧ Own H M' H' p ws ∧ Pd TT M' ((cs.take i).map fun c => asc c ns) ws ∧ σ' = [some v, some w, some (.ref p), y3, y4])
      (fun M3 H3 g3 => ⟨none, none, [], g2.trans g3, Same.refl _, (g2.trans g3).mm, Own.step ⟨h0, m0, hp2⟩ g3, .nil, rfl⟩)
      (fun M3 i σ' M' H' ⟨_, _, _, g, s1, _⟩ => ⟨s1, g.mh⟩) ?_ ?_
    · rintro M3 i c v' σ' M' H' H'' sM hx ⟨y3, y4, ws, g, s1, s2, ow, hpd, rfl⟩ gE rx
      have hxm : c ∈ cs := List.mem_of_getElem? hx
      have hil : i < cs.length := (List.getElem?_eq_some_iff.mp hx).1
      have et : cs.take (i + 1) = cs.take i ++ [c] := by rw [List.take_add_one, hx]; rfl
      obtain ⟨d, hd, hshd, hfw⟩ := cl_d rx (hok c hxm)
      have g' := g.trans gE
      have ow' := ow.step gE
      have r2' : SqR K Tx ns M' w := Mon.mono s2 r2
      refine q_if g'.mh (b := false) (gt_B (gv_is (gv_notN (b := true) (gv_call2 (R1 := Dd K) (R2 := SqR K Tx) (gv_var rfl hd) (gv_var rfl r2') hshd) fun M4 v4 h4 => ?_) fun _ _ h => h)) (fun hb => nomatch hb) (fun _ H4 hh4 => ?_)
      · have h4' : v4 = match firstWrong ns d with | none => V.non | some i => V.int (i : Nat) := h4
        rw [hfw] at h4'
        rw [h4']
        rfl
      · have g4 := g'.trans (.idle g'.mh hh4)
        have ow4 := ow'.idle hh4
        have hwl : ws.length = i := by rw [← hpd.length, List.length_map, List.length_take]; omega
        refine s_app (P := TT (asc c ns)) g4.mh rfl ow4.h (szL (by omega)) (gv_call2 (R1 := CtR K) (R2 := SqR K Tx) (gv_var rfl (.inl rx)) (gv_var rfl r2') hsh) fun v5 M5 H5 g5 r5 => ?_
        have ow5 := ow4.step g5
        refine ⟨M5, _, _, ws ++ [v5], (g4.trans g5).mut ow5.h0 ow5.m, s1.trans g5.mm, s2.trans g5.mm, ow5.put, ?_, rfl⟩
        rw [et, List.map_append]
        exact pd_app (hpd.mono g5.mm) (.cons r5 .nil)
    · rintro M3 σ' M' H' sM ⟨y3, y4, ws, g, s1, s2, ow, hpd, rfl⟩
      rw [List.take_length] at hpd
      exact ⟨.ref p, rfl, q p ws M' H' g ow.h0 ow.m ow.h hpd⟩
abbrev s_Code_init : Stmt := inClass (topS 34) 0
theorem sc_Code_init : FnScope ["self", "signs", "clauses", "helpers", "clause"] ["self", "signs", "clauses", "helpers"] (defScope s_Code_init) := ⟨rfl, rfl, rfl, by decide +kernel, rfl, by decide +kernel, by decide +kernel⟩
/-- names and clauses that a code takes -/
structure CodeOk (ss hs : List Str) (cs : List (List Str)) : Prop where
  s : NamesOk ss []
  h : NamesOk hs ss
  n : cs.length ≤ 1000000
  c : ∀ c ∈ cs, ClOk (ss ++ hs) c
  k : (ss ++ hs).length ≤ 1000
def sp_Code_init (K : PySem.W.Frag) (C : Addr) : Sp := fun vs H Q _ => ∃ ss hs cs M Hb x dx v1 v2 v3, vs = [.ref x, v1, v2, v3] ∧ Gr M Hb M H ∧ Hb x = none ∧ M x = none ∧ H x = some (.ins C dx []) ∧
  SqR K Tx ss M v1 ∧ SqR K (SqR K Tx) cs M v2 ∧ SqR K Tx hs M v3 ∧ CodeOk ss hs cs ∧ ∀ M' H', Gr M Hb M' H' → CodeR C (mkCode ss hs cs) M' (.ref x) → Q .non H'
theorem ok_Code_init {f C : Addr} {fd : FuncData} {dvs : List V} (F : FunD K "__init__" "Code.__init__" (defArgs s_Code_init) (defBody s_Code_init) (defScope s_Code_init) dvs [] f fd) (T : Gb mg) (TC : CodeT K mg C) (c_checked_names : Cal P w K mg base 2 "checked_names" ["things", "known"] (sp_checked_names K)) (c_checked_clauses : Cal P w K mg base 4 "checked_clauses" ["clauses", "names"] (sp_checked_clauses K)) :
    FnOk P w K mg base CX0 5 f fd ["self", "signs", "clauses", "helpers"] (sp_Code_init K C) := by
  refine funD_ok F sc_Code_init (fun vs H Q E h => ?_) (fun cdv A outer s H vs Q E hr h => ?_)
  · obtain ⟨_, _, _, _, _, _, _, _, _, _, rfl, _⟩ := h
    rfl
  · obtain ⟨ss, hs, cs, M, Hb, x, dx, v1, v2, v3, rfl, g0, hb, hm, hx, r1, r2, r3, ok, q⟩ := h
    have hu := hr.units
    refine ⟨_, (pss_cons (ps_fld (pv 0) (pe_f c_checked_names (hr.mono (by decide)) (pa_cons (pv 1) (pa_cons (pe_tup pa_nil) pa_nil))) rfl)
      (pss_cons (ps_fld (pv 0) (pe_f c_checked_names (hr.mono (by decide)) (pa_cons (pv 3) (pa_cons (pe_fld (pv 0) rfl) pa_nil))) rfl)
      (pss_cons (ps_fld (pv 0) (pe_op op_addA (pe_fld (pv 0) rfl) (pe_fld (pv 0) rfl)) rfl)
      (pss_one (ps_fld (pv 0) (pe_callTy (call_tupD (by rfl)) (by rfl) T.tuple boot_tuple (pa_cons (pe_dcT (own := [("clause", 4)]) (g := (gName 4)) (tt := tYes) (tk := (tVar 4)) (tv := (tC (.bl true))) hu (by rfl) sc_Code_init.nd (pi_sq (pe_f c_checked_clauses (hr.mono (by decide)) (pa_cons (pv 2) (pa_cons (pe_fld (pv 0) rfl) pa_nil)))) (blkOk_by (by rfl)) (fun _ _ _ _ _ => (pg_name (i := 4) sc_Code_init.nd rfl (by first | exact .inl rfl | exact .inr rfl))) (fun _ _ _ _ _ => pts_nil) (fun _ _ _ _ _ => (pv 4)) (fun _ _ _ _ _ => pe_bl)) pa_nil)) rfl))))), ?_⟩
    -- self.sign_row = checked_names(signs, ())
    refine q_fld (P := TT ss) g0.mh hm hx rfl TC.cl TC.nS (by decide) (gv_call2 (R1 := SqR K Tx) (R2 := SqR K Tx) (x := ss) (y := []) (gv_var rfl (Mon.mono (same_new hm) r1)) (gv_is gv_nilT fun _ _ h => h.sq) ok.s) fun va M1 H1 g1 m1 ra => ?_
    have G1 := (g0.trans g1).mut (o := .ins C dx (putF "sign_row" va [])) hb m1
    -- self.helper_row = checked_names(helpers, self.sign_row)
    have z1 : (putF "sign_row" va []).length ≤ 1 := putF_len (Nat.le_refl 0)
    have e1 := same_new (o := .ins C dx (putF "sign_row" va [])) m1
    refine q_fld (P := TT hs) G1.mh m1 upd_same rfl TC.cl TC.nH (lt1000 z1) (gv_call2 (R1 := SqR K Tx) (R2 := SqR K Tx) (x := hs) (y := ss) (gv_var rfl (Mon.mono (g1.mm.trans e1) r3))
      (gv_is (gv_self (P := TT ss) rfl upd_same TC.cl TC.nS (by rw [lookup_putF, if_pos rfl]) (Mon.mono e1 ra)) fun _ _ h => h.sq) ok.h) fun vb M2 H2 g2 m2 rb => ?_
    have G2 := (G1.trans g2).mut (o := .ins C dx (putF "helper_row" vb (putF "sign_row" va []))) hb m2
    -- self.names = self.sign_row + self.helper_row
    have z2 : (putF "helper_row" vb (putF "sign_row" va [])).length ≤ 2 := putF_len z1
    have e2 := same_new (o := .ins C dx (putF "helper_row" vb (putF "sign_row" va []))) m2
    refine q_fld (P := TT (ss ++ hs)) G2.mh m2 upd_same rfl TC.cl TC.nN (lt1000 z2) (gv_addTT
      (gv_self rfl upd_same TC.cl TC.nS (by rw [lookup_putF, if_neg (by decide +kernel), lookup_putF, if_pos rfl]) (Mon.mono (g2.mm.trans e2) ra)) (gv_self rfl upd_same TC.cl TC.nH (by rw [lookup_putF, if_pos rfl]) (Mon.mono e2 rb))
      (sz1000 (by have := ok.k; rw [List.length_append] at this; exact this))) fun vn M3 H3 g3 m3 rn => ?_
    have G3 := (G2.trans g3).mut (o := .ins C dx (putF "names" vn (putF "helper_row" vb (putF "sign_row" va [])))) hb m3
    -- self.clause_row = tuple({clause: True for clause in checked_clauses(clauses, self.names)})
    have z3 : (putF "names" vn (putF "helper_row" vb (putF "sign_row" va []))).length ≤ 3 := putF_len z2
    have e3 := same_new (o := .ins C dx (putF "names" vn (putF "helper_row" vb (putF "sign_row" va [])))) m3
    have hshort : Shorts (ss ++ hs) := ⟨ok.k, fun n hn => by
      rcases List.mem_append.mp hn with h | h
      · exact Nat.le_trans (isNm_len (ok.s.2.1 n h).1) (by decide)
      · exact Nat.le_trans (isNm_len (ok.h.2.1 n h).1) (by decide)⟩
    refine s_fld (P := TuR TT (once (cs.map fun c => asc c (ss ++ hs)))) G3.mh m3 upd_same rfl TC.cl TC.nC (lt1000 z3) (gv_once (by show 4 < 5; decide) (gi_sq (K := K) ((gl_call2 (R1 := SqR K (SqR K Tx)) (R2 := SqR K Tx) (x := cs) (y := ss ++ hs)
      (gv_var rfl (Mon.mono ((g1.mm.trans g2.mm).trans (g3.mm.trans e3)) r2)) (gv_is (gv_self (P := TT (ss ++ hs)) rfl upd_same TC.cl TC.nN (by rw [lookup_putF, if_pos rfl]) (Mon.mono e3 rn)) fun _ _ h => h.sq) ⟨hshort, ok.n, ok.c⟩).gv
        fun M' vs p r m0 => .inl ⟨p, vs, rfl, .inl (.inl upd_same), Pd.mono (R := TT) (same_new m0) r⟩)) (by rw [List.length_map]; exact szM (Nat.le_trans ok.n (by decide)))) fun vc M4 H4 g4 m4 rc => ?_
    have G4 := ((G3.trans g4).mut (o := .ins C dx (codeF va vb vn vc)) hb m4).freeze hb m4 upd_same
    have e4 := same_new (o := .ins C dx (codeF va vb vn vc)) m4
    exact q _ _ G4 ⟨x, dx, va, vb, vn, vc, rfl, upd_same, Mon.mono ((g2.mm.trans g3.mm).trans (g4.mm.trans e4)) ra, Mon.mono (g3.mm.trans (g4.mm.trans e4)) rb, Mon.mono (g4.mm.trans e4) rn, Mon.mono e4 rc⟩
end
end My

set_option Elab.async false
set_option linter.all false
set_option maxRecDepth 100000
set_option maxHeartbeats 4000000
namespace My
open PySem PySem.Spec PyProof.Rows L2 L3
/-! the literals of a clause that are not denied -/
def openGo (so : List Str) : List Str → List Str → Option (List Str)
  | [], acc => some acc
  | l :: r, acc => if l ∈ so then none else openGo so r (if opp l ∈ so then acc else acc ++ [l])
def openOnes (so c : List Str) : Option (List Str) := openGo so c []
theorem openGo_eq (so : List Str) : ∀ c acc : List Str, openGo so c acc = if c.any (fun l => decide (l ∈ so)) then none else some (acc ++ c.filter fun l => decide (opp l ∉ so))
  | [], acc => by simp [openGo]
  | l :: r, acc => by
    rw [openGo, openGo_eq so r]
    by_cases h : l ∈ so
    · simp [h]
    · by_cases h2 : opp l ∈ so
      · simp [h, h2]
      · simp [h, h2]
theorem openOnes_eq (so c : List Str) : openOnes so c = if c.any (fun l => decide (l ∈ so)) then none else some (c.filter fun l => decide (opp l ∉ so)) := by
  unfold openOnes; rw [openGo_eq]; simp
def shortT (c : List Str) : Prop := c.length ≤ 1000000 ∧ ∀ l ∈ c, l.length ≤ 1000
section
variable {P : Program} {w : World} {K : PySem.W.Frag} {mg : Str → Option Value} {base : Heap}
abbrev s_open_ones : Stmt := topS 29
theorem sc_open_ones : FnScope ["clause", "so", "found", "literal"] ["clause", "so"] (defScope s_open_ones) := ⟨rfl, rfl, rfl, by decide +kernel, rfl, by decide +kernel, by decide +kernel⟩
def sp_open_ones (K : PySem.W.Frag) : Sp := sp2 (SqR K Tx) (CtR K) (fun c _ => shortT c) fun c so => OpR' (LiR Tx) (openOnes so c)
theorem ok_open_ones {f : Addr} {fd : FuncData} (F : Fun K "open_ones" "open_ones" s_open_ones f fd) (c_opposite : Cal P w K mg base 1 "opposite" ["literal"] (sp_opposite K)) : FnOk P w K mg base CX0 2 f fd ["clause", "so"] (sp_open_ones K) := by
  refine F.ok sc_open_ones (fun vs H Q E h => ?_) (fun cdv A outer s H vs Q E hr h => ?_)
  · obtain ⟨x, y, M, v, w, rfl, _⟩ := h
    rfl
  · obtain ⟨c, so, M, v, w, rfl, mh, r1, r2, hp, q⟩ := h
    have hu := hr.units
    refine ⟨_, (pss_cons (ps_set (i := 2) sc_open_ones.nd rfl (by first | exact .inl rfl | exact .inr rfl) (pe_lst pa_nil))
      (pss_cons (ps_for PassesOwn.never (by rfl) (pi_sq (pv 0)) (pg_name (i := 3) sc_open_ones.nd rfl (by first | exact .inl rfl | exact .inr rfl)) (pss_cons (ps_if (pt_cmpR (op_inA hu) (pv 3) (pv 1) (by rfl)) (pss_one (ps_ret pe_non)) pss_nil)
      (pss_one (ps_if (pt_cmpR (op_niA hu) (pe_f c_opposite (hr.mono (by decide)) (pa_cons (pv 3) pa_nil)) (pv 1) (by rfl)) (pss_one (ps_expr (pe_bm PySem.F.plainAttrs_list PySem.F.slot_list_append PySem.F.type_list_append mt_append (pv 2) (pa_cons (pv 3) pa_nil)))) pss_nil))))
      (pss_one (ps_ret (pv 2))))), ?_⟩
    refine q_asgL mh gl_nil fun p vs M2 H2 g2 h0 m0 hp2 hv => ?_
    subst hv
    refine q_for (R1 := Tx) (xs := c) g2.mh (gv_var rfl (Mon.mono g2.mm r1))
      (fun M1' i σ' M' H' => ∃ y3 acc, Gr M H M' H' ∧ Same M1' M' ∧ Same M M' ∧ acc.length ≤ i ∧ Own H M' H' p (acc.map V.str) ∧ σ' = [some v, some w, some (.ref p), y3] ∧ openOnes so c = openGo so (c.drop i) acc)
      (fun M3 H3 g3 => ⟨none, [], g2.trans g3, Same.refl _, (g2.trans g3).mm, Nat.le_refl _, Own.step ⟨h0, m0, hp2⟩ g3, rfl, rfl⟩)
      (fun M3 i σ' M' H' ⟨_, _, g, s1, _⟩ => ⟨s1, g.mh⟩) ?_ ?_
    · rintro M3 i x v' σ' M' H' sM hx ⟨y3, acc, g, s1, s2, hl, ow, rfl, eo⟩ rx
      cases rx
      have hxm : x ∈ c := List.mem_of_getElem? hx
      have hil : i < c.length := (List.getElem?_eq_some_iff.mp hx).1
      have ed : c.drop i = x :: c.drop (i + 1) := by rw [List.drop_eq_getElem_cons hil]; congr 1; exact (List.getElem?_eq_some_iff.mp hx).2
      have r2' : CtR K so M' w := Mon.mono s2 r2
      refine q_if0 g.mh (gt_test (gv_inA (K := K) (gv_var rfl rfl) (gv_var rfl r2'))) (fun hb H4 hh4 => ?_) (fun hb H4 hh4 => ?_)
      · refine s_ret (P := fun _ v => v = .non) (g.mh.trans hh4) (gv_c rfl) fun v5 M5 H5 g5 r5 => q v5 M5 H5 ((g.trans (.idle g.mh hh4)).trans g5) ?_
        show OpR' (LiR Tx) (openOnes so c) _ _
        rw [eo, ed, openGo, if_pos (by simpa using hb)]
        exact r5
      · have g4 := g.trans (.idle g.mh hh4)
        have ow4 := ow.idle hh4
        refine s_if0 g4.mh (gt_test (gv_inA (K := K) (gv_call1 (gv_var rfl rfl) (hp.2 x hxm)) (gv_var rfl r2'))) (fun hb2 H5 hh5 => ?_) (fun hb2 H5 hh5 => ?_)
        · have g5 := g4.trans (.idle g4.mh hh5)
          have ow5 := ow4.idle hh5
          refine s_app (P := Tx x) g5.mh rfl ow5.h (szL (by rw [List.length_map]; have := hp.1; omega)) (gv_var rfl rfl) fun v6 M6 H6 g6 r6 => ?_
          cases r6
          have ow6 := ow5.step g6
          refine ⟨M6, _, acc ++ [x], (g5.trans g6).mut ow6.h0 ow6.m, s1.trans g6.mm, s2.trans g6.mm, by rw [List.length_append]; exact Nat.succ_le_succ hl, ?_, rfl, ?_⟩
          · rw [List.map_append]
            exact ow6.put
          · rw [eo, ed, openGo, if_neg (by simpa using hb), if_neg (by simpa using hb2)]
        · have g5 := g4.trans (.idle g4.mh hh5)
          refine ⟨M', _, acc, g5, s1, s2, Nat.le_succ_of_le hl, ow4.idle hh5, rfl, ?_⟩
          rw [eo, ed, openGo, if_neg (by simpa using hb), if_pos (by simpa using hb2)]
    · rintro M3 σ' M' H' sM ⟨y3, acc, g, s1, s2, hl, ow, rfl, eo⟩
      refine ⟨.ref p, rfl, q _ _ _ (g.freeze ow.h0 ow.m ow.h) ?_⟩
      show OpR' (LiR Tx) (openOnes so c) _ _
      rw [eo, List.drop_length]
      exact ⟨p, _, rfl, upd_same, pd_of_tx acc⟩
end
end My

set_option Elab.async false
set_option linter.all false
set_option maxRecDepth 100000
set_option maxHeartbeats 4000000
namespace My
open PySem PySem.Spec PyProof.Rows L2 L3
abbrev Stp := Nat × Option Str
def optV : Option Str → V
  | none => .non | some l => .str l
/-- a step: a tuple (index, literal or None) -/
def StepR : Rl Stp := fun s M v => ∃ a, v = .ref a ∧ M a = some (.tup [.int (s.1 : Nat), optV s.2])
instance : Mon StepR := ⟨fun e ⟨a, h, r⟩ => ⟨a, h, e _ _ r⟩⟩
instance : Stl StepR := ⟨fun hn hx ⟨a, e, r⟩ => ⟨a, e, by rw [L3.del_ne (tup_ne hn hx r)]; exact r⟩⟩
/-- one walk over all clauses -/
def passGo : List (List Str) → Nat → List Str → List Stp → Bool → Except (List Stp) (List Str × List Stp × Bool)
  | [], _, so, st, mv => .ok (so, st, mv)
  | c :: r, i, so, st, mv => match openOnes so c with
    | some [] => .error (st ++ [(i, none)])
    | some [l] => passGo r (i + 1) (so ++ [l]) (st ++ [(i, some l)]) true
    | _ => passGo r (i + 1) so st mv
abbrev Res := Option (List Str) × List Stp
/-- following to its end -/
inductive Chase (cs : List (List Str)) : List Str → List Stp → Res → Prop
  | dead {so st st'} : passGo cs 0 so st false = .error st' → Chase cs so st (none, st')
  | done {so st so' st'} : passGo cs 0 so st false = .ok (so', st', false) → Chase cs so st (some so', st')
  | more {so st so' st' r} : passGo cs 0 so st false = .ok (so', st', true) → Chase cs so' st' r → Chase cs so st r
theorem Chase.fn {cs : List (List Str)} {so : List Str} {st : List Stp} {r : Res} (h : Chase cs so st r) : ∀ {r'}, Chase cs so st r' → r = r' := by
  induction h with
  | dead e =>
    intro r' h'
    cases h' with
    | dead e' => rw [e] at e'; cases e'; rfl
    | done e' => rw [e] at e'; cases e'
    | more e' _ => rw [e] at e'; cases e'
  | done e =>
    intro r' h'
    cases h' with
    | dead e' => rw [e] at e'; cases e'
    | done e' => rw [e] at e'; cases e'; rfl
    | more e' _ => rw [e] at e'; cases e'
  | more e _ ih =>
    intro r' h'
    cases h' with
    | dead e' => rw [e] at e'; cases e'
    | done e' => rw [e] at e'; cases e'
    | more e' h2 => rw [e] at e'; cases e'; exact ih h2
/-- how many literals of the clauses are not so yet -/
def mu (cs : List (List Str)) (so : List Str) : Nat := (cs.flatten.filter fun l => decide (l ∉ so)).length
theorem filter_lt {l : Str} {p q : Str → Bool} : ∀ {xs : List Str}, (∀ x, q x = true → p x = true) → l ∈ xs → p l = true → q l = false → (xs.filter q).length < (xs.filter p).length
  | [], _, h, _, _ => by cases h
  | x :: xs, hi, h, hp, hq => by
    have le : ∀ ys : List Str, (ys.filter q).length ≤ (ys.filter p).length := fun ys => by
      induction ys with
      | nil => exact Nat.le_refl _
      | cons y ys ih =>
        rw [List.filter_cons, List.filter_cons]
        by_cases hy : q y = true
        · rw [if_pos hy, if_pos (hi y hy)]; exact Nat.succ_le_succ ih
        · rw [if_neg hy]
          by_cases hy' : p y = true
          · rw [if_pos hy']; exact Nat.le_succ_of_le ih
          · rw [if_neg hy']; exact ih
    rw [List.filter_cons, List.filter_cons]
    rcases List.mem_cons.mp h with rfl | h
    · rw [if_neg (by rw [hq]; simp), if_pos hp]
      exact Nat.lt_succ_of_le (le xs)
    · have ih := filter_lt hi h hp hq
      by_cases hy : q x = true
      · rw [if_pos hy, if_pos (hi x hy)]; exact Nat.succ_lt_succ ih
      · rw [if_neg hy]
        by_cases hy' : p x = true
        · rw [if_pos hy']; exact Nat.lt_succ_of_lt ih
        · rw [if_neg hy']; exact ih
theorem mu_put {cs : List (List Str)} {c so : List Str} {l : Str} (hc : c ∈ cs) (hl : l ∈ c) (hs : l ∉ so) : mu cs (so ++ [l]) < mu cs so := by
  refine filter_lt (l := l) (fun x h => ?_) (List.mem_flatten.mpr ⟨c, hc, hl⟩) (by simpa using hs) (by simp)
  simp only [List.mem_append, decide_eq_true_eq, not_or] at h ⊢
  exact h.1
theorem open_one {so c : List Str} {l : Str} (h : openOnes so c = some [l]) : l ∈ c ∧ l ∉ so := by
  rw [openOnes_eq] at h
  split at h
  · cases h
  · rename_i hn
    have e := Option.some.inj h
    have hm : l ∈ c.filter fun l => decide (opp l ∉ so) := by rw [e]; simp
    have h1 := List.mem_filter.mp hm
    refine ⟨h1.1, fun hs => hn ?_⟩
    rw [List.any_eq_true]
    exact ⟨l, h1.1, by simpa using hs⟩
theorem onceP_new {so : List Str} {l : Str} (h : l ∉ so) : onceP so l = so ++ [l] := by unfold onceP; rw [if_neg h]
def optD : Option (List Str) → PyData
  | none => .none | some ls => .list (ls.map .str)
theorem optD_eq (o : Option (List Str)) (xs : List Str) : PyData.eqv (optD o) (.list (xs.map .str)) = decide (o = some xs) := by
  cases o with
  | none => simp [optD, PyData.eqv]
  | some ls =>
    have h := inj_lst inj_str ls xs
    simp only [optD]
    rw [h]
    simp
theorem depthS : ∀ ls : List Str, PyData.depthAll (ls.map .str) = 0
  | [] => by simp [PyData.depthAll]
  | l :: r => by simp [PyData.depthAll, PyData.depth, depthS r]
theorem depthO (o : Option (List Str)) : (optD o).depth ≤ 60 := by
  cases o with
  | none => simp [optD, PyData.depth]
  | some ls => simp [optD, PyData.depth, depthS]
section
variable {K : PySem.W.Frag} {σ : Sl} {M : Hp} {ta tb : TE}
theorem py_opL : PyR K (OpR' (LiR Tx)) optD := fun o M v h => by
  cases o with
  | none => cases (show v = .non from h); exact .non
  | some ls => exact py_lst py_str _ _ _ (LiR.lst (K := K) (show LiR Tx ls M v from h))
theorem gv_nilD : Gv (tLst tNil) σ M (Dd K (.list [])) := gl_nil.gv fun M vs p h m => by subst h; exact .lst (.inl (.inl upd_same)) .nil
theorem gv_step {i : Nat} {l : Str} (ha : Gv ta σ M (It' (i : Int))) (hb : Gv tb σ M (Tx l)) : Gv (tTup (tCons ta (tCons tb tNil))) σ M (StepR (i, some l)) := fun H mh Q q =>
  ha H mh _ fun v M1 H1 g1 p1 => hb.le g1.mm H1 g1.mh _ fun w M2 H2 g2 p2 => ⟨by show 2 ≤ sizeLine; decide, fun p np => q _ _ _ ((g1.trans g2).trans (.new g2.mh np)) ⟨p, rfl, by rw [upd_same, show v = _ from p1, show w = _ from p2]; rfl⟩⟩
theorem opL_non {o : Option (List Str)} {M : Hp} {v : V} (h : OpR' (LiR Tx) o M v) : decide (v = .non) = o.isNone := by
  cases o with
  | none => cases (show v = .non from h); rfl
  | some ls => obtain ⟨a, vs, e, _⟩ := (show LiR Tx ls M v from h); subst e; rfl
end
section
variable {P : Program} {w : World} {K : PySem.W.Frag} {mg : Str → Option Value} {base : Heap}
abbrev s_chase : Stmt := topS 30
theorem sc_chase : FnScope ["clauses", "setting", "so", "steps", "is_moved", "index", "clause", "left", "literal"] ["clauses", "setting"] (defScope s_chase) := ⟨rfl, rfl, rfl, by decide +kernel, rfl, by decide +kernel, by decide +kernel⟩
structure ChOk (cs : List (List Str)) (hs : List Str) : Prop where
  c : ∀ c ∈ cs, shortT c
  n : cs.flatten.length ≤ 1000000
  k : cs.length ≤ 1000000
  h : hs.length ≤ 1000000
def sp_chase (K : PySem.W.Frag) : Sp := fun vs H Q _ => ∃ cs hs M v w, vs = [v, w] ∧ Same M H ∧ SqR K (SqR K Tx) cs M v ∧ SqR K Tx hs M w ∧ ChOk cs hs ∧
  ∀ r t u p ws M' H', Chase cs (once hs) [] r → Gr M H M' H' → H p = none → M' p = none → H' p = some (.lst ws) → Pd StepR M' r.2 ws → OpR' DcF r.1 M' u → M' t = some (.tup [u, .ref p]) → Q (.ref t) H'
theorem once_len' (hs : List Str) : (once hs).length ≤ hs.length := by
  have go : ∀ (xs acc : List Str), (xs.foldl onceP acc).length ≤ acc.length + xs.length := by
    intro xs
    induction xs with
    | nil => intro acc; exact Nat.le_refl _
    | cons x xs ih =>
      intro acc
      have h1 := ih (onceP acc x)
      have h2 := onceP_len acc x
      rw [List.foldl_cons, List.length_cons]
      omega
  have := go hs []
  simpa [once] using this
theorem ok_chase {f : Addr} {fd : FuncData} (F : Fun K "chase" "chase" s_chase f fd) (T : Gb mg) (c_open_ones : Cal P w K mg base 2 "open_ones" ["clause", "so"] (sp_open_ones K)) : FnOk P w K mg base CX0 3 f fd ["clauses", "setting"] (sp_chase K) := by
  refine F.ok sc_chase (fun vs H Q E h => ?_) (fun cdv A outer s H vs Q E hr h => ?_)
  · obtain ⟨x, y, M, v, w, rfl, _⟩ := h
    rfl
  · obtain ⟨cs, hs, M, v, w, rfl, mh, r1, r2, ok, q⟩ := h
    have hu := hr.units
    refine ⟨_, (pss_cons (ps_par3 (i := 2) (j := 3) (l := 4) (by rfl) sc_chase.nd rfl rfl rfl (by decide) (by decide) (by decide) rfl rfl rfl (pa_cons (pe_dc (own := [("literal", 8)]) (g := (gName 8)) (tt := tYes) (tk := (tVar 8)) (tv := (tC (.bl true))) (by rfl) sc_chase.nd (pi_sq (pv 1)) (blkOk_by (by rfl)) (fun _ _ _ _ _ => (pg_name (i := 8) sc_chase.nd rfl (by first | exact .inl rfl | exact .inr rfl))) (fun _ _ _ _ _ => pts_nil) (fun _ _ _ _ _ => (pv 8)) (fun _ _ _ _ _ => pe_bl)) (pa_cons (pe_lst pa_nil) (pa_cons pe_bl pa_nil))) (by rfl))
      (pss_cons (ps_while PassesOwn.never (pt_val (pv 4)) (pss_cons (ps_set (i := 4) sc_chase.nd rfl (by first | exact .inl rfl | exact .inr rfl) pe_bl)
      (pss_one (ps_for PassesOwn.never (by rfl) (pi_en (by rfl) T.enumerate (pa_cons (pv 0) pa_nil)) (pg_tup (by rfl) (pgs_cons (pg_name (i := 5) sc_chase.nd rfl (by first | exact .inl rfl | exact .inr rfl)) (pgs_cons (pg_name (i := 6) sc_chase.nd rfl (by first | exact .inl rfl | exact .inr rfl)) pgs_nil))) (pss_cons (ps_set (i := 7) sc_chase.nd rfl (by first | exact .inl rfl | exact .inr rfl) (pe_f c_open_ones (hr.mono (by decide)) (pa_cons (pv 6) (pa_cons (pv 2) pa_nil))))
      (pss_cons (ps_if (pt_cmpR (op_eqP hu) (pv 7) (pe_lst pa_nil) (nomark _)) (pss_one (ps_ret (pe_tup (pa_cons pe_non (pa_cons (pe_op op_addA (pv 3) (pe_lst (pa_cons (pe_tup (pa_cons (pv 5) (pa_cons pe_non pa_nil))) pa_nil))) pa_nil))))) pss_nil)
      (pss_one (ps_if (PW.pt (pw_and (pt_cmp (pc_notN (pv 7))) (pw_and1 (pt_cmpR (op_eqP hu) (pe_callB call_lenA (by rfl) T.len boot_len (pa_cons (pv 7) pa_nil)) pe_int (nomark _))))) (pss_cons (ps_dput (Nat.lt_of_le_of_lt (Nat.add_le_add_left (by decide) _) hu) (pv 2) (pe_ix ix_X (pv 7) pe_int (fun _ _ => rfl)) pe_bl rfl)
      (pss_cons (ps_expr (pe_bm PySem.F.plainAttrs_list PySem.F.slot_list_append PySem.F.type_list_append mt_append (pv 3) (pa_cons (pe_tup (pa_cons (pv 5) (pa_cons (pe_ix ix_X (pv 7) pe_int (fun _ _ => rfl)) pa_nil))) pa_nil)))
      (pss_one (ps_set (i := 4) sc_chase.nd rfl (by first | exact .inl rfl | exact .inr rfl) pe_bl)))) pss_nil))))))))
      (pss_one (ps_ret (pe_tup (pa_cons (pe_frz (pv 2)) (pa_cons (pv 3) pa_nil))))))), ?_⟩
    have hlo : (once hs).length ≤ 1000000 := Nat.le_trans (once_len' hs) ok.h
    -- so, steps, is_moved = {..}, [], True
    refine q_par3 (a_K mh (gk_dc (xs := hs) (by show 8 < 9; decide) (gi_sq (K := K) (gv_var rfl r2)) (szM (Nat.le_trans ok.h (by decide)))) fun p M1 H1 g1 hp0 hpm hpk => a_L g1.mh gl_nil fun p2 vs M2 H2 g2 h02 m02 hp2 ev => ?_)
    subst ev
    refine ⟨_, _, _, rfl, ?_⟩
    have k0 : OwnK H M2 H2 p (once hs) := OwnK.step ⟨hp0, hpm, hpk⟩ g2
    have w0 : Own H M2 H2 p2 [] := ⟨g1.hh.free h02, m02, hp2⟩
    have G2 := g1.trans g2
    have mul : mu cs (once hs) ≤ 1000000 := Nat.le_trans (List.length_filter_le _ _) ok.n
    refine q_while (M := M2) (m0 := 2 * mu cs (once hs) + 1) (fun m σ' M' H' => ∃ so st mv ws y5 y6 y7 y8, m = 2 * mu cs so + (if mv = true then 1 else 0) ∧ Gr M H M' H' ∧ OwnK H M' H' p so ∧ Own H M' H' p2 ws ∧ Pd StepR M' st ws ∧ σ' = [some v, some w, some (.ref p), some (.ref p2), some (.bl mv), y5, y6, y7, y8] ∧
      (∀ r, (if mv = true then Chase cs so st r else r = (some so, st)) → Chase cs (once hs) [] r) ∧ st.length + mu cs so ≤ mu cs (once hs) ∧ so.length ≤ (once hs).length + st.length)
      ⟨once hs, [], true, [], _, _, _, _, rfl, G2, k0, w0, .nil, rfl, fun r h => h, by simp, by simp⟩ ?_
    rintro m σ' M' H' ⟨so, st, mv, ws, y5, y6, y7, y8, rfl, g, ok1, ow1, hpd, rfl, hch, hmu, hso⟩
    refine ⟨mv, M', g.mh, gt_B (gv_var rfl rfl), fun hb H3 hh3 => ?_, fun hb H3 hh3 => ?_⟩
    · subst hb
      have g3 := g.trans (.idle g.mh hh3)
      refine q_asg (P := Bl false) g3.mh (gv_c rfl) fun v4 M4 H4 g4 r4 => ?_
      cases r4
      have G4 := g3.trans g4
      refine s_forE (R1 := SqR K Tx) (xs := cs) g4.mh (gv_var rfl (Mon.mono G4.mm r1))
        (fun M1' i σ' M' H' => ∃ so2 st2 mv2 ws2 y5 y6 y7, Gr M H M' H' ∧ Same M1' M' ∧ Same M M' ∧ OwnK H M' H' p so2 ∧ Own H M' H' p2 ws2 ∧ Pd StepR M' st2 ws2 ∧ σ' = [some v, some w, some (.ref p), some (.ref p2), some (.bl mv2), y5, y6, y7, y8] ∧
          passGo cs 0 so st false = passGo (cs.drop i) i so2 st2 mv2 ∧ (mv2 = false → so2 = so ∧ st2 = st) ∧ (mv2 = true → mu cs so2 < mu cs so) ∧ st2.length + mu cs so2 ≤ mu cs (once hs) ∧ so2.length ≤ (once hs).length + st2.length)
        (fun M5 H5 g5 => ⟨so, st, false, ws, _, _, _, G4.trans g5, Same.refl _, (G4.trans g5).mm, ((ok1.idle hh3).step g4).step g5, ((ow1.idle hh3).step g4).step g5, hpd.mono (g4.trans g5).mm, rfl, rfl, fun _ => ⟨rfl, rfl⟩, (fun h => nomatch h), hmu, hso⟩)
        (fun M5 i σ' M' H' ⟨_, _, _, _, _, _, _, g, s1, _⟩ => ⟨s1, g.mh⟩) ?_ ?_
      · rintro M5 i c v' σ' M' H' H'' sM hx ⟨so2, st2, mv2, ws2, y5, y6, y7, g, s1, s2, ok2, ow2, hpd2, rfl, ep, hf, ht, hmu2, hso2⟩ gE rx
        have hxm : c ∈ cs := List.mem_of_getElem? hx
        have hil : i < cs.length := (List.getElem?_eq_some_iff.mp hx).1
        have ed : cs.drop i = c :: cs.drop (i + 1) := by rw [List.drop_eq_getElem_cons hil]; congr 1; exact (List.getElem?_eq_some_iff.mp hx).2
        have g' := g.trans gE
        have ok2' := ok2.step gE
        have ow2' := ow2.step gE
        refine q_asgK (P := OpR' (LiR Tx) (openOnes so2 c)) g'.mh ok2'.m ok2'.h (gv_call2 (R1 := SqR K Tx) (R2 := CtR K) (gv_var rfl (Mon.mono (same_new ok2'.m) rx)) (gv_var rfl OwnK.ct) (ok.c c hxm)) fun v7 M7 H7 g7 r7 => ?_
        have G7 := g'.trans g7
        have ok7 := ok2'.step g7
        have ow7 := ow2'.step g7
        have hpd7 := hpd2.mono g7.mm
        have hwl : ws2.length = st2.length := hpd7.length.symm
        refine q_if0 (b := decide (openOnes so2 c = some [])) g7.mh (gt_test (gv_is (gv_eq (K := K) (neg := false) (d := optD (openOnes so2 c)) (e := .list []) (gv_var rfl (py_opL _ _ _ r7)) gv_nilD (depthO _)) fun M v h => by
            rw [show v = _ from h]
            have := optD_eq (openOnes so2 c) []
            simp only [List.map_nil] at this
            rw [this]; simp)) (fun hb H8 hh8 => ?_) (fun hb H8 hh8 => ?_)
        · -- a dead end
          have e0 : openOnes so2 c = some [] := by simpa using hb
          have g8 : Gr M7 H7 M7 H8 := .idle g7.mh hh8
          have ow8 := ow7.idle hh8
          refine ⟨.ref p2, rfl, .int (i : Nat), rfl, by show 2 ≤ sizeLine; decide, fun t1 nt1 => ⟨by show 1 ≤ sizeLine; decide, fun l1 nl1 => .inr (.inr (.inr ⟨p2, l1, ws2, [.ref t1], rfl, rfl, ?_, upd_same, szM (by simp; omega), fun p3 np3 => ⟨by show 2 ≤ sizeLine; decide, fun t nt => ?_⟩⟩))⟩⟩
          · have nt1' : H8 t1 = none := nt1
            have n1 : (upd H8 t1 (.tup [V.int (i : Nat), .non])) p2 = some (.lst ws2) := same_new nt1' _ _ ow8.h
            rw [upd_ne (ne_of_none n1 nl1)]
            exact n1
          · have nt1' : H8 t1 = none := nt1
            have G8 := G7.trans g8
            have ga := G8.trans (.new (o := .tup [V.int (i : Nat), .non]) G8.mh nt1')
            have gb := ga.trans (.own (o := .lst [.ref t1]) ga.mh nl1)
            have gc := gb.trans (.own (o := .lst (ws2 ++ [.ref t1])) gb.mh np3)
            have o3 := Own.new' (vs := ws2 ++ [.ref t1]) gb np3
            have gd := Gr.new (o := .tup [.non, .ref p3]) gc.mh nt
            have o4 := o3.step gd
            refine q (none, st2 ++ [(i, none)]) t .non p3 _ _ _ (hch _ ?_) (gc.trans gd) o4.h0 o4.m o4.h ?_ rfl upd_same
            · rw [if_pos rfl]
              refine .dead ?_
              rw [ep, ed, passGo, e0]
            · exact pd_app (hpd7.mono ((same_new (G8.mh.free nt1')).trans gd.mm)) (.cons ⟨t1, rfl, gd.mm _ _ upd_same⟩ .nil)
        · have hne : openOnes so2 c ≠ some [] := by simpa using hb
          have g8 := G7.trans (.idle G7.mh hh8)
          have ok8 := ok7.idle hh8
          have ow8 := ow7.idle hh8
          have m78 : Same M7 H8 := g7.mh.trans hh8
          cases eo : openOnes so2 c with
          | none =>
            rw [eo] at r7
            refine s_if0 (b := false) m78 (gt_and (c := false) (gt_B (gv_notN (b := true) (gv_var (P := OpR' (LiR Tx) none) rfl r7) fun M v h => opL_non h)) fun h => nomatch h) (fun h => nomatch h) fun _ H9 hh9 => ?_
            refine ⟨M7, so2, st2, mv2, ws2, _, _, _, g8.trans (.idle g8.mh hh9), s1.trans g7.mm, s2.trans g7.mm, ok8.idle hh9, ow8.idle hh9, hpd7, rfl, ?_, hf, ht, hmu2, hso2⟩
            rw [ep, ed, passGo, eo]
          | some ls =>
            rw [eo] at r7 hne
            have r7' : LiR Tx ls M7 v7 := r7
            refine s_if0 (b := decide (ls.length = 1)) m78 (gt_is (gt_and (c := decide (ls.length = 1)) (gt_B (gv_notN (b := false) (gv_var (P := OpR' (LiR Tx) (some ls)) rfl r7) fun M v h => opL_non h)) fun _ => gt_test (gv_is (gv_eqT (K := K) (neg := false) py_int inj_int (gv_lenA (K := K) (gv_var rfl (r7'.sq (K := K)))) (gv_c rfl) (by simp [PyData.depth])) fun M v h => ?_)) (by simp)) (fun hb2 H9 hh9 => ?_) (fun hb2 H9 hh9 => ?_)
            · rw [show v = _ from h]
              simp only [Bool.false_bne, V.bl.injEq, decide_eq_decide]
              omega
            · obtain ⟨l, rfl⟩ : ∃ l, ls = [l] := by
                match ls, hb2 with
                | [l], _ => exact ⟨l, rfl⟩
                | [], h => simp at h
                | _ :: _ :: _, h => simp at h
              obtain ⟨hlc, hls⟩ := open_one eo
              have hml := mu_put hxm hlc hls
              have g9 := g8.trans (.idle g8.mh hh9)
              have ok9 := ok8.idle hh9
              have ow9 := ow8.idle hh9
              refine q_dputT (l := l) (g9.mh) rfl ok9.h (szL (by omega)) (gv_ix (K := K) (R := Tx) (xs := [l]) (i := 0) (gv_var rfl (r7'.sq (K := K))) (gv_c rfl) rfl) fun M10 H10 g10 => ?_
              rw [onceP_new hls]
              have ok10 := ok9.step g10
              have ow10 := ow9.step g10
              have g10' := (g9.trans g10).mut (o := .dK (kvT (so2 ++ [l]))) ok10.h0 ok10.m
              have ok11 := ok10.put (ls := so2 ++ [l])
              have ow11 := ow10.off (u := .dK (kvT (so2 ++ [l]))) (Ne.symm (ok10.ne ow10))
              have r10 : LiR Tx [l] M10 v7 := Mon.mono g10.mm r7'
              refine q_app (P := StepR (i, some l)) g10'.mh rfl ow11.h (szL (by omega)) (gv_step (gv_var rfl rfl) (gv_ix (K := K) (R := Tx) (xs := [l]) (i := 0) (gv_var rfl (r10.sq (K := K))) (gv_c rfl) rfl)) fun v12 M12 H12 g12 r12 => ?_
              have ok12 := ok11.step g12
              have ow12 := ow11.step g12
              have g12' := (g10'.trans g12).mut (o := .lst (ws2 ++ [v12])) ow12.h0 ow12.m
              have ok13 := ok12.off (u := .lst (ws2 ++ [v12])) (ok12.ne ow12)
              have ow13 := ow12.put (ws := ws2 ++ [v12])
              refine s_asg (P := Bl true) g12'.mh (gv_c rfl) fun v14 M14 H14 g14 r14 => ?_
              cases r14
              have g710 := (g10.mm.trans g12.mm).trans g14.mm
              refine ⟨M14, so2 ++ [l], st2 ++ [(i, some l)], true, ws2 ++ [v12], _, _, _, g12'.trans g14, s1.trans (g7.mm.trans g710), s2.trans (g7.mm.trans g710), ok13.step g14, ow13.step g14, pd_app (hpd7.mono g710) (.cons (Mon.mono g14.mm r12) .nil), rfl, ?_, (fun h => nomatch h), fun _ => ?_, ?_, ?_⟩
              · rw [ep, ed, passGo, eo]
              · cases mv2 with
                | true => have := ht rfl; omega
                | false => rw [(hf rfl).1] at hml ⊢; exact hml
              · rw [List.length_append, List.length_singleton]; omega
              · rw [List.length_append, List.length_append, List.length_singleton, List.length_singleton]; omega
            · refine ⟨M7, so2, st2, mv2, ws2, _, _, _, g8.trans (.idle g8.mh hh9), s1.trans g7.mm, s2.trans g7.mm, ok8.idle hh9, ow8.idle hh9, hpd7, rfl, ?_, hf, ht, hmu2, hso2⟩
              rw [ep, ed, passGo, eo]
              match ls, hne, hb2 with
              | [], h, _ => exact absurd rfl h
              | [l], _, h => simp at h
              | _ :: _ :: _, _, _ => rfl
      · rintro M5 σ' M' H' sM ⟨so2, st2, mv2, ws2, y5, y6, y7, g, s1, s2, ok2, ow2, hpd2, rfl, ep, hf, ht, hmu2, hso2⟩
        rw [List.drop_length, passGo] at ep
        refine ⟨_, M', ?_, so2, st2, mv2, ws2, y5, y6, y7, y8, rfl, g, ok2, ow2, hpd2, rfl, fun r hr => hch r ?_, hmu2, hso2⟩
        · rw [if_pos rfl]
          cases mv2 with
          | true => have := ht rfl; simp only [if_true]; omega
          | false => rw [(hf rfl).1]; simp
        · rw [if_pos rfl]
          cases mv2 with
          | true => rw [if_pos rfl] at hr; exact .more ep hr
          | false => rw [if_neg (by decide)] at hr; subst hr; exact .done ep
    · subst hb
      have g3 := g.trans (.idle g.mh hh3)
      have ok3 := ok1.idle hh3
      have ow3 := ow1.idle hh3
      refine ⟨.ref p, rfl, p, _, rfl, ok3.h, trivial, fun o => ⟨.ref p2, rfl, by show 2 ≤ sizeLine; decide, fun t nt => ?_⟩⟩
      have ga := (g3.mut (o := .frz o (.dK (kvT so))) ok3.h0 ok3.m).freeze ok3.h0 ok3.m upd_same
      have ow4 := ow3.both (u := .frz o (.dK (kvT so))) (Ne.symm (ok3.ne ow3))
      have gd := Gr.new (o := .tup [.ref p, .ref p2]) ga.mh nt
      have ow5 := ow4.step gd
      refine q (some so, st) t (.ref p) p2 _ _ _ (hch _ (by rw [if_neg (by decide)])) (ga.trans gd) ow5.h0 ow5.m ow5.h (hpd.mono ((same_new ok3.m).trans gd.mm)) ⟨p, o, rfl, gd.mm _ _ upd_same⟩ upd_same
end
end My

set_option Elab.async false
set_option linter.all false
set_option maxRecDepth 100000
set_option maxHeartbeats 4000000
namespace My
open PySem PySem.Spec PyProof.Rows L2 L3
structure Gc (mg : Str → Option Value) : Prop extends Gb mg where
  bool : mg "bool" = none
def itemsD : PyData → List PyData
  | .list ds => ds | .tuple ds => ds | _ => []
structure CodeW (cd : CodeD) : Prop where
  c : ∀ x ∈ cd.clauses, shortT x
  n : cd.clauses.flatten.length ≤ 1000000
  k : cd.clauses.length ≤ 1000000
  s : Shorts cd.names
theorem _root_.L3.TuR.sqq {K : PySem.W.Frag} {cs : List (List Str)} {M : Hp} {v : V} (h : TuR TT cs M v) : SqR K (SqR K Tx) cs M v :=
  let ⟨a, vs, e, r, p⟩ := h
  .inr ⟨a, vs, e, .inl (.inl r), Paired.mapP p fun _ _ q => TT.sq q⟩
section
end
section
variable {P : Program} {w : World} {K : PySem.W.Frag} {mg : Str → Option Value} {base : Heap}
abbrev s_Code_len : Stmt := inClass (topS 34) 4
theorem sc_Code_len : FnScope ["self"] ["self"] (defScope s_Code_len) := ⟨rfl, rfl, rfl, by decide +kernel, rfl, by decide +kernel, by decide +kernel⟩
def sp_Code_len (K : PySem.W.Frag) (C : Addr) : Sp := sp1 (CodeR C) (fun _ => True) fun c => It' (c.clauses.length : Nat)
theorem ok_Code_len {f C : Addr} {fd : FuncData} (F : Fun K "__len__" "Code.__len__" s_Code_len f fd) (T : Gb mg) (TC : CodeT K mg C) : FnOk P w K mg base CX0 1 f fd ["self"] (sp_Code_len K C) := by
  refine F.ok sc_Code_len (fun vs H Q E h => ?_) (fun cdv A outer s H vs Q E hr h => ?_)
  · obtain ⟨x, M, v, rfl, _⟩ := h
    rfl
  · obtain ⟨c, M, v, rfl, mh, r1, hp, q⟩ := h
    refine ⟨_, (pss_one (ps_ret (pe_callB call_lenA (by rfl) T.len boot_len (pa_cons (pe_fld (pv 0) rfl) pa_nil)))), ?_⟩
    exact s_ret mh (gv_lenA (K := K) (R := TT) (gv_is (gv_clause TC (gv_var rfl r1)) fun _ _ h => h.sq)) q
end
end My

set_option Elab.async false
set_option linter.all false
set_option maxRecDepth 100000
set_option maxHeartbeats 4000000
namespace My
open PySem PySem.Spec PyProof.Rows L2 L3
open L3.Strm
section
variable {K : PySem.W.Frag} {σ : Sl} {M : Hp} {ta tb te : TE} {i j : Int}
theorem gv_mul (ha : Gv ta σ M (It' i)) (hb : Gv tb σ M (It' j)) (hc : CMul i j) : Gv (tOp (rI CMul fun i j => .int (i * j)) ta tb) σ M (It' (i * j)) := gv_op ha hb fun M' u w px py => rv_pure (fun H mh Q q => ⟨i, j, px, py, hc, q⟩) rfl
theorem gv_mod (ha : Gv ta σ M (It' i)) (hb : Gv tb σ M (It' j)) (hc : 0 < j) : Gv (tOp (rI (fun _ j => 0 < j) fun i j => .int (i % j)) ta tb) σ M (It' (i % j)) := gv_op ha hb fun M' u w px py => rv_pure (fun H mh Q q => ⟨i, j, px, py, hc, q⟩) rfl
theorem gv_fdiv (ha : Gv ta σ M (It' i)) (hb : Gv tb σ M (It' j)) (hc : CDiv i j) : Gv (tOp (rI CDiv fun i j => .int (i / j)) ta tb) σ M (It' (i / j)) := gv_op ha hb fun M' u w px py => rv_pure (fun H mh Q q => ⟨i, j, px, py, hc, q⟩) rfl
theorem gv_pow (ha : Gv ta σ M (It' i)) (hb : Gv tb σ M (It' j)) (hc : CPow i j) : Gv (tOp (rI CPow fun i j => .int (i ^ j.toNat)) ta tb) σ M (It' (i ^ j.toNat)) := gv_op ha hb fun M' u w px py => rv_pure (fun H mh Q q => ⟨i, j, px, py, hc, q⟩) rfl
theorem gv_lt (ha : Gv ta σ M (It' i)) (hb : Gv tb σ M (It' j)) : Gv (tOp (rI0 fun i j => .bl (decide (i < j))) ta tb) σ M (Bl (decide (i < j))) := gv_op ha hb fun M' u w px py => rv_pure (fun H mh Q q => ⟨i, j, px, py, q⟩) rfl
theorem gv_gt {g : Int → Int → V} (ha : Gv ta σ M (It' i)) (hb : Gv tb σ M (It' j)) : Gv (tOp (rI0 g) ta tb) σ M (fun _ v => v = g i j) := gv_op ha hb fun M' u w px py => rv_pure (fun H mh Q q => ⟨i, j, px, py, q⟩) rfl
theorem gv_int1 (ha : Gv ta σ M (It' i)) : Gv (tCB (fun xs H Q => (∃ i, xs = [V.int i] ∧ Q (.int i) H) ∨ ∃ k, xs = [V.bl k] ∧ Q (.int (if k then 1 else 0)) H) (tCons ta tNil)) σ M (It' i) := gv_cb1 ha fun M' v hv H mh Q q => .inl ⟨i, by rw [hv], q _ M' H (.refl mh) rfl⟩
theorem gv_int1b {b : Bool} (ha : Gv ta σ M (Bl b)) : Gv (tCB (fun xs H Q => (∃ i, xs = [V.int i] ∧ Q (.int i) H) ∨ ∃ k, xs = [V.bl k] ∧ Q (.int (if k then 1 else 0)) H) (tCons ta tNil)) σ M (It' (if b then 1 else 0)) := gv_cb1 ha fun M' v hv H mh Q q => .inr ⟨b, by rw [hv], q _ M' H (.refl mh) rfl⟩
/-- an int of a mixed list -/
theorem gv_ixI {ds : List PyData} {z : Int} (ha : Gv ta σ M (SqR K (Dd K) ds)) (hb : Gv tb σ M (It' i)) (hx : atI ds i = some (.int z)) : Gv (tOp (rIxX K) ta tb) σ M (It' z) := gv_is (gv_ix (K := K) (R := Dd K) ha hb hx) fun M v h => by cases h; rfl
end
theorem depthI (cs : List Int) : (PyData.list (cs.map .int)).depth ≤ 60 := by
  have : ∀ cs : List Int, PyData.depthAll (cs.map .int) = 0 := fun cs => by
    induction cs with
    | nil => simp [PyData.depthAll]
    | cons c r ih => simp [PyData.depthAll, PyData.depth, ih]
  simp [PyData.depth, this]
theorem nilI (cs : List Int) : PyData.eqv (.list (cs.map .int)) (.list []) = decide (cs = []) := by
  cases cs <;> simp [PyData.eqv, PyData.eqvAll]
section
variable {P : Program} {w : World} {K : PySem.W.Frag} {mg : Str → Option Value} {base : Heap}
abbrev s__law_draw : Stmt := topS 43
theorem sc__law_draw : FnScope ["_law_stream", "_law_many", "_law_mixed_here", "_law_digit"] ["_law_stream", "_law_many"] (defScope s__law_draw) := ⟨rfl, rfl, rfl, by decide +kernel, rfl, by decide +kernel, by decide +kernel⟩
def sp__law_draw (K : PySem.W.Frag) : Sp := spS1 It' (fun n => 0 < n ∧ n < 1073741824) (fun _ => 1) fun n => Ex It' fun i => 0 ≤ i ∧ i < n
theorem ok__law_draw {f : Addr} {fd : FuncData} (F : Fun K "_law_draw" "_law_draw" s__law_draw f fd) (T : Gc mg) : FnOk P w K mg base CX0 1 f fd ["_law_stream", "_law_many"] (sp__law_draw K) := by
  refine F.ok sc__law_draw (fun vs H Q E h => ?_) (fun cdv A outer s H vs Q E hr h => ?_)
  · obtain ⟨S, x, M, v, k, rfl, _⟩ := h
    rfl
  · obtain ⟨S, many, M, v, k, rfl, mh, at_, r1, ⟨hm1, hm2⟩, q⟩ := h
    cases r1
    have hu := hr.units
    refine ⟨_, (pss_cons (ps_asg (pe_op op_addA (pe_ix ix_X (pv 0) pe_int (fun _ _ => rfl)) pe_int) (pg_sub (pv 0) pe_int set_list))
      (pss_cons (ps_if (PW.pt (pw_and (pt_cmpR (op_eqP hu) (pe_ix ix_X (pv 0) pe_int (fun _ _ => rfl)) pe_int (nomark _)) (pw_and1 (pt_cmpR (op_neP hu) (pe_ix ix_X (pv 0) pe_int (fun _ _ => rfl)) (pe_lst pa_nil) (nomark _))))) (pss_cons (ps_asg (pe_bm PySem.F.plainAttrs_list PySem.F.slot_list_pop PySem.F.type_list_pop mt_popAt (pe_ix ix_X (pv 0) pe_int (fun _ _ => rfl)) (pa_cons pe_int pa_nil)) (pg_sub (pv 0) pe_int set_list))
      (pss_one (ps_if (pt_cmpR op_lt (pe_ix ix_X (pv 0) pe_int (fun _ _ => rfl)) (pe_op op_pow pe_int pe_int) (nomark _)) (pss_cons (ps_asg (pe_op op_mod (pe_callTy call_int1 (by rfl) T.int boot_int (pa_cons (pe_op op_addA (pe_op op_addA (pe_op op_mul (pe_ix ix_X (pv 0) pe_int (fun _ _ => rfl)) pe_int) (pe_ix ix_X (pv 0) pe_int (fun _ _ => rfl))) pe_int) pa_nil)) pe_int) (pg_sub (pv 0) pe_int set_list))
      (pss_one (ps_asg pe_int (pg_sub (pv 0) pe_int set_list)))) pss_nil))) pss_nil)
      (pss_cons (ps_if (pt_cmpR op_gt (pe_ix ix_X (pv 0) pe_int (fun _ _ => rfl)) pe_int (nomark _)) (pss_cons (ps_set (i := 3) sc__law_draw.nd rfl (by first | exact .inl rfl | exact .inr rfl) (pe_op op_mod (pe_callTy call_int1 (by rfl) T.int boot_int (pa_cons (pe_ix ix_X (pv 0) pe_int (fun _ _ => rfl)) pa_nil)) (pv 1)))
      (pss_cons (ps_asg (pe_op op_fdiv (pe_ix ix_X (pv 0) pe_int (fun _ _ => rfl)) (pv 1)) (pg_sub (pv 0) pe_int set_list))
      (pss_one (ps_ret (pv 3))))) pss_nil)
      (pss_cons (ps_set (i := 2) sc__law_draw.nd rfl (by first | exact .inl rfl | exact .inr rfl) (pe_op op_mod (pe_op op_pow (pe_op op_addA (pe_op op_addA (pe_ix ix_X (pv 0) pe_int (fun _ _ => rfl)) (pe_op op_mul pe_int (pe_ix ix_X (pv 0) pe_int (fun _ _ => rfl)))) pe_int) pe_int) pe_int))
      (pss_one (ps_ret (pe_op op_mod (pe_op op_mod (pe_op op_pow (pe_op op_addA (pe_op op_addA (pe_op op_mul (pv 2) pe_int) (pe_op op_mul (pe_op op_mul pe_int (pe_ix ix_X (pv 0) pe_int (fun _ _ => rfl))) (pe_ix ix_X (pv 0) pe_int (fun _ _ => rfl)))) pe_int) pe_int) pe_int) (pv 1)))))))), ?_⟩
    obtain ⟨hne, cells, x, n, m, h1, h2, hx, hn, hk, hm0, hm⟩ := at_
    have hk : n + ((k + 1 : Nat) : Int) ≤ 10000000 := hk
    have st0 : StAt S H cells x n m := ⟨hne, h1, h2⟩
    -- stream[2] = stream[2] + 1
    refine z_sub (j := 2) (jn := 2) (z := n + 1) rfl mh st0 rfl (gv_addIn (K := K) (gv_ixI (K := K) (i := 2) (gv_var rfl st0.sq) (gv_c rfl) rfl) (gv_c rfl)) fun M1 H1 g1 ha1 hb1 => ?_
    have st1 : StAt S H1 cells x (n + 1) m := ⟨hne, ha1, hb1⟩
    have hp18 : ((10 : Int) ^ (18 : Int).toNat) = 1000000000000000000 := by decide
    refine q_cut (fun σ' H2 => ∃ M2 cells x m, σ' = [some (.ref S.a), some (.int many), none, none] ∧ Gr M (S.cut H) M2 (S.cut H2) ∧ StAt S H2 cells x (n + 1) m ∧ 0 ≤ x ∧ 0 ≤ m ∧ m < 2147483647) (fun nx hnx => ?_) ?_
    · refine s_if0 (b := decide (x = 0) && !decide (cells = [])) (full_same g1.mh) (gt_and (gt_test (gv_is (gv_eqT (K := K) (neg := false) py_int inj_int (gv_ixI (K := K) (i := 1) (gv_var rfl st1.sq) (gv_c rfl) rfl) (gv_c rfl) (by simp [PyData.depth])) fun M v h => by simpa using h)) fun _ =>
          gt_test (gv_is (gv_eq (K := K) (neg := true) (d := .list (cells.map .int)) (e := .list []) (gv_ix (K := K) (R := Dd K) (i := 0) (gv_var rfl st1.sq) (gv_c rfl) rfl) gv_nilD (depthI cells)) fun M v h => ?_)) (fun hb H2 hh2 => ?_) (fun hb H2 hh2 => ?_)
      · rw [show v = _ from h, nilI]; simp
      · -- a cell is taken
        obtain ⟨ex, hc⟩ : x = 0 ∧ cells ≠ [] := by simpa using hb
        have st2 := st1.same hh2
        have g2 : Gr M (S.cut H) M1 (S.cut H2) := g1.trans (.idle g1.mh fun y u e => by rw [cut_on (on_of e)]; exact hh2 y u (of_cut e))
        obtain ⟨cell, rest, rfl⟩ : ∃ c r, cells = c :: r := by cases cells with | nil => exact absurd rfl hc | cons c r => exact ⟨c, r, rfl⟩
        refine ⟨.ref S.a, rfl, .inl ⟨S.a, _, 0, .ref S.b, rfl, rfl, .inl (.inl st2.a), rfl, .inl ⟨rfl, _, .inl (.inl st2.b)⟩, S.b, _, 0, 0, .int cell, rfl, rfl, st2.b, by decide, by decide, ?_, rfl, .ref S.a, rfl, S.a, _, 1, 1, rfl, rfl, (by rw [upd_ne hne]; exact st2.a), rfl, ?_⟩⟩
        · simp [seqIndex?]
        · have st3 : StAt S (upd (upd H2 S.b (.lst (((cell :: rest).map V.int).eraseIdx 0))) S.a (.lst ([V.ref S.b, .int x, .int (n + 1), .int m].set 1 (.int cell)))) rest cell (n + 1) m := ⟨hne, upd_same, by rw [upd_ne (Ne.symm hne), upd_same]; rfl⟩
          have g3 : Gr M (S.cut H) M1 (S.cut (upd (upd H2 S.b (.lst (((cell :: rest).map V.int).eraseIdx 0))) S.a (.lst ([V.ref S.b, .int x, .int (n + 1), .int m].set 1 (.int cell))))) := by rw [cut_updo (.inl rfl), cut_updo (.inr rfl)]; exact g2
          revert st3 g3
          generalize upd (upd H2 S.b (.lst (((cell :: rest).map V.int).eraseIdx 0))) S.a (.lst ([V.ref S.b, .int x, .int (n + 1), .int m].set 1 (.int cell))) = H3
          intro st3 g3
          refine s_if0 (b := decide (cell < 1000000000000000000)) (full_same g3.mh) (gt_test (gv_is (gv_lt (gv_ixI (K := K) (i := 1) (gv_var rfl st3.sq) (gv_c rfl) rfl) (gv_pow (i := 10) (j := 18) (gv_c rfl) (gv_c rfl) ⟨by decide, by decide, by decide⟩)) fun M v h => by rw [hp18] at h; exact h)) (fun hb4 H4 hh4 => ?_) (fun hb4 H4 hh4 => ?_)
          · have st4 := st3.same hh4
            have g4 : Gr M (S.cut H) M1 (S.cut H4) := g3.trans (.idle g3.mh fun y u e => by rw [cut_on (on_of e)]; exact hh4 y u (of_cut e))
            refine z_sub (j := 3) (jn := 3) (z := (m * 31 + cell + 7) % 2147483647) rfl g4.mh st4 rfl (gv_mod (gv_int1 (gv_addIn (K := K) (gv_addIn (K := K) (gv_mul (gv_ixI (K := K) (i := 3) (gv_var rfl st4.sq) (gv_c rfl) rfl) (gv_c rfl) (.inr ⟨by decide, by decide⟩)) (gv_ixI (K := K) (i := 1) (gv_var rfl st4.sq) (gv_c rfl) rfl)) (gv_c rfl))) (gv_c rfl) (by decide)) fun M5 H5 g5 ha5 hb5 => ?_
            have st5 : StAt S H5 rest cell (n + 1) ((m * 31 + cell + 7) % 2147483647) := ⟨hne, ha5, hb5⟩
            refine z_subE (j := 1) (jn := 1) (z := 0) rfl g5.mh st5 rfl (gv_c rfl) fun M6 H6 g6 ha6 hb6 => ?_
            exact hnx _ _ ⟨M6, rest, 0, _, rfl, (g4.trans g5).trans g6, ⟨hne, ha6, hb6⟩, Int.le_refl _, Int.emod_nonneg _ (by decide), Int.emod_lt_of_pos _ (by decide)⟩
          · have hc : (1000000000000000000 : Int) ≤ cell := by simpa using hb4
            exact hnx _ _ ⟨M1, rest, cell, m, rfl, g3.trans (.idle g3.mh fun y u e => by rw [cut_on (on_of e)]; exact hh4 y u (of_cut e)), st3.same hh4, by omega, hm0, hm⟩
      · exact hnx _ _ ⟨M1, cells, x, m, rfl, g1.trans (.idle g1.mh fun y u e => by rw [cut_on (on_of e)]; exact hh2 y u (of_cut e)), st1.same hh2, hx, hm0, hm⟩
    · rintro σ' H2 ⟨M2, cells, x, m, rfl, g2, st2, hx, hm0, hm⟩
      have hk' : n + 1 + (k : Int) ≤ 10000000 := by omega
      refine q_if0 (b := decide (0 < x)) (full_same g2.mh) (gt_test (gv_is (gv_gt (gv_ixI (K := K) (i := 1) (gv_var rfl st2.sq) (gv_c rfl) rfl) (gv_c rfl)) fun M v h => h)) (fun hb3 H3 hh3 => ?_) (fun hb3 H3 hh3 => ?_)
      · have st3 := st2.same hh3
        have g3 : Gr M (S.cut H) M2 (S.cut H3) := g2.trans (.idle g2.mh fun y u e => by rw [cut_on (on_of e)]; exact hh3 y u (of_cut e))
        refine q_asg (M := S.full M2 H3) (P := It' (x % many)) (full_same g3.mh) (gv_mod (gv_int1 (gv_ixI (K := K) (i := 1) (gv_var rfl st3.sq) (gv_c rfl) rfl)) (gv_var rfl rfl) hm1) fun v4 M4 H4 g4 r4 => ?_
        cases r4
        have st4 := st3.same g4.hh
        have G4 := g3.trans (unfull g3.mh g4)
        refine z_sub (j := 1) (jn := 1) (z := x / many) rfl G4.mh st4 rfl (gv_fdiv (gv_ixI (K := K) (i := 1) (gv_var rfl st4.sq) (gv_c rfl) rfl) (gv_var rfl rfl) ⟨hm1, hm2⟩) fun M5 H5 g5 ha5 hb5 => ?_
        refine ⟨.int (x % many), rfl, q _ M5 H5 (G4.trans g5) ⟨hne, cells, x / many, n + 1, m, ha5, hb5, Int.ediv_nonneg hx (by omega), by omega, hk', hm0, hm⟩ ⟨x % many, ⟨Int.emod_nonneg _ (by omega), Int.emod_lt_of_pos _ hm1⟩, rfl⟩⟩
      · have st3 := st2.same hh3
        have g3 : Gr M (S.cut H) M2 (S.cut H3) := g2.trans (.idle g2.mh fun y u e => by rw [cut_on (on_of e)]; exact hh3 y u (of_cut e))
        refine q_asg (M := S.full M2 H3) (P := It' ((m + 104729 * (n + 1) + 17) ^ (5 : Int).toNat % 2147483629)) (full_same g3.mh) (gv_mod (gv_pow (gv_addIn (K := K) (gv_addIn (K := K) (gv_ixI (K := K) (i := 3) (gv_var rfl st3.sq) (gv_c rfl) rfl) (gv_mul (gv_c rfl) (gv_ixI (K := K) (i := 2) (gv_var rfl st3.sq) (gv_c rfl) rfl) (.inl ⟨by decide, by decide⟩))) (gv_c rfl)) (gv_c rfl) ⟨by decide, by decide, by omega⟩) (gv_c rfl) (by decide)) fun v4 M4 H4 g4 r4 => ?_
        have st4 := st3.same g4.hh
        have G4 := g3.trans (unfull g3.mh g4)
        have hz0 := Int.emod_nonneg ((m + 104729 * (n + 1) + 17) ^ (5 : Int).toNat) (show (2147483629 : Int) ≠ 0 by decide)
        have hz1 := Int.emod_lt_of_pos ((m + 104729 * (n + 1) + 17) ^ (5 : Int).toNat) (show (0 : Int) < 2147483629 by decide)
        revert r4 hz0 hz1
        generalize (m + 104729 * (n + 1) + 17) ^ (5 : Int).toNat % 2147483629 = z
        intro r4 hz0 hz1
        have hnn : (n + 1) * (n + 1) ≤ 10000000 * 10000000 := Int.mul_le_mul (by omega) (by omega) (by omega) (by omega)
        have hnn0 : 0 ≤ (n + 1) * (n + 1) := Int.mul_nonneg (by omega) (by omega)
        have hass : 40503 * (n + 1) * (n + 1) = 40503 * ((n + 1) * (n + 1)) := Int.mul_assoc _ _ _
        refine s_ret (M := S.full (S.cut M4) H4) (P := It' ((z * 48271 + 40503 * (n + 1) * (n + 1) + 13) ^ (3 : Int).toNat % 1000000007 % many)) (full_same G4.mh) (gv_mod (gv_mod (gv_pow (gv_addIn (K := K) (gv_addIn (K := K) (gv_mul (gv_var rfl r4) (gv_c rfl) (.inr ⟨by decide, by decide⟩)) (gv_mul (gv_mul (gv_c rfl) (gv_ixI (K := K) (i := 2) (gv_var rfl st4.sq) (gv_c rfl) rfl) (.inl ⟨by decide, by decide⟩)) (gv_ixI (K := K) (i := 2) (gv_var rfl st4.sq) (gv_c rfl) rfl) (.inr ⟨by omega, by omega⟩))) (gv_c rfl)) (gv_c rfl) ⟨by decide, by decide, by omega⟩) (gv_c rfl) (by decide)) (gv_var rfl rfl) hm1) fun v5 M5 H5 g5 r5 => ?_
        have st5 := st4.same g5.hh
        exact q _ _ H5 (G4.trans (unfull G4.mh g5)) ⟨hne, cells, x, n + 1, m, st5.a, st5.b, hx, by omega, hk', hm0, hm⟩ ⟨_, ⟨Int.emod_nonneg _ (by omega), Int.emod_lt_of_pos _ hm1⟩, r5⟩
end
end My

set_option Elab.async false
set_option linter.all false
set_option maxRecDepth 100000
set_option maxHeartbeats 4000000
namespace My
open PySem PySem.Spec PyProof.Rows L2 L3
open L3.Strm
theorem rv_ix {K : PySem.W.Frag} {α : Type} {R : Rl α} [Mon R] {xs : List α} {i : Int} {x : α} {M : Hp} {u w : V} (hu : SqR K R xs M u) (hw : It' i M w) (hx : atI xs i = some x) : RV (rIxX K u w) M (R x) :=
  fun H mh Q q => gv_ix (K := K) (σ := []) (M := M) (ta := tC u) (tb := tC w) (gv_c hu) (gv_c hw) hx H mh Q q
theorem rv_ixS {K : PySem.W.Frag} {x : Str} {i : Int} {c : Nat} {M : Hp} {u w : V} (hu : Tx x M u) (hw : It' i M w) (hz : x.length ≤ sizeLine) (hx : atI x.cps.toList i = some c) : RV (rIxX K u w) M (Tx ⟨#[c]⟩) :=
  fun H mh Q q => gv_ixS (K := K) (σ := []) (M := M) (ta := tC u) (tb := tC w) (gv_c hu) (gv_c hw) hz hx H mh Q q
theorem atI_in {α : Type} {xs : List α} {i : Int} (h0 : 0 ≤ i) (h1 : i < xs.length) : ∃ x ∈ xs, atI xs i = some x := by
  have hi : i.toNat < xs.length := by omega
  refine ⟨xs[i.toNat], List.getElem_mem _, ?_⟩
  have := atI_nat (xs := xs) (j := i.toNat) (List.getElem?_eq_getElem hi)
  rw [Int.toNat_of_nonneg h0] at this
  exact this
theorem erase_map {α β : Type} (f : α → β) : ∀ (l : List α) (i : Nat), (l.map f).eraseIdx i = (l.eraseIdx i).map f
  | [], _ => rfl
  | _ :: _, 0 => rfl
  | a :: l, i + 1 => by show f a :: (l.map f).eraseIdx i = f a :: (l.eraseIdx i).map f; rw [erase_map f l i]
theorem erase_perm {α : Type} : ∀ {l : List α} {i : Nat} (h : i < l.length), (l[i] :: l.eraseIdx i).Perm l
  | _ :: _, 0, _ => List.Perm.refl _
  | a :: l, i + 1, h => (List.Perm.swap _ _ _).trans (List.Perm.cons a (erase_perm (l := l) (i := i) (Nat.lt_of_succ_lt_succ h)))
section
variable {P : Program} {w : World} {K : PySem.W.Frag} {mg : Str → Option Value} {base : Heap}
abbrev s__law_pick : Stmt := topS 44
theorem sc__law_pick : FnScope ["_law_stream", "_law_things"] ["_law_stream", "_law_things"] (defScope s__law_pick) := ⟨rfl, rfl, rfl, by decide +kernel, rfl, by decide +kernel, by decide +kernel⟩
def sp__law_pick (K : PySem.W.Frag) : Sp := spS1 (SqR K Tx) (fun xs => 0 < xs.length ∧ xs.length ≤ 1000000) (fun _ => 1) fun xs => Ex Tx fun x => x ∈ xs
theorem ok__law_pick {f : Addr} {fd : FuncData} (F : Fun K "_law_pick" "_law_pick" s__law_pick f fd) (T : Gc mg) (c__law_draw : Cal P w K mg base 1 "_law_draw" ["_law_stream", "_law_many"] (sp__law_draw K)) : FnOk P w K mg base CX0 2 f fd ["_law_stream", "_law_things"] (sp__law_pick K) := by
  refine F.ok sc__law_pick (fun vs H Q E h => ?_) (fun cdv A outer s H vs Q E hr h => ?_)
  · obtain ⟨S, x, M, v, k, rfl, _⟩ := h
    rfl
  · obtain ⟨S, xs, M, v, k, rfl, mh, at_, r1, ⟨h1, h2⟩, q⟩ := h
    refine ⟨_, (pss_one (ps_ret (pe_ix ix_X (pv 1) (pe_f c__law_draw (hr.mono (by decide)) (pa_cons (pv 0) (pa_cons (pe_callB call_lenA (by rfl) T.len boot_len (pa_cons (pv 1) pa_nil)) pa_nil))) (fun _ _ => rfl)))), ?_⟩
    refine z_ret (S := S) (c := 0 + 1) mh at_ (gs_op (P := SqR K Tx xs) (P1 := Ex It' fun i => 0 ≤ i ∧ i < (xs.length : Int)) (gv_var rfl r1).s (gs_call1 (S := S) (R1 := It') (pre := fun n => 0 < n ∧ n < 1073741824) (cs := fun _ => 1) (R := fun n => Ex It' fun i => 0 ≤ i ∧ i < n) (x := (xs.length : Int)) rfl (gv_lenA (K := K) (R := Tx) (gv_var rfl r1)) ⟨by omega, by omega⟩) fun M' u w pu ⟨i, hi, pw⟩ => ?_) q
    obtain ⟨x, hx, ha⟩ := atI_in hi.1 hi.2
    exact fun H mh Q q => rv_ix pu pw ha H mh Q fun v M' H' g r => q v M' H' g ⟨x, hx, r⟩
abbrev s__law_mixed : Stmt := topS 45
theorem sc__law_mixed : FnScope ["_law_stream", "_law_things", "_law_left", "_law_k"] ["_law_stream", "_law_things"] (defScope s__law_mixed) := ⟨rfl, rfl, rfl, by decide +kernel, rfl, by decide +kernel, by decide +kernel⟩
def sp__law_mixed (K : PySem.W.Frag) : Sp := slS1 (SqR K Tx) (fun xs => xs.length ≤ 1000000) (fun xs => xs.length) fun xs M ws => ∃ ys : List Str, ys.Perm xs ∧ Pd Tx M ys ws
theorem ok__law_mixed {f : Addr} {fd : FuncData} (F : Fun K "_law_mixed" "_law_mixed" s__law_mixed f fd) (T : Gc mg) (c__law_draw : Cal P w K mg base 1 "_law_draw" ["_law_stream", "_law_many"] (sp__law_draw K)) : FnOk P w K mg base CX0 2 f fd ["_law_stream", "_law_things"] (sp__law_mixed K) := by
  refine F.ok sc__law_mixed (fun vs H Q E h => ?_) (fun cdv A outer s H vs Q E hr h => ?_)
  · obtain ⟨S, x, M, v, k, rfl, _⟩ := h
    rfl
  · obtain ⟨S, xs, M, v, k, rfl, mh, at_, r1, h1, q⟩ := h
    refine ⟨_, (pss_cons (ps_set (i := 2) sc__law_mixed.nd rfl (by first | exact .inl rfl | exact .inr rfl) (pe_callTy call_lstA (by rfl) T.list boot_list (pa_cons (pv 1) pa_nil)))
      (pss_one (ps_ret (pe_lc (own := [("_law_k", 3)]) (g := (gName 3)) (tt := tYes) (te := (tBM K "list" rPopAt (tVar 2) (tCons (tCall (sp__law_draw K) [] E0 (tCons (tVar 0) (tCons (tCB (rLenA K) (tCons (tVar 2) tNil)) tNil))) tNil))) (by rfl) sc__law_mixed.nd (pi_range1 (by rfl) T.range (pa_cons (pe_callB call_lenA (by rfl) T.len boot_len (pa_cons (pv 2) pa_nil)) pa_nil)) (blkOk_by (by rfl)) (fun _ _ _ _ _ => (pg_name (i := 3) sc__law_mixed.nd rfl (by first | exact .inl rfl | exact .inr rfl))) (fun _ _ _ _ _ => pts_nil) (fun _ _ _ _ _ => (pe_bm PySem.F.plainAttrs_list PySem.F.slot_list_pop PySem.F.type_list_pop mt_popAt (pv 2) (pa_cons (pe_f c__law_draw (hr.mono (by decide)) (pa_cons (pv 0) (pa_cons (pe_callB call_lenA (by rfl) T.len boot_len (pa_cons (pv 2) pa_nil)) pa_nil))) pa_nil))))))), ?_⟩
    refine z_asgL (S := S) (c := 0) mh at_ (gl_lstOf (K := K) (R1 := Tx) (gv_var rfl r1)).s fun p vs M1 H1 g1 a1 hp0 hpm hpw hpd => ?_
    have evs := pd_tx hpd
    subst evs
    -- the comprehension
    have hlen : Gv (tCB (rLenA K) (tCons (tVar 2) tNil)) [some (.ref S.a), some v, some (.ref p), none] (upd M1 p (.lst (xs.map V.str))) (It' (xs.length : Nat)) := gv_lenA (K := K) (R := Tx) (gv_var rfl (.inl ⟨p, _, rfl, .inl (.inl upd_same), pd_of_tx xs⟩))
    have hdis : ∀ {D : Addr} {H2 : Hp} {o : HO}, H2 D = none → S.cut H2 p = some o → p ≠ D := fun hD hp z => by subst z; have := of_cut hp; rw [hD] at this; cases this
    refine lc_rngL hlen hpm (g1.mh.trans cut_same) (of_cut hpw) (Nat.le_trans h1 (by decide)) ls_nt
      (fun D i M' H' => ∃ L zs : List Str, Gr M (S.cut H) M' (S.cut H') ∧ S.At (k + (xs.length - i)) H' ∧ S.cut H D = none ∧ M' D = none ∧ M' p = none ∧ p ≠ D ∧ S.cut H' D = some (.lst (zs.map V.str)) ∧ S.cut H' p = some (.lst (L.map V.str)) ∧ (zs ++ L).Perm xs ∧ zs.length = i) (fun M2 H2 D g2 hD => ?_) (fun D i M' H' hi => ?_) (fun D M' H' => ?_)
    · have g2' := lift g1.mh a1 g2
      have a2 := a1.same g2.hh
      have nD := a2.fresh hD
      have hp2 := g2'.hh _ _ hpw
      have hpD := hdis hD hp2
      have G2 := g1.trans g2'
      refine ⟨xs, [], by rw [cut_upd nD]; exact G2.trans (.own G2.mh (a2.cutn hD)), a2.upd nD, G2.hh.free (a2.cutn hD), G2.mh.free (a2.cutn hD), g2'.keep hpm hpw, hpD, by rw [cut_upd nD, upd_same]; rfl, by rw [cut_upd nD, upd_ne hpD]; exact hp2, List.Perm.refl _, rfl⟩
    · rintro ⟨L, zs, g, a', hD0, mD, mp, hpD, hwD, hwp, hper, hzl⟩
      have hLl : L.length = xs.length - i := by have := hper.length_eq; rw [List.length_append] at this; omega
      have e1 : k + (xs.length - i) = (k + (xs.length - (i + 1))) + 1 := by omega
      rw [e1] at a'
      refine ⟨.ref p, rfl, .inl ⟨rfl, _, .inl (.inl (of_cut hwp))⟩, ?_⟩
      refine GvS.lend (S := S) (c := 1) (P := Ex It' fun z => 0 ≤ z ∧ z < (L.length : Int)) (gs_call1 (S := S) (R1 := It') (pre := fun n => 0 < n ∧ n < 1073741824) (cs := fun _ => 1) (R := fun n => Ex It' fun i => 0 ≤ i ∧ i < n) (x := (L.length : Int)) rfl
        (gv_lenA (K := K) (R := Tx) (gv_var rfl (.inl ⟨p, _, rfl, .inl (.inl upd_same), pd_of_tx L⟩))) ⟨by omega, by omega⟩) mp g.mh a' hwp ls_nt fun v3 M3 H3 g3 a3 ⟨z, hz, rz⟩ => ?_
      cases rz
      have hp3 := g3.hh _ _ hwp
      have hD3 := g3.hh _ _ hwD
      have hzn : z.toNat < L.length := by omega
      refine ⟨p, L.map V.str, z, z.toNat, .str L[z.toNat], rfl, rfl, of_cut hp3, by omega, by omega, ?_, ?_, ?_⟩
      · unfold seqIndex?
        rw [List.length_map]
        simp only [if_neg (show ¬ z < 0 by omega)]
        rw [if_pos (by simp; omega)]
      · rw [List.getElem?_map, List.getElem?_eq_getElem hzn]; rfl
      · have np := on_of hp3
        have nD := on_of hD3
        refine ⟨zs.map V.str, by rw [upd_ne (Ne.symm hpD)]; exact of_cut hD3, szL (by rw [List.length_map]; omega), M3, L.eraseIdx z.toNat, zs ++ [L[z.toNat]], ?_, (a3.upd np).upd nD, hD0, g3.keep mD hwD, g3.keep mp hwp, hpD, ?_, ?_, ?_, by rw [List.length_append, hzl]; rfl⟩
        · rw [cut_upd nD, cut_upd np]
          exact ((g.trans g3).mut hp0 (g3.keep mp hwp)).mut hD0 (g3.keep mD hwD)
        · rw [cut_upd nD, upd_same, List.map_append]; rfl
        · rw [cut_upd nD, cut_upd np, upd_ne hpD, upd_same, erase_map]
        · refine List.Perm.trans ?_ hper
          rw [List.append_assoc]
          exact List.Perm.append_left zs (erase_perm hzn)
    · rintro ⟨L, zs, g, a', hD0, mD, mp, hpD, hwD, hwp, hper, hzl⟩
      have hL : L = [] := by
        have := hper.length_eq; rw [List.length_append] at this
        exact List.eq_nil_of_length_eq_zero (by omega)
      subst hL
      rw [List.append_nil] at hper
      exact q D _ M' H' g (a'.le (by omega)) hD0 mD hwD ⟨zs, hper, pd_of_tx zs⟩
end
end My

set_option Elab.async false
set_option linter.all false
set_option maxRecDepth 100000
set_option maxHeartbeats 4000000
namespace My
open PySem PySem.Spec PyProof.Rows L2 L3
open L3.Strm
section
variable {K : PySem.W.Frag} {S : Strm} {σ : Sl} {M : Hp} {te : TE} {i : Nat} {n : Int}
theorem gs_draw (hi : σ[i]? = some (some (.ref S.a))) (h : Gv te σ M (It' n)) (h0 : 0 < n) (h1 : n < 1073741824) : GvS S 1 (tCall (sp__law_draw K) [] E0 (tCons (tVar i) (tCons te tNil))) σ M (Ex It' fun z => 0 ≤ z ∧ z < n) :=
  gs_call1 (S := S) (R1 := It') (pre := fun n => 0 < n ∧ n < 1073741824) (cs := fun _ => 1) (R := fun n => Ex It' fun i => 0 ≤ i ∧ i < n) (x := n) hi h ⟨h0, h1⟩
theorem gts_zero (hi : σ[i]? = some (some (.ref S.a))) (h : Gv te σ M (It' n)) (h0 : 0 < n) (h1 : n < 1073741824) : GvTS S 1 (tTest (tOp (rEqP K false) (tCall (sp__law_draw K) [] E0 (tCons (tVar i) (tCons te tNil))) (tC (.int 0)))) σ M fun _ => True :=
  (gts_test (P := fun _ v => ∃ b, v = .bl b) (gs_op (c2 := 0) (P1 := It' 0) (gs_draw (K := K) hi h h0 h1) (gv_c rfl).s fun M' x y ⟨z, _, rz⟩ py => fun H mh Q q =>
    gv_eqT (K := K) (neg := false) (σ := []) (M := M') (ta := tC x) (tb := tC y) py_int inj_int (gv_c rz) (gv_c py) (by simp [PyData.depth]) H mh Q fun v M' H' g r => q v M' H' g ⟨_, r⟩) fun M v ⟨b, e⟩ => ⟨b, e, trivial⟩)
end
def sgn (c : Nat) : Str := ⟨#[c]⟩
theorem join_sgn (cs : List Nat) : Txt.join "" (cs.map sgn) = ⟨cs.toArray⟩ := by
  have h := SX.join_S [] (cs.map fun c => [c])
  rw [List.map_map] at h
  have e : ∀ cs : List Nat, TL.joinL [] (cs.map fun c => [c]) = cs := fun cs => by
    induction cs with
    | nil => rfl
    | cons c r ih =>
      cases r with
      | nil => rfl
      | cons d r => show [c] ++ ([] ++ TL.joinL [] ((d :: r).map fun c => [c])) = c :: d :: r; rw [ih]; rfl
  rw [e] at h
  exact h
theorem letter_at : ∀ j, j < 26 → g_LETTERS.cps.toList[j]? = some (97 + j) := by decide +kernel
theorem atI_letter {z : Int} (h0 : 0 ≤ z) (h1 : z < 26) : atI g_LETTERS.cps.toList z = some (97 + z.toNat) := by
  have := atI_nat (letter_at z.toNat (by omega))
  rw [Int.toNat_of_nonneg h0] at this
  exact this
theorem isNm_of {cs : List Nat} (h1 : 1 ≤ cs.length) (h2 : cs.length ≤ 8) (h : ∀ c ∈ cs, ∃ j, j < 26 ∧ c = 97 + j) : isNm ⟨cs.toArray⟩ = true := by
  simp only [isNm, Bool.and_eq_true, decide_eq_true_eq, List.all_eq_true]
  refine ⟨⟨by simpa [Str.length] using h1, by simpa [Str.length] using h2⟩, fun c hc => ?_⟩
  obtain ⟨j, hj, rfl⟩ := h c (by simpa using hc)
  exact List.mem_of_getElem? (letter_at j hj)
def words : List Str := ["sign", "helper", "clause", "dead", "forced", "all", "found"]
theorem words_nm : ∀ x ∈ words, isNm x = true := by decide +kernel
def spare (i : Nat) : Str := ⟨#[113, 97 + i / 26, 97 + i % 26]⟩
theorem spare_nm {i : Nat} (h : i < 676) : isNm (spare i) = true := isNm_of (cs := [113, 97 + i / 26, 97 + i % 26]) (by simp) (by simp) fun c hc => by
  simp only [List.mem_cons, List.not_mem_nil, or_false] at hc
  rcases hc with rfl | rfl | rfl
  · exact ⟨16, by decide, rfl⟩
  · exact ⟨i / 26, by omega, rfl⟩
  · exact ⟨i % 26, by omega, rfl⟩
theorem spare_inj {i j : Nat} (h : spare i = spare j) : i = j := by
  have h1 := congrArg (fun x : Str => x.cps.toList) h
  simp only [spare, List.cons.injEq, and_true, true_and] at h1
  omega
theorem spare_eq (i : Nat) : ("q" : Str) ++ sgn (97 + i / 26) ++ sgn (97 + i % 26) = spare i := rfl
theorem nodup_le {ys : List Str} : ∀ {xs : List Str}, xs.Nodup → (∀ x ∈ xs, x ∈ ys) → xs.length ≤ ys.length := by
  intro xs
  induction xs generalizing ys with
  | nil => intro _ _; exact Nat.zero_le _
  | cons x xs ih =>
    intro nd h
    obtain ⟨hx, nd⟩ := List.nodup_cons.mp nd
    have h1 := ih (ys := ys.filter fun y => decide (y ≠ x)) nd fun z hz => List.mem_filter.mpr ⟨h z (List.mem_cons_of_mem _ hz), decide_eq_true fun e => hx (e ▸ hz)⟩
    have h2 := filter_lt (l := x) (p := fun _ => true) (q := fun y => decide (y ≠ x)) (xs := ys) (fun _ _ => rfl) (h x (List.mem_cons_self ..)) rfl (by simp)
    rw [List.filter_eq_self.mpr fun _ _ => rfl] at h2
    rw [List.length_cons]
    omega
theorem spare_free {taken : List Str} (h : ∀ i, i < 676 → spare i ∈ taken) : 676 ≤ taken.length := by
  have nd : ((List.range 676).map spare).Nodup := by
    show List.Pairwise _ _
    rw [List.pairwise_map]
    exact List.Pairwise.imp (fun hne e => hne (spare_inj e)) (List.nodup_range (n := 676))
  have := nodup_le nd fun x hx => by
    obtain ⟨i, hi, rfl⟩ := List.mem_map.mp hx
    exact h i (List.mem_range.mp hi)
  simpa using this
theorem sgns_of {α : Type} {xs : List α} {ys : List Str} (h : Paired (fun _ x => ∃ j, j < 26 ∧ x = sgn (97 + j)) xs ys) : ∃ cs : List Nat, ys = cs.map sgn ∧ cs.length = xs.length ∧ ∀ c ∈ cs, ∃ j, j < 26 ∧ c = 97 + j := by
  induction h with
  | nil => exact ⟨[], rfl, rfl, fun c h => nomatch h⟩
  | cons q _ ih =>
    obtain ⟨j, hj, e⟩ := q
    obtain ⟨cs, h1, h2, h3⟩ := ih
    refine ⟨(97 + j) :: cs, by rw [e, h1]; rfl, by simp [h2], fun c hc => ?_⟩
    rcases List.mem_cons.mp hc with rfl | hc
    · exact ⟨j, hj, rfl⟩
    · exact h3 c hc
theorem sgn_sum (cs : List Nat) : ((cs.map sgn).map (·.length)).sum = cs.length := by
  induction cs with
  | nil => rfl
  | cons c r ih => simp only [List.map_cons, List.sum_cons, ih, List.length_cons]; show 1 + r.length = _; omega
section
variable {P : Program} {w : World} {K : PySem.W.Frag} {mg : Str → Option Value} {base : Heap}
abbrev s__law_fresh : Stmt := topS 47
theorem sc__law_fresh : FnScope ["_law_stream", "_law_taken", "_law_name", "_law_k", "_law_letters", "_law_words", "_law_spare"] ["_law_stream", "_law_taken"] (defScope s__law_fresh) := ⟨rfl, rfl, rfl, by decide +kernel, rfl, by decide +kernel, by decide +kernel⟩
def sp__law_fresh (K : PySem.W.Frag) : Sp := spS1 (SqR K Tx) (fun xs => xs.length ≤ 600) (fun _ => 12) fun xs => Ex Tx fun x => isNm x = true ∧ x ∉ xs
theorem ok__law_fresh {f : Addr} {fd : FuncData} (F : Fun K "_law_fresh" "_law_fresh" s__law_fresh f fd) (T : Gc mg) (c__law_draw : Cal P w K mg base 1 "_law_draw" ["_law_stream", "_law_many"] (sp__law_draw K)) (c__law_pick : Cal P w K mg base 2 "_law_pick" ["_law_stream", "_law_things"] (sp__law_pick K)) :
    FnOk P w K mg base CX0 3 f fd ["_law_stream", "_law_taken"] (sp__law_fresh K) := by
  refine F.ok sc__law_fresh (fun vs H Q E h => ?_) (fun cdv A outer s H vs Q E hr h => ?_)
  · obtain ⟨S, x, M, v, k, rfl, _⟩ := h
    rfl
  · obtain ⟨S, tk, M, v, k, rfl, mh, at_, r1, h1, q⟩ := h
    have hu := hr.units
    refine ⟨_, (pss_cons (ps_asg (pe_tup (pa_cons pe_str (pa_cons (pe_lst (pa_cons pe_str (pa_cons pe_str (pa_cons pe_str (pa_cons pe_str (pa_cons pe_str (pa_cons pe_str (pa_cons pe_str pa_nil)))))))) pa_nil))) (pg_tup (by rfl) (pgs_cons (pg_name (i := 4) sc__law_fresh.nd rfl (by first | exact .inl rfl | exact .inr rfl)) (pgs_cons (pg_name (i := 5) sc__law_fresh.nd rfl (by first | exact .inl rfl | exact .inr rfl)) pgs_nil))))
      (pss_cons (ps_set (i := 2) sc__law_fresh.nd rfl (by first | exact .inl rfl | exact .inr rfl) (pe_join pe_str (pe_lc (own := [("_law_k", 3)]) (g := (gName 3)) (tt := tYes) (te := (tOp (rIxX K) (tVar 4) (tCall (sp__law_draw K) [] E0 (tCons (tVar 0) (tCons (tC (.int 26)) tNil))))) (by rfl) sc__law_fresh.nd (pi_range1 (by rfl) T.range (pa_cons (pe_ix ix_X (pe_lst (pa_cons pe_int (pa_cons pe_int (pa_cons pe_int (pa_cons pe_int (pa_cons pe_int (pa_cons pe_int pa_nil))))))) (pe_f c__law_draw (hr.mono (by decide)) (pa_cons (pv 0) (pa_cons pe_int pa_nil))) (fun _ _ => rfl)) pa_nil)) (blkOk_by (by rfl)) (fun _ _ _ _ _ => (pg_name (i := 3) sc__law_fresh.nd rfl (by first | exact .inl rfl | exact .inr rfl))) (fun _ _ _ _ _ => pts_nil) (fun _ _ _ _ _ => (pe_ix ix_X (pv 4) (pe_f c__law_draw (hr.mono (by decide)) (pa_cons (pv 0) (pa_cons pe_int pa_nil))) (fun _ _ => rfl))))))
      (pss_cons (ps_set (i := 2) sc__law_fresh.nd rfl (by first | exact .inl rfl | exact .inr rfl) (pe_ifExp (pt_cmpR (op_eqP hu) (pe_f c__law_draw (hr.mono (by decide)) (pa_cons (pv 0) (pa_cons pe_int pa_nil))) pe_int (nomark _)) (pe_f c__law_pick (hr.mono (by decide)) (pa_cons (pv 0) (pa_cons (pv 5) pa_nil))) (pv 2)))
      (pss_cons (ps_for PassesOwn.never (by rfl) (pi_range1 (by rfl) T.range (pa_cons (pe_op op_mul pe_int (pe_callTy call_int1 (by rfl) T.int boot_int (pa_cons (pe_cmpR (op_inA hu) (pv 2) (pv 1) (by rfl)) pa_nil))) pa_nil)) (pg_name (i := 3) sc__law_fresh.nd rfl (by first | exact .inl rfl | exact .inr rfl)) (pss_cons (ps_set (i := 6) sc__law_fresh.nd rfl (by first | exact .inl rfl | exact .inr rfl) (pe_op op_addA (pe_op op_addA pe_str (pe_ix ix_X (pv 4) (pe_op op_fdiv (pv 3) pe_int) (fun _ _ => rfl))) (pe_ix ix_X (pv 4) (pe_op op_mod (pv 3) pe_int) (fun _ _ => rfl))))
      (pss_one (ps_if (pt_cmpR (op_niA hu) (pv 6) (pv 1) (by rfl)) (pss_one (ps_ret (pv 6))) pss_nil))))
      (pss_one (ps_ret (pv 2))))))), ?_⟩
    refine z_asgT (S := S) (k := k + 12) (c := 0) (R := PrR K Tx (LiR Tx)) (x := (g_LETTERS, words)) mh at_ (gv_pair (gv_c rfl) (gv_strs words (by decide))).s tg_2 fun σ1 M1 H1 g1 a1 ⟨vl, vw, rl, rw', e⟩ => ?_
    cases rl
    subst e
    -- name = "".join([..])
    refine z_asg (S := S) (k := k + 3) (c := 9) (P := Ex Tx fun x => isNm x = true) g1.mh a1 ((gs_join (K := K) (good := fun ys => ∃ cs : List Nat, ys = cs.map sgn ∧ 1 ≤ cs.length ∧ cs.length ≤ 8 ∧ ∀ c ∈ cs, ∃ j, j < 26 ∧ c = 97 + j) ((gls_m1 (R := fun i : Nat => It' (i : Nat)) (T := Tx) (n := 8) (c1 := 1) (c2 := 1) (G := fun xs => ∃ n, (1 ≤ n ∧ n ≤ 8) ∧ xs = List.range n) (good := fun _ x => ∃ j, j < 26 ∧ x = sgn (97 + j)) ?_ ?_ (by decide) ?_).is ?_) ?_).is ?_) fun v2 M2 H2 g2 a2 ⟨nm, hnm, r2⟩ => ?_
    · refine gis_rng1 (good := fun n => 1 ≤ n ∧ n ≤ 8) (gs_op (c1 := 0) (c2 := 1) (P := SqR K It' [1, 1, 1, 2, 3, 8]) (gv_is (gv_ints [1, 1, 1, 2, 3, 8] (by decide)) fun _ _ h => h.sq).s (gs_draw (K := K) rfl (gv_c rfl) (by decide) (by decide)) fun M' u w pu ⟨z, hz, pw⟩ => ?_) fun n hn => by omega
      obtain ⟨x, hx, ha⟩ := atI_in (xs := ([1, 1, 1, 2, 3, 8] : List Int)) hz.1 hz.2
      refine fun H mh Q q => rv_ix pu pw ha H mh Q fun v M' H' g r => q v M' H' g ⟨x.toNat, ?_, ?_⟩
      · simp only [List.mem_cons, List.not_mem_nil, or_false] at hx
        omega
      · have : ((x.toNat : Nat) : Int) = x := by simp only [List.mem_cons, List.not_mem_nil, or_false] at hx; omega
        show v = .int _
        rw [this]; exact r
    · rintro xs ⟨n, hn, rfl⟩
      rw [List.length_range]; exact hn.2
    · intro xs _ i _ M2 v2 sm ri
      refine gs_op (c1 := 0) (c2 := 1) (P := Tx g_LETTERS) (gv_var rfl rfl).s (gs_draw (K := K) rfl (gv_c rfl) (by decide) (by decide)) fun M' u w pu ⟨z, hz, pw⟩ => ?_
      exact fun H mh Q q => rv_ixS pu pw (by decide) (atI_letter hz.1 hz.2) H mh Q fun v M' H' g r => q v M' H' g ⟨_, ⟨z.toNat, by omega, rfl⟩, r⟩
    · rintro M2 ws ⟨xs, ys, ⟨n, hn, rfl⟩, hp, hpd⟩
      obtain ⟨cs, h2, h3, h4⟩ := sgns_of hp
      rw [List.length_range] at h3
      exact ⟨ys, ⟨cs, h2, by omega, by omega, h4⟩, hpd⟩
    · rintro ys ⟨cs, rfl, h2, h3, h4⟩
      rw [sgn_sum]
      have e0 : (Str.ofString "").length = 0 := rfl
      rw [e0]
      omega
    · rintro M2 v2 ⟨ys, ⟨cs, rfl, h2, h3, h4⟩, r⟩
      rw [join_sgn] at r
      exact ⟨_, isNm_of h2 h3 h4, r⟩
    -- name = pick(..) if draw(9) == 0 else name
    cases r2
    have G2 := g1.trans g2
    have rw2 : LiR Tx words M2 vw := Mon.mono g2.mm rw'
    refine z_asg (S := S) (k := k + 1) (c := 1 + 1) (P := Ex Tx fun x => isNm x = true) g2.mh a2 (gs_if (c1 := 1) (c2 := 1) (gts_zero (K := K) rfl (gv_c rfl) (by decide) (by decide)) (fun _ => (gs_call1 (S := S) (R1 := SqR K Tx) (pre := fun xs => 0 < xs.length ∧ xs.length ≤ 1000000) (cs := fun _ => 1) (R := fun xs => Ex Tx fun x => x ∈ xs) (x := words) rfl (gv_var rfl (rw2.sq (K := K))) ⟨by decide, by decide⟩).is fun M v ⟨x, hx, r⟩ => ⟨x, words_nm x hx, r⟩) fun _ => (gv_var (P := Ex Tx fun x => isNm x = true) rfl ⟨nm, hnm, rfl⟩).s.cost (Nat.zero_le _)) fun v3 M3 H3 g3 a3 ⟨nm3, hnm3, r3⟩ => ?_
    cases r3
    have G3 := G2.trans g3
    have r1' : SqR K Tx tk M3 v := Mon.mono G3.mm r1
    have fin : ∀ (x : Str) (M' H' : Hp), isNm x = true → x ∉ tk → Gr M3 H3 M' H' → Q (.str x) H' := fun x M' H' hx ht g => q _ M' H' (G3.trans (lift G3.mh a3 g)) ((a3.same g.hh).le (by omega)) ⟨x, ⟨hx, ht⟩, rfl⟩
    have hmul : (676 : Int) * (if decide (nm3 ∈ tk) = true then 1 else 0) = ((if nm3 ∈ tk then 676 else 0 : Nat) : Int) := by by_cases h : nm3 ∈ tk <;> simp [h]
    refine q_forG (M := M3) (xs := List.range (if nm3 ∈ tk then 676 else 0)) (R := fun i : Nat => It' (i : Nat)) (G3.mh.trans cut_same) (gi_rng1 (n := if nm3 ∈ tk then 676 else 0) (gv_is (gv_mul (gv_c rfl) (gv_int1b (gv_inA (K := K) (neg := false) (gv_var rfl rfl) (gv_var rfl (.inl r1')))) (.inl ⟨by decide, by decide⟩)) fun M v h => by
        rw [show v = _ from h]; rw [Bool.false_xor]; show V.int _ = V.int _; rw [hmul]) (by split <;> decide)) tg_1
      (fun M1' i σ' M' H' => ∃ y3 y6, Gr M3 H3 M' H' ∧ Same M1' M' ∧ Same M3 M' ∧ σ' = [some (.ref S.a), some v, some (.str nm3), y3, some (.str g_LETTERS), some vw, y6] ∧ ∀ j, j < i → spare j ∈ tk)
      (fun M4 H4 g4 => ⟨_, _, g4, Same.refl _, g4.mm, rfl, fun j h => nomatch h⟩) (fun M4 i σ' M' H' ⟨_, _, g, s1, _⟩ => ⟨s1, g.mh⟩) ?_ ?_
    · rintro M4 i x σ' M' H' M5 H5 σ2 sM hx ⟨y3, y6, g, s1, s2, rfl, hall⟩ g5 ⟨v5, r5, rfl⟩
      cases r5
      have hix : i < (if nm3 ∈ tk then 676 else 0) := by have := (List.getElem?_eq_some_iff.mp hx).1; rwa [List.length_range] at this
      obtain rfl : i = x := by rw [List.getElem?_range hix] at hx; exact Option.some.inj hx
      have hi : i < 676 := by split at hix; exact hix; omega
      have G5 := g.trans g5
      refine q_asg (P := Tx (spare i)) G5.mh (gv_is (gv_addSt (K := K) (gv_addSt (K := K) (gv_c rfl) (gv_ixS (K := K) (i := (i : Int) / 26) (c := 97 + i / 26) (x := g_LETTERS) (gv_var rfl rfl) (gv_fdiv (gv_var rfl rfl) (gv_c rfl) ⟨by decide, by decide⟩) (by decide) ?_) (by show 1 + 1 ≤ sizeLine; decide))
        (gv_ixS (K := K) (i := (i : Int) % 26) (c := 97 + i % 26) (x := g_LETTERS) (gv_var rfl rfl) (gv_mod (gv_var rfl rfl) (gv_c rfl) (by decide)) (by decide) ?_) (by show 2 + 1 ≤ sizeLine; decide)) fun M v h => by rw [show v = _ from h]; exact congrArg V.str (spare_eq i)) fun v6 M6 H6 g6 r6 => ?_
      · have := atI_letter (z := (i : Int) / 26) (by omega) (by omega)
        rw [this]; congr 2
      · have := atI_letter (z := (i : Int) % 26) (by omega) (by omega)
        rw [this]; congr 2
      cases r6
      have G6 := G5.trans g6
      refine s_if0 G6.mh (gt_test (gv_inA (K := K) (neg := true) (gv_var rfl rfl) (gv_var rfl (.inl (Mon.mono (s2.trans (g5.mm.trans g6.mm)) r1'))))) (fun hb H7 hh7 => ?_) (fun hb H7 hh7 => ?_)
      · exact ⟨_, rfl, fin _ _ _ (spare_nm hi) (by simpa using hb) (G6.trans (.idle G6.mh hh7))⟩
      · refine ⟨M6, _, _, G6.trans (.idle G6.mh hh7), s1.trans (g5.mm.trans g6.mm), s2.trans (g5.mm.trans g6.mm), rfl, fun j hj => ?_⟩
        by_cases e : j = i
        · subst e; simpa using hb
        · exact hall j (by omega)
    · rintro M4 σ' M' H' sM ⟨y3, y6, g, s1, s2, rfl, hall⟩
      rw [List.length_range] at hall
      refine ⟨_, rfl, fin nm3 M' H' hnm3 (fun ht => ?_) g⟩
      rw [if_pos ht] at hall
      have := spare_free hall
      omega
end
end My

set_option Elab.async false
set_option linter.all false
set_option maxRecDepth 100000
set_option maxHeartbeats 4000000
namespace My
open PySem PySem.Spec PyProof.Rows L2 L3
open L3.Strm
/-- unlike names -/
structure NmL (ns : List Str) : Prop where
  nd : ns.Nodup
  nm : ∀ n ∈ ns, isNm n = true
  n : ns.length ≤ 500
/-- literals of names, no name twice -/
structure Lits (ns ys : List Str) : Prop where
  nd : (ys.map nameOf).Nodup
  of : ∀ y ∈ ys, ∃ n ∈ ns, y = n ∨ y = ("-" : Str) ++ n
section
variable {P : Program} {w : World} {K : PySem.W.Frag} {mg : Str → Option Value} {base : Heap}
abbrev s__law_names : Stmt := topS 48
theorem sc__law_names : FnScope ["_law_stream", "_law_many", "_law_found", "_law_k"] ["_law_stream", "_law_many"] (defScope s__law_names) := ⟨rfl, rfl, rfl, by decide +kernel, rfl, by decide +kernel, by decide +kernel⟩
def sp__law_names (K : PySem.W.Frag) : Sp := slS1 It' (fun n => 0 ≤ n ∧ n ≤ 500) (fun n => 12 * n.toNat) fun n M ws => ∃ ys : List Str, NmL ys ∧ ys.length = n.toNat ∧ Pd Tx M ys ws
theorem ok__law_names {f : Addr} {fd : FuncData} (F : Fun K "_law_names" "_law_names" s__law_names f fd) (T : Gc mg) (c__law_fresh : Cal P w K mg base 3 "_law_fresh" ["_law_stream", "_law_taken"] (sp__law_fresh K)) : FnOk P w K mg base CX0 4 f fd ["_law_stream", "_law_many"] (sp__law_names K) := by
  refine F.ok sc__law_names (fun vs H Q E h => ?_) (fun cdv A outer s H vs Q E hr h => ?_)
  · obtain ⟨S, x, M, v, k, rfl, _⟩ := h
    rfl
  · obtain ⟨S, n, M, v, k, rfl, mh, at_, r1, ⟨h1, h2⟩, q⟩ := h
    obtain ⟨n, rfl⟩ : ∃ m : Nat, n = (m : Int) := ⟨n.toNat, by omega⟩
    cases r1
    have at_ : S.At (k + 12 * n) H := at_
    refine ⟨_, (pss_cons (ps_set (i := 2) sc__law_names.nd rfl (by first | exact .inl rfl | exact .inr rfl) (pe_lst pa_nil))
      (pss_cons (ps_for PassesOwn.never (by rfl) (pi_range1 (by rfl) T.range (pa_cons (pv 1) pa_nil)) (pg_name (i := 3) sc__law_names.nd rfl (by first | exact .inl rfl | exact .inr rfl)) (pss_one (ps_expr (pe_bm PySem.F.plainAttrs_list PySem.F.slot_list_append PySem.F.type_list_append mt_append (pv 2) (pa_cons (pe_f c__law_fresh (hr.mono (by decide)) (pa_cons (pv 0) (pa_cons (pv 2) pa_nil))) pa_nil)))))
      (pss_one (ps_ret (pv 2))))), ?_⟩
    refine z_asgL (S := S) (k := k + 12 * n) (c := 0) mh at_ gl_nil.s fun p vs M1 H1 g1 a1 hp0 hpm hpw ev => ?_
    subst ev
    refine z_for (S := S) (k := k + 12 * n) (c := 0) (G := (· = List.range n)) (R := fun i : Nat => It' (i : Nat)) g1.mh a1 (gi_rng1 (n := n) (gv_var rfl rfl) (by omega)).s tg_1
      (fun _ M1' i σ' M' H' => ∃ ys y3, Gr M (S.cut H) M' (S.cut H') ∧ S.At (k + 12 * (n - i)) H' ∧ Same M1' M' ∧ OwS S H M' H' p (ys.map V.str) ∧ NmL ys ∧ ys.length = i ∧ σ' = [some (.ref S.a), some (.int (n : Nat)), some (.ref p), y3])
      (fun xs M2 H2 _ g2 a2 => ⟨[], _, g1.trans g2, a2, Same.refl _, OwS.step ⟨⟨hp0, hpm, hpw⟩⟩ g2, ⟨List.nodup_nil, (fun _ h => nomatch h), by simp⟩, rfl, rfl⟩)
      (fun xs M2 i σ' M' H' ⟨ys, y3, g, a, s1, _⟩ => ⟨s1, g.mh, a.le (Nat.zero_le _)⟩) ?_ ?_
    · rintro xs M2 i x σ' M' H' M3 H3 σ2 rfl sM hx ⟨ys, y3, g, a, s1, ow, hn, hl, rfl⟩ g3 ⟨v3, r3, rfl⟩
      have hi : i < n := by have := (List.getElem?_eq_some_iff.mp hx).1; rwa [List.length_range] at this
      have g3' := lift g.mh a g3
      have a3 := a.same g3.hh
      have ow3 := ow.step g3'
      have G3 := g.trans g3'
      have e1 : k + 12 * (n - i) = (k + 12 * (n - (i + 1))) + 12 := by omega
      rw [e1] at a3
      have hn5 := hn.n
      refine z_appL (S := S) (c := 12) (P := Ex Tx fun x => isNm x = true ∧ x ∉ ys) G3.mh a3 rfl ow3.o.m ow3.o.h (szL (by rw [List.length_map]; omega)) (gs_call1 (S := S) (R1 := SqR K Tx) (pre := fun xs => xs.length ≤ 600) (cs := fun _ => 12) (R := fun xs => Ex Tx fun x => isNm x = true ∧ x ∉ xs) (x := ys) rfl (gv_var rfl (.inl ⟨p, _, rfl, .inl (.inl upd_same), pd_of_tx ys⟩)) (by omega)) fun v4 M4 H4 g4 a4 ⟨x4, ⟨h4, h5⟩, r4⟩ => ?_
      cases r4
      have ow4 := ow3.step g4
      refine ⟨M4, ys ++ [x4], _, ow4.mut (G3.trans g4), a4.upd ow4.on, s1.trans (g3.mm.trans g4.mm), ?_, ⟨?_, ?_, ?_⟩, by rw [List.length_append, hl]; rfl, rfl⟩
      · rw [List.map_append]; exact ow4.put
      · rw [List.nodup_append]
        exact ⟨hn.nd, by simp, fun a ha b hb => by rw [List.mem_singleton] at hb; subst hb; exact fun e => h5 (e ▸ ha)⟩
      · intro z hz
        rcases List.mem_append.mp hz with hz | hz
        · exact hn.nm z hz
        · rw [List.mem_singleton] at hz; subst hz; exact h4
      · rw [List.length_append, List.length_singleton]; omega
    · rintro xs M2 σ' M' H' rfl sM ⟨ys, y3, g, a, s1, ow, hn, hl, rfl⟩
      rw [List.length_range] at hl
      exact ⟨.ref p, rfl, q p _ M' H' g (a.le (by omega)) ow.o.h0 ow.o.m ow.o.h ⟨ys, hn, hl, pd_of_tx ys⟩⟩
end
end My

set_option Elab.async false
set_option linter.all false
set_option maxRecDepth 100000
set_option maxHeartbeats 4000000
namespace My
open PySem PySem.Spec PyProof.Rows L2 L3
open L3.Strm
theorem Lits.perm {ns ys zs : List Str} (h : Lits ns ys) (p : zs.Perm ys) : Lits ns zs := ⟨(p.map nameOf).nodup_iff.mpr h.nd, fun y hy => h.of y (p.mem_iff.mp hy)⟩
theorem Lits.sub {ns ys zs : List Str} (h : Lits ns ys) (p : zs.Sublist ys) : Lits ns zs := ⟨h.nd.sublist (p.map nameOf), fun y hy => h.of y (p.subset hy)⟩
theorem Lits.nil {ns : List Str} : Lits ns [] := ⟨List.nodup_nil, fun _ h => nomatch h⟩
/-! texts by their signs -/
theorem head1 (c : Nat) (r : List Nat) : cutS (SX.S (c :: r)) none (some 1) = SX.S [c] := by
  show SX.S _ = SX.S _
  have e : HT.sIx (SX.S (c :: r)).length (SX.S (c :: r)).length (some ((1 : Nat) : Int)) = 1 := by rw [HT.sIx_nat, SX.S_len, List.length_cons]; omega
  have e' : HT.sIx (SX.S (c :: r)).length (SX.S (c :: r)).length (some 1) = 1 := e
  rw [e']
  rfl
theorem tail1 (c : Nat) (r : List Nat) : cutS (SX.S (c :: r)) (some 1) none = SX.S r := by
  have e : HT.sIx (SX.S (c :: r)).length 0 (some ((1 : Nat) : Int)) = 1 := by rw [HT.sIx_nat, SX.S_len, List.length_cons]; omega
  have e' : HT.sIx (SX.S (c :: r)).length 0 (some 1) = 1 := e
  have e2 : HT.sIx (SX.S (c :: r)).length (SX.S (c :: r)).length none = r.length + 1 := by rw [HT.sIx_none, SX.S_len, List.length_cons]
  show SX.S _ = SX.S _
  rw [e', e2]
  congr 1
  show (r.take (r.length + 1 - 1)) = r
  simp
theorem minus : ("-" : Str) = SX.S [45] := rfl
theorem neg_S (l : List Nat) : ("-" : Str) ++ SX.S l = SX.S (45 :: l) := SX.S_cat [45] l
theorem nm_S {n : Str} (h : isNm n = true) : ∃ c r, n = SX.S (c :: r) ∧ c ≠ 45 := by
  simp only [isNm, Bool.and_eq_true, decide_eq_true_eq, List.all_eq_true] at h
  obtain ⟨⟨h1, h2⟩, h3⟩ := h
  cases hl : n.cps.toList with
  | nil =>
    have : n.length = 0 := by rw [show n.length = n.cps.toList.length from rfl, hl]; rfl
    exact absurd h1 (by omega)
  | cons c r =>
    refine ⟨c, r, by rw [← hl], fun e => ?_⟩
    have := h3 c (by rw [hl]; exact List.mem_cons_self ..)
    subst e
    revert this
    decide +kernel
theorem nameOf_nm {n : Str} (h : isNm n = true) : nameOf n = n := by
  obtain ⟨c, r, rfl, hc⟩ := nm_S h
  unfold nameOf
  rw [head1, minus, if_neg (fun e => hc (by have := SX.S_inj e; simpa using this))]
theorem nameOf_neg {n : Str} (h : isNm n = true) : nameOf (("-" : Str) ++ n) = n := by
  obtain ⟨c, r, rfl, hc⟩ := nm_S h
  unfold nameOf
  rw [neg_S, head1, minus, if_pos rfl, tail1]
theorem opp_nm {n : Str} (h : isNm n = true) : opp n = ("-" : Str) ++ n := by
  obtain ⟨c, r, rfl, hc⟩ := nm_S h
  unfold opp
  rw [head1, minus, if_neg (fun e => hc (by have := SX.S_inj e; simpa using this))]
theorem opp_neg {n : Str} (h : isNm n = true) : opp (("-" : Str) ++ n) = n := by
  obtain ⟨c, r, rfl, hc⟩ := nm_S h
  unfold opp
  rw [neg_S, head1, minus, if_pos rfl, tail1]
theorem neg_ne {n m : Str} (h : isNm n = true) : n ≠ ("-" : Str) ++ m := fun e => by
  obtain ⟨c, r, rfl, hc⟩ := nm_S h
  rw [← SX.S_tl m, neg_S] at e
  have := SX.S_inj e
  simp at this
  exact hc this.1
theorem nm_ne {n : Str} (h : isNm n = true) : n ≠ "" := fun e => by
  obtain ⟨c, r, rfl, hc⟩ := nm_S h
  have : SX.S (c :: r) = SX.S [] := e
  have := SX.S_inj this
  cases this
theorem neg_ne0 {n : Str} : ("-" : Str) ++ n ≠ "" := fun e => by
  rw [← SX.S_tl n, neg_S] at e
  have : SX.S (45 :: n.cps.toList) = SX.S [] := e
  have := SX.S_inj this
  cases this
def nonE (y : Str) : Bool := decide (y ≠ ("" : Str))
/-- a selection of literals -/
theorem lits_of {ns : List Str} (hn : NmL ns) : ∀ {ms ys : List Str}, ms.Nodup → (∀ m ∈ ms, m ∈ ns) → Paired (fun n y => y = n ∨ y = ("-" : Str) ++ n ∨ y = "") ms ys → Lits ns (ys.filter nonE) ∧ ∀ z ∈ (ys.filter nonE).map nameOf, z ∈ ms := by
  intro ms ys nd hm h
  induction h with
  | nil => exact ⟨.nil, fun z h => by cases h⟩
  | @cons m y ms ys q _ ih =>
    obtain ⟨hx, nd⟩ := List.nodup_cons.mp nd
    obtain ⟨ih1, ih2⟩ := ih nd fun z hz => hm z (List.mem_cons_of_mem _ hz)
    have hmn := hm m (List.mem_cons_self ..)
    have hnm := hn.nm m hmn
    have key : ∀ y : Str, nameOf y = m → (y = m ∨ y = ("-" : Str) ++ m) → y ≠ "" → Lits ns ((y :: ys).filter nonE) ∧ ∀ z ∈ ((y :: ys).filter nonE).map nameOf, z ∈ m :: ms := by
      intro y e1 e2 e3
      rw [List.filter_cons, if_pos (show nonE y = true from decide_eq_true e3), List.map_cons, e1]
      refine ⟨⟨?_, fun z hz => ?_⟩, fun z hz => ?_⟩
      · rw [List.map_cons, e1]
        exact List.nodup_cons.mpr ⟨fun z => hx (ih2 m z), ih1.nd⟩
      · rcases List.mem_cons.mp hz with rfl | hz
        · exact ⟨m, hmn, e2⟩
        · exact ih1.of z hz
      · rcases List.mem_cons.mp hz with rfl | hz
        · exact List.mem_cons_self ..
        · exact List.mem_cons_of_mem _ (ih2 z hz)
    rcases q with rfl | rfl | rfl
    · exact key _ (nameOf_nm hnm) (.inl rfl) (nm_ne hnm)
    · exact key _ (nameOf_neg hnm) (.inr rfl) neg_ne0
    · rw [List.filter_cons, if_neg (by simp [nonE])]
      exact ⟨ih1, fun z hz => List.mem_cons_of_mem _ (ih2 z hz)⟩
theorem all_nonE {α : Type} {F : α → Str → Prop} {xs : List α} {ys : List Str} (h : Paired (fun n y => F n y ∧ nonE y = true) xs ys) : ∀ y ∈ ys, nonE y = true := by
  induction h with
  | nil => intro y hy; cases hy
  | cons q _ ih =>
    intro y hy
    rcases List.mem_cons.mp hy with rfl | hy
    · exact q.2
    · exact ih y hy
section
variable {P : Program} {w : World} {K : PySem.W.Frag} {mg : Str → Option Value} {base : Heap}
theorem nm_len {n : Str} (h : isNm n = true) : n.length ≤ 8 := isNm_len h
abbrev s__law_sided : Stmt := topS 49
theorem sc__law_sided : FnScope ["_law_stream", "_law_names_here", "_law_name"] ["_law_stream", "_law_names_here"] (defScope s__law_sided) := ⟨rfl, rfl, rfl, by decide +kernel, rfl, by decide +kernel, by decide +kernel⟩
def sp__law_sided (K : PySem.W.Frag) : Sp := slS1 (SqR K Tx) NmL (fun ns => 2 * ns.length) fun ns M ws => ∃ ys : List Str, Lits ns ys ∧ Pd Tx M ys ws
theorem ok__law_sided {f : Addr} {fd : FuncData} (F : Fun K "_law_sided" "_law_sided" s__law_sided f fd) (T : Gc mg) (c__law_draw : Cal P w K mg base 1 "_law_draw" ["_law_stream", "_law_many"] (sp__law_draw K)) (c__law_mixed : Cal P w K mg base 2 "_law_mixed" ["_law_stream", "_law_things"] (sp__law_mixed K)) :
    FnOk P w K mg base CX0 3 f fd ["_law_stream", "_law_names_here"] (sp__law_sided K) := by
  refine F.ok sc__law_sided (fun vs H Q E h => ?_) (fun cdv A outer s H vs Q E hr h => ?_)
  · obtain ⟨S, x, M, v, k, rfl, _⟩ := h
    rfl
  · obtain ⟨S, ns, M, v, k, rfl, mh, at_, r1, hn, q⟩ := h
    have hu := hr.units
    have hn5 := hn.n
    have at_ : S.At (k + 2 * ns.length) H := at_
    refine ⟨_, (pss_one (ps_ret (pe_lc (own := [("_law_name", 2)]) (g := (gName 2)) (tt := tYes) (te := (tOp (rAddA K) (tIf (tTest (tOp (rEqP K false) (tCall (sp__law_draw K) [] E0 (tCons (tVar 0) (tCons (tC (.int 2)) tNil))) (tC (.int 0)))) (tC (.str "")) (tC (.str "-"))) (tVar 2))) (by rfl) sc__law_sided.nd (pi_sq (pe_f c__law_mixed (hr.mono (by decide)) (pa_cons (pv 0) (pa_cons (pv 1) pa_nil)))) (blkOk_by (by rfl)) (fun _ _ _ _ _ => (pg_name (i := 2) sc__law_sided.nd rfl (by first | exact .inl rfl | exact .inr rfl))) (fun _ _ _ _ _ => pts_nil) (fun _ _ _ _ _ => (pe_op op_addA (pe_ifExp (pt_cmpR (op_eqP hu) (pe_f c__law_draw (hr.mono (by decide)) (pa_cons (pv 0) (pa_cons pe_int pa_nil))) pe_int (nomark _)) pe_str pe_str) (pv 2)))))), ?_⟩
    refine z_retL (S := S) (k := k) (c := ns.length + ns.length * 1) mh (at_.le (by omega)) (gls_m1 (c1 := ns.length) (n := ns.length) (c2 := 1) (T := Tx) (R := Tx) (G := fun xs => xs.Perm ns) (good := fun n y => (y = n ∨ y = ("-" : Str) ++ n ∨ y = "") ∧ nonE y = true)
      (gis_sq (K := K) ((gls_call1 (S := S) (R1 := SqR K Tx) (pre := fun xs => xs.length ≤ 1000000) (cs := fun xs => xs.length) (R := fun xs M ws => ∃ ys : List Str, ys.Perm xs ∧ Pd Tx M ys ws) (x := ns) rfl (gv_var rfl r1) (by omega)).gv fun M' vs p ⟨ys, hp, hpd⟩ m => ⟨ys, hp, .inl ⟨p, vs, rfl, .inl (.inl upd_same), hpd.mono (same_new m)⟩⟩))
      (fun xs hp => by rw [hp.length_eq]; exact Nat.le_refl _) (szM (by omega)) ?_) fun p ws M' H' g a' h0 m0 hw ⟨xs, ys, hper, hp, hpd⟩ => ?_
    · intro xs hper n hnm M1 vn sm rn
      cases rn
      have hnn : isNm n = true := hn.nm n (hper.mem_iff.mp hnm)
      have hl := nm_len hnn
      refine gs_op (c1 := 1) (c2 := 0) (P := Ex Tx fun x => x = "" ∨ x = "-") (P1 := Tx n) ((gs_if (c1 := 1) (c2 := 0) (gts_zero (K := K) rfl (gv_c rfl) (by decide) (by decide)) (fun _ => (gv_c ⟨"", .inl rfl, rfl⟩).s) fun _ => (gv_c ⟨"-", .inr rfl, rfl⟩).s)) (gv_var rfl rfl).s fun M' u w ⟨x, hx, pu⟩ pw => ?_
      have hxl : x.length ≤ 1 := by rcases hx with rfl | rfl <;> decide
      refine fun H mh Q q => gv_addSt (K := K) (σ := []) (M := M') (ta := tC u) (tb := tC w) (gv_c pu) (gv_c pw) (szM (by omega)) H mh Q fun v M' H' g r => q v M' H' g ⟨x ++ n, ?_, r⟩
      rcases hx with rfl | rfl
      · have e : (("" : Str) ++ n) = n := by rw [← SX.S_tl n]; exact SX.S_cat [] _
        rw [e]; exact ⟨.inl rfl, decide_eq_true (nm_ne hnn)⟩
      · exact ⟨.inr (.inl rfl), decide_eq_true neg_ne0⟩
    · obtain ⟨hL, _⟩ := lits_of hn (hper.nodup_iff.mpr hn.nd) (fun m h => hper.mem_iff.mp h) (Paired.mapP hp fun _ _ q => q.1)
      have hall := all_nonE hp
      rw [List.filter_eq_self.mpr hall] at hL
      refine q p ws M' H' g (a'.le (Nat.le_refl _)) h0 m0 hw ⟨ys, hL, hpd⟩
end
end My

set_option Elab.async false
set_option linter.all false
set_option maxRecDepth 100000
set_option maxHeartbeats 4000000
namespace My
open PySem PySem.Spec PyProof.Rows L2 L3
open L3.Strm
section
variable {P : Program} {w : World} {K : PySem.W.Frag} {mg : Str → Option Value} {base : Heap}
abbrev s__law_clause : Stmt := topS 50
theorem sc__law_clause : FnScope ["_law_stream", "_law_names_here", "_law_most"] ["_law_stream", "_law_names_here", "_law_most"] (defScope s__law_clause) := ⟨rfl, rfl, rfl, by decide +kernel, rfl, by decide +kernel, by decide +kernel⟩
def sp__law_clause (K : PySem.W.Frag) : Sp := slS2 (LstR K Tx) It' (fun ns m => NmL ns ∧ 0 < m ∧ m < 1000) (fun ns _ => 2 + 2 * ns.length) fun ns _ M ws => ∃ ys : List Str, Lits ns ys ∧ Pd Tx M ys ws
theorem ok__law_clause {f : Addr} {fd : FuncData} (F : Fun K "_law_clause" "_law_clause" s__law_clause f fd) (T : Gc mg) (c__law_draw : Cal P w K mg base 1 "_law_draw" ["_law_stream", "_law_many"] (sp__law_draw K)) (c__law_sided : Cal P w K mg base 3 "_law_sided" ["_law_stream", "_law_names_here"] (sp__law_sided K)) :
    FnOk P w K mg base CX0 4 f fd ["_law_stream", "_law_names_here", "_law_most"] (sp__law_clause K) := by
  refine F.ok sc__law_clause (fun vs H Q E h => ?_) (fun cdv A outer s H vs Q E hr h => ?_)
  · obtain ⟨S, x, y, M, v, w, k, rfl, _⟩ := h
    rfl
  · obtain ⟨S, ns, m, M, v, w, k, rfl, mh, at_, r1, r2, ⟨hn, hm0, hm1⟩, q⟩ := h
    cases r2
    have hu := hr.units
    have at_ : S.At (k + (2 + 2 * ns.length)) H := at_
    refine ⟨_, (pss_cons (ps_if (PW.pt (pw_or (pt_cmpR (op_eqP hu) (pv 1) (pe_lst pa_nil) (nomark _)) (pw_or1 (pt_cmpR (op_eqP hu) (pe_f c__law_draw (hr.mono (by decide)) (pa_cons (pv 0) (pa_cons pe_int pa_nil))) pe_int (nomark _))))) (pss_one (ps_ret (pe_lst pa_nil))) pss_nil)
      (pss_one (ps_ret (pe_slice sl_X (pe_f c__law_sided (hr.mono (by decide)) (pa_cons (pv 0) (pa_cons (pv 1) pa_nil))) po_none (po_some (pe_op op_addA pe_int (pe_f c__law_draw (hr.mono (by decide)) (pa_cons (pv 0) (pa_cons (pv 2) pa_nil))))))))), ?_⟩
    refine z_if (S := S) (k := k + (1 + 2 * ns.length)) (c := 0 + 1) (B := fun _ => True) mh (at_.le (by omega)) ((gts_or (c1 := 0) (c2 := 1) (B := fun _ => True) (C := fun _ => True) ((gt_test (b := decide (ns = [])) (gv_is (gv_eq (K := K) (neg := false) (d := .list (ns.map .str)) (e := .list []) (gv_var rfl (py_lst py_str _ _ _ r1)) gv_nilD ?_) fun M v h => ?_)).s.is fun _ _ => trivial) fun _ => gts_zero (K := K) rfl (gv_c rfl) (by decide) (by decide)).is fun _ _ => trivial) (fun _ M1 H1 g1 a1 => ?_) fun _ M1 H1 g1 a1 => ?_
    · simp [PyData.depth, depthS]
    · rw [show v = _ from h]
      have := optD_eq (some ns) []
      simp only [optD, List.map_nil] at this
      rw [this]; simp
    · refine z_retL (S := S) (k := k) (c := 0) g1.mh (a1.le (by omega)) gl_nil.s fun p ws M' H' g a' h0 m0 hw e => ?_
      subst e
      exact q p [] M' H' (g1.trans g) a' (g1.hh.free h0) m0 hw ⟨[], .nil, .nil⟩
    · refine z_retL (S := S) (k := k) (c := 2 * ns.length + 1) g1.mh (a1.le (by omega)) (gls_cut (K := K) (R := Tx) (good := Lits ns) (c1 := 2 * ns.length) (c2 := 1) ((gls_call1 (S := S) (R1 := SqR K Tx) (pre := NmL) (cs := fun ns => 2 * ns.length) (R := fun ns M ws => ∃ ys : List Str, Lits ns ys ∧ Pd Tx M ys ws) (x := ns) rfl (gv_var rfl (.inl (Mon.mono g1.mm r1))) hn).gv fun M' vs p ⟨ys, hp, hpd⟩ m => ⟨ys, hp, p, vs, rfl, upd_same, hpd.mono (same_new m)⟩)
        (gs_op (c1 := 0) (c2 := 1) (P := It' 1) (gv_c rfl).s (gs_draw (K := K) rfl (gv_var rfl rfl) hm0 (by omega)) fun M' u w pu ⟨z, hz, pw⟩ => fun H mh Q q => gv_addIn (K := K) (σ := []) (M := M') (ta := tC u) (tb := tC w) (gv_c pu) (gv_c pw) H mh Q fun v M' H' g r => q v M' H' g ⟨_, trivial, r⟩)) fun p ws M' H' g a' h0 m0 hw ⟨xs, i, hL, hpd⟩ => ?_
      exact q p ws M' H' (g1.trans g) a' (g1.hh.free h0) m0 hw ⟨_, hL.sub (cut_sub _ _ _), hpd⟩
def onceUp (cs : List (List Str)) (ns : List Str) : List (List Str) := once (cs.map fun c => asc c ns)
end
end My

set_option Elab.async false
set_option linter.all false
set_option maxRecDepth 100000
set_option maxHeartbeats 4000000
namespace My
open PySem PySem.Spec PyProof.Rows L2 L3
open L3.Strm
/-- the law's own code: a dict -/
def LawR (c : CodeD) : Pr := Dc3F "signs" "helpers" "clauses" (LiR Tx c.signs) (LiR Tx c.helpers) (LiR TT c.clauses)
instance : Mon LawR := ⟨fun e ⟨p, o, u1, u2, u3, h1, h2, h3, h4, h5⟩ => ⟨p, o, u1, u2, u3, h1, e _ _ h2, Mon.mono e h3, Mon.mono e h4, Mon.mono e h5⟩⟩
structure Good (c : CodeD) : Prop where
  nm : NmL c.names
  n : c.names.length ≤ 60
  cl : ∃ cs, c.clauses = onceUp cs c.names ∧ (∀ x ∈ cs, Lits c.names x) ∧ cs.length ≤ 100
section
end
section
variable {P : Program} {w : World} {K : PySem.W.Frag} {mg : Str → Option Value} {base : Heap}
theorem paired_lits {ns : List Str} {xs : List Nat} {cs : List (List Str)} (h : Paired (fun (_ : Nat) y => Lits ns y) xs cs) : cs.length = xs.length ∧ ∀ c ∈ cs, Lits ns c := by
  induction h with
  | nil => exact ⟨rfl, fun c hc => by cases hc⟩
  | cons q _ ih =>
    refine ⟨by rw [List.length_cons, List.length_cons, ih.1], fun c hc => ?_⟩
    rcases List.mem_cons.mp hc with rfl | hc
    · exact q
    · exact ih.2 c hc
theorem nm_shorts {ns : List Str} (h : NmL ns) : Shorts ns := ⟨Nat.le_trans h.n (by decide), fun n hn => Nat.le_trans (nm_len (h.nm n hn)) (by decide)⟩
end
end My

set_option Elab.async false
set_option linter.all false
set_option maxRecDepth 100000
set_option maxHeartbeats 4000000
namespace My
open PySem PySem.Spec PyProof.Rows L2 L3
theorem mem_asc {l ns : List Str} {x : Str} : x ∈ asc l ns ↔ ∃ n ∈ ns, (x = n ∨ x = ("-" : Str) ++ n) ∧ x ∈ l := by
  unfold asc
  rw [List.mem_flatMap]
  constructor
  · rintro ⟨n, hn, h⟩
    obtain ⟨h1, h2⟩ := List.mem_filter.mp h
    exact ⟨n, hn, by simpa using h1, by simpa using h2⟩
  · rintro ⟨n, hn, h1, h2⟩
    exact ⟨n, hn, List.mem_filter.mpr ⟨by simpa using h1, by simpa using h2⟩⟩
theorem asc_congr {l l' ns : List Str} (h : ∀ n ∈ ns, ∀ x, (x = n ∨ x = ("-" : Str) ++ n) → (x ∈ l ↔ x ∈ l')) : asc l ns = asc l' ns := by
  unfold asc
  induction ns with
  | nil => rfl
  | cons n ns ih =>
    rw [List.flatMap_cons, List.flatMap_cons, ih fun m hm => h m (List.mem_cons_of_mem _ hm)]
    congr 1
    refine List.filter_congr fun x hx => ?_
    have := h n (List.mem_cons_self ..) x (by simpa using hx)
    simp [this]
theorem asc_asc (l ns : List Str) : asc (asc l ns) ns = asc l ns := asc_congr fun n hn x hx => by
  rw [mem_asc]
  exact ⟨fun ⟨_, _, _, h⟩ => h, fun h => ⟨n, hn, hx, h⟩⟩
theorem Lits.name {ns ys : List Str} (hn : NmL ns) (h : Lits ns ys) {y : Str} (hy : y ∈ ys) : nameOf y ∈ ns ∧ (y = nameOf y ∨ y = ("-" : Str) ++ nameOf y) ∧ isNm (nameOf y) = true := by
  obtain ⟨n, hnn, h1 | h1⟩ := h.of y hy
  · subst h1
    have e := nameOf_nm (hn.nm y hnn)
    rw [e]
    exact ⟨hnn, .inl rfl, hn.nm y hnn⟩
  · subst h1
    rw [nameOf_neg (hn.nm n hnn)]
    exact ⟨hnn, .inr rfl, hn.nm n hnn⟩
theorem nodup_inj {α β : Type} {f : α → β} : ∀ {xs : List α}, (xs.map f).Nodup → ∀ x ∈ xs, ∀ y ∈ xs, f x = f y → x = y
  | [], _, _, h, _, _, _ => by cases h
  | a :: xs, nd, x, hx, y, hy, e => by
    rw [List.map_cons] at nd
    obtain ⟨h1, h2⟩ := List.nodup_cons.mp nd
    rcases List.mem_cons.mp hx with ex | hx'
    · rcases List.mem_cons.mp hy with ey | hy'
      · rw [ex, ey]
      · exact absurd (List.mem_map.mpr ⟨y, hy', by rw [← e, ex]⟩) h1
    · rcases List.mem_cons.mp hy with ey | hy'
      · exact absurd (List.mem_map.mpr ⟨x, hx', by rw [e, ey]⟩) h1
      · exact nodup_inj h2 x hx' y hy' e
/-- literals in the order of the names are literals -/
theorem Lits.asc {ns ys : List Str} (hn : NmL ns) (h : Lits ns ys) : Lits ns (asc ys ns) := by
  refine ⟨?_, fun y hy => let ⟨n, h1, h2, _⟩ := mem_asc.mp hy; ⟨n, h1, h2⟩⟩
  have sub : ∀ ms : List Str, (∀ m ∈ ms, m ∈ ns) → ((My.asc ys ms).map nameOf).Sublist ms := by
    intro ms
    induction ms with
    | nil => intro _; exact List.Sublist.refl _
    | cons m ms ih =>
      intro hm
      have ih := ih fun z hz => hm z (List.mem_cons_of_mem _ hz)
      have hnm := hn.nm m (hm m (List.mem_cons_self ..))
      have e1 := nameOf_nm hnm
      have e2 := nameOf_neg hnm
      have hboth : ¬ (m ∈ ys ∧ ("-" : Str) ++ m ∈ ys) := fun ⟨a, b⟩ => neg_ne hnm (nodup_inj h.nd m a _ b (by rw [e1, e2]))
      show (((m :: ms).flatMap fun n => [n, ("-" : Str) ++ n].filter fun l => decide (l ∈ ys)).map nameOf).Sublist (m :: ms)
      rw [List.flatMap_cons, List.map_append]
      have : (([m, ("-" : Str) ++ m].filter fun l => decide (l ∈ ys)).map nameOf).Sublist [m] := by
        by_cases ha : m ∈ ys
        · have hb : ¬ ("-" : Str) ++ m ∈ ys := fun b => hboth ⟨ha, b⟩
          simp [ha, hb, e1]
        · by_cases hb : ("-" : Str) ++ m ∈ ys
          · simp [ha, hb, e2]
          · simp [ha, hb]
      exact List.Sublist.append this ih
  exact hn.nd.sublist (sub ns fun _ h => h)
theorem fw_lits {ns : List Str} : ∀ {ys met : List Str} {i : Nat}, (∀ y ∈ ys, nameOf y ∈ ns) → (ys.map nameOf).Nodup → (∀ y ∈ ys, nameOf y ∉ met) → fwGo ns (ys.map PyData.str) met i = none
  | [], _, _, _, _, _ => rfl
  | y :: ys, met, i, h1, h2, h3 => by
    rw [List.map_cons] at h2
    obtain ⟨h4, h5⟩ := List.nodup_cons.mp h2
    rw [List.map_cons, fwGo, if_neg]
    · refine fw_lits (fun z hz => h1 z (List.mem_cons_of_mem _ hz)) h5 fun z hz hm => ?_
      rcases List.mem_append.mp hm with hm | hm
      · exact h3 z (List.mem_cons_of_mem _ hz) hm
      · rw [List.mem_singleton] at hm
        exact h4 (List.mem_map.mpr ⟨z, hz, hm⟩)
    · rintro (h | h)
      · simp [isLit, h1 y (List.mem_cons_self ..)] at h
      · exact h3 y (List.mem_cons_self ..) h
theorem lits_len {ns ys : List Str} (h : Lits ns ys) (hn : NmL ns) : ys.length ≤ ns.length := by
  have := nodup_le h.nd (ys := ns) fun z hz => by
    obtain ⟨y, hy, rfl⟩ := List.mem_map.mp hz
    exact (h.name hn hy).1
  rwa [List.length_map] at this
theorem lits_short {ns ys : List Str} (h : Lits ns ys) (hn : NmL ns) : ∀ l ∈ ys, l.length ≤ 9 := fun l hl => by
  obtain ⟨h1, h2, h3⟩ := h.name hn hl
  have h4 := nm_len h3
  rcases h2 with e | e
  · rw [e]; omega
  · rw [e]
    show (("-" : Str) ++ nameOf l).length ≤ 9
    rw [← SX.S_tl (nameOf l), neg_S, SX.S_len, List.length_cons]
    have : (nameOf l).cps.toList.length = (nameOf l).length := rfl
    omega
theorem clOk_lits {ns ys : List Str} (hn : NmL ns) (h : Lits ns ys) : ClOk ns ys := ⟨fw_lits (fun y hy => (h.name hn hy).1) h.nd (fun _ _ z => by cases z), Nat.le_trans (lits_len h hn) (Nat.le_trans hn.n (by decide)), fun l hl => Nat.le_trans (lits_short h hn l hl) (by decide)⟩
section
variable {α : Type} [DecidableEq α]
theorem once_inv : ∀ (xs acc : List α), acc.Nodup → (xs.foldl onceP acc).Nodup ∧ ∀ x, x ∈ xs.foldl onceP acc ↔ x ∈ acc ∨ x ∈ xs
  | [], acc, h => ⟨h, fun x => by simp⟩
  | y :: xs, acc, h => by
    rw [List.foldl_cons]
    by_cases hy : y ∈ acc
    · have e : onceP acc y = acc := by unfold onceP; rw [if_pos hy]
      rw [e]
      obtain ⟨h1, h2⟩ := once_inv xs acc h
      refine ⟨h1, fun x => ?_⟩
      rw [h2, List.mem_cons]
      constructor
      · rintro (h | h)
        · exact .inl h
        · exact .inr (.inr h)
      · rintro (h | rfl | h)
        · exact .inl h
        · exact .inl hy
        · exact .inr h
    · have e : onceP acc y = acc ++ [y] := by unfold onceP; rw [if_neg hy]
      rw [e]
      obtain ⟨h1, h2⟩ := once_inv xs (acc ++ [y]) (List.nodup_append.mpr ⟨h, by simp, fun a ha b hb => by rw [List.mem_singleton] at hb; subst hb; exact fun e => hy (e ▸ ha)⟩)
      refine ⟨h1, fun x => ?_⟩
      rw [h2, List.mem_cons, List.mem_append, List.mem_singleton]
      constructor
      · rintro ((h | h) | h)
        · exact .inl h
        · exact .inr (.inl h)
        · exact .inr (.inr h)
      · rintro (h | h | h)
        · exact .inl (.inl h)
        · exact .inl (.inr h)
        · exact .inr h
theorem once_nodup (xs : List α) : (once xs).Nodup := (once_inv xs [] List.nodup_nil).1
theorem mem_once {xs : List α} {x : α} : x ∈ once xs ↔ x ∈ xs := by unfold once; rw [(once_inv xs [] List.nodup_nil).2]; simp
theorem once_self {xs : List α} (h : xs.Nodup) : once xs = xs := by
  have go : ∀ (xs acc : List α), (acc ++ xs).Nodup → xs.foldl onceP acc = acc ++ xs := by
    intro xs
    induction xs with
    | nil => intro acc _; simp
    | cons y xs ih =>
      intro acc h
      have hy : y ∉ acc := fun hy => (List.nodup_append.mp h).2.2 y hy y (List.mem_cons_self ..) rfl
      rw [List.foldl_cons, onceP, if_neg hy, ih (acc ++ [y]) (by simpa using h)]
      simp
  have := go xs [] (by simpa using h)
  simpa [once] using this
end
theorem onceUp_idem (cs : List (List Str)) (ns : List Str) : once ((onceUp cs ns).map fun c => asc c ns) = onceUp cs ns := by
  have e : (onceUp cs ns).map (fun c => asc c ns) = onceUp cs ns := by
    have : ∀ c ∈ onceUp cs ns, asc c ns = c := fun c hc => by
      obtain ⟨d, _, rfl⟩ := List.mem_map.mp (mem_once.mp hc)
      exact asc_asc d ns
    have h2 := List.map_congr_left (l := onceUp cs ns) (f := fun c => asc c ns) (g := id) this
    rw [h2, List.map_id]
  rw [e]
  exact once_self (once_nodup _)
theorem Good.lits {c : CodeD} (g : Good c) : ∀ x ∈ c.clauses, Lits c.names x := fun x hx => by
  obtain ⟨cs, e, h, _⟩ := g.cl
  rw [e] at hx
  obtain ⟨d, hd, rfl⟩ := List.mem_map.mp (mem_once.mp hx)
  exact (h d hd).asc g.nm
theorem Good.made {c : CodeD} (g : Good c) : mkCode c.signs c.helpers c.clauses = c := by
  obtain ⟨cs, e, h, _⟩ := g.cl
  obtain ⟨ss, hs, cl⟩ := c
  have e : cl = onceUp cs (ss ++ hs) := e
  unfold mkCode
  rw [e]
  show CodeD.mk ss hs (once ((onceUp cs (ss ++ hs)).map fun c => asc c (ss ++ hs))) = _
  rw [onceUp_idem]
theorem once_len2 {α : Type} [DecidableEq α] (hs : List α) : (once hs).length ≤ hs.length := by
  have go : ∀ (xs acc : List α), (xs.foldl onceP acc).length ≤ acc.length + xs.length := by
    intro xs
    induction xs with
    | nil => intro acc; exact Nat.le_refl _
    | cons x xs ih =>
      intro acc
      have h1 := ih (onceP acc x)
      have h2 := onceP_len acc x
      rw [List.foldl_cons, List.length_cons]
      omega
  simpa [once] using go hs []
theorem Good.few {c : CodeD} (g : Good c) : c.clauses.length ≤ 100 := by
  obtain ⟨cs, e, h, hl⟩ := g.cl
  rw [e]
  exact Nat.le_trans (once_len2 _) (by rw [List.length_map]; exact hl)
theorem Good.ok {c : CodeD} (g : Good c) : CodeOk c.signs c.helpers c.clauses := by
  have nd := g.nm.nd
  have hn := g.n
  have hl : c.names.length = c.signs.length + c.helpers.length := List.length_append
  obtain ⟨n1, n2, n3⟩ := List.nodup_append.mp (show (c.signs ++ c.helpers).Nodup from nd)
  refine ⟨⟨n1, fun x hx => ⟨g.nm.nm x (List.mem_append_left _ hx), fun h => by cases h⟩, by omega⟩, ⟨n2, fun x hx => ⟨g.nm.nm x (List.mem_append_right _ hx), fun h => n3 x h x hx rfl⟩, by omega⟩, Nat.le_trans g.few (by decide), fun x hx => clOk_lits g.nm (g.lits x hx), ?_⟩
  show c.names.length ≤ 1000
  omega
theorem flat_len : ∀ {xs : List (List Str)} {n : Nat}, (∀ x ∈ xs, x.length ≤ n) → xs.flatten.length ≤ xs.length * n
  | [], _, _ => by simp
  | x :: xs, n, h => by
    rw [List.flatten_cons, List.length_append, List.length_cons, Nat.succ_mul]
    have h1 := h x (List.mem_cons_self ..)
    have h2 := flat_len (xs := xs) fun y hy => h y (List.mem_cons_of_mem _ hy)
    omega
theorem Good.w {c : CodeD} (g : Good c) : CodeW c := by
  have h1 : ∀ x ∈ c.clauses, x.length ≤ 60 := fun x hx => Nat.le_trans (lits_len (g.lits x hx) g.nm) g.n
  have h2 := flat_len h1
  have h3 := g.few
  have h4 : c.clauses.length * 60 ≤ 100 * 60 := Nat.mul_le_mul_right _ h3
  exact ⟨fun x hx => ⟨Nat.le_trans (h1 x hx) (by decide), fun l hl => Nat.le_trans (lits_short (g.lits x hx) g.nm l hl) (by decide)⟩, by omega, by omega, nm_shorts g.nm⟩
end My

set_option Elab.async false
set_option linter.all false
set_option maxRecDepth 100000
set_option maxHeartbeats 4000000
namespace My
open PySem PySem.Spec PyProof.Rows L2 L3
open L3.Strm
structure Gd (mg : Str → Option Value) : Prop extends Gc mg where
  dict : mg "dict" = none
section
end
end My

set_option Elab.async false
set_option linter.all false
set_option maxRecDepth 100000
set_option maxHeartbeats 4000000
namespace My
open PySem PySem.Spec PyProof.Rows L2 L3
open L3.Strm
/-- a pair (text, True) in a tuple -/
def PtR : Rl Str := fun x M v => ∃ a, v = .ref a ∧ M a = some (.tup [.str x, .bl true])
instance : Mon PtR := ⟨fun e ⟨a, h, r⟩ => ⟨a, h, e _ _ r⟩⟩
section
variable {K : PySem.W.Frag} {σ : Sl} {M : Hp} {te : TE}
theorem gv_neg {i : Int} (h : Gv te σ M (It' i)) : Gv (tUn (rU fun i => .int (-i)) te) σ M (It' (-i)) := fun H mh Q q => h H mh _ fun v M1 H1 g1 p1 => ⟨i, p1, q _ M1 H1 g1 rfl⟩
end
def leftOf (so c : List Str) : List Str := c.filter fun l => decide (opp l ∉ so)
section
end
end My

set_option Elab.async false
set_option linter.all false
set_option maxRecDepth 100000
set_option maxHeartbeats 4000000
namespace My
open PySem PySem.Spec PyProof.Rows L2 L3
/-! following as a least closed set -/
inductive Der (cs : List (List Str)) (hs : List Str) : Str → Prop
  | base {x} : x ∈ hs → Der cs hs x
  | step {c l} : c ∈ cs → l ∈ c → (∀ m ∈ c, m ≠ l → Der cs hs (opp m)) → Der cs hs l
def Dead (cs : List (List Str)) (hs : List Str) : Prop := ∃ c ∈ cs, ∀ m ∈ c, Der cs hs (opp m)
/-- a literal of names -/
def LitN (ns : List Str) (x : Str) : Prop := ∃ n ∈ ns, x = n ∨ x = ("-" : Str) ++ n
theorem opp_opp {ns : List Str} (hn : NmL ns) {x : Str} (h : LitN ns x) : opp (opp x) = x ∧ opp x ≠ x := by
  obtain ⟨n, hnn, h | h⟩ := h
  · subst h
    have hm := hn.nm x hnn
    rw [opp_nm hm, opp_neg hm]
    exact ⟨rfl, fun e => neg_ne hm e.symm⟩
  · subst h
    have hm := hn.nm n hnn
    rw [opp_neg hm, opp_nm hm]
    exact ⟨rfl, fun e => neg_ne hm e⟩
structure Ctx (ns : List Str) (cs : List (List Str)) (hs : List Str) : Prop where
  nm : NmL ns
  c : ∀ c ∈ cs, Lits ns c
  h : Lits ns hs
theorem lits_nodup {ns ys : List Str} (h : Lits ns ys) : ys.Nodup := by
  have := h.nd
  rw [List.Nodup, List.pairwise_map] at this
  exact List.Pairwise.imp (fun hne e => hne (by rw [e])) this
/-- what is so -/
structure So (ns : List Str) (cs : List (List Str)) (hs so : List Str) : Prop where
  sub : ∀ x ∈ hs, x ∈ so
  snd : ∀ x ∈ so, Der cs hs x
  lit : ∀ x ∈ so, LitN ns x
  con : ∀ x ∈ so, opp x ∉ so
  nd : so.Nodup
variable {ns : List Str} {cs : List (List Str)} {hs so c : List Str} {l : Str}
theorem So.init (X : Ctx ns cs hs) : So ns cs hs hs := by
  refine ⟨fun _ h => h, fun _ h => .base h, fun x hx => X.h.of x hx, fun x hx ho => ?_, lits_nodup X.h⟩
  obtain ⟨h1, h2, h3⟩ := X.h.name X.nm hx
  obtain ⟨h4, h5, h6⟩ := X.h.name X.nm ho
  have hne := (opp_opp X.nm (X.h.of x hx)).2
  have e : nameOf (opp x) = nameOf x := by
    rcases h2 with e | e
    · rw [e, opp_nm h3, nameOf_neg h3, nameOf_nm h3]
    · rw [e, opp_neg h3, nameOf_nm h3, nameOf_neg h3]
  exact hne (nodup_inj X.h.nd _ ho _ hx e)
theorem mem_left {so c : List Str} {l : Str} : l ∈ leftOf so c ↔ l ∈ c ∧ opp l ∉ so := by unfold leftOf; rw [List.mem_filter]; simp
theorem left_one (X : Ctx ns cs hs) (S : ∀ x ∈ so, Der cs hs x) (hc : c ∈ cs) (h : leftOf so c = [l]) : Der cs hs l := by
  have hl : l ∈ leftOf so c := by rw [h]; simp
  refine .step hc (mem_left.mp hl).1 fun m hm hne => ?_
  by_cases ho : opp m ∈ so
  · exact S _ ho
  · have : m ∈ leftOf so c := mem_left.mpr ⟨hm, ho⟩
    rw [h, List.mem_singleton] at this
    exact absurd this hne
theorem left_none (S : ∀ x ∈ so, Der cs hs x) (hc : c ∈ cs) (h : leftOf so c = []) : Dead cs hs := ⟨c, hc, fun m hm => by
  by_cases ho : opp m ∈ so
  · exact S _ ho
  · have : m ∈ leftOf so c := mem_left.mpr ⟨hm, ho⟩
    rw [h] at this
    cases this⟩
theorem So.put (X : Ctx ns cs hs) (S : So ns cs hs so) (hc : c ∈ cs) (h : leftOf so c = [l]) (hl : l ∉ so) : So ns cs hs (so ++ [l]) := by
  have hm : l ∈ leftOf so c := by rw [h]; simp
  obtain ⟨h1, h2⟩ := mem_left.mp hm
  have hlit : LitN ns l := (X.c c hc).of l h1
  have hoo := opp_opp X.nm hlit
  refine ⟨fun x hx => List.mem_append_left _ (S.sub x hx), fun x hx => ?_, fun x hx => ?_, fun x hx ho => ?_, ?_⟩
  · rcases List.mem_append.mp hx with hx | hx
    · exact S.snd x hx
    · rw [List.mem_singleton] at hx; subst hx; exact left_one X S.snd hc h
  · rcases List.mem_append.mp hx with hx | hx
    · exact S.lit x hx
    · rw [List.mem_singleton] at hx; subst hx; exact hlit
  · rcases List.mem_append.mp hx with hx | hx
    · rcases List.mem_append.mp ho with ho | ho
      · exact S.con x hx ho
      · rw [List.mem_singleton] at ho
        have := (opp_opp X.nm (S.lit x hx)).1
        rw [ho] at this
        exact h2 (by rw [this]; exact hx)
    · rw [List.mem_singleton] at hx
      subst hx
      rcases List.mem_append.mp ho with ho | ho
      · exact h2 ho
      · rw [List.mem_singleton] at ho; exact hoo.2 ho
  · exact List.nodup_append.mpr ⟨S.nd, by simp, fun a ha b hb => by rw [List.mem_singleton] at hb; subst hb; exact fun e => hl (e ▸ ha)⟩
/-- closed -/
def Closed (cs : List (List Str)) (so : List Str) : Prop := ∀ c ∈ cs, leftOf so c ≠ [] ∧ ∀ l, leftOf so c = [l] → l ∈ so
theorem nodup_one {l : Str} : ∀ {xs : List Str}, xs.Nodup → (∀ x ∈ xs, x = l) → xs = [] ∨ xs = [l]
  | [], _, _ => .inl rfl
  | [x], _, h => .inr (by rw [h x (by simp)])
  | x :: y :: r, nd, h => by
    have h1 := h x (by simp)
    have h2 := h y (by simp)
    rw [h1, h2] at nd
    simp at nd
theorem der_in (X : Ctx ns cs hs) (hsub : ∀ x ∈ hs, x ∈ so) (hcl : Closed cs so) {x : Str} (h : Der cs hs x) : x ∈ so := by
  induction h with
  | base h => exact hsub _ h
  | @step c l hc hl _ ih =>
    obtain ⟨h1, h2⟩ := hcl c hc
    have : ∀ m ∈ leftOf so c, m = l := fun m hm => by
      obtain ⟨h3, h4⟩ := mem_left.mp hm
      by_cases e : m = l
      · exact e
      · exact absurd (ih m h3 e) h4
    have nd : (leftOf so c).Nodup := (lits_nodup (X.c c hc)).sublist List.filter_sublist
    rcases nodup_one nd this with e | e
    · exact absurd e h1
    · exact h2 l e
theorem not_dead (X : Ctx ns cs hs) (hsub : ∀ x ∈ hs, x ∈ so) (hcl : Closed cs so) : ¬ Dead cs hs := fun ⟨c, hc, h⟩ => by
  refine (hcl c hc).1 ?_
  have : ∀ m, m ∉ leftOf so c := fun m hm => by
    obtain ⟨h3, h4⟩ := mem_left.mp hm
    exact h4 (der_in X hsub hcl (h m h3))
  exact List.eq_nil_iff_forall_not_mem.mpr this
/-! the law's following -/
/-- how a following ends -/
def EndsOk (ns : List Str) (cs : List (List Str)) (hs : List Str) : Option (List Str) → Prop
  | none => Dead cs hs
  | some so => ¬ Dead cs hs ∧ (∀ x, x ∈ so ↔ Der cs hs x) ∧ So ns cs hs so
theorem ends_some (X : Ctx ns cs hs) (S : So ns cs hs so) (hcl : Closed cs so) : EndsOk ns cs hs (some so) := ⟨not_dead X S.sub hcl, fun x => ⟨S.snd x, der_in X S.sub hcl⟩, S⟩
/-! the program's following -/
theorem open_left {ls : List Str} (h : openOnes so c = some ls) : leftOf so c = ls ∧ ∀ l ∈ c, l ∉ so := by
  rw [openOnes_eq] at h
  split at h
  · cases h
  · rename_i hn
    refine ⟨Option.some.inj h, fun l hl hs => hn ?_⟩
    rw [List.any_eq_true]
    exact ⟨l, hl, by simpa using hs⟩
theorem open_none (h : openOnes so c = none) : ∃ l ∈ c, l ∈ so := by
  rw [openOnes_eq] at h
  split at h
  · rename_i hn
    rw [List.any_eq_true] at hn
    obtain ⟨l, hl, hs⟩ := hn
    exact ⟨l, hl, by simpa using hs⟩
  · cases h
/-- steps that are right one behind the other -/
inductive Steps (cs : List (List Str)) : List Str → List Stp → List Str → Prop
  | nil {so : List Str} : Steps cs so [] so
  | cons {so : List Str} {i : Nat} {l : Str} {r : List Stp} {so' : List Str} : i < cs.length → openOnes so (cs.getD i []) = some [l] → Steps cs (so ++ [l]) r so' → Steps cs so ((i, some l) :: r) so'
theorem Steps.snoc {so so' : List Str} {st : List Stp} {i : Nat} (h : Steps cs so st so') (hi : i < cs.length) (ho : openOnes so' (cs.getD i []) = some [l]) : Steps cs so (st ++ [(i, some l)]) (so' ++ [l]) := by
  induction h with
  | nil => exact .cons hi ho .nil
  | cons h1 h2 _ ih => exact .cons h1 h2 (ih ho)
theorem Steps.take {so so' : List Str} {st : List Stp} (h : Steps cs so st so') : ∀ n, ∃ so'', Steps cs so (st.take n) so'' := by
  induction h with
  | nil => intro n; exact ⟨_, by rw [List.take_nil]; exact .nil⟩
  | cons h1 h2 _ ih =>
    intro n
    cases n with
    | zero => exact ⟨_, .nil⟩
    | succ n => obtain ⟨s, hs⟩ := ih n; exact ⟨s, .cons h1 h2 hs⟩
/-- right drawings to a result -/
def RightTo (cs : List (List Str)) (hs : List Str) : Res → Prop
  | (some so, st) => Steps cs hs st so
  | (none, st) => ∃ st0 i so, st = st0 ++ [(i, none)] ∧ Steps cs hs st0 so ∧ i < cs.length ∧ openOnes so (cs.getD i []) = some []
theorem pass_ok (X : Ctx ns cs hs) : ∀ (rest : List (List Str)) (i : Nat) (so : List Str) (st : List Stp) (mv : Bool), cs.drop i = rest → So ns cs hs so → Steps cs hs st so → match passGo rest i so st mv with
    | .error st' => Dead cs hs ∧ RightTo cs hs (none, st')
    | .ok (so', st', mv') => So ns cs hs so' ∧ Steps cs hs st' so' ∧ (mv' = false → mv = false ∧ so' = so ∧ st' = st ∧ ∀ c ∈ rest, leftOf so c ≠ [] ∧ ∀ l, leftOf so c = [l] → l ∈ so)
  | [], i, so, st, mv, _, S, T => ⟨S, T, fun h => ⟨h, rfl, rfl, fun c hc => by cases hc⟩⟩
  | c :: rest, i, so, st, mv, hd, S, T => by
    have hil : i < cs.length := by
      by_cases h : i < cs.length
      · exact h
      · rw [List.drop_of_length_le (by omega)] at hd; cases hd
    have hgd : cs.getD i [] = c := by
      rw [List.drop_eq_getElem_cons hil] at hd
      rw [List.getD_eq_getElem?_getD, List.getElem?_eq_getElem hil]
      exact (List.cons.inj hd).1
    have hdr : cs.drop (i + 1) = rest := by
      rw [List.drop_eq_getElem_cons hil] at hd
      exact (List.cons.inj hd).2
    have hc : c ∈ cs := by rw [← hgd, List.getD_eq_getElem?_getD, List.getElem?_eq_getElem hil]; exact List.getElem_mem _
    rw [passGo]
    have other : (leftOf so c ≠ [] ∧ ∀ l, leftOf so c = [l] → l ∈ so) → match passGo rest (i + 1) so st mv with
        | .error st' => Dead cs hs ∧ RightTo cs hs (none, st')
        | .ok (so', st', mv') => So ns cs hs so' ∧ Steps cs hs st' so' ∧ (mv' = false → mv = false ∧ so' = so ∧ st' = st ∧ ∀ d ∈ c :: rest, leftOf so d ≠ [] ∧ ∀ l, leftOf so d = [l] → l ∈ so) := by
      intro hcl
      have ih := pass_ok X rest (i + 1) so st mv hdr S T
      revert ih
      cases passGo rest (i + 1) so st mv with
      | error st' => exact fun h => h
      | ok x =>
        obtain ⟨so', st', mv'⟩ := x
        rintro ⟨h1, h2, h3⟩
        refine ⟨h1, h2, fun h => ?_⟩
        obtain ⟨h4, h5, h6, h7⟩ := h3 h
        refine ⟨h4, h5, h6, fun d hd => ?_⟩
        rcases List.mem_cons.mp hd with rfl | hd
        · exact hcl
        · exact h7 d hd
    match ho : openOnes so c with
    | none =>
      refine other ?_
      obtain ⟨l, hl, hls⟩ := open_none ho
      have hm : l ∈ leftOf so c := mem_left.mpr ⟨hl, S.con l hls⟩
      refine ⟨(fun e => by rw [e] at hm; cases hm), fun m e => ?_⟩
      rw [e, List.mem_singleton] at hm
      rw [← hm]; exact hls
    | some [] => exact ⟨left_none S.snd hc (open_left ho).1, st, i, so, rfl, T, hil, by rw [hgd]; exact ho⟩
    | some [l] =>
      have hl := (open_left ho).1
      obtain ⟨h1, h2⟩ := open_one ho
      have ih := pass_ok X rest (i + 1) (so ++ [l]) (st ++ [(i, some l)]) true hdr (S.put X hc hl h2) (T.snoc hil (by rw [hgd]; exact ho))
      simp only
      revert ih
      cases passGo rest (i + 1) (so ++ [l]) (st ++ [(i, some l)]) true with
      | error st' => exact fun h => h
      | ok x =>
        obtain ⟨so', st', mv'⟩ := x
        rintro ⟨h1, h2, h3⟩
        exact ⟨h1, h2, fun h => by have := (h3 h).1; cases this⟩
    | some (a :: b :: r) =>
      refine other ?_
      have hl := (open_left ho).1
      rw [hl]
      exact ⟨by simp, fun l e => by simp at e⟩
theorem chase_ok (X : Ctx ns cs hs) {st : List Stp} {r : Res} (h : Chase cs so st r) (S : So ns cs hs so) (T : Steps cs hs st so) : EndsOk ns cs hs r.1 ∧ RightTo cs hs r := by
  induction h with
  | @dead so st st' e =>
    have := pass_ok X cs 0 so st false rfl S T
    rw [e] at this
    exact this
  | @done so st so' st' e =>
    have := pass_ok X cs 0 so st false rfl S T
    rw [e] at this
    obtain ⟨h1, h2, h3⟩ := this
    obtain ⟨_, e1, e2, h4⟩ := h3 rfl
    exact ⟨by rw [e1]; exact ends_some X S h4, h2⟩
  | @more so st so' st' r e _ ih =>
    have := pass_ok X cs 0 so st false rfl S T
    rw [e] at this
    exact ih this.1 this.2.1
end My

set_option Elab.async false
set_option linter.all false
set_option maxRecDepth 100000
set_option maxHeartbeats 4000000
namespace My
open PySem PySem.Spec PyProof.Rows L2 L3
structure Ge (mg : Str → Option Value) : Prop extends Gc mg where
  g_MOST_SIGNS : ∃ t, mg "MOST_SIGNS" = some (.int 6 t)
/-! the plain functions -/
def fullP (acc : List (List Str)) (n : Str) : List (List Str) := acc.flatMap fun s => [n, ("-" : Str) ++ n].map fun l => s ++ [l]
def fulls (ns : List Str) : List (List Str) := ns.foldl fullP [[]]
def stepH (ns : List Str) (p : List Str × Nat) : List (List Str × Nat) := (List.range' p.2 (ns.length - p.2)).flatMap fun a => [ns.getD a "", ("-" : Str) ++ ns.getD a ""].map fun l => (p.1 ++ [l], a + 1)
def nextH (ns : List Str) (lv : List (List Str × Nat)) : List (List Str × Nat) := lv.flatMap (stepH ns)
def halfGo (ns : List Str) : Nat → List (List Str × Nat) → List (List Str) → List (List Str)
  | 0, _, found => found
  | m + 1, lv, found => halfGo ns m (nextH ns lv) (found ++ (nextH ns lv).map (·.1))
def halves (ns : List Str) : List (List Str) := halfGo ns ns.length [([], 0)] [[]]
section
variable {K : PySem.W.Frag} {σ : Sl} {M : Hp} {te ta tb : TE} {α : Type} {R : Rl α}
theorem _root_.L3.GvL.li [Mon R] {xs : List α} (h : GvL te σ M fun M ws => Pd R M xs ws) : Gv te σ M (LiR R xs) := h.gv fun M vs p r m => ⟨p, vs, rfl, upd_same, r.mono (same_new m)⟩
theorem _root_.L3.GvK.gv {ks : List Str} (h : GvK te σ M ks) : Gv te σ M (DcR ks) := fun H mh Q q => h H mh Q fun p M' H' g h0 m0 hw => q _ _ H' (g.freeze h0 m0 hw) ⟨p, rfl, .inl upd_same⟩
theorem gl_one [Mon R] {x : α} (h : Gv te σ M (R x)) : GvL (tLst (tCons te tNil)) σ M fun M ws => Pd R M [x] ws := fun H mh Q q =>
  h H mh _ fun v M1 H1 g1 p1 => ⟨by show 1 ≤ sizeLine; decide, fun p np => q p [v] M1 _ (g1.trans (.own g1.mh np)) (g1.hh.free np) (g1.mh.free np) upd_same (.cons p1 .nil)⟩
theorem gv_tup1 {x : Str} (h : Gv te σ M (Tx x)) : Gv (tTup (tCons te tNil)) σ M (TT [x]) := fun H mh Q q =>
  h H mh _ fun v M1 H1 g1 p1 => ⟨by show 1 ≤ sizeLine; decide, fun p np => q _ _ _ (g1.trans (.new g1.mh np)) (by cases (show v = _ from p1); exact TT.new [x])⟩
theorem szK {n : Nat} (h : n ≤ 1000000) : n ≤ sizeLine := szM (Nat.le_trans h (by decide))
theorem flat2_len {α β : Type} (xs : List α) (f : α → β) (g : α → β) : (xs.flatMap fun x => [f x, g x]).length = 2 * xs.length := by
  induction xs with
  | nil => rfl
  | cons x xs ih => rw [List.flatMap_cons, List.length_append, ih]; simp only [List.length_cons, List.length_nil]; omega
theorem py_LTT {K : PySem.W.Frag} : PyR K (LiR TT) fun xs => .list (xs.map fun c => .tuple (c.map .str)) := fun xs M v h => py_lst py_TT _ _ _ h.lst
theorem inj_LTT : Inj fun xs : List (List Str) => PyData.list (xs.map fun c => .tuple (c.map .str)) := inj_lst inj_TT
theorem gv_nilL {R : Rl α} : Gv (tLst tNil) σ M (LiR R []) := gl_nil.gv fun M vs p h m => by subst h; exact ⟨p, [], rfl, upd_same, .nil⟩
end
end My

set_option Elab.async false
set_option linter.all false
set_option maxRecDepth 100000
set_option maxHeartbeats 4000000
namespace My
open PySem PySem.Spec PyProof.Rows L2 L3
section
variable {P : Program} {w : World} {K : PySem.W.Frag} {mg : Str → Option Value} {base : Heap}
abbrev s_full_settings : Stmt := topS 21
theorem sc_full_settings : FnScope ["names", "found", "name", "setting", "literal"] ["names"] (defScope s_full_settings) := ⟨rfl, rfl, rfl, by decide +kernel, rfl, by decide +kernel, by decide +kernel⟩
def sp_full_settings (K : PySem.W.Frag) : Sp := sp1 (SqR K Tx) (fun ns => ns.length ≤ 6 ∧ Shorts ns) fun ns => LiR TT (fulls ns)
theorem fulls_len (ns : List Str) : (fulls ns).length = 2 ^ ns.length := by
  have go : ∀ (ns : List Str) (acc : List (List Str)), (ns.foldl fullP acc).length = acc.length * 2 ^ ns.length := by
    intro ns
    induction ns with
    | nil => intro acc; simp
    | cons n ns ih =>
      intro acc
      rw [List.foldl_cons, ih, List.length_cons, Nat.pow_succ]
      have : (fullP acc n).length = acc.length * 2 := by
        unfold fullP
        induction acc with
        | nil => rfl
        | cons a acc ih => rw [List.flatMap_cons, List.length_append, ih, List.length_cons]; simp; omega
      rw [this, Nat.mul_assoc, Nat.mul_comm 2]
  have := go ns [[]]
  simpa [fulls] using this
theorem fulls_take {ns : List Str} {i : Nat} {n : Str} (h : ns[i]? = some n) : fulls (ns.take (i + 1)) = fullP (fulls (ns.take i)) n := by
  unfold fulls
  rw [List.take_add_one, h, List.foldl_append]
  rfl
theorem fulls_each : ∀ (ns : List Str), ∀ s ∈ fulls ns, s.length = ns.length := by
  have go : ∀ (ns : List Str) (acc : List (List Str)) (k : Nat), (∀ s ∈ acc, s.length = k) → ∀ s ∈ ns.foldl fullP acc, s.length = k + ns.length := by
    intro ns
    induction ns with
    | nil => intro acc k h s hs; exact h s hs
    | cons n ns ih =>
      intro acc k h s hs
      rw [List.foldl_cons] at hs
      have := ih (fullP acc n) (k + 1) (fun z hz => by
        obtain ⟨y, hy, hz⟩ := List.mem_flatMap.mp hz
        obtain ⟨l, _, rfl⟩ := List.mem_map.mp hz
        rw [List.length_append, h y hy]; rfl) s hs
      rw [this, List.length_cons]; omega
  intro ns s hs
  have := go ns [[]] 0 (by simp) s hs
  omega
theorem ok_full_settings {f : Addr} {fd : FuncData} (F : Fun K "full_settings" "full_settings" s_full_settings f fd) (T : Gc mg) : FnOk P w K mg base CX0 1 f fd ["names"] (sp_full_settings K) := by
  refine F.ok sc_full_settings (fun vs H Q E h => ?_) (fun cdv A outer s H vs Q E hr h => ?_)
  · obtain ⟨x, M, v, rfl, _⟩ := h
    rfl
  · obtain ⟨ns, M, v, rfl, mh, r1, ⟨h6, hsh⟩, q⟩ := h
    have hu := hr.units
    refine ⟨_, (pss_cons (ps_set (i := 1) sc_full_settings.nd rfl (by first | exact .inl rfl | exact .inr rfl) (pe_lst (pa_cons (pe_tup pa_nil) pa_nil)))
      (pss_cons (ps_for PassesOwn.never (by rfl) (pi_sq (pv 0)) (pg_name (i := 2) sc_full_settings.nd rfl (by first | exact .inl rfl | exact .inr rfl)) (pss_one (ps_setLc2 (i := 1) (own := [("setting", 3), ("literal", 4)]) (vs1 := [4]) (g := (gName 3)) (tt := tYes) (wi1 := (iSq K (tTup (tCons (tVar 2) (tCons (tOp (rAddA K) (tC (.str "-")) (tVar 2)) tNil))))) (g1 := (gName 4)) (tt1 := tYes) (te := (tOp (rAddA K) (tVar 3) (tTup (tCons (tVar 4) tNil)))) (by rfl) sc_full_settings.nd rfl rfl (sw_true rfl rfl rfl (by decide +kernel)) (pi_sq (pv 1)) (blkOk_by (by rfl)) (by decide) (fun _ _ _ _ _ => (pg_name (i := 3) sc_full_settings.nd rfl (by first | exact .inl rfl | exact .inr rfl))) (fun _ _ _ _ _ => pts_nil) (fun _ _ _ _ _ => (pi_sq (pe_tup (pa_cons (pv 2) (pa_cons (pe_op op_addA pe_str (pv 2)) pa_nil))))) (fun _ _ _ _ _ => (pg_name (i := 4) sc_full_settings.nd rfl (by first | exact .inl rfl | exact .inr rfl))) (fun _ _ _ _ _ => pts_nil) (fun _ _ _ _ _ => (pe_op op_addA (pv 3) (pe_tup (pa_cons (pv 4) pa_nil)))))))
      (pss_one (ps_ret (pv 1))))), ?_⟩
    refine q_asg (P := LiR TT [[]]) mh (gl_one gv_nilT).li fun v1 M1 H1 g1 p1 => ?_
    refine q_for (R1 := Tx) (xs := ns) g1.mh (gv_var rfl (Mon.mono g1.mm r1))
      (fun M1' i σ' M' H' => ∃ y2 u, Gr M H M' H' ∧ Same M1' M' ∧ LiR TT (fulls (ns.take i)) M' u ∧ σ' = [some v, some u, y2, none, none])
      (fun M2 H2 g2 => ⟨none, v1, g1.trans g2, Same.refl _, Mon.mono g2.mm p1, rfl⟩) (fun M2 i σ' M' H' ⟨_, _, g, s1, _⟩ => ⟨s1, g.mh⟩) ?_ ?_
    · rintro M2 i n u σ' M' H' sM hx ⟨y2, v2, g, s1, p2, rfl⟩ rx
      cases rx
      have hi : i < ns.length := (List.getElem?_eq_some_iff.mp hx).1
      have hn : n.length ≤ 900 := hsh.2 n (List.mem_of_getElem? hx)
      have hle : (fulls (ns.take i)).length ≤ 64 := by
        rw [fulls_len, List.length_take]
        exact Nat.le_trans (Nat.pow_le_pow_right (by decide) (show min i ns.length ≤ 6 by omega)) (by decide)
      refine s_asg (P := LiR TT (fulls (ns.take (i + 1)))) g.mh (gv_is (gl_two (R := TT) (R1 := Tx) (T := TT) (xs := fulls (ns.take i)) (ys := fun _ => [n, ("-" : Str) ++ n]) (f := fun z l => z ++ [l]) (gi_sq (K := K) (gv_var rfl p2.sq)) (szM (by rw [flat2_len]; omega))
        (fun z _ M3 u3 sm r3 => gi_sq (K := K) (gv_is (gv_tup2 (K := K) (gv_var rfl rfl) (gv_addSt (K := K) (gv_c rfl) (gv_var rfl rfl) (szM (by show 1 + n.length ≤ _; omega)))) fun _ _ h => .inr h))
        fun z hz l _ M3 u3 w3 sm r3 q3 => gv_addTT (K := K) (gv_var rfl r3) (gv_tup1 (gv_var rfl q3)) (szM (by have := fulls_each _ z hz; rw [List.length_take] at this; simp only [List.length_cons, List.length_nil]; omega))).li fun M' v' h => by rw [fulls_take hx]; exact h) fun u4 M4 H4 g4 p4 => ?_
      exact ⟨M4, _, u4, g.trans g4, s1.trans g4.mm, p4, rfl⟩
    · rintro M2 σ' M' H' sM ⟨y2, u, g, s1, p2, rfl⟩
      rw [List.take_length] at p2
      exact ⟨u, rfl, q _ _ _ g p2⟩
end
end My

set_option Elab.async false
set_option linter.all false
set_option maxRecDepth 100000
set_option maxHeartbeats 8000000
namespace My
open PySem PySem.Spec PyProof.Rows L2 L3
abbrev NtR : Rl Nat := fun i => It' (i : Nat)
instance : Mon NtR := ⟨fun _ h => h⟩
/-- the state between two levels; m levels are still to come -/
structure HvI (ns : List Str) (lv : List (List Str × Nat)) (found : List (List Str)) (m : Nat) : Prop where
  lo : ∀ p ∈ lv, ns.length ≤ p.2 + m
  up : ∀ p ∈ lv, p.2 ≤ ns.length ∧ p.1.length ≤ p.2
  go : halfGo ns m lv found = halves ns
  sz : lv.length * 12 ^ m ≤ 2985984
  fz : 11 * found.length * 12 ^ m ≤ 35831808
theorem mem_stepH {ns : List Str} {p q : List Str × Nat} (h : q ∈ stepH ns p) : ∃ a l, p.2 ≤ a ∧ a < ns.length ∧ (l = ns.getD a "" ∨ l = ("-" : Str) ++ ns.getD a "") ∧ q = (p.1 ++ [l], a + 1) := by
  obtain ⟨a, ha, hq⟩ := List.mem_flatMap.mp h
  obtain ⟨l, hl, rfl⟩ := List.mem_map.mp hq
  have := List.mem_range'_1.mp ha
  exact ⟨a, l, this.1, by omega, by simpa using hl, rfl⟩
theorem flat_le {α β : Type} {f : α → List β} {c : Nat} : ∀ {xs : List α}, (∀ x ∈ xs, (f x).length ≤ c) → (xs.flatMap f).length ≤ c * xs.length
  | [], _ => Nat.zero_le _
  | x :: xs, h => by
    have h1 := h x (List.mem_cons_self ..)
    have h2 := flat_le (xs := xs) fun z hz => h z (List.mem_cons_of_mem _ hz)
    rw [List.flatMap_cons, List.length_append, List.length_cons, Nat.mul_succ]
    omega
theorem stepH_len (ns : List Str) (p : List Str × Nat) : (stepH ns p).length = 2 * (ns.length - p.2) := by
  unfold stepH
  have := flat2_len (List.range' p.2 (ns.length - p.2)) (fun a => (p.1 ++ [ns.getD a ""], a + 1)) (fun a => (p.1 ++ [("-" : Str) ++ ns.getD a ""], a + 1))
  rw [List.length_range'] at this
  exact this
theorem nextH_len {ns : List Str} {lv : List (List Str × Nat)} (n6 : ns.length ≤ 6) : (nextH ns lv).length ≤ 12 * lv.length := flat_le fun p _ => by rw [stepH_len]; omega
theorem HvI.init {ns : List Str} (n6 : ns.length ≤ 6) : HvI ns [([], 0)] [[]] ns.length := by
  have h : 12 ^ ns.length ≤ 12 ^ 6 := Nat.pow_le_pow_right (by decide) n6
  refine ⟨fun p hp => ?_, fun p hp => ?_, rfl, ?_, ?_⟩
  · rw [List.mem_singleton.mp hp]; exact Nat.le_of_eq (Nat.zero_add _).symm
  · rw [List.mem_singleton.mp hp]; exact ⟨Nat.zero_le _, Nat.le_refl _⟩
  · simp only [List.length_singleton]; omega
  · simp only [List.length_singleton]; omega
theorem HvI.step1 {ns : List Str} {lv : List (List Str × Nat)} {found : List (List Str)} {m : Nat} (n6 : ns.length ≤ 6) (h : HvI ns lv found (m + 1)) : HvI ns (nextH ns lv) (found ++ (nextH ns lv).map (·.1)) m := by
  have up : ∀ p ∈ nextH ns lv, p.2 ≤ ns.length ∧ p.1.length ≤ p.2 := fun p hp => by
    obtain ⟨r, hr, hp⟩ := List.mem_flatMap.mp hp
    obtain ⟨a, l, h1, h2, _, rfl⟩ := mem_stepH hp
    have := (h.up r hr).2
    refine ⟨h2, ?_⟩
    show (r.1 ++ [l]).length ≤ a + 1
    rw [List.length_append]
    show r.1.length + 1 ≤ a + 1
    omega
  have l1 := nextH_len (lv := lv) n6
  have s1 := h.sz
  have f1 := h.fz
  rw [Nat.pow_succ] at s1 f1
  have s2 : (nextH ns lv).length * 12 ^ m ≤ 2985984 := by
    refine Nat.le_trans (Nat.mul_le_mul_right _ l1) ?_
    rw [Nat.mul_comm 12, Nat.mul_assoc, Nat.mul_comm 12]
    exact s1
  refine ⟨fun p hp => ?_, up, h.go, s2, ?_⟩
  · obtain ⟨r, hr, hp⟩ := List.mem_flatMap.mp hp
    obtain ⟨a, l, h1, h2, _, rfl⟩ := mem_stepH hp
    have := h.lo r hr
    show ns.length ≤ a + 1 + m
    omega
  · rw [List.length_append, List.length_map, Nat.mul_add, Nat.add_mul]
    have f2 : 11 * found.length * 12 ^ m * 12 ≤ 35831808 := by rw [Nat.mul_assoc]; exact f1
    have f3 : 11 * (nextH ns lv).length * 12 ^ m ≤ 11 * 2985984 := by rw [Nat.mul_assoc]; exact Nat.mul_le_mul_left _ s2
    omega
theorem HvI.step {ns : List Str} {lv : List (List Str × Nat)} {found : List (List Str)} {m : Nat} (n6 : ns.length ≤ 6) (h : HvI ns lv found m) :
    ∃ m', (m' < m ∨ nextH ns lv = []) ∧ HvI ns (nextH ns lv) (found ++ (nextH ns lv).map (·.1)) m' := by
  cases m with
  | zero =>
    have e : nextH ns lv = [] := List.flatMap_eq_nil_iff.mpr fun p hp => by
      have := h.lo p hp
      apply List.eq_nil_of_length_eq_zero
      rw [stepH_len]
      omega
    refine ⟨0, .inr e, ?_⟩
    rw [e]
    refine ⟨fun p hp => (List.not_mem_nil hp).elim, fun p hp => (List.not_mem_nil hp).elim, ?_, by simp, ?_⟩
    · rw [List.map_nil, List.append_nil]; exact h.go
    · rw [List.map_nil, List.append_nil]; exact h.fz
  | succ m => exact ⟨m, .inl (Nat.lt_succ_self m), h.step1 n6⟩
theorem q_ext {K : PySem.W.Frag} {σ : Sl} {M H : Hp} {te : TE} {D : Ends} {tz : TS} {i : Nat} {p : Addr} {vs : List V} {P : Hp → List V → Prop} (mh : Same M H) (hi : σ[i]? = some (some (.ref p))) (hp : H p = some (.lst vs)) (h : GvL te σ M P) (hz : ∀ M' ws, P M' ws → vs.length + ws.length ≤ sizeLine)
    (k : ∀ ws M' H', Gr M H M' H' → P M' ws → tz D σ (upd H' p (.lst (vs ++ ws)))) : tSeq (tDrop (tBM K "list" rExtend (tVar i) (tCons te tNil))) tz D σ H := s_ext (D := { D with nx := tz D }) mh hi hp h hz k
section
end
end My

set_option Elab.async false
set_option linter.all false
set_option maxRecDepth 100000
set_option maxHeartbeats 8000000
namespace My
open PySem PySem.Spec PyProof.Rows L2 L3
/-- a rule: names, allowed settings -/
structure RuleD where
  names : List Str
  allowed : List (List Str)
def RuleD.settings (r : RuleD) : List (List Str) := (fulls r.names).filter fun s => decide (s ∈ r.allowed)
def mkRule (ns : List Str) (ss : List (List Str)) : RuleD := ⟨ns, once (ss.map fun s => asc s ns)⟩
def ruleF (vn va : V) : List (Str × V) := putF "allowed" va (putF "names" vn [])
def RuleR (C : Addr) : Rl RuleD := fun r M v => ∃ a dx vn va, v = .ref a ∧ M a = some (.ins C dx (ruleF vn va)) ∧ TT r.names M vn ∧ DtF r.allowed M va
instance {C : Addr} : Mon (RuleR C) := ⟨fun e ⟨a, dx, vn, va, h1, h2, h3, h4⟩ => ⟨a, dx, vn, va, h1, e _ _ h2, Mon.mono e h3, Mon.mono e h4⟩⟩
structure RuleT (K : PySem.W.Frag) (mg : Str → Option Value) (C : Addr) : Prop where
  cl : Cls K C
  nN : NoAttr K C "names"
  nA : NoAttr K C "allowed"
theorem ruleF_names (vn va : V) : (ruleF vn va).lookup ("names" : Str) = some vn := by
  unfold ruleF
  rw [lookup_putF, if_neg (by decide +kernel), lookup_putF, if_pos rfl]
theorem ruleF_allowed (vn va : V) : (ruleF vn va).lookup ("allowed" : Str) = some va := by
  unfold ruleF
  rw [lookup_putF, if_pos rfl]
theorem ruleF_no {m : Str} (vn va : V) (h1 : ¬ m = ("allowed" : Str)) (h2 : ¬ m = ("names" : Str)) : (ruleF vn va).lookup m = none := by
  unfold ruleF
  rw [lookup_putF, if_neg h1, lookup_putF, if_neg h2]
  rfl
theorem insR_rule {C : Addr} {m : Str} {r : RuleD} (h1 : ¬ m = ("allowed" : Str)) (h2 : ¬ m = ("names" : Str)) : InsR C m (RuleR C r) := fun M v ⟨a, dx, vn, va, e, h, _, _⟩ => ⟨a, dx, _, e, h, ruleF_no vn va h1 h2⟩
section
variable {K : PySem.W.Frag} {mg : Str → Option Value} {σ : Sl} {M : Hp} {te : TE} {C : Addr} {r : RuleD}
theorem gv_rnames (T : RuleT K mg C) (h : Gv te σ M (RuleR C r)) : Gv (tFld K te "names") σ M (TT r.names) := gv_fld h fun M' v ⟨a, dx, vn, va, h1, h2, h3, h4⟩ => ⟨a, C, dx, _, vn, h1, h2, T.cl, T.nN, ruleF_names .., h3⟩
theorem gv_rallowed (T : RuleT K mg C) (h : Gv te σ M (RuleR C r)) : Gv (tFld K te "allowed") σ M (DtF r.allowed) := gv_fld h fun M' v ⟨a, dx, vn, va, h1, h2, h3, h4⟩ => ⟨a, C, dx, _, va, h1, h2, T.cl, T.nA, ruleF_allowed .., h4⟩
end
section
variable {P : Program} {w : World} {K : PySem.W.Frag} {mg : Str → Option Value} {base : Heap}
abbrev s_checked_settings : Stmt := topS 26
theorem sc_checked_settings : FnScope ["settings", "names", "found", "index", "thing"] ["settings", "names"] (defScope s_checked_settings) := ⟨rfl, rfl, rfl, by decide +kernel, rfl, by decide +kernel, by decide +kernel⟩
def sp_checked_settings (K : PySem.W.Frag) : Sp := sl2 (SqR K (SqR K Tx)) (SqR K Tx) (fun cs ns => Shorts ns ∧ cs.length ≤ 1000000 ∧ ∀ c ∈ cs, ClOk ns c ∧ c.length = ns.length) fun cs ns M ws => Pd TT M (cs.map fun c => asc c ns) ws
theorem ok_checked_settings {f : Addr} {fd : FuncData} (F : Fun K "checked_settings" "checked_settings" s_checked_settings f fd) (T : Gc mg) (c_first_wrong : Cal P w K mg base 3 "first_wrong" ["things", "names"] (sp_first_wrong K)) (c_ascending : Cal P w K mg base 1 "ascending" ["literals", "names"] (sp_ascending K)) :
    FnOk P w K mg base CX0 4 f fd ["settings", "names"] (sp_checked_settings K) := by
  refine F.ok sc_checked_settings (fun vs H Q E h => ?_) (fun cdv A outer s H vs Q E hr h => ?_)
  · obtain ⟨x, y, M, v, w, rfl, _⟩ := h
    rfl
  · obtain ⟨cs, ns, M, v, w, rfl, mh, r1, r2, ⟨hsh, hcl, hok⟩, q⟩ := h
    have hu := hr.units
    refine ⟨_, (pss_cons (ps_set (i := 2) sc_checked_settings.nd rfl (by first | exact .inl rfl | exact .inr rfl) (pe_lst pa_nil))
      (pss_cons (ps_for PassesOwn.never (by rfl) (pi_en (by rfl) T.enumerate (pa_cons (pv 0) pa_nil)) (pg_tup (by rfl) (pgs_cons (pg_name (i := 3) sc_checked_settings.nd rfl (by first | exact .inl rfl | exact .inr rfl)) (pgs_cons (pg_name (i := 4) sc_checked_settings.nd rfl (by first | exact .inl rfl | exact .inr rfl)) pgs_nil))) (pss_cons (ps_if (PW.pt (pw_or (pt_cmp (pc_notN (pe_f c_first_wrong (hr.mono (by decide)) (pa_cons (pv 4) (pa_cons (pv 1) pa_nil))))) (pw_or1 (pt_cmpR (op_neP hu) (pe_callB call_lenA (by rfl) T.len boot_len (pa_cons (pv 4) pa_nil)) (pe_callB call_lenA (by rfl) T.len boot_len (pa_cons (pv 1) pa_nil)) (nomark _))))) (pss_one ps_never) pss_nil)
      (pss_one (ps_expr (pe_bm PySem.F.plainAttrs_list PySem.F.slot_list_append PySem.F.type_list_append mt_append (pv 2) (pa_cons (pe_f c_ascending (hr.mono (by decide)) (pa_cons (pv 4) (pa_cons (pv 1) pa_nil))) pa_nil))))))
      (pss_one (ps_ret (pv 2))))), ?_⟩
    refine q_asgL mh gl_nil fun p vs M2 H2 g2 h0 m0 hp2 hv => ?_
    subst hv
    refine q_forE (R1 := SqR K Tx) (xs := cs) g2.mh (gv_var rfl (Mon.mono g2.mm r1))
      (fun M1' i σ' M' H' => ∃ y3 y4 ws, Gr M H M' H' ∧ Same M1' M' ∧ Own H M' H' p ws ∧ Pd TT M' ((cs.take i).map fun c => asc c ns) ws ∧ σ' = [some v, some w, some (.ref p), y3, y4])
      (fun M3 H3 g3 => ⟨none, none, [], g2.trans g3, Same.refl _, Own.step ⟨h0, m0, hp2⟩ g3, .nil, rfl⟩) (fun M3 i σ' M' H' ⟨_, _, _, g, s1, _⟩ => ⟨s1, g.mh⟩) ?_ ?_
    · rintro M3 i c v' σ' M' H' H'' sM hx ⟨y3, y4, ws, g, s1, ow, hpd, rfl⟩ gE rx
      have hxm := List.mem_of_getElem? hx
      have hil : i < cs.length := (List.getElem?_eq_some_iff.mp hx).1
      obtain ⟨d, hd, hshd, hfw⟩ := cl_d rx (hok c hxm).1
      have g' := g.trans gE
      have ow' := ow.step gE
      have r2' : SqR K Tx ns M' w := Mon.mono g.mm r2
      refine q_if0 (b := false) g'.mh (gt_is (gt_or (b := false) (c := false) (gt_B (gv_is (gv_notN (b := true) (gv_call2 (R1 := Dd K) (R2 := SqR K Tx) (gv_var rfl hd) (gv_var rfl r2') hshd) fun M4 v4 h4 => ?_) fun _ _ h => h)) fun _ => gt_is (gt_test (gv_eqT (K := K) (neg := true) py_int inj_int (gv_lenA (K := K) (R := Tx) (gv_var rfl rx)) (gv_lenA (K := K) (R := Tx) (gv_var rfl r2')) (by simp [PyData.depth]))) (by rw [(hok c hxm).2]; simp)) rfl) (fun hb => nomatch hb) (fun _ H4 hh4 => ?_)
      · have h4' : v4 = match firstWrong ns d with | none => V.non | some i => V.int (i : Nat) := h4
        rw [hfw] at h4'
        rw [h4']
        rfl
      · have g4 := g'.trans (.idle g'.mh hh4)
        have ow4 := ow'.idle hh4
        have hwl : ws.length = i := by rw [← hpd.length, List.length_map, List.length_take]; omega
        refine s_app (P := TT (asc c ns)) g4.mh rfl ow4.h (szL (by omega)) (gv_call2 (R1 := CtR K) (R2 := SqR K Tx) (gv_var rfl (.inl rx)) (gv_var rfl r2') hsh) fun v5 M5 H5 g5 r5 => ?_
        have ow5 := ow4.step g5
        refine ⟨M5, _, _, ws ++ [v5], (g4.trans g5).mut ow5.h0 ow5.m, s1.trans g5.mm, ow5.put, ?_, rfl⟩
        rw [List.take_add_one, hx, List.map_append]
        exact pd_app (hpd.mono g5.mm) (.cons r5 .nil)
    · rintro M3 σ' M' H' sM ⟨y3, y4, ws, g, s1, ow, hpd, rfl⟩
      rw [List.take_length] at hpd
      exact ⟨.ref p, rfl, q p ws M' H' g ow.h0 ow.m ow.h hpd⟩
abbrev s_Rule_init : Stmt := inClass (topS 25) 0
theorem sc_Rule_init : FnScope ["self", "signs", "settings", "setting"] ["self", "signs", "settings"] (defScope s_Rule_init) := ⟨rfl, rfl, rfl, by decide +kernel, rfl, by decide +kernel, by decide +kernel⟩
structure RuleOk (ns : List Str) (ss : List (List Str)) : Prop where
  s : NamesOk ns []
  k : ns.length ≤ 6
  n : ss.length ≤ 1000000
  c : ∀ c ∈ ss, ClOk ns c ∧ c.length = ns.length
def sp_Rule_init (K : PySem.W.Frag) (C : Addr) : Sp := fun vs H Q _ => ∃ ns ss M Hb x dx v1 v2, vs = [.ref x, v1, v2] ∧ Gr M Hb M H ∧ Hb x = none ∧ M x = none ∧ H x = some (.ins C dx []) ∧
  SqR K Tx ns M v1 ∧ SqR K (SqR K Tx) ss M v2 ∧ RuleOk ns ss ∧ ∀ M' H', Gr M Hb M' H' → RuleR C (mkRule ns ss) M' (.ref x) → Q .non H'
theorem ok_Rule_init {f C : Addr} {fd : FuncData} (F : Fun K "__init__" "Rule.__init__" s_Rule_init f fd) (T : Ge mg) (TC : RuleT K mg C) (c_checked_names : Cal P w K mg base 2 "checked_names" ["things", "known"] (sp_checked_names K)) (c_checked_settings : Cal P w K mg base 4 "checked_settings" ["settings", "names"] (sp_checked_settings K)) :
    FnOk P w K mg base CX0 5 f fd ["self", "signs", "settings"] (sp_Rule_init K C) := by
  refine F.ok sc_Rule_init (fun vs H Q E h => ?_) (fun cdv A outer s H vs Q E hr h => ?_)
  · obtain ⟨_, _, _, _, _, _, _, _, rfl, _⟩ := h
    rfl
  · obtain ⟨ns, ss, M, Hb, x, dx, v1, v2, rfl, g0, hb, hm, hx, r1, r2, ok, q⟩ := h
    have hu := hr.units
    obtain ⟨tk, hL⟩ := T.g_MOST_SIGNS
    refine ⟨_, (pss_cons (ps_fld (pv 0) (pe_f c_checked_names (hr.mono (by decide)) (pa_cons (pv 1) (pa_cons (pe_tup pa_nil) pa_nil))) rfl)
      (pss_cons (ps_if (pt_cmpR op_gt (pe_callB call_lenA (by rfl) T.len boot_len (pa_cons (pe_fld (pv 0) rfl) pa_nil)) (pe_glob (v := .int 6) (by rfl) hL ⟨_, rfl⟩) (nomark _)) (pss_one ps_never) pss_nil)
      (pss_one (ps_fld (pv 0) (pe_frz (pe_dcT (own := [("setting", 3)]) (g := (gName 3)) (tt := tYes) (tk := (tVar 3)) (tv := (tC (.bl true))) hu (by rfl) sc_Rule_init.nd (pi_sq (pe_f c_checked_settings (hr.mono (by decide)) (pa_cons (pv 2) (pa_cons (pe_fld (pv 0) rfl) pa_nil)))) (blkOk_by (by rfl)) (fun _ _ _ _ _ => (pg_name (i := 3) sc_Rule_init.nd rfl (by first | exact .inl rfl | exact .inr rfl))) (fun _ _ _ _ _ => pts_nil) (fun _ _ _ _ _ => (pv 3)) (fun _ _ _ _ _ => pe_bl))) rfl)))), ?_⟩
    refine q_fld (P := TT ns) g0.mh hm hx rfl TC.cl TC.nN (by decide) (gv_call2 (R1 := SqR K Tx) (R2 := SqR K Tx) (x := ns) (y := []) (gv_var rfl (Mon.mono (same_new hm) r1)) (gv_is gv_nilT fun _ _ h => h.sq) ok.s) fun vn M1 H1 g1 m1 rn => ?_
    have G1 := (g0.trans g1).mut (o := .ins C dx (putF "names" vn [])) hb m1
    have z1 : (putF "names" vn []).length ≤ 1 := putF_len (Nat.le_refl 0)
    have e1 := same_new (o := .ins C dx (putF "names" vn [])) m1
    have self1 : ∀ {M' : Hp}, Same (upd M1 x (.ins C dx (putF "names" vn []))) M' → Gv (tFld K (tVar 0) "names") (start ["self", "signs", "settings", "setting"] [.ref x, v1, v2]) M' (TT ns) := fun sm => gv_self (P := TT ns) rfl (sm _ _ upd_same) TC.cl TC.nN (by rw [lookup_putF, if_pos rfl]) (Mon.mono (e1.trans sm) rn)
    refine q_if0 (b := false) (same_lent G1.mh upd_same) (gt_is (gt_test (gv_gt (g := fun i j => .bl (decide (j < i))) (i := (ns.length : Int)) (j := 6) (gv_lenA (K := K) (R := Tx) (gv_is (self1 (Same.refl _)) fun _ _ h => h.sq)) (gv_c rfl))) (by have := ok.k; simp; omega)) (fun h => nomatch h) fun _ H2 hh2 => ?_
    have G2 := G1.trans (.idle G1.mh hh2)
    have hx2 := hh2 _ _ (upd_same (H := H1) (a := x) (o := .ins C dx (putF "names" vn [])))
    have hshort : Shorts ns := ⟨Nat.le_trans ok.k (by decide), fun n hn => Nat.le_trans (isNm_len (ok.s.2.1 n hn).1) (by decide)⟩
    refine s_fldF (ks := once (ss.map fun c => asc c ns)) G2.mh m1 hx2 rfl TC.cl TC.nA (lt1000 z1) (gv_frzT (gk_dcT (by show 3 < 4; decide) (gi_sq (K := K) (gv_is (gl_call2 (R1 := SqR K (SqR K Tx)) (R2 := SqR K Tx) (x := ss) (y := ns)
      (gv_var rfl (Mon.mono (g1.mm.trans e1) r2)) (gv_is (self1 (Same.refl _)) fun _ _ h => h.sq) ⟨hshort, ok.n, ok.c⟩).li fun _ _ h => h.sq)) (by rw [List.length_map]; exact szK ok.n))) fun va M3 H3 g3 m3 ra => ?_
    have G3 := ((G2.trans g3).mut (o := .ins C dx (ruleF vn va)) hb m3).freeze hb m3 upd_same
    have e3 := same_new (o := .ins C dx (ruleF vn va)) m3
    exact q _ _ G3 ⟨x, dx, vn, va, rfl, upd_same, Mon.mono (g3.mm.trans e3) rn, Mon.mono e3 ra⟩
structure RuleW (r : RuleD) : Prop where
  k : r.names.length ≤ 6
  s : Shorts r.names
abbrev s_Rule_settings : Stmt := inClass (topS 25) 2
theorem sc_Rule_settings : FnScope ["self", "setting"] ["self"] (defScope s_Rule_settings) := ⟨rfl, rfl, rfl, by decide +kernel, rfl, by decide +kernel, by decide +kernel⟩
def sp_Rule_settings (K : PySem.W.Frag) (C : Addr) : Sp := sp1 (RuleR C) RuleW fun r => LiR TT r.settings
theorem ok_Rule_settings {f C : Addr} {fd : FuncData} (F : Fun K "settings" "Rule.settings" s_Rule_settings f fd) (T : Ge mg) (TC : RuleT K mg C) (c_full_settings : Cal P w K mg base 1 "full_settings" ["names"] (sp_full_settings K)) : FnOk P w K mg base CX0 2 f fd ["self"] (sp_Rule_settings K C) := by
  refine F.ok sc_Rule_settings (fun vs H Q E h => ?_) (fun cdv A outer s H vs Q E hr h => ?_)
  · obtain ⟨x, M, v, rfl, _⟩ := h
    rfl
  · obtain ⟨r, M, v, rfl, mh, r1, hw, q⟩ := h
    have hu := hr.units
    refine ⟨_, (pss_one (ps_ret (pe_lc (own := [("setting", 1)]) (g := (gName 1)) (tt := (tTest (tOp (rInA K false) (tVar 1) (tFld K (tVar 0) "allowed")))) (te := (tVar 1)) (by rfl) sc_Rule_settings.nd (pi_sq (pe_f c_full_settings (hr.mono (by decide)) (pa_cons (pe_fld (pv 0) rfl) pa_nil))) (blkOk_by (by rfl)) (fun _ _ _ _ _ => (pg_name (i := 1) sc_Rule_settings.nd rfl (by first | exact .inl rfl | exact .inr rfl))) (fun _ _ _ _ _ => (pts_one (pt_cmpR (op_inA hu) (pv 1) (pe_fld (pv 0) rfl) (by rfl)))) (fun _ _ _ _ _ => (pv 1))))), ?_⟩
    refine s_ret mh (gv_is (gl_c1 (S := TT) (R := TT) (xs := fulls r.names) (gi_sq (K := K) (gv_is (gv_call1 (R1 := SqR K Tx) (pre := fun ns => ns.length ≤ 6 ∧ Shorts ns) (R := fun ns => LiR TT (fulls ns)) (gv_is (gv_rnames TC (gv_var rfl r1)) fun _ _ h => h.sq) ⟨hw.k, hw.s⟩) fun _ _ h => h.sq)) ?_ (fun s => decide (s ∈ r.allowed)) id
      (fun s _ M1 u sm ru => gt_is (gt_test (gv_inDtF (K := K) (gv_var rfl ru) (gv_rallowed TC (gv_var rfl (Mon.mono sm r1))))) (by simp)) fun s _ _ M1 u sm ru => gv_var rfl ru).li fun M' v' h => by rw [List.map_id] at h; exact h) q
    rw [fulls_len]
    exact szM (Nat.le_trans (Nat.pow_le_pow_right (by decide) hw.k) (by decide))
end
end My

set_option Elab.async false
set_option linter.all false
set_option maxRecDepth 100000
set_option maxHeartbeats 8000000
namespace My
open PySem PySem.Spec PyProof.Rows L2 L3
theorem getD_at {ns : List Str} {a : Nat} (h : a < ns.length) : ns[a]? = some (ns.getD a "") := by rw [List.getD_eq_getElem?_getD, List.getElem?_eq_getElem h]; rfl
section
end
end My

set_option Elab.async false
set_option linter.all false
set_option maxRecDepth 100000
set_option maxHeartbeats 8000000
namespace My
open PySem PySem.Spec PyProof.Rows L2 L3
section
end
section
end
end My

set_option Elab.async false
set_option linter.all false
set_option maxRecDepth 100000
set_option maxHeartbeats 8000000
namespace My
open PySem PySem.Spec PyProof.Rows L2 L3
open L3.Strm
/-- a value as it is -/
abbrev VR : Rl V := fun x _ v => v = x
instance : Mon VR := ⟨fun _ h => h⟩
theorem pd_vr {M : Hp} : ∀ vs : List V, Pd VR M vs vs
  | [] => .nil
  | _ :: r => .cons rfl (pd_vr r)
theorem pd_perm {α : Type} {R : Rl α} {M : Hp} {vs us : List V} (h : us.Perm vs) : ∀ {xs : List α}, Pd R M xs vs → ∃ ys, ys.Perm xs ∧ Pd R M ys us := by
  induction h with
  | nil => intro xs h; cases h; exact ⟨[], .nil, .nil⟩
  | cons a _ ih =>
    intro xs h
    cases h with
    | cons r t =>
      obtain ⟨ys, h1, h2⟩ := ih t
      exact ⟨_ :: ys, h1.cons _, .cons r h2⟩
  | swap a b l =>
    intro xs h
    cases h with
    | cons r t =>
      cases t with
      | cons r' t' => exact ⟨_ :: _ :: _, .swap .., .cons r' (.cons r t')⟩
  | trans _ _ ih1 ih2 =>
    intro xs h
    obtain ⟨ys, h1, h2⟩ := ih2 h
    obtain ⟨zs, h3, h4⟩ := ih1 h2
    exact ⟨zs, h3.trans h1, h4⟩
section
end
section
variable {P : Program} {w : World} {K : PySem.W.Frag} {mg : Str → Option Value} {base : Heap}
/-- the things in a drawn order, whatever they are -/
def sp_mixG (K : PySem.W.Frag) {α : Type} (R : Rl α) : Sp := slS1 (SqR K R) (fun xs => xs.length ≤ 1000000) (fun xs => xs.length) fun xs M ws => ∃ ys, ys.Perm xs ∧ Pd R M ys ws
theorem ok_mixG {α : Type} {R : Rl α} [Mon R] {f : Addr} {fd : FuncData} (F : Fun K "_law_mixed" "_law_mixed" s__law_mixed f fd) (T : Gc mg) (c__law_draw : Cal P w K mg base 1 "_law_draw" ["_law_stream", "_law_many"] (sp__law_draw K)) : FnOk P w K mg base CX0 2 f fd ["_law_stream", "_law_things"] (sp_mixG K R) := by
  refine F.ok sc__law_mixed (fun vs H Q E h => ?_) (fun cdv A outer s H vs Q E hr h => ?_)
  · obtain ⟨S, x, M, v, k, rfl, _⟩ := h
    rfl
  · obtain ⟨S, xs, M, v, k, rfl, mh, at_, r1, h1, q⟩ := h
    refine ⟨_, (pss_cons (ps_set (i := 2) sc__law_mixed.nd rfl (by first | exact .inl rfl | exact .inr rfl) (pe_callTy call_lstA (by rfl) T.list boot_list (pa_cons (pv 1) pa_nil)))
      (pss_one (ps_ret (pe_lc (own := [("_law_k", 3)]) (g := (gName 3)) (tt := tYes) (te := (tBM K "list" rPopAt (tVar 2) (tCons (tCall (sp__law_draw K) [] E0 (tCons (tVar 0) (tCons (tCB (rLenA K) (tCons (tVar 2) tNil)) tNil))) tNil))) (by rfl) sc__law_mixed.nd (pi_range1 (by rfl) T.range (pa_cons (pe_callB call_lenA (by rfl) T.len boot_len (pa_cons (pv 2) pa_nil)) pa_nil)) (blkOk_by (by rfl)) (fun _ _ _ _ _ => (pg_name (i := 3) sc__law_mixed.nd rfl (by first | exact .inl rfl | exact .inr rfl))) (fun _ _ _ _ _ => pts_nil) (fun _ _ _ _ _ => (pe_bm PySem.F.plainAttrs_list PySem.F.slot_list_pop PySem.F.type_list_pop mt_popAt (pv 2) (pa_cons (pe_f c__law_draw (hr.mono (by decide)) (pa_cons (pv 0) (pa_cons (pe_callB call_lenA (by rfl) T.len boot_len (pa_cons (pv 2) pa_nil)) pa_nil))) pa_nil))))))), ?_⟩
    refine z_asgL (S := S) (c := 0) mh at_ (gl_lstOf (K := K) (R1 := R) (gv_var rfl r1)).s fun p vs M1 H1 g1 a1 hp0 hpm hpw hpd => ?_
    have hvl : vs.length = xs.length := hpd.length.symm
    have at1 : S.At (k + vs.length) H1 := by rw [hvl]; exact a1
    have hlen : Gv (tCB (rLenA K) (tCons (tVar 2) tNil)) [some (.ref S.a), some v, some (.ref p), none] (upd M1 p (.lst vs)) (It' (vs.length : Nat)) := gv_lenA (K := K) (R := VR) (gv_var rfl (.inl ⟨p, _, rfl, .inl (.inl upd_same), pd_vr vs⟩))
    have hdis : ∀ {D : Addr} {H2 : Hp} {o : HO}, H2 D = none → S.cut H2 p = some o → p ≠ D := fun hD hp z => by subst z; have := of_cut hp; rw [hD] at this; cases this
    refine lc_rngL hlen hpm (g1.mh.trans cut_same) (of_cut hpw) (by omega) ls_nt
      (fun D i M' H' => ∃ L zs : List V, Gr M (S.cut H) M' (S.cut H') ∧ Same M1 M' ∧ S.At (k + (vs.length - i)) H' ∧ S.cut H D = none ∧ M' D = none ∧ M' p = none ∧ p ≠ D ∧ S.cut H' D = some (.lst zs) ∧ S.cut H' p = some (.lst L) ∧ (zs ++ L).Perm vs ∧ zs.length = i) (fun M2 H2 D g2 hD => ?_) (fun D i M' H' hi => ?_) (fun D M' H' => ?_)
    · have g2' := lift g1.mh at1 g2
      have a2 := at1.same g2.hh
      have nD := a2.fresh hD
      have hp2 := g2'.hh _ _ hpw
      have hpD := hdis hD hp2
      have G2 := g1.trans g2'
      exact ⟨vs, [], by rw [cut_upd nD]; exact G2.trans (.own G2.mh (a2.cutn hD)), g2.mm, a2.upd nD, G2.hh.free (a2.cutn hD), G2.mh.free (a2.cutn hD), g2'.keep hpm hpw, hpD, by rw [cut_upd nD, upd_same], by rw [cut_upd nD, upd_ne hpD]; exact hp2, List.Perm.refl _, rfl⟩
    · rintro ⟨L, zs, g, s1, a', hD0, mD, mp, hpD, hwD, hwp, hper, hzl⟩
      have hLl : L.length = vs.length - i := by have := hper.length_eq; rw [List.length_append] at this; omega
      have e1 : k + (vs.length - i) = (k + (vs.length - (i + 1))) + 1 := by omega
      rw [e1] at a'
      refine ⟨.ref p, rfl, .inl ⟨rfl, _, .inl (.inl (of_cut hwp))⟩, ?_⟩
      refine GvS.lend (S := S) (c := 1) (P := Ex It' fun z => 0 ≤ z ∧ z < (L.length : Int)) (gs_call1 (S := S) (R1 := It') (pre := fun n => 0 < n ∧ n < 1073741824) (cs := fun _ => 1) (R := fun n => Ex It' fun i => 0 ≤ i ∧ i < n) (x := (L.length : Int)) rfl
        (gv_lenA (K := K) (R := VR) (gv_var rfl (.inl ⟨p, _, rfl, .inl (.inl upd_same), pd_vr L⟩))) ⟨by omega, by omega⟩) mp g.mh a' hwp ls_nt fun v3 M3 H3 g3 a3 ⟨z, hz, rz⟩ => ?_
      cases rz
      have hp3 := g3.hh _ _ hwp
      have hD3 := g3.hh _ _ hwD
      have hzn : z.toNat < L.length := by omega
      refine ⟨p, L, z, z.toNat, L[z.toNat], rfl, rfl, of_cut hp3, by omega, by omega, ?_, List.getElem?_eq_getElem hzn, ?_⟩
      · unfold seqIndex?
        simp only [if_neg (show ¬ z < 0 by omega)]
        rw [if_pos (by simp; omega)]
      · have np := on_of hp3
        have nD := on_of hD3
        refine ⟨zs, by rw [upd_ne (Ne.symm hpD)]; exact of_cut hD3, szL (by omega), M3, L.eraseIdx z.toNat, zs ++ [L[z.toNat]], ?_, s1.trans g3.mm, (a3.upd np).upd nD, hD0, g3.keep mD hwD, g3.keep mp hwp, hpD, ?_, ?_, ?_, by rw [List.length_append, hzl]; rfl⟩
        · rw [cut_upd nD, cut_upd np]
          exact ((g.trans g3).mut hp0 (g3.keep mp hwp)).mut hD0 (g3.keep mD hwD)
        · rw [cut_upd nD, upd_same]
        · rw [cut_upd nD, cut_upd np, upd_ne hpD, upd_same]
        · refine List.Perm.trans ?_ hper
          rw [List.append_assoc]
          exact List.Perm.append_left zs (erase_perm hzn)
    · rintro ⟨L, zs, g, s1, a', hD0, mD, mp, hpD, hwD, hwp, hper, hzl⟩
      have hL : L = [] := by
        have := hper.length_eq; rw [List.length_append] at this
        exact List.eq_nil_of_length_eq_zero (by omega)
      subst hL
      rw [List.append_nil] at hper
      exact q D _ M' H' g (a'.le (by omega)) hD0 mD hwD (pd_perm hper (hpd.mono s1))
end
end My

set_option Elab.async false
set_option linter.all false
set_option maxRecDepth 100000
set_option maxHeartbeats 8000000
namespace My
open PySem PySem.Spec PyProof.Rows L2 L3
open L3.Strm
section
end
end My

set_option Elab.async false
set_option linter.all false
set_option maxRecDepth 100000
set_option maxHeartbeats 4000000
namespace My
open PySem PySem.Spec PyProof.Rows L2 L3
/-! full settings -/
def Side (n l : Str) : Prop := l = n ∨ l = ("-" : Str) ++ n
theorem fulls_paired {ns s : List Str} (h : s ∈ fulls ns) : Paired Side ns s := by
  have go : ∀ (ns : List Str) (acc : List (List Str)) (done : List Str), (∀ s ∈ acc, Paired Side done s) → ∀ s ∈ ns.foldl fullP acc, Paired Side (done ++ ns) s := by
    intro ns
    induction ns with
    | nil => intro acc done h s hs; rw [List.append_nil]; exact h s hs
    | cons n ns ih =>
      intro acc done h s hs
      rw [List.foldl_cons] at hs
      have := ih (fullP acc n) (done ++ [n]) (fun z hz => by
        obtain ⟨y, hy, hz⟩ := List.mem_flatMap.mp hz
        obtain ⟨l, hl, rfl⟩ := List.mem_map.mp hz
        exact pd_app (h y hy) (.cons (by show l = _ ∨ l = _; simpa using hl) .nil)) s hs
      rwa [List.append_assoc] at this
  exact go ns [[]] [] (fun s hs => by rw [List.mem_singleton.mp hs]; exact .nil) s h
theorem fulls_nodup {ns : List Str} (hn : ∀ n ∈ ns, isNm n = true) : (fulls ns).Nodup := by
  have go : ∀ (ns : List Str) (acc : List (List Str)), (∀ n ∈ ns, isNm n = true) → acc.Nodup → (ns.foldl fullP acc).Nodup := by
    intro ns
    induction ns with
    | nil => intro acc _ h; exact h
    | cons n ns ih =>
      intro acc hn h
      rw [List.foldl_cons]
      refine ih _ (fun m hm => hn m (List.mem_cons_of_mem _ hm)) ?_
      have hne := neg_ne (m := n) (hn n (List.mem_cons_self ..))
      unfold fullP
      induction acc with
      | nil => exact List.nodup_nil
      | cons a acc ih2 =>
        obtain ⟨h1, h2⟩ := List.nodup_cons.mp h
        rw [List.flatMap_cons, List.nodup_append]
        refine ⟨by simp [hne], ih2 h2, fun x hx y hy e => ?_⟩
        subst e
        obtain ⟨b, hb, hy⟩ := List.mem_flatMap.mp hy
        obtain ⟨l, _, e1⟩ := List.mem_map.mp hx
        obtain ⟨l', _, e2⟩ := List.mem_map.mp hy
        have := List.append_inj_left' (e1.trans e2.symm) rfl
        rw [this] at h1
        exact h1 hb
  exact go ns [[]] hn (by simp)
/-- what a setting says of each name -/
theorem side_name {n l : Str} (hn : isNm n = true) (h : Side n l) : nameOf l = n := by
  rcases h with e | e
  · rw [e, nameOf_nm hn]
  · rw [e, nameOf_neg hn]
theorem paired_side {ns s : List Str} (hn : ∀ n ∈ ns, isNm n = true) (h : Paired Side ns s) : s.map nameOf = ns := by
  induction h with
  | nil => rfl
  | cons r t ih =>
    rw [List.map_cons, side_name (hn _ (List.mem_cons_self ..)) r, ih fun m hm => hn m (List.mem_cons_of_mem _ hm)]
theorem side_lits {ns s : List Str} (nm : NmL ns) (h : Paired Side ns s) : Lits ns s := by
  refine ⟨by rw [paired_side nm.nm h]; exact nm.nd, ?_⟩
  have : ∀ {ms s : List Str}, Paired Side ms s → ∀ y ∈ s, ∃ n ∈ ms, y = n ∨ y = ("-" : Str) ++ n := by
    intro ms s h
    induction h with
    | nil => intro y hy; cases hy
    | cons r t ih =>
      intro y hy
      rcases List.mem_cons.mp hy with rfl | hy
      · exact ⟨_, List.mem_cons_self .., r⟩
      · obtain ⟨n, h1, h2⟩ := ih y hy
        exact ⟨n, List.mem_cons_of_mem _ h1, h2⟩
  exact this h
/-- one side of each name -/
theorem paired_mem {ns s : List Str} (h : Paired Side ns s) {n : Str} (hn : n ∈ ns) : n ∈ s ∨ ("-" : Str) ++ n ∈ s := by
  induction h with
  | nil => cases hn
  | cons r t ih =>
    rcases List.mem_cons.mp hn with e | hn
    · subst e
      rcases r with e | e
      · exact .inl (by rw [e]; exact List.mem_cons_self ..)
      · exact .inr (by rw [e]; exact List.mem_cons_self ..)
    · rcases ih hn with h | h
      · exact .inl (List.mem_cons_of_mem _ h)
      · exact .inr (List.mem_cons_of_mem _ h)
theorem lits_one {ns s : List Str} (nm : NmL ns) (h : Lits ns s) {n : Str} (hn : n ∈ ns) : ¬ (n ∈ s ∧ ("-" : Str) ++ n ∈ s) := fun ⟨a, b⟩ => by
  have hm := nm.nm n hn
  exact neg_ne hm (nodup_inj h.nd _ a _ b (by rw [nameOf_nm hm, nameOf_neg hm]))
theorem full_opp {ns s : List Str} (nm : NmL ns) (h : Paired Side ns s) {x : Str} (hx : ∃ n ∈ ns, x = n ∨ x = ("-" : Str) ++ n) : opp x ∈ s ↔ x ∉ s := by
  obtain ⟨n, hn, e⟩ := hx
  have hm := nm.nm n hn
  have one := lits_one nm (side_lits nm h) hn
  have two := paired_mem h hn
  rcases e with e | e
  · rw [e, opp_nm hm]
    exact ⟨fun a b => one ⟨b, a⟩, fun a => two.resolve_left a⟩
  · rw [e, opp_neg hm]
    exact ⟨fun a b => one ⟨a, b⟩, fun a => two.resolve_right a⟩
/-- literals in their order stay -/
theorem asc_paired {ns s : List Str} (nm : NmL ns) (h : Paired Side ns s) : asc s ns = s := by
  have L := side_lits nm h
  have go : ∀ {ms t : List Str}, Paired Side ms t → (∀ m ∈ ms, m ∈ ns) → (∀ x ∈ t, x ∈ s) → asc s ms = t := by
    intro ms t h
    induction h with
    | nil => intro _ _; rfl
    | @cons m l ms t r _ ih =>
      intro hm ht
      have ih := ih (fun z hz => hm z (List.mem_cons_of_mem _ hz)) fun z hz => ht z (List.mem_cons_of_mem _ hz)
      have hl := ht l (List.mem_cons_self ..)
      have one := lits_one nm L (hm m (List.mem_cons_self ..))
      show ((m :: ms).flatMap fun n => [n, ("-" : Str) ++ n].filter fun l => decide (l ∈ s)) = _
      rw [List.flatMap_cons]
      have e : ([m, ("-" : Str) ++ m].filter fun l => decide (l ∈ s)) = [l] := by
        rcases r with e | e
        · subst e
          have : ¬ ("-" : Str) ++ l ∈ s := fun b => one ⟨hl, b⟩
          simp [hl, this]
        · subst e
          have : ¬ m ∈ s := fun b => one ⟨b, hl⟩
          simp [hl, this]
      rw [e]
      exact congrArg (l :: ·) ih
  exact go h (fun _ h => h) fun _ h => h
theorem sub_filter {α : Type} [DecidableEq α] : ∀ {xs ys : List α}, ys.Sublist xs → xs.Nodup → (xs.filter fun x => decide (x ∈ ys)) = ys
  | _, _, .slnil, _ => rfl
  | _, ys, .cons a (l₂ := xs) h, nd => by
    obtain ⟨h1, h2⟩ := List.nodup_cons.mp nd
    have : a ∉ ys := fun z => h1 (h.subset z)
    rw [List.filter_cons, if_neg (by simpa using this)]
    exact sub_filter h h2
  | _, _, .cons₂ a (l₁ := ys) (l₂ := xs) h, nd => by
    obtain ⟨h1, h2⟩ := List.nodup_cons.mp nd
    rw [List.filter_cons, if_pos (by simp)]
    congr 1
    rw [← sub_filter h h2]
    refine List.filter_congr fun x hx => ?_
    have : x ≠ a := fun e => h1 (e ▸ hx)
    have e2 := sub_filter h h2
    simp [this, e2]
/-! half-filled settings -/
structure HalfOk (ns : List Str) (p : List Str × Nat) : Prop where
  le : p.2 ≤ ns.length
  nm : ∀ x ∈ p.1, ∃ a, a < p.2 ∧ Side (ns.getD a "") x
  nd : (p.1.map nameOf).Nodup
theorem HalfOk.lits {ns : List Str} {p : List Str × Nat} (nm : NmL ns) (h : HalfOk ns p) : Lits ns p.1 :=
  ⟨h.nd, fun x hx => let ⟨a, ha, hs⟩ := h.nm x hx; ⟨_, List.mem_of_getElem? (getD_at (show a < ns.length by have := h.le; omega)), hs⟩⟩
/-! shortest consequences -/
/-! what is forced -/
structure Set_ (ns : List Str) (ss : List (List Str)) (h : List Str) : Prop where
  nm : NmL ns
  s : ∀ s ∈ ss, Paired Side ns s
  h : Lits ns h
end My

set_option Elab.async false
set_option linter.all false
set_option maxRecDepth 100000
set_option maxHeartbeats 8000000
namespace My
open PySem PySem.Spec PyProof.Rows L2 L3
open L3.Strm
/-! sizes -/
theorem lit_signs {ns : List Str} (hn : NmL ns) {l : Str} (h : LitN ns l) : l.length ≤ 9 ∧ ∀ c ∈ l.cps.toList, c < 16 ^ 8 := by
  have nm : ∀ n : Str, isNm n = true → n.length ≤ 8 ∧ ∀ c ∈ n.cps.toList, c < 16 ^ 8 := fun n h => by
    refine ⟨nm_len h, fun c hc => ?_⟩
    simp only [isNm, Bool.and_eq_true, decide_eq_true_eq, List.all_eq_true] at h
    have h1 := h.2 c hc
    have : ∀ c ∈ g_LETTERS.cps.toList, c < 16 ^ 8 := by decide +kernel
    exact this c h1
  obtain ⟨n, hnn, h | h⟩ := h
  · subst h
    have := nm l (hn.nm l hnn)
    exact ⟨by omega, this.2⟩
  · subst h
    have := nm n (hn.nm n hnn)
    rw [← SX.S_tl n, neg_S]
    refine ⟨by rw [SX.S_len, List.length_cons]; have : n.cps.toList.length = n.length := rfl; omega, fun c hc => ?_⟩
    have hc : c ∈ 45 :: n.cps.toList := hc
    rcases List.mem_cons.mp hc with rfl | hc
    · decide
    · exact this.2 c hc
def FitD (d : PyData) : Prop := d.showable = true ∧ d.depth ≤ 64 ∧ d.shown.length ≤ sizeLine
theorem gv_repr {K : PySem.W.Frag} {σ : Sl} {M : Hp} {te : TE} {d : PyData} (h : Gv te σ M (Dd K d)) (h1 : d.showable = true) (h2 : d.depth ≤ 64) (h3 : d.shown.length ≤ sizeLine) : Gv (tCB (rRepr K) (tCons te tNil)) σ M (Tx d.shown) := gv_cb1 h fun M' v hv H mh Q q => ⟨v, d, rfl, dp_mono mh hv, h1, h2, h3, q _ M' H (.refl mh) rfl⟩
section
variable {P : Program} {w : World} {K : PySem.W.Frag} {mg : Str → Option Value} {base : Heap}
abbrev s__law_same : Stmt := topS 46
theorem sc__law_same : FnScope ["_law_found", "_law_due_here"] ["_law_found", "_law_due_here"] (defScope s__law_same) := ⟨rfl, rfl, rfl, by decide +kernel, rfl, by decide +kernel, by decide +kernel⟩
def sp__law_same (K : PySem.W.Frag) : Sp := sp2 (Dd K) (Dd K) (fun d e => FitD d ∧ FitD e) fun d e => Bl (decide (d.shown = e.shown))
theorem ok__law_same {f : Addr} {fd : FuncData} (F : Fun K "_law_same" "_law_same" s__law_same f fd) (T : Gc mg) : FnG P w K mg base CX0 1 f fd ["_law_found", "_law_due_here"] (sp__law_same K) := by
  refine fun_okG F sc__law_same (fun vs H Q E h => ?_) (fun cdv A outer s H vs Q E hgu hr h => ?_)
  · obtain ⟨x, y, M, v, w, rfl, _⟩ := h
    rfl
  · obtain ⟨d, e, M, v, w, rfl, mh, r1, r2, ⟨⟨h1, h2, h3⟩, h4, h5, h6⟩, q⟩ := h
    have hu := hr.units
    have hgu : (A.deeper (envOfC "_law_same" (defScope s__law_same) s.heap.objs.size f cdv)).guards = some [] := hgu
    have hu7 : (A.deeper (envOfC "_law_same" (defScope s__law_same) s.heap.objs.size f cdv)).units + 70 < cLine := by have := hr.un; omega
    refine ⟨_, (pss_one (ps_ret (pe_cmpR (op_eqP hu) (pe_callB (call_repr hgu hu7) (by rfl) T.repr boot_repr (pa_cons (pv 0) pa_nil)) (pe_callB (call_repr hgu hu7) (by rfl) T.repr boot_repr (pa_cons (pv 1) pa_nil)) (nomark _)))), ?_⟩
    exact s_ret mh (gv_is (gv_eqT (K := K) (neg := false) py_str inj_str (gv_repr (K := K) (gv_var rfl r1) h1 h2 h3) (gv_repr (K := K) (gv_var rfl r2) h4 h5 h6) (by simp [PyData.depth])) fun M v h => by simpa using h) q
end
end My

set_option Elab.async false
set_option linter.all false
set_option maxRecDepth 100000
set_option maxHeartbeats 4000000
namespace My
open PySem PySem.Spec PyProof.Rows L2 L3
/-! full settings that fit all clauses -/
def Fits (cs : List (List Str)) (s : List Str) : Prop := ∀ c ∈ cs, ∃ l ∈ c, l ∈ s
def Sat (ns : List Str) (cs : List (List Str)) (hs : List Str) : Prop := ∃ s, Paired Side ns s ∧ (∀ x ∈ hs, x ∈ s) ∧ Fits cs s
/-- the names that are open -/
def opn (ns hs : List Str) : List Str := ns.filter fun n => decide (n ∉ hs) && decide (("-" : Str) ++ n ∉ hs)
theorem mem_opn {ns hs : List Str} {n : Str} : n ∈ opn ns hs ↔ n ∈ ns ∧ n ∉ hs ∧ ("-" : Str) ++ n ∉ hs := by unfold opn; rw [List.mem_filter]; simp
section
variable {ns : List Str} {cs : List (List Str)} {hs so s : List Str}
theorem fit_der (X : Ctx ns cs hs) (p : Paired Side ns s) (hsub : ∀ x ∈ hs, x ∈ s) (hf : Fits cs s) {x : Str} (h : Der cs hs x) : x ∈ s := by
  induction h with
  | base h => exact hsub _ h
  | @step c l hc hl _ ih =>
    obtain ⟨m, hm, hms⟩ := hf c hc
    by_cases e : m = l
    · rw [← e]; exact hms
    · exact absurd hms ((full_opp X.nm p ((X.c c hc).of m hm)).mp (ih m hm e))
theorem dead_unsat (X : Ctx ns cs hs) (h : Dead cs hs) : ¬ Sat ns cs hs := fun ⟨s, p, hsub, hf⟩ => by
  obtain ⟨c, hc, hd⟩ := h
  obtain ⟨m, hm, hms⟩ := hf c hc
  exact (full_opp X.nm p ((X.c c hc).of m hm)).mp (fit_der X p hsub hf (hd m hm)) hms
theorem sat_so (X : Ctx ns cs hs) (h : EndsOk ns cs hs (some so)) : Sat ns cs hs ↔ Sat ns cs so := by
  obtain ⟨_, h2, h3⟩ := h
  constructor
  · rintro ⟨s, p, hsub, hf⟩
    exact ⟨s, p, fun x hx => fit_der X p hsub hf ((h2 x).mp hx), hf⟩
  · rintro ⟨s, p, hsub, hf⟩
    exact ⟨s, p, fun x hx => hsub x (h3.sub x hx), hf⟩
theorem so_lits (nm : NmL ns) (h : So ns cs hs so) : Lits ns so := by
  refine ⟨?_, fun x hx => h.lit x hx⟩
  rw [List.Nodup, List.pairwise_map]
  refine List.Pairwise.imp_of_mem (fun {a b} ha hb hab e => ?_) h.nd
  obtain ⟨n, hn, e1⟩ := h.lit a ha
  obtain ⟨m, hm, e2⟩ := h.lit b hb
  have k1 := nm.nm n hn
  have k2 := nm.nm m hm
  rw [side_name k1 e1, side_name k2 e2] at e
  subst e
  rcases e1 with e1 | e1 <;> rcases e2 with e2 | e2
  · exact hab (e1.trans e2.symm)
  · refine h.con a ha ?_
    rw [e1, opp_nm k1, ← e2]; exact hb
  · refine h.con a ha ?_
    rw [e1, opp_neg k1, ← e2]; exact hb
  · exact hab (e1.trans e2.symm)
theorem asc_full (one : ∀ n ∈ ns, ¬ (n ∈ so ∧ ("-" : Str) ++ n ∈ so)) (all : opn ns so = []) : Paired Side ns (asc so ns) := by
  have go : ∀ ms : List Str, (∀ m ∈ ms, m ∈ ns) → Paired Side ms (asc so ms) := by
    intro ms
    induction ms with
    | nil => intro _; exact .nil
    | cons m ms ih =>
      intro hm
      have ih := ih fun z hz => hm z (List.mem_cons_of_mem _ hz)
      have hmn := hm m (List.mem_cons_self ..)
      have on := one m hmn
      have any : m ∈ so ∨ ("-" : Str) ++ m ∈ so := by
        apply Classical.byContradiction
        intro hc
        have : m ∈ opn ns so := mem_opn.mpr ⟨hmn, fun a => hc (.inl a), fun a => hc (.inr a)⟩
        rw [all] at this
        cases this
      show Paired Side (m :: ms) ((m :: ms).flatMap fun n => [n, ("-" : Str) ++ n].filter fun l => decide (l ∈ so))
      rw [List.flatMap_cons]
      rcases any with a | a
      · have b : ¬ ("-" : Str) ++ m ∈ so := fun b => on ⟨a, b⟩
        have e : ([m, ("-" : Str) ++ m].filter fun l => decide (l ∈ so)) = [m] := by
          rw [List.filter_cons, if_pos (by simpa using a), List.filter_cons, if_neg (by simpa using b)]; rfl
        rw [e]
        exact .cons (.inl rfl) ih
      · have b : ¬ m ∈ so := fun b => on ⟨b, a⟩
        have e : ([m, ("-" : Str) ++ m].filter fun l => decide (l ∈ so)) = [("-" : Str) ++ m] := by
          rw [List.filter_cons, if_neg (by simpa using b), List.filter_cons, if_pos (by simpa using a)]; rfl
        rw [e]
        exact .cons (.inr rfl) ih
  exact go ns fun _ h => h
/-- all names have a side, and no dead end: that is one -/
theorem sat_closed (X : Ctx ns cs hs) (h : EndsOk ns cs hs (some so)) (all : opn ns so = []) : Sat ns cs so := by
  obtain ⟨h1, h2, h3⟩ := h
  have L := so_lits X.nm h3
  have p := asc_full (fun n hn => lits_one X.nm L hn) all
  refine ⟨asc so ns, p, fun x hx => ?_, fun c hc => ?_⟩
  · obtain ⟨n, hn, e⟩ := h3.lit x hx
    exact mem_asc.mpr ⟨n, hn, e, hx⟩
  · apply Classical.byContradiction
    intro hcc
    refine h1 ⟨c, hc, fun m hm => ?_⟩
    have hmn : m ∉ asc so ns := fun z => hcc ⟨m, hm, z⟩
    have := (full_opp X.nm p ((X.c c hc).of m hm)).mpr hmn
    obtain ⟨_, _, _, hmem⟩ := mem_asc.mp this
    exact (h2 _).mp hmem
theorem sat_split {n : Str} (hn : n ∈ ns) : Sat ns cs so ↔ Sat ns cs (so ++ [n]) ∨ Sat ns cs (so ++ [("-" : Str) ++ n]) := by
  constructor
  · rintro ⟨s, p, hsub, hf⟩
    rcases paired_mem p hn with a | a
    · refine .inl ⟨s, p, fun x hx => ?_, hf⟩
      rcases List.mem_append.mp hx with hx | hx
      · exact hsub x hx
      · rw [List.mem_singleton.mp hx]; exact a
    · refine .inr ⟨s, p, fun x hx => ?_, hf⟩
      rcases List.mem_append.mp hx with hx | hx
      · exact hsub x hx
      · rw [List.mem_singleton.mp hx]; exact a
  · rintro (⟨s, p, hsub, hf⟩ | ⟨s, p, hsub, hf⟩)
    · exact ⟨s, p, fun x hx => hsub x (List.mem_append_left _ hx), hf⟩
    · exact ⟨s, p, fun x hx => hsub x (List.mem_append_left _ hx), hf⟩
theorem lits_put {n l : Str} (nm : NmL ns) (L : Lits ns so) (hn : n ∈ opn ns so) (e : Side n l) : Lits ns (so ++ [l]) := by
  obtain ⟨h1, h2, h3⟩ := mem_opn.mp hn
  have hm := nm.nm n h1
  refine ⟨?_, fun x hx => ?_⟩
  · rw [List.map_append, List.nodup_append]
    refine ⟨L.nd, by simp, fun a ha b hb e' => ?_⟩
    have hb : b = nameOf l := by simpa using hb
    rw [hb, side_name hm e] at e'
    obtain ⟨x, hx, rfl⟩ := List.mem_map.mp ha
    obtain ⟨m, hmm, em⟩ := L.of x hx
    rw [side_name (nm.nm m hmm) em] at e'
    subst e'
    rcases em with em | em
    · exact h2 (em ▸ hx)
    · exact h3 (em ▸ hx)
  · rcases List.mem_append.mp hx with hx | hx
    · exact L.of x hx
    · rw [List.mem_singleton.mp hx]; exact ⟨n, h1, e⟩
theorem opn_le (h : ∀ x ∈ hs, x ∈ so) : (opn ns so).length ≤ (opn ns hs).length := by
  unfold opn
  have : ∀ ms : List Str, (ms.filter fun n => decide (n ∉ so) && decide (("-" : Str) ++ n ∉ so)).length ≤ (ms.filter fun n => decide (n ∉ hs) && decide (("-" : Str) ++ n ∉ hs)).length := by
    intro ms
    induction ms with
    | nil => exact Nat.le_refl _
    | cons m ms ih =>
      rw [List.filter_cons, List.filter_cons]
      by_cases a : (decide (m ∉ so) && decide (("-" : Str) ++ m ∉ so)) = true
      · have b : (decide (m ∉ hs) && decide (("-" : Str) ++ m ∉ hs)) = true := by
          simp only [Bool.and_eq_true, decide_eq_true_eq] at a ⊢
          exact ⟨fun z => a.1 (h _ z), fun z => a.2 (h _ z)⟩
        rw [if_pos a, if_pos b, List.length_cons, List.length_cons]
        omega
      · rw [if_neg a]
        split
        · rw [List.length_cons]; omega
        · exact ih
  exact this ns
theorem opn_put {n l : Str} (nd : ns.Nodup) (hn : n ∈ opn ns so) (e : Side n l) : (opn ns (so ++ [l])).length + 1 ≤ (opn ns so).length := by
  have sub : (opn ns (so ++ [l])).length ≤ ((opn ns so).filter fun m => decide (m ≠ n)).length := by
    have go : ∀ ms : List Str, (opn ms (so ++ [l])).length ≤ ((opn ms so).filter fun m => decide (m ≠ n)).length := by
      intro ms
      unfold opn
      rw [List.filter_filter]
      induction ms with
      | nil => exact Nat.le_refl _
      | cons m ms ih =>
        rw [List.filter_cons, List.filter_cons]
        by_cases a : (decide (m ∉ so ++ [l]) && decide (("-" : Str) ++ m ∉ so ++ [l])) = true
        · have b : (decide (m ≠ n) && (decide (m ∉ so) && decide (("-" : Str) ++ m ∉ so))) = true := by
            simp only [Bool.and_eq_true, decide_eq_true_eq, List.mem_append, List.mem_singleton, not_or] at a ⊢
            refine ⟨fun em => ?_, a.1.1, a.2.1⟩
            subst em
            rcases e with e | e
            · exact a.1.2 e.symm
            · exact a.2.2 e.symm
          rw [if_pos a, if_pos b, List.length_cons, List.length_cons]
          omega
        · rw [if_neg a]
          split
          · rw [List.length_cons]; omega
          · exact ih
    exact go ns
  have one : ((opn ns so).filter fun m => decide (m ≠ n)).length + 1 ≤ (opn ns so).length := by
    have : ((opn ns so).filter fun m => decide (m ≠ n)).length < (opn ns so).length := by
      rw [List.length_filter_lt_length_iff_exists]
      exact ⟨n, hn, by simp⟩
    omega
  omega
theorem so_few (X : Ctx ns cs hs) (h : So ns cs hs so) : so.length ≤ ns.length := lits_len (so_lits X.nm h) X.nm
end
end My

set_option Elab.async false
set_option linter.all false
set_option maxRecDepth 100000
set_option maxHeartbeats 8000000
namespace My
open PySem PySem.Spec PyProof.Rows L2 L3
/-- whether some full setting goes with literals -/
noncomputable def satB (ns : List Str) (cs : List (List Str)) (hs : List Str) : Bool := @decide (Sat ns cs hs) (Classical.propDecidable _)
theorem satB_iff {ns : List Str} {cs : List (List Str)} {hs : List Str} : satB ns cs hs = true ↔ Sat ns cs hs := by unfold satB; simp
structure CodeX (c : CodeD) : Prop where
  nm : NmL c.names
  l : ∀ x ∈ c.clauses, Lits c.names x
  w : CodeW c
  n6 : c.names.length ≤ 6
theorem CodeX.sg {c : CodeD} (X : CodeX c) : NmL c.signs ∧ c.signs.length ≤ 6 := by
  have e : c.names.length = c.signs.length + c.helpers.length := List.length_append
  have := X.n6
  have nd := X.nm.nd
  refine ⟨⟨(List.nodup_append.mp nd).1, fun n hn => X.nm.nm n (List.mem_append_left _ hn), ?_⟩, by omega⟩
  have := X.nm.n
  omega
/-- codes that are asked in a level -/
structure CodeZ (c : CodeD) : Prop where
  nm : NmL c.names
  l : ∀ x ∈ c.clauses, Lits c.names x
  w : CodeW c
  s6 : c.signs.length ≤ 6
  n14 : c.names.length ≤ 14
theorem CodeX.z {c : CodeD} (X : CodeX c) : CodeZ c := ⟨X.nm, X.l, X.w, X.sg.2, Nat.le_trans X.n6 (by decide)⟩
theorem CodeZ.sg {c : CodeD} (X : CodeZ c) : NmL c.signs ∧ c.signs.length ≤ 6 := by
  have nd := X.nm.nd
  refine ⟨⟨(List.nodup_append.mp nd).1, fun n hn => X.nm.nm n (List.mem_append_left _ hn), ?_⟩, X.s6⟩
  have := X.s6
  omega
def ChW (cs : List (List Str)) : Prop := (∀ c ∈ cs, shortT c) ∧ cs.flatten.length ≤ 1000000 ∧ cs.length ≤ 1000000
theorem gv_starK {σ : Sl} {M : Hp} {te t1 : TE} {ks : List Str} {l : Str} (h1 : Gv te σ M (DcR ks)) (h2 : Gv t1 σ M (Tx l)) (hz : ks.length ≤ 1000000) : Gv (tLst (tStarK te (tCons t1 tNil))) σ M (LiR Tx (ks ++ [l])) := fun H mh Q q =>
  h1 H mh _ fun v M1 H1 g1 ⟨d, e, r⟩ => ⟨d, ks, e, rd_mono g1.mh r, h2.le g1.mm H1 g1.mh _ fun u M2 H2 g2 e2 => ⟨by rw [List.length_append, List.length_map]; exact szM (by simp only [List.length_cons, List.length_nil]; omega), fun p np => q _ _ _ ((g1.trans g2).trans (.new g2.mh np)) ⟨p, _, rfl, upd_same, by
    cases (show u = _ from e2)
    have := pd_of_tx (M := upd M2 p (.lst (ks.map V.str ++ [.str l]))) (ks ++ [l])
    rw [List.map_append] at this
    exact this⟩⟩⟩
theorem opD_non {o : Option (List Str)} {M : Hp} {v : V} (h : OpR' DcF o M v) : decide (v = .non) = o.isNone := by
  cases o with
  | none => cases (show v = .non from h); rfl
  | some ls => obtain ⟨a, _, e, _⟩ := (show DcF ls M v from h); subst e; rfl
/-- so, steps = chase(clauses, setting) -/
theorem q_chase {K : PySem.W.Frag} {σ : Sl} {M H : Hp} {ta tb : TE} {D : Ends} {tz : TS} {i j : Nat} {ns hs : List Str} {cs : List (List Str)} (mh : Same M H) (h1 : Gv ta σ M (SqR K (SqR K Tx) cs)) (h2 : Gv tb σ M (SqR K Tx hs)) (X : Ctx ns cs hs) (hw : ChW cs)
    (k : ∀ o u v M' H', Gr M H M' H' → EndsOk ns cs hs o → OpR' DcF o M' u → tz D ((σ.set i (some u)).set j (some v)) H') : tSeq (tAsg (tCall (sp_chase K) [] E0 (tCons ta (tCons tb tNil))) (gTup K 2 (gCons (gName i) (gCons (gName j) gNil)))) tz D σ H := by
  have hl : hs.length ≤ 1000000 := Nat.le_trans (lits_len X.h X.nm) (Nat.le_trans X.nm.n (by decide))
  refine q_asgC (a_V mh h1 fun v1 M1 H1 g1 r1 => a_V g1.mh (h2.le g1.mm) fun v2 M2 H2 g2 r2 => a_nil ⟨cs, hs, M2, v1, v2, rfl, g2.mh, Mon.mono g2.mm r1, r2, ⟨hw.1, hw.2.1, hw.2.2, hl⟩, ?_⟩)
  intro r t u p ws M4 H4 hch g4 hp0 hpm hpw hpd hru ht
  have G := (g1.trans g2).trans g4
  rw [once_self (lits_nodup X.h)] at hch
  exact ⟨t, [u, .ref p], rfl, .inl (.inl (G.mh _ _ ht)), rfl, u, _, rfl, .ref p, _, rfl, rfl, k r.1 u _ M4 H4 G (chase_ok X hch (.init X) .nil).1 hru⟩
section
variable {P : Program} {w : World} {K : PySem.W.Frag} {mg : Str → Option Value} {base : Heap}
abbrev s_filled : Stmt := topS 31
theorem sc_filled : FnScope ["clauses", "names", "setting", "left", "literal", "so", "steps", "found", "name"] ["clauses", "names", "setting"] (defScope s_filled) := ⟨rfl, rfl, rfl, by decide +kernel, rfl, by decide +kernel, by decide +kernel⟩
def FilR (ns : List Str) (cs : List (List Str)) (hs : List Str) : Pr := fun M v => ∃ o, OpR' TT o M v ∧ (o.isSome = true ↔ Sat ns cs hs)
def sp_filled (K : PySem.W.Frag) (t : Nat) : Sp := sp3 (SqR K (SqR K Tx)) (SqR K Tx) (SqR K Tx) (fun cs ns hs => Ctx ns cs hs ∧ ChW cs ∧ (opn ns hs).length < t) fun cs ns hs => FilR ns cs hs
theorem ok_filled0 {f : Addr} {fd : FuncData} : FnOk P w K mg base CX0 3 f fd ["clauses", "names", "setting"] (sp_filled K 0) :=
  ⟨fun vs H Q E ⟨x, y, z, M, v, w, u, e, _⟩ => by subst e; rfl, fun A outer s H args us vs Q E _ _ _ _ ⟨x, y, z, M, v, w, u, e, _, _, _, _, ⟨_, _, h⟩, _⟩ => absurd h (Nat.not_lt_zero _)⟩
theorem ok_filled {f : Addr} {fd : FuncData} {t : Nat} (F : Fun K "filled" "filled" s_filled f fd) (T : Gc mg) (c_chase : Cal P w K mg base 3 "chase" ["clauses", "setting"] (sp_chase K)) (c_ascending : Cal P w K mg base 1 "ascending" ["literals", "names"] (sp_ascending K))
    (c_filled : Cal P w K mg base (t + 3) "filled" ["clauses", "names", "setting"] (sp_filled K t)) : FnOk P w K mg base CX0 (t + 4) f fd ["clauses", "names", "setting"] (sp_filled K (t + 1)) := by
  refine F.ok sc_filled (fun vs H Q E h => ?_) (fun cdv A outer s H vs Q E hr h => ?_)
  · obtain ⟨x, y, z, M, v, w, u, rfl, _⟩ := h
    rfl
  · obtain ⟨cs, ns, hs, M, v, w, u, rfl, mh, r1, r2, r3, ⟨X, hw, ho⟩, q⟩ := h
    have hu := hr.units
    refine ⟨_, (pss_cons (ps_asg (pe_f c_chase (hr.mono (by omega)) (pa_cons (pv 0) (pa_cons (pv 2) pa_nil))) (pg_tup (by rfl) (pgs_cons (pg_name (i := 5) sc_filled.nd rfl (by first | exact .inl rfl | exact .inr rfl)) (pgs_cons (pg_name (i := 6) sc_filled.nd rfl (by first | exact .inl rfl | exact .inr rfl)) pgs_nil))))
      (pss_cons (ps_if (pt_cmp (pc_isN (pv 5))) (pss_one (ps_ret pe_non)) pss_nil)
      (pss_cons (ps_setLc (i := 3) (own := [("name", 8)]) (g := (gName 8)) (tt := (tAnd (tTest (tOp (rInA K true) (tVar 8) (tVar 5))) (tTest (tOp (rInA K true) (tOp (rAddA K) (tC (.str "-")) (tVar 8)) (tVar 5))))) (te := (tVar 8)) (by rfl) sc_filled.nd rfl rfl (sw_true rfl rfl rfl (by decide +kernel)) (pi_sq (pv 1)) (blkOk_by (by rfl)) (fun _ _ _ _ _ => (pg_name (i := 8) sc_filled.nd rfl (by first | exact .inl rfl | exact .inr rfl))) (fun _ _ _ _ _ => (pts_one (PW.pt (pw_and (pt_cmpR (op_niA hu) (pv 8) (pv 5) (by rfl)) (pw_and1 (pt_cmpR (op_niA hu) (pe_op op_addA pe_str (pv 8)) (pv 5) (by rfl))))))) (fun _ _ _ _ _ => (pv 8)))
      (pss_cons (ps_if (pt_cmpR (op_eqP hu) (pv 3) (pe_lst pa_nil) (nomark _)) (pss_one (ps_ret (pe_f c_ascending (hr.mono (by omega)) (pa_cons (pv 5) (pa_cons (pv 1) pa_nil))))) pss_nil)
      (pss_cons (ps_for PassesOwn.never (by rfl) (pi_sq (pe_tup (pa_cons (pe_ix ix_X (pv 3) pe_int (fun _ _ => rfl)) (pa_cons (pe_op op_addA pe_str (pe_ix ix_X (pv 3) pe_int (fun _ _ => rfl))) pa_nil)))) (pg_name (i := 4) sc_filled.nd rfl (by first | exact .inl rfl | exact .inr rfl)) (pss_cons (ps_set (i := 7) sc_filled.nd rfl (by first | exact .inl rfl | exact .inr rfl) (pe_f c_filled (hr.mono (by omega)) (pa_cons (pv 0) (pa_cons (pv 1) (pa_cons (pe_lst (pa_starK (by rfl) (pv 5) (pa_cons (pv 4) pa_nil))) pa_nil)))))
      (pss_one (ps_if (pt_cmp (pc_notN (pv 7))) (pss_one (ps_ret (pv 7))) pss_nil))))
      (pss_one (ps_ret pe_non))))))), ?_⟩
    have hsh := nm_shorts X.nm
    refine q_chase (ns := ns) mh (gv_var rfl r1) (gv_var rfl r3) X hw fun o u5 v6 M1 H1 g1 he ru => ?_
    refine q_if0 (b := o.isNone) g1.mh (gt_B (gv_isN (b := o.isNone) (gv_var (P := OpR' DcF o) rfl ru) fun M v h => opD_non h)) (fun hb H2 hh => ?_) fun hb H2 hh => ?_
    · cases o with
      | some so => cases hb
      | none => exact s_ret (P := fun _ u => u = .non) (g1.mh.trans hh) (gv_c rfl) fun z M' H' g r => q z M' H' ((g1.trans (.idle g1.mh hh)).trans g) ⟨none, r, ⟨(fun h => by cases h), fun h => absurd h (dead_unsat X he)⟩⟩
    cases o with
    | none => cases hb
    | some so =>
      have G2 := g1.trans (.idle g1.mh hh)
      have ru : DcF so M1 u5 := ru
      have rc : CtR K so M1 u5 := .inr ru.dc
      have L := so_lits X.nm he.2.2
      have few := so_few X he.2.2
      have nn := X.nm.n
      refine q_asg (P := LiR Tx (opn ns so)) G2.mh (gv_is (gl_c1 (S := Tx) (R := Tx) (xs := ns) (gi_sq (K := K) (gv_var rfl (Mon.mono g1.mm r2))) (szM (Nat.le_trans nn (by decide))) (fun n => decide (n ∉ so) && decide (("-" : Str) ++ n ∉ so)) id
        (fun n hn M3 u3 sm ru3 => gt_and (b := decide (n ∉ so)) (c := decide (("-" : Str) ++ n ∉ so)) (gt_is (gt_test (gv_inA (K := K) (neg := true) (gv_var rfl ru3) (gv_var rfl (Mon.mono sm rc)))) (by simp)) fun _ => gt_is (gt_test (gv_inA (K := K) (neg := true) (gv_addSt (K := K) (gv_c rfl) (gv_var rfl ru3) (szM (by have := hsh.2 n hn; show 1 + n.length ≤ _; omega))) (gv_var rfl (Mon.mono sm rc)))) (by simp)) fun n _ _ M3 u3 sm ru3 => gv_var rfl ru3).li fun M v h => by rw [List.map_id] at h; exact h) fun v3 M3 H3 g3 r3' => ?_
      have G3 := G2.trans g3
      refine q_if0 (b := decide (opn ns so = [])) G3.mh (gt_is (gt_test (gv_eqT (K := K) (R := LiR Tx) (neg := false) (fun xs M v h => py_lst py_str _ _ _ (LiR.lst (K := K) h)) (inj_lst inj_str) (gv_var rfl r3') gv_nilL (by simp [PyData.depth, depthS]))) (by simp)) (fun hb2 H4 hh4 => ?_) fun hb2 H4 hh4 => ?_
      · have e0 := of_decide_eq_true hb2
        refine s_ret (G3.mh.trans hh4) (gv_call2 (R1 := CtR K) (R2 := SqR K Tx) (x := so) (y := ns) (gv_var rfl (Mon.mono g3.mm rc)) (gv_var rfl (Mon.mono (g1.mm.trans g3.mm) r2)) hsh) fun z M' H' g r => q z M' H' ((G3.trans (.idle G3.mh hh4)).trans g) ⟨some (asc so ns), r, ⟨fun _ => (sat_so X he).mpr (sat_closed X he e0), fun _ => rfl⟩⟩
      · have ne0 := of_decide_eq_false hb2
        cases eo : opn ns so with
        | nil => exact absurd eo ne0
        | cons n rest =>
          have hno : n ∈ opn ns so := by rw [eo]; simp
          have hn := (mem_opn.mp hno).1
          rw [eo] at r3'
          have G4 := G3.trans (.idle G3.mh hh4)
          have ol : (opn ns so).length < t + 1 := Nat.lt_of_le_of_lt (opn_le he.2.2.sub) ho
          have gix : Gv (tOp (rIxX K) (tVar 3) (tC (.int 0))) [some v, some w, some u, some v3, none, some u5, some v6, none, none] M3 (Tx n) := gv_ix (K := K) (R := Tx) (xs := n :: rest) (i := 0) (gv_var rfl r3'.sq) (gv_c rfl) (atI_nat (j := 0) rfl)
          refine q_for (R1 := Tx) (xs := [n, ("-" : Str) ++ n]) G4.mh (gv_is (gv_tup2 (K := K) gix (gv_addSt (K := K) (gv_c rfl) gix (szM (by have := hsh.2 n hn; show 1 + n.length ≤ _; omega)))) fun _ _ h => .inr h)
            (fun M1' i σ' M' H' => ∃ y4 y7, Gr M H M' H' ∧ Same M1' M' ∧ Same M3 M' ∧ (∀ l ∈ [n, ("-" : Str) ++ n].take i, ¬ Sat ns cs (so ++ [l])) ∧ σ' = [some v, some w, some u, some v3, y4, some u5, some v6, y7, none])
            (fun M5 H5 g5 => ⟨_, _, G4.trans g5, Same.refl _, g5.mm, fun l hl => (List.not_mem_nil hl).elim, rfl⟩) (fun M5 i σ' M' H' ⟨_, _, g, s1, _⟩ => ⟨s1, g.mh⟩) ?_ ?_
          · rintro M5 i l vl σ' M' H' sM hx ⟨y4, y7, g, s1, s3, hno', rfl⟩ rl
            have side : Side n l := by
              have := List.mem_of_getElem? hx
              simp only [List.mem_cons, List.not_mem_nil, or_false] at this
              exact this
            have Ll := lits_put X.nm L hno side
            have X2 : Ctx ns cs (so ++ [l]) := ⟨X.nm, X.c, Ll⟩
            have dec := opn_put X.nm.nd hno side
            refine q_asg (P := FilR ns cs (so ++ [l])) g.mh (gv_call3 (R1 := SqR K (SqR K Tx)) (R2 := SqR K Tx) (R3 := SqR K Tx) (x := cs) (y := ns) (z := so ++ [l]) (gv_var rfl (Mon.mono g.mm r1)) (gv_var rfl (Mon.mono g.mm r2)) (gv_is (gv_starK (gv_var rfl (Mon.mono (g3.mm.trans s3) ru).dc) (gv_var rfl rl) (by omega)) fun _ _ h => h.sq) ⟨X2, hw, by omega⟩) fun v7 M6 H6 g6 ⟨o7, r7, h7⟩ => ?_
            have G6 := g.trans g6
            have non7 : ∀ {M : Hp} {v : V}, OpR' TT o7 M v → decide (v = .non) = o7.isNone := fun {M v} h => by
              cases o7 with
              | none => cases (show v = .non from h); rfl
              | some s => obtain ⟨a, e, _⟩ := (show TT s M v from h); subst e; rfl
            refine s_if0 (b := !o7.isNone) G6.mh (gt_B (gv_notN (b := o7.isNone) (gv_var (P := OpR' TT o7) rfl r7) fun M v h => non7 h)) (fun hb3 H7 hh7 => ?_) fun hb3 H7 hh7 => ?_
            · have hsat : Sat ns cs (so ++ [l]) := h7.mp (by cases o7 <;> simp_all)
              have hS : Sat ns cs hs := (sat_so X he).mpr ((sat_split hn).mpr (by rcases side with e | e <;> rw [e] at hsat; exact .inl hsat; exact .inr hsat))
              refine s_ret (P := OpR' TT o7) (G6.mh.trans hh7) (gv_var rfl r7) fun z M' H' g r => q z M' H' ((G6.trans (.idle G6.mh hh7)).trans g) ⟨o7, r, ⟨fun _ => hS, fun _ => by cases o7 <;> simp_all⟩⟩
            · have hns : ¬ Sat ns cs (so ++ [l]) := fun z => by have := h7.mpr z; cases o7 <;> simp_all
              refine ⟨M6, _, _, G6.trans (.idle G6.mh hh7), s1.trans g6.mm, s3.trans g6.mm, fun l' hl' => ?_, rfl⟩
              rw [List.take_add_one, hx] at hl'
              rcases List.mem_append.mp hl' with hl' | hl'
              · exact hno' l' hl'
              · have : l' = l := by simpa using hl'
                rw [this]; exact hns
          · rintro M5 σ' M' H' sM ⟨y4, y7, g, s1, s3, hno', rfl⟩
            refine s_ret (P := fun _ u => u = .non) g.mh (gv_c rfl) fun z M' H' g' r => q z M' H' (g.trans g') ⟨none, r, ⟨(fun h => by cases h), fun h => ?_⟩⟩
            rcases (sat_split hn).mp ((sat_so X he).mp h) with h | h
            · exact absurd h (hno' n (by simp))
            · exact absurd h (hno' (("-" : Str) ++ n) (by simp))
end
end My

set_option Elab.async false
set_option linter.all false
set_option maxRecDepth 100000
set_option maxHeartbeats 8000000
namespace My
open PySem PySem.Spec PyProof.Rows L2 L3
open L3.Strm
section
variable {K : PySem.W.Frag} {S : Strm} {c c' : Nat} {σ : Sl} {M : Hp} {t1 t2 to te : TE} {P : Pr} {C : Addr} {α β : Type} {R1 : Rl α} {R2 : Rl β} {m : Str}
theorem _root_.L3.GvS.up (h : GvS S c te σ M P) (e : c ≤ c') : GvS S c' te σ M P := fun H k mh a Q q => h H k mh (a.le (by omega)) Q q
theorem gv_mkRule {ns : List Str} {ss : List (List Str)} (h1 : Gv t1 σ M (SqR K Tx ns)) (h2 : Gv t2 σ M (SqR K (SqR K Tx) ss)) (ok : RuleOk ns ss) : Gv (tMake C (sp_Rule_init K C) [] E0 (tCons t1 (tCons t2 tNil))) σ M (RuleR C (mkRule ns ss)) := fun H mh Q q =>
  h1 H mh _ fun v1 M1 H1 g1 q1 => h2.le g1.mm H1 g1.mh _ fun v2 M2 H2 g2 q2 x dx hx hdx hne => by
    have m2 := g2.mh
    have gN : Gr M2 H2 M2 (upd (upd H2 dx (.own x)) x (.ins C dx [])) := (Gr.own m2 hdx).trans (.own (m2.trans (same_new hdx)) (by rw [upd_ne (Ne.symm hne)]; exact hx))
    exact ⟨ns, ss, M2, H2, x, dx, v1, v2, rfl, gN, hx, m2.free hx, upd_same, Mon.mono g2.mm q1, q2, ok, fun M' H' g r => ⟨rfl, q _ M' H' ((g1.trans g2).trans g) r⟩⟩
end
/-- what the law has drawn -/
structure RuleX (ns : List Str) (ss : List (List Str)) : Prop where
  nm : NmL ns
  n6 : ns.length ≤ 6
  sub : ss.Sublist (fulls ns)
theorem RuleX.side {ns : List Str} {ss : List (List Str)} (X : RuleX ns ss) : ∀ s ∈ ss, Paired Side ns s := fun s hs => fulls_paired (X.sub.subset hs)
theorem RuleX.len {ns : List Str} {ss : List (List Str)} (X : RuleX ns ss) : ss.length ≤ 64 := by
  refine Nat.le_trans X.sub.length_le ?_
  rw [fulls_len]
  exact Nat.le_trans (Nat.pow_le_pow_right (by decide) X.n6) (by decide)
theorem RuleX.each {ns : List Str} {ss : List (List Str)} (X : RuleX ns ss) : ∀ s ∈ ss, s.length = ns.length := fun s hs => fulls_each _ s (X.sub.subset hs)
theorem RuleX.made {ns : List Str} {ss : List (List Str)} (X : RuleX ns ss) : mkRule ns ss = ⟨ns, ss⟩ := by
  have e : (ss.map fun s => asc s ns) = ss := by
    conv => rhs; rw [← List.map_id ss]
    exact List.map_congr_left fun s hs => asc_paired X.nm (X.side s hs)
  unfold mkRule
  rw [e, once_self ((fulls_nodup X.nm.nm).sublist X.sub)]
theorem RuleX.set {ns : List Str} {ss : List (List Str)} (X : RuleX ns ss) : (mkRule ns ss).settings = ss := by
  rw [X.made]
  refine Eq.trans (List.filter_congr fun x _ => ?_) (sub_filter X.sub (fulls_nodup X.nm.nm))
  simp
theorem RuleX.ok {ns : List Str} {ss : List (List Str)} (X : RuleX ns ss) : RuleOk ns ss :=
  ⟨⟨X.nm.nd, fun x hx => ⟨X.nm.nm x hx, by simp⟩, Nat.le_trans X.n6 (by decide)⟩, X.n6, Nat.le_trans X.len (by decide), fun s hs => ⟨clOk_lits X.nm (side_lits X.nm (X.side s hs)), X.each s hs⟩⟩
theorem RuleX.w {ns : List Str} {ss : List (List Str)} (X : RuleX ns ss) : RuleW (mkRule ns ss) := ⟨X.n6, nm_shorts X.nm⟩
theorem liTT_sqq {K : PySem.W.Frag} {cs : List (List Str)} {M : Hp} {v : V} (h : LiR TT cs M v) : SqR K (SqR K Tx) cs M v :=
  let ⟨a, vs, e, r, p⟩ := h
  .inl ⟨a, vs, e, .inl (.inl r), Paired.mapP p fun _ _ q => TT.sq q⟩
end My

set_option Elab.async false
set_option linter.all false
set_option maxRecDepth 100000
set_option maxHeartbeats 8000000
namespace My
open PySem PySem.Spec PyProof.Rows L2 L3
structure Gf (K : PySem.W.Frag) (mg : Str → Option Value) : Prop extends Gd mg, Ge mg where
  g_LEVELS : ∃ a, mg "LEVELS" = some (.ref a) ∧ ∀ H, SqT K H a [.str "dead", .str "forced", .str "all"]
def IsLv (l : Str) : Prop := l = "dead" ∨ l = "forced" ∨ l = "all"
def lvNames (c : CodeD) (l : Str) : List Str := if l = ("all" : Str) then c.names else c.signs
theorem CodeX.lv {c : CodeD} (X : CodeX c) (l : Str) : NmL (lvNames c l) ∧ (lvNames c l).length ≤ 6 ∧ ∀ n ∈ lvNames c l, n ∈ c.names := by
  unfold lvNames
  split
  · exact ⟨X.nm, X.n6, fun _ h => h⟩
  · exact ⟨X.sg.1, X.sg.2, fun n h => List.mem_append_left _ h⟩
structure LvX (c : CodeD) (l : Str) : Prop where
  z : CodeZ c
  is : IsLv l
  all : l = ("all" : Str) → c.names.length ≤ 6
theorem LvX.lv {c : CodeD} {l : Str} (X : LvX c l) : NmL (lvNames c l) ∧ (lvNames c l).length ≤ 6 ∧ ∀ n ∈ lvNames c l, n ∈ c.names := by
  unfold lvNames
  split
  · rename_i h
    exact ⟨X.z.nm, X.all h, fun _ h => h⟩
  · exact ⟨X.z.sg.1, X.z.sg.2, fun n h => List.mem_append_left _ h⟩
theorem CodeZ.ch {c : CodeD} (X : CodeZ c) : ChW c.clauses := ⟨X.w.c, X.w.n, X.w.k⟩
theorem CodeX.ch {c : CodeD} (X : CodeX c) : ChW c.clauses := ⟨X.w.c, X.w.n, X.w.k⟩
theorem Lits.wide {ns ms s : List Str} (L : Lits ns s) (h : ∀ n ∈ ns, n ∈ ms) : Lits ms s := ⟨L.nd, fun x hx => let ⟨n, hn, e⟩ := L.of x hx; ⟨n, h n hn, e⟩⟩
theorem CodeX.full {c : CodeD} (X : CodeX c) {l : Str} {s : List Str} (h : s ∈ fulls (lvNames c l)) : Lits c.names s := (side_lits (X.lv l).1 (fulls_paired h)).wide (X.lv l).2.2
theorem fil_non {ns : List Str} {cs : List (List Str)} {hs : List Str} {M : Hp} {v : V} (h : FilR ns cs hs M v) : decide (v = .non) = !satB ns cs hs := by
  obtain ⟨o, r, e⟩ := h
  have e1 : o.isSome = satB ns cs hs := by rw [Bool.eq_iff_iff, e, satB_iff]
  rw [← e1]
  cases o with
  | none => cases (show v = .non from r); rfl
  | some s => obtain ⟨a, ev, _⟩ := (show TT s M v from r); subst ev; rfl
theorem insR_code {C : Addr} {m : Str} {c : CodeD} (h1 : ¬ m = ("clause_row" : Str)) (h2 : ¬ m = ("names" : Str)) (h3 : ¬ m = ("helper_row" : Str)) (h4 : ¬ m = ("sign_row" : Str)) : InsR C m (CodeR C c) := fun M v ⟨a, dx, va, vb, vn, vc, e, h, _⟩ => ⟨a, dx, _, e, h, by
  unfold codeF
  rw [lookup_putF, if_neg h1, lookup_putF, if_neg h2, lookup_putF, if_neg h3, lookup_putF, if_neg h4]
  rfl⟩
instance {ns : List Str} {cs : List (List Str)} {hs : List Str} : Mono (FilR ns cs hs) := ⟨fun e ⟨o, r, h⟩ => ⟨o, Mon.mono e r, h⟩⟩
section
variable {P : Program} {w : World} {K : PySem.W.Frag} {mg : Str → Option Value} {base : Heap}
abbrev s_Code_fill : Stmt := inClass (topS 34) 8
theorem sc_Code_fill : FnScope ["self", "setting"] ["self", "setting"] (defScope s_Code_fill) := ⟨rfl, rfl, rfl, by decide +kernel, rfl, by decide +kernel, by decide +kernel⟩
def sp_Code_fill (K : PySem.W.Frag) (C : Addr) : Sp := sp2 (CodeR C) (SqR K Tx) (fun c hs => CodeZ c ∧ Lits c.names hs) fun c hs => FilR c.names c.clauses hs
theorem ok_Code_fill {f C : Addr} {fd : FuncData} (F : Fun K "fill" "Code.fill" s_Code_fill f fd) (TC : CodeT K mg C) (c_filled : Cal P w K mg base 18 "filled" ["clauses", "names", "setting"] (sp_filled K 15)) : FnOk P w K mg base CX0 19 f fd ["self", "setting"] (sp_Code_fill K C) := by
  refine F.ok sc_Code_fill (fun vs H Q E h => ?_) (fun cdv A outer s H vs Q E hr h => ?_)
  · obtain ⟨x, y, M, v, w, rfl, _⟩ := h
    rfl
  · obtain ⟨c, hs, M, v, w, rfl, mh, r1, r2, ⟨X, L⟩, q⟩ := h
    refine ⟨_, (pss_one (ps_ret (pe_f c_filled (hr.mono (by decide)) (pa_cons (pe_fld (pv 0) rfl) (pa_cons (pe_fld (pv 0) rfl) (pa_cons (pv 1) pa_nil)))))), ?_⟩
    have ho : (opn c.names hs).length < 15 := by
      have h1 : (opn c.names hs).length ≤ c.names.length := List.length_filter_le _ _
      have := X.n14
      omega
    exact s_ret mh (gv_call3 (R1 := SqR K (SqR K Tx)) (R2 := SqR K Tx) (R3 := SqR K Tx) (x := c.clauses) (y := c.names) (z := hs) (gv_is (gv_clause TC (gv_var rfl r1)) fun _ _ h => h.sqq) (gv_is (gv_names TC (gv_var rfl r1)) fun _ _ h => h.sq) (gv_var rfl r2) ⟨⟨X.nm, X.l, L⟩, X.ch, ho⟩) q
theorem gv_fillT {σ : Sl} {M : Hp} {C : Addr} {c : CodeD} {s : List Str} {t1 t2 : TE} (X : CodeZ c) (L : Lits c.names s) (h1 : Gv t1 σ M (CodeR C c)) (h2 : Gv t2 σ M (SqR K Tx s)) : GvT (tB (tNotN (tMeth C "fill" (sp_Code_fill K C) [] E0 t1 (tCons t2 tNil)))) σ M (satB c.names c.clauses s) :=
  gt_is (gt_B (gv_notN (b := !satB c.names c.clauses s) (P := FilR c.names c.clauses s) (gv_met2 (R1 := CodeR C) (R2 := SqR K Tx) (pre := fun c hs => CodeZ c ∧ Lits c.names hs) (R := fun c hs => FilR c.names c.clauses hs) (x := c) (y := s) (insR_code (by decide +kernel) (by decide +kernel) (by decide +kernel) (by decide +kernel)) h1 h2 ⟨X, L⟩) fun M v h => fil_non h)) (by simp)
abbrev s_Code_rule : Stmt := inClass (topS 34) 9
theorem sc_Code_rule : FnScope ["self", "some", "setting"] ["self"] (defScope s_Code_rule) := ⟨rfl, rfl, rfl, by decide +kernel, rfl, by decide +kernel, by decide +kernel⟩
def sp_Code_rule (K : PySem.W.Frag) (C CR : Addr) : Sp := sp1 (CodeR C) CodeZ fun c => RuleR CR (mkRule c.signs ((fulls c.signs).filter (satB c.names c.clauses)))
theorem ok_Code_rule {f C CR : Addr} {fd : FuncData} (F : Fun K "rule" "Code.rule" s_Code_rule f fd) (T : Ge mg) (TC : CodeT K mg C) (c_full_settings : Cal P w K mg base 1 "full_settings" ["names"] (sp_full_settings K)) (m_fill : Met P w K mg base 19 C "fill" ["self", "setting"] (sp_Code_fill K C)) (k_Rule : Mak P w K mg base 5 "Rule" CR ["self", "signs", "settings"] (sp_Rule_init K CR)) :
    FnOk P w K mg base CX0 20 f fd ["self"] (sp_Code_rule K C CR) := by
  refine F.ok sc_Code_rule (fun vs H Q E h => ?_) (fun cdv A outer s H vs Q E hr h => ?_)
  · obtain ⟨x, M, v, rfl, _⟩ := h
    rfl
  · obtain ⟨c, M, v, rfl, mh, r1, X, q⟩ := h
    have hu := hr.units
    obtain ⟨tk, hL⟩ := T.g_MOST_SIGNS
    refine ⟨_, (pss_cons (ps_if (pt_cmpR op_gt (pe_callB call_lenA (by rfl) T.len boot_len (pa_cons (pe_fld (pv 0) rfl) pa_nil)) (pe_glob (v := .int 6) (by rfl) hL ⟨_, rfl⟩) (nomark _)) (pss_one ps_never) pss_nil)
      (pss_cons (ps_setLc (i := 1) (own := [("setting", 2)]) (g := (gName 2)) (tt := (tB (tNotN (tMeth C "fill" (sp_Code_fill K C) [] E0 (tVar 0) (tCons (tVar 2) tNil))))) (te := (tVar 2)) (by rfl) sc_Code_rule.nd rfl rfl (sw_true rfl rfl rfl (by decide +kernel)) (pi_sq (pe_f c_full_settings (hr.mono (by decide)) (pa_cons (pe_fld (pv 0) rfl) pa_nil))) (blkOk_by (by rfl)) (fun _ _ _ _ _ => (pg_name (i := 2) sc_Code_rule.nd rfl (by first | exact .inl rfl | exact .inr rfl))) (fun _ _ _ _ _ => (pts_one (pt_cmp (pc_notN (pe_m m_fill (hr.mono (by decide)) (pv 0) (pa_cons (pv 2) pa_nil)))))) (fun _ _ _ _ _ => (pv 2)))
      (pss_one (ps_ret (pe_mk k_Rule (hr.mono (by decide)) (pa_cons (pe_fld (pv 0) rfl) (pa_cons (pv 1) pa_nil))))))), ?_⟩
    have RX : RuleX c.signs ((fulls c.signs).filter (satB c.names c.clauses)) := ⟨X.sg.1, X.sg.2, List.filter_sublist⟩
    refine q_if0 (b := false) mh (gt_is (gt_test (gv_gt (g := fun i j => .bl (decide (j < i))) (i := (c.signs.length : Int)) (j := 6) (gv_lenA (K := K) (R := Tx) (gv_is (gv_sign TC (gv_var rfl r1)) fun _ _ h => h.sq)) (gv_c rfl))) (by have := X.sg.2; simp; omega)) (fun h => nomatch h) fun _ H2 hh2 => ?_
    have g2 : Gr M H M H2 := .idle mh hh2
    refine q_asg (P := LiR TT ((fulls c.signs).filter (satB c.names c.clauses))) g2.mh (gv_is (gl_c1 (S := TT) (R := TT) (xs := fulls c.signs) (gi_sq (K := K) (gv_is (gv_call1 (R1 := SqR K Tx) (pre := fun ns => ns.length ≤ 6 ∧ Shorts ns) (R := fun ns => LiR TT (fulls ns)) (gv_is (gv_sign TC (gv_var rfl r1)) fun _ _ h => h.sq) ⟨X.sg.2, nm_shorts X.sg.1⟩) fun _ _ h => h.sq)) ?_ (satB c.names c.clauses) id
      (fun s hs M1 u sm ru => gv_fillT X ((side_lits X.sg.1 (fulls_paired hs)).wide fun n h => List.mem_append_left _ h) (gv_var rfl (Mon.mono sm r1)) (gv_var rfl ru.sq)) fun s _ _ M1 u sm ru => gv_var rfl ru).li fun M' v' h => by rw [List.map_id] at h; exact h) fun v1 M1 H1 g1 p1 => ?_
    · rw [fulls_len]
      exact szM (Nat.le_trans (Nat.pow_le_pow_right (by decide) X.sg.2) (by decide))
    exact s_ret g1.mh (gv_mkRule (gv_is (gv_sign TC (gv_var rfl (Mon.mono g1.mm r1))) fun _ _ h => h.sq) (gv_var rfl (liTT_sqq p1)) RX.ok) fun u M' H' g r => q u M' H' ((g2.trans g1).trans g) r
end
end My

set_option Elab.async false
set_option linter.all false
set_option maxRecDepth 100000
set_option maxHeartbeats 8000000
namespace My
open PySem PySem.Spec PyProof.Rows L2 L3
def BlR (K : PySem.W.Frag) : Rl (List Str × Option Str) := PrR K TT (OpR' Tx)
instance {K : PySem.W.Frag} : Mon (BlR K) := inferInstanceAs (Mon (PrR K TT (OpR' Tx)))
section
end
section
variable {P : Program} {w : World} {K : PySem.W.Frag} {mg : Str → Option Value} {base : Heap}
structure BlPre (c : CodeD) (ss : List (List Str)) (h : List Str) : Prop where
  X : CodeZ c
  L : Lits c.names h
  n : ss.length ≤ 1000000
  e : ∀ s ∈ ss, s.length ≤ 1000000
end
end My

set_option Elab.async false
set_option linter.all false
set_option maxRecDepth 100000
set_option maxHeartbeats 4000000
namespace My
open PySem PySem.Spec PyProof.Rows L2 L3
/-! what the law takes for allowed -/
/-! the law's codes -/
structure LawX (c : CodeD) : Prop where
  nm : NmL c.names
  n6 : c.names.length ≤ 6
  l : ∀ x ∈ c.clauses, Lits c.names x
  k : c.clauses.length ≤ 1000
theorem LawX.len {c : CodeD} (X : LawX c) : ∀ x ∈ c.clauses, x.length ≤ 6 := fun x hx => Nat.le_trans (lits_len (X.l x hx) X.nm) X.n6
theorem LawX.ok {c : CodeD} (X : LawX c) : CodeOk c.signs c.helpers c.clauses := by
  have nd := X.nm.nd
  have hn := X.n6
  have hl : c.names.length = c.signs.length + c.helpers.length := List.length_append
  obtain ⟨n1, n2, n3⟩ := List.nodup_append.mp (show (c.signs ++ c.helpers).Nodup from nd)
  refine ⟨⟨n1, fun x hx => ⟨X.nm.nm x (List.mem_append_left _ hx), fun h => by cases h⟩, by omega⟩, ⟨n2, fun x hx => ⟨X.nm.nm x (List.mem_append_right _ hx), fun h => n3 x h x hx rfl⟩, by omega⟩, Nat.le_trans X.k (by decide), fun x hx => clOk_lits X.nm (X.l x hx), ?_⟩
  show c.names.length ≤ 1000
  omega
abbrev madeOf (c : CodeD) : CodeD := mkCode c.signs c.helpers c.clauses
theorem LawX.made {c : CodeD} (X : LawX c) : LawX (madeOf c) := by
  refine ⟨X.nm, X.n6, fun x hx => ?_, ?_⟩
  · obtain ⟨d, hd, rfl⟩ := List.mem_map.mp (mem_once.mp (show x ∈ once (c.clauses.map fun d => asc d c.names) from hx))
    exact (X.l d hd).asc X.nm
  · refine Nat.le_trans (once_len2 _) ?_
    rw [List.length_map]
    exact X.k
end My

set_option Elab.async false
set_option linter.all false
set_option maxRecDepth 100000
set_option maxHeartbeats 4000000
namespace My
open PySem PySem.Spec PyProof.Rows L2 L3
/-! codes whose clauses stand as the program keeps them -/
structure Nf (c : CodeD) : Prop where
  a : ∀ x ∈ c.clauses, asc x c.names = x
  nd : c.clauses.Nodup
theorem map_self {α : Type} {f : α → α} {xs : List α} (h : ∀ x ∈ xs, f x = x) : xs.map f = xs := by
  have := List.map_congr_left (l := xs) (f := f) (g := id) h
  rw [this, List.map_id]
theorem Nf.made {c : CodeD} (h : Nf c) : madeOf c = c := by
  obtain ⟨ss, hs, cl⟩ := c
  show CodeD.mk ss hs (once (cl.map fun d => asc d (ss ++ hs))) = _
  rw [map_self (f := fun d => asc d (ss ++ hs)) h.a, once_self h.nd]
theorem nf_up {sg hp ns : List Str} (cs : List (List Str)) (e : sg ++ hp = ns) : Nf ⟨sg, hp, onceUp cs ns⟩ := ⟨fun x hx => by
  show asc x (sg ++ hp) = x
  rw [e]
  obtain ⟨d, _, rfl⟩ := List.mem_map.mp (mem_once.mp (show x ∈ once (cs.map fun d => asc d ns) from hx))
  exact asc_asc _ _, once_nodup _⟩
theorem Good.nf {c : CodeD} (g : Good c) : Nf c := by
  obtain ⟨cs, e, _⟩ := g.cl
  have := nf_up (sg := c.signs) (hp := c.helpers) (ns := c.names) cs rfl
  rw [← e] at this
  exact this
def litsOf (ns : List Str) : List Str := ns.flatMap fun n => [n, ("-" : Str) ++ n]
structure HalfS (ns : List Str) (p : List Str × Nat) : Prop where
  le : p.2 ≤ ns.length
  s : p.1.Sublist (litsOf (ns.take p.2))
end My

set_option Elab.async false
set_option linter.all false
set_option maxRecDepth 100000
set_option maxHeartbeats 1000000
namespace L3
open PySem PySem.Spec PyProof.Rows L2 MeetsSeq
open AutoSeq1 (wpAny_loadPart')
/-! an empty dict beside texts: not in a tuple of texts; repr of (text, thing) -/
section
end
/-- a tuple of a text and a thing -/
def TxF (K : PySem.W.Frag) : Rl (Str × PyData) := fun t M v => ∃ p w, v = .ref p ∧ M p = some (.tup [.str t.1, w]) ∧ DdF K t.2 M w
instance {K : PySem.W.Frag} : Mon (TxF K) := ⟨fun e ⟨p, w, h1, h2, h3⟩ => ⟨p, w, h1, e _ _ h2, Mon.mono e h3⟩⟩
def txD (t : Str × PyData) : PyData := .tuple [.str t.1, t.2]
def rReprF (K : PySem.W.Frag) : List V → Hp → VK → Prop := fun xs H Q => ∃ v t, xs = [v] ∧ TxF K t H v ∧ (txD t).showable = true ∧ (txD t).depth ≤ 64 ∧ (txD t).shown.length ≤ sizeLine ∧ Q (.str (txD t).shown) H
theorem call_reprF {X : Cx} (hgu : X.A.guards = some []) (hu : X.A.units + 70 < cLine) : CallR X (.builtin "repr") (rReprF X.K) := by
  rintro pins s σ H _ us Q I r ⟨v, ⟨x, d⟩, rfl, ⟨p, w, rfl, hp, hw⟩, hs, hdp, hz, q⟩
  have ⟨u, eu, ru⟩ := vals1 r
  subst eu
  cases (show u = Value.ref p from ru)
  obtain ⟨its, rv, ⟨o, ho, hc, n, hd⟩, _⟩ := I.tuple (show SqT X.K H p [.str x, w] from .inl (.inl hp))
  have fin : ∀ h' u' tk, (∀ b o, s.heap.get? b = some o → h'.get? b = some o) → EP X pins σ Q (.str (txD (x, d)).shown u') { s with heap := h', toks := tk } :=
    fun h' u' tk k => ⟨.str (txD (x, d)).shown, H, I.kept k, ⟨_, rfl⟩, q⟩
  cases rv with
  | @cons _ u1 _ _ r1 rv =>
    cases rv with
    | @cons _ u2 _ _ r2 rv =>
      cases rv
      obtain ⟨t1, rfl⟩ := r1
      obtain ⟨as, rd, hsm⟩ : ∃ as, Reads s.heap u2 d as ∧ (d.hasDict = true → sysModules ∉ as) := by
        rcases (show Dp X.K H w d ∨ (d = .dict [] ∧ ∃ a, w = .ref a ∧ H a = some (.dK [])) from hw) with hw | ⟨ed, a, ew, ha⟩
        · obtain ⟨as, rd⟩ := Dp.reads I d w _ hw r2
          exact ⟨as, rd, PyData.noDict_hsm (dp_nodict hw)⟩
        · subst ed ew
          cases (show _ = Value.ref a from r2)
          obtain ⟨_, hn, vs, rk, o2, es, ep, ho2, hc2, hd2, _, pp, _⟩ := dk_of I.hok ha
          cases rk
          have ees : es.toList = [] := by cases h : es.toList with
            | nil => rfl
            | cons e r => rw [h] at pp; cases pp
          refine ⟨_, Reads.dict (kvs := []) ho2 hc2.1 hd2 (by rw [ees]; exact .nil) (by rw [ees]; exact .nil), fun _ z => ?_⟩
          have : sysModules = a := by simpa using z
          rw [← this] at hn
          simp at hn
      have rt : Reads s.heap (.ref p) (txD (x, d)) ([] ++ (as ++ [])) := Reads.tuple ho hc hd (.cons (.str x t1) (.cons rd .nil))
      refine repr_of_reads' rt hs (fun h => ?_) hgu (by omega) (fun _ _ e => e) fin hz
      have h : d.hasDict = true := by simpa [txD, PyData.hasDict, PyData.hasDictAll] using h
      simpa using hsm h
section
variable {K : PySem.W.Frag} {σ : Sl} {M : Hp} {ta tb te : TE}
theorem gv_reprF {t : Str × PyData} (h : Gv te σ M (TxF K t)) (h1 : (txD t).showable = true) (h2 : (txD t).depth ≤ 64) (h3 : (txD t).shown.length ≤ sizeLine) : Gv (tCB (rReprF K) (tCons te tNil)) σ M (Tx (txD t).shown) :=
  gv_cb1 h fun M' v hv H mh Q q => ⟨v, t, rfl, Mon.mono mh hv, h1, h2, h3, q _ M' H (.refl mh) rfl⟩
/-- (text, thing) -/
theorem gv_tupF {x : Str} {d : PyData} (h1 : Gv ta σ M (Tx x)) (h2 : Gv tb σ M (DdF K d)) : Gv (tTup (tCons ta (tCons tb tNil))) σ M (TxF K (x, d)) := fun H mh Q q =>
  h1 H mh _ fun v M1 H1 g1 p1 => h2.le g1.mm H1 g1.mh _ fun w M2 H2 g2 p2 => ⟨by show 2 ≤ sizeLine; decide, fun l nl => by
    cases (show v = _ from p1)
    exact q _ _ _ ((g1.trans g2).trans (.new g2.mh nl)) ⟨l, w, rfl, upd_same, Mon.mono (same_new (g2.mh.free nl)) p2⟩⟩
end
end L3

set_option Elab.async false
set_option linter.all false
set_option maxRecDepth 100000
set_option maxHeartbeats 8000000
namespace My
open PySem PySem.Spec PyProof.Rows L2 L3 LamX
open L3.Strm
/-! statement rules that carry the state of a law with a table; lists of data among which an empty dict may stand -/
section
variable {S : Strm} {Pt : Addr} {q : Str} {M H : Hp} {k j c : Nat} {σ : Sl} {te : TE} {P : Pr} {D : Ends} {tz tb : TS} {tt : L2.TT}
theorem _root_.L3.LS.plain {M' H' : Hp} (L : LS S Pt q M H k) (g : Gr M H M' H') : LS S Pt q M' H' k := L.step (lift L.mh L.at_ g) (L.at_.same g.hh)
/-- a list of ours is known from now on -/
theorem _root_.L3.LS.freeze {p : Addr} {vs : List V} (L : LS S Pt q M H k) (hp : S.cut H p = some (.lst vs)) : LS S Pt q (upd M p (.lst vs)) H k := by
  obtain ⟨ps, hP, ok, h3⟩ := L.tb
  have n : Pt ≠ p := fun z => by rw [z, of_cut hp] at hP; cases hP
  refine ⟨same_lent L.mh hp, L.at_, L.tb, by rw [upd_ne n]; exact L.mp, fun a qs e => ?_⟩
  by_cases z : a = p
  · subst z; rw [upd_same] at e; cases e
  · rw [upd_ne z] at e; exact L.nt a qs e
/-- a new list -/
theorem _root_.L3.LS.new {p : Addr} {o : HO} (L : LS S Pt q M H k) (np : H p = none) : LS S Pt q M (upd H p o) k ∧ M p = none ∧ S.cut (upd H p o) p = some o := by
  have no := L.at_.fresh np
  have nc := L.at_.cutn np
  exact ⟨L.step (by rw [cut_upd no]; exact .own L.mh nc) (L.at_.upd no), L.mh.free nc, by rw [cut_upd no, upd_same]⟩
theorem l_asg {i : Nat} (L : LS S Pt q M H (k + c)) (h : GvS S c te σ M P) (go : ∀ v M' H', Same M M' → LS S Pt q M' H' k → P M' v → tz D (σ.set i (some v)) H') : tSeq (tAsg te (gName i)) tz D σ H :=
  z_asg L.mh L.at_ h fun v M' H' g a r => go v M' H' g.mm (L.step g a) r
theorem l_for {α : Type} {R : Rl α} {wi : TI} {g : TG} {U : α → Hp → Sl → Sl → Prop} {xs : List α} (cost : Nat → Nat) (J : Hp → Nat → Sl → Prop) (L : LS S Pt q M H (cost 0)) (hsrc : GvI wi σ M xs R) (htg : TgOk g R U) (hJ : ∀ M M' i σ, Same M M' → J M i σ → J M' i σ) (h0 : J M 0 σ)
    (hs : ∀ i x σ' M' H' σ2 (nx : Sl → Hp → Prop), (∀ M2 H2 σ3, Same M' M2 → J M2 (i + 1) σ3 → LS S Pt q M2 H2 (cost (i + 1)) → nx σ3 H2) → xs[i]? = some x → Same M M' → J M' i σ' → LS S Pt q M' H' (cost i) → U x M' σ' σ2 → tb { D with nx := nx, ct := nx, bk := tz D } σ2 H')
    (hd : ∀ σ' M' H', Same M M' → J M' xs.length σ' → LS S Pt q M' H' (cost xs.length) → tz D σ' H') : tSeq (tFor wi g tb) tz D σ H := by
  refine z_for (S := S) (k := cost 0) (c := 0) (G := (· = xs)) L.mh L.at_ hsrc.s htg (fun ys M1 i σ' M' H' => Same M1 M' ∧ J M' i σ' ∧ LS S Pt q M' H' (cost i)) (fun ys M1 H1 e g a => ?_) (fun ys M1 i σ' M' H' ⟨s, _, l⟩ => ⟨s, l.mh, l.at_.le (Nat.zero_le _)⟩) ?_ ?_
  · exact ⟨Same.refl _, hJ _ _ _ _ g.mm h0, L.step g a⟩
  · rintro ys M1 i x σ' M' H' M2 H2 σ2 rfl sM hx ⟨s1, j1, l1⟩ g hU
    exact hs i x σ' M2 H2 σ2 _ (fun M3 H3 σ3 s3 j3 l3 => ⟨M3, (s1.trans g.mm).trans s3, j3, l3⟩) hx ((sM.trans s1).trans g.mm) (hJ _ _ _ _ g.mm j1) (l1.plain g) hU
  · rintro ys M1 σ' M' H' rfl sM ⟨s1, j1, l1⟩
    exact hd σ' M' H' (sM.trans s1) j1 l1
end
section
end
/-! the law's own def that takes a lambda: its suite calls a def -/
theorem takes_len {X : Cx} {W : WX} (tk : Takes X W) : Takes X (fun c d σ H => σ.length = X.N.length → W c d σ H) := fun u s' ⟨a, B, sI, pins, σ, H, cls, d, e, I, nb, up, sky, na, os, ag, w⟩ =>
  tk u s' ⟨a, B, sI, pins, σ, H, cls, d, e, I, nb, up, sky, na, os, ag, w I.len⟩
section
variable {α : Type} {R : Rl α} [Mon R] {σ : Sl} {M : Hp} {ta : TA}
theorem ga_rl0 : GvA tNil σ M fun M vs => Pd R M ([] : List α) vs := fun H mh Q q => q [] M H (.refl mh) .nil
theorem ga_rl {t : TE} {x : α} {xs : List α} (h : Gv t σ M (R x)) (hr : ∀ M1, Same M M1 → GvA ta σ M1 fun M vs => Pd R M xs vs) : GvA (tCons t ta) σ M fun M vs => Pd R M (x :: xs) vs := fun H mh Q q =>
  h H mh _ fun v M1 H1 g1 p => hr M1 g1.mm H1 g1.mh _ fun vs M2 H2 g2 ps => q (v :: vs) M2 H2 (g1.trans g2) (.cons (Mon.mono g2.mm p) ps)
theorem gv_lstG {xs : List α} (h : GvA ta σ M fun M vs => Pd R M xs vs) (hz : xs.length ≤ 1000) : Gv (tLst ta) σ M (LiR R xs) := (gl_lst h fun M vs p => by rw [← p.length]; exact Nat.le_trans hz (by decide)).li
end
section
variable {K : PySem.W.Frag} {σ : Sl} {M : Hp} {t : TE}
theorem gf_str {x : Str} (h : Gv t σ M (Tx x)) : Gv t σ M (DdF K (.str x)) := gv_is h fun M v e => by
  cases (show v = _ from e)
  exact .inl (.str x)
theorem gf_dnew : Gv tDNewK σ M (DdF K (.dict [])) := fun H mh Q q p np => q (.ref p) _ _ ((Gr.own mh np).freeze np (mh.free np) upd_same) (.inr ⟨rfl, p, rfl, upd_same⟩)
end
end My

set_option Elab.async false
set_option linter.all false
set_option maxRecDepth 100000
set_option maxHeartbeats 1000000
namespace L3
open PySem PySem.Spec PyProof.Rows L2
/-! several except clauses, each with a name or without -/
/-- an exception that has come down to the frame of its try -/
structure Ld (X : Cx) (pins : List (Addr × Obj)) (σ : L2.St) (H : Hp) (e : Addr) (cls : Value) (d : Option Addr) (z : Shared) : Prop where
  st : X.stack = X.env :: X.outer
  fr : X.env.frame = some X.env.locals
  un : H e = none
  fl : ∃ (B : Heap) (y : Shared), L2.Inv X pins σ H y ∧ (∀ b o, y.heap.get? b = some o → b ∉ frs X.stack → B.get? b = some o) ∧ y.heap.UpToSlots z.heap ∧ z.os = y.os ∧ AllBare z.gens ∧ HandSPX.FlyingZ B (X.env :: X.outer) e (Zc cls d) z.heap
section
variable {X : Cx} {pins : List (Addr × Obj)} {σ : L2.St} {H : Hp} {e : Addr} {cls : Value} {d : Option Addr} {z : Shared}
theorem Ld.inv (L : Ld X pins σ H e cls d z) : L2.Inv X pins σ H z := let ⟨_, _, J, nb, u, o, g, f⟩ := L.fl; J.landed nb f.1 u o g
/-- its object stands apart from the frames -/
theorem Ld.obj (L : Ld X pins σ H e cls d z) : ∃ ob us, z.heap.get? e = some ob ∧ Zc cls d ob ∧ ob.data = .fields us ∧ e ≠ X.env.locals ∧ e ∉ X.fs := by
  obtain ⟨B, y, _, _, _, _, _, f⟩ := L.fl
  obtain ⟨ob, us, h1, h2, h3⟩ := f.there
  have apart : e ∉ frs (X.env :: X.outer) := by
    intro hm
    obtain ⟨_, o2, h4, h5⟩ := f.2.2.1.mem hm
    cases h1.symm.trans h4
    exact h5 _ h3
  refine ⟨ob, us, h1, h2, h3, fun q => ?_, fun q => ?_⟩
  · exact apart (List.mem_filterMap.mpr ⟨_, List.mem_cons_self .., q ▸ L.fr⟩)
  · obtain ⟨v, h6, h7⟩ := List.mem_filterMap.mp q
    exact apart (List.mem_filterMap.mpr ⟨v, List.mem_cons_of_mem _ h6, h7⟩)
/-- the state in which a clause's suite begins -/
theorem Ld.in (L : Ld X pins σ H e cls d z) : ∃ ob us, z.heap.get? e = some ob ∧ Zc cls d ob ∧ ob.data = .fields us ∧ L2.Inv (X.suite e ((e, ob) :: (X.pn ++ pins))) [] σ H z :=
  let ⟨ob, us, h1, h2, h3, h4, h5⟩ := L.obj
  ⟨ob, us, h1, h2, h3, L.inv.suite h1 h3 L.un h4 h5⟩
/-- the flight is set to none once more -/
theorem Ld.again (L : Ld X pins σ H e cls d z) {A : Around} {Q : Unit → Shared → Prop} {E : Value → Shared → Prop} (go : ∀ h, Ld X pins σ H e cls d { z with heap := h } → Q () { z with heap := h }) : wpAny (model X.prog X.w) A (setFlight (.ref e) none) Q E z := by
  obtain ⟨B, y, J, nb, u, o, g, f⟩ := L.fl
  exact HandSPX.lands_againZ f fun h f' u' => go h ⟨L.st, L.fr, L.un, B, y, J, nb, u.trans u', o, g, f'⟩
/-- no clause takes it -/
theorem Ld.on {W : WX} {D : Ends} (L : Ld X pins σ H e cls d z) (tk : Takes X W) (w : W cls d σ H) : wpAny (model X.prog X.w) X.A (handleBy (.ref e) X.env []) (SP X pins D) X.xe z := by
  obtain ⟨B, y, J, nb, u, o, g, f⟩ := L.fl
  have last : wpAny (model X.prog X.w) X.A (setFlight (.ref e) X.env.frame) (fun _ => wpAny (model X.prog X.w) X.A (throw (.ref e) : Sem Flow) (SP X pins D) X.xe) X.xe z := by
    rw [L.fr]
    exact HandSPX.setFlight_upZ f fun h hd u' => wpAny_throw (tk _ _ ⟨e, B, y, pins, σ, H, cls, d, rfl, J, nb, u.trans u', .inr (.inr (by rw [L.st]; exact hd)), L.un, o, g, w⟩)
  refine wpAny_handleBy_nil ?_
  obtain ⟨_, _, _, ob, us, t, _, _, h1, _, h3, h4, _⟩ := f
  unfold PySem.passOn
  refine wpAny_bind (wpAny_field h1 h3 h4 ?_)
  rw [if_neg (by simp : ¬ ((Value.ref t == Value.none) = true))]
  first
    | exact wpAny_bind (wpAny_pure (wpAny_bind last))
    | exact wpAny_bind last
/-- the class that a clause names is looked at -/
theorem Ld.asks {x : Str} {c : Value} {np : Pos} {b : Bool} {Q : Bool → Shared → Prop} {E E2 : Value → Shared → Prop} (L : Ld X pins σ H e cls d z) (hc : Names X x c) (hb : PySem.W.exmOne X.K cls c = some b) (q : Q b z) :
    wpAny (model X.prog X.w) (X.A.mark (some (.ref e))) (eval (.Name x np) X.env) (fun v s1 => wpAny (model X.prog X.w) (X.A.mark (some (.ref e))) (excMatches (.ref e) v) Q E s1) E2 z := by
  obtain ⟨ob, us, h1, h2, h3, S⟩ := L.in
  have ty : PySem.W.Looks (model X.prog X.w) z.heap (typeOf (.ref e)) cls := fun _ _ _ _ kp k => wpAny_typeOf_ref (kp _ _ h1) (h2.1.symm ▸ k)
  have lk := (PySem.W.exm_one (M := model X.prog X.w) L.inv.kIn ty hb).here (A := X.A.mark (some (.ref e))) (Q := Q) (E := E) (s := z) q
  obtain ⟨g, db, m | ⟨m, v, nn⟩⟩ := hc
  · exact ld_glob (X := X.suite e ((e, ob) :: (X.pn ++ pins))) S g m lk db
  · exact ld_blt (X := X.suite e ((e, ob) :: (X.pn ++ pins))) S g m v lk nn db
end
/-- class, slot of its name, suite -/
abbrev Clz := Value × Option Nat × (Addr → Value → Option Addr → TS)
def clG (o : Option Nat) (σ : L2.St) : L2.St := match o with
  | none => σ
  | some i => σ.set i none
def clD (o : Option Nat) (D : Ends) : Ends := ⟨fun σ H => D.nx (clG o σ) H, D.rt, fun σ H => D.bk (clG o σ) H, fun σ H => D.ct (clG o σ) H⟩
def clS (o : Option Nat) (a : Addr) (σ : L2.St) : L2.St := match o with
  | none => σ
  | some i => σ.set i (some (.ref a))
/-- what the clauses, one after the other, do of an exception -/
def wCl (K : PySem.W.Frag) (W : WX) (D : Ends) : List Clz → WX
  | [] => W
  | (c, o, ts) :: r => fun cls d σ H => ∃ b, PySem.W.exmOne K cls c = some b ∧ (b = true → ∀ a, H a = none → ts a cls d (clD o D) (clS o a σ) H) ∧ (b = false → wCl K W D r cls d σ H)
inductive ClOk (X : Cx) : List ExceptHandler → List Clz → Prop
  | nil : ClOk X [] []
  | plain {x : Str} {c : Value} {ts : Addr → Value → Option Addr → TS} {b₀ : Stmt} {su : List Stmt} {np p : Pos} {hs : List ExceptHandler} {l : List Clz} (hc : Names X x c)
      (go : ∀ (a : Addr) (ob : Obj) (cls : Value) (d : Option Addr) (pn : List (Addr × Obj)), Zc cls d ob → (∃ us, ob.data = .fields us) → PSs (X.suite a ((a, ob) :: pn)) (b₀ :: su) (ts a cls d)) (r : ClOk X hs l) :
      ClOk X (.ExceptHandler (some (.Name x np)) none (b₀ :: su) p :: hs) ((c, none, ts) :: l)
  | named {x n : Str} {i : Nat} {c : Value} {ts : Addr → Value → Option Addr → TS} {b₀ : Stmt} {su : List Stmt} {np p : Pos} {hs : List ExceptHandler} {l : List Clz} (hN : X.N.Nodup) (hi : X.N[i]? = some n) (hln : X.env.kindOf n = some .local) (hc : Names X x c)
      (go : ∀ (a : Addr) (ob : Obj) (cls : Value) (d : Option Addr) (pn : List (Addr × Obj)), Zc cls d ob → (∃ us, ob.data = .fields us) → PSs (X.suite a ((a, ob) :: pn)) (b₀ :: su) (ts a cls d)) (r : ClOk X hs l) :
      ClOk X (.ExceptHandler (some (.Name x np)) (some n) (b₀ :: su) p :: hs) ((c, some i, ts) :: l)
section
variable {X : Cx} {pins : List (Addr × Obj)} {σ : L2.St} {H : Hp} {e : Addr} {cls : Value} {d : Option Addr} {z : Shared} {W : WX} {D : Ends}
theorem ClOk.run {hs : List ExceptHandler} {l : List Clz} (k : ClOk X hs l) (ok : X.Ok) (tk : Takes X W) : ∀ {z : Shared}, Ld X pins σ H e cls d z → wCl X.K W D l cls d σ H → wpAny (model X.prog X.w) X.A (handleBy (.ref e) X.env hs) (SP X pins D) X.xe z := by
  induction k with
  | nil => exact fun L w => L.on tk w
  | plain hc go _ ih =>
    rintro z L ⟨b, hb, yes, no⟩
    refine wpAny_handleBy_cons (codeAny_handlers_test (L.asks hc hb ?_)) nofun
    cases b with
    | false => exact ih L (no rfl)
    | true =>
      refine codeAny_handlers_suite (L.again fun h L2 => ?_)
      obtain ⟨ob, us, h1, h2, h3, S⟩ := L2.in
      refine wpAny_mono ((go e ob cls d _ h2 ⟨us, h3⟩).run [] _ σ H (clD none D) S (yes rfl e L.un)) (fun f y q => ?_) fun _ _ q => q.elim
      cases f with
      | ret u => exact let ⟨v, s, G, J, r, q⟩ := q; ⟨v, s, G, J.unsuite ok, r, q⟩
      | next => exact let ⟨s, G, J, q⟩ := q; ⟨s, G, J.unsuite ok, q⟩
      | brk => exact let ⟨s, G, J, q⟩ := q; ⟨s, G, J.unsuite ok, q⟩
      | cont => exact let ⟨s, G, J, q⟩ := q; ⟨s, G, J.unsuite ok, q⟩
  | @named x n i c ts b₀ su np p hs l hN hi hln hc go _ ih =>
    rintro z L ⟨b, hb, yes, no⟩
    refine wpAny_handleBy_cons (codeAny_handlers_test (L.asks hc hb ?_)) nofun
    cases b with
    | false => exact ih L (no rfl)
    | true =>
      refine codeAny_handlers_suite_as (L.again fun h L2 => ?_)
      obtain ⟨ob, us, h1, h2, h3, S⟩ := L2.in
      refine store_ok (X := X.suite e ((e, ob) :: (X.pn ++ pins))) (v := .ref e) S hN hi (.inl hln) rfl (fun y T => ?_) (.inr hln)
      refine wpAny_mono ((go e ob cls d _ h2 ⟨us, h3⟩).run [] _ _ H (clD (some i) D) T (yes rfl e L.un)) (fun f y2 q => ?_) fun _ _ q => q.elim
      cases f with
      | ret u => exact let ⟨v, s, G, J, r, q⟩ := q; gone_ok (J.unsuite ok) hN hi hln fun y3 J3 => ⟨v, _, G, J3, r, q⟩
      | next => exact let ⟨s, G, J, q⟩ := q; gone_ok (J.unsuite ok) hN hi hln fun y3 J3 => ⟨_, G, J3, q⟩
      | brk => exact let ⟨s, G, J, q⟩ := q; gone_ok (J.unsuite ok) hN hi hln fun y3 J3 => ⟨_, G, J3, q⟩
      | cont => exact let ⟨s, G, J, q⟩ := q; gone_ok (J.unsuite ok) hN hi hln fun y3 J3 => ⟨_, G, J3, q⟩
end
section
variable {X : Cx} {body : List Stmt} {h₀ : ExceptHandler} {hs : List ExceptHandler} {l : List Clz} {pos : Pos} {tb : WX → TS} {W : WX}
/-- try: body, then clauses of any kind -/
theorem ps_try_cl (sk : X.stack = X.env :: X.outer) (fr : X.env.frame = some X.env.locals) (tk : Takes X W) (go : ∀ (Z : WX) (pn : List (Addr × Obj)) (xe : Value → Shared → Prop), Takes (X.tr pn xe) Z → PassesOwn (model X.prog X.w) X.A X.env xe → PSs (X.tr pn xe) body (tb Z))
    (k : ClOk X (h₀ :: hs) l) : PS X (.Try body (h₀ :: hs) [] [] pos) (fun D σ H => tb (wCl X.K W D l) D σ H) := by
  refine ⟨fun pins s σ H D I w => wpAny_Try_except ?_⟩
  have ok := I.ok
  refine wpAny_mono ((go (wCl X.K W D l) (X.pn ++ pins) _ (fun u y xx => ?ex) PassesOwn.looking).run [] s σ H D (I.toTry _) w) (fun f y q => ?en) fun _ _ q => q
  case ex =>
    obtain ⟨e, B, y0, ps, σ1, H1, cls, d, rfl, J, nb, up, sky, na, os, ag, w1⟩ := xx
    refine Sky.land Zc.steady (by rw [ok.frames, sk] : X.A.frames = some (X.env :: X.outer)) fr (sk ▸ sky) fun h f u2 => ?_
    exact k.run ok tk (pins := pins) ⟨sk, fr, na, B, y0, J.ofTry ok, nb, up.trans u2, os, ag, f⟩ w1
  cases f with
  | ret u => exact let ⟨v, s, G, J, r, q⟩ := q; ⟨v, s, G, J.ofTry ok, r, q⟩
  | next => exact let ⟨s, G, J, q⟩ := q; wpAny_execs_nil ⟨s, G, J.ofTry ok, q⟩
  | brk => exact let ⟨s, G, J, q⟩ := q; ⟨s, G, J.ofTry ok, q⟩
  | cont => exact let ⟨s, G, J, q⟩ := q; ⟨s, G, J.ofTry ok, q⟩
end
end L3

set_option Elab.async false
set_option linter.all false
set_option maxRecDepth 100000
set_option maxHeartbeats 1000000
namespace L3
open PySem PySem.Spec PyProof.Rows L2
/-! o - x by an own __sub__, x a text -/
section
end
end L3

set_option Elab.async false
set_option linter.all false
set_option maxRecDepth 100000
set_option maxHeartbeats 1000000
namespace L3
open PySem PySem.Spec PyProof.Rows L2
/-! a new list stands apart from sys.modules; repr of a list of one tuple (text, thing), the thing data or an empty dict -/
section
variable {X : Cx}
def LzF (K : PySem.W.Frag) : Rl (Str × PyData) := fun t M v => ∃ p w, v = .ref p ∧ p ≠ sysModules ∧ M p = some (.lst [w]) ∧ TxF K t M w
instance {K : PySem.W.Frag} : Mon (LzF K) := ⟨fun e ⟨p, w, h1, h2, h3, h4⟩ => ⟨p, w, h1, h2, e _ _ h3, Mon.mono e h4⟩⟩
end
section
end
end L3

set_option Elab.async false
set_option linter.all false
set_option maxRecDepth 100000
set_option maxHeartbeats 1000000
namespace L3
open PySem PySem.Spec PyProof.Rows L2 LamX
open L3.Strm
/-! x(lambda: body, e); a method that raises -/
section
end
section
end
section
end
end L3

set_option Elab.async false
set_option linter.all false
set_option maxRecDepth 100000
set_option maxHeartbeats 1000000
namespace L3
open PySem PySem.Spec PyProof.Rows L2
/-! a & b, a | b, a < b of two instances by own methods; every n-th item -/
def rBinO (C : Addr) (sp : Sp) (E : XK) : R2 := fun x y H Q => ∃ a b dx dy fs gs, x = V.ref a ∧ y = V.ref b ∧ H a = some (.ins C dx fs) ∧ H b = some (.ins C dy gs) ∧ sp [.ref a, .ref b] H (fun v H' => (∃ p, v = .ref p) ∧ Q v H') E
section
variable {X : Cx} {C : Addr} {k : Nat} {ps : List Str} {sp : Sp} {CT : CXT} {E : XK}
theorem bin_own {nm : String} {f : Addr} {fd : FuncData} (F : FnOk X.prog X.w X.K X.mg X.base CT k f fd ps sp) (hs : PySem.W.findIn X.K (.ref C) (PySem.dunder nm) = some (some (.ref f))) (hf : PySem.W.isFn X.K (.ref f) = true) (hb : Binds X.K fd ps []) (hx : Passes CT X E)
    (hsf : PySem.W.selfFirst X.K C = true) (hr : Room k X.A) {pins : List (Addr × Obj)} {s : Shared} {σ : L2.St} {H : Hp} {Q : VK} (I : L2.Inv X pins σ H s) {a b dx dy : Addr} {fs gs : List (Str × V)} (ha : H a = some (.ins C dx fs)) (hb' : H b = some (.ins C dy gs))
    (q : sp [.ref a, .ref b] H (fun v H' => (∃ p, v = .ref p) ∧ Q v H') E) : wpAny (model X.prog X.w) X.A (binaryOp1 nm (.ref a) (.ref b)) (fun o s' => ∃ w, o = some w ∧ EP X pins σ Q w s') X.xe s := by
  obtain ⟨ox, od, J⟩ := own_inst I ha
  obtain ⟨oy, od', J'⟩ := own_inst I hb'
  obtain ⟨m, hF⟩ := I.fr
  have KX := I.ok.mod.kin.keeps hF.keep
  obtain ⟨cd, hcd, hm⟩ := PySem.W.any_some hsf
  obtain ⟨rest, hm⟩ : ∃ rest, cd.mro = .ref C :: rest := by
    cases e : cd.mro with
    | nil => rw [e] at hm; cases hm
    | cons c r => rw [e] at hm; exact ⟨r, by rw [List.head?_cons] at hm; cases (beq_iff_eq.mp hm); rfl⟩
  have body : wpAny (model X.prog X.w) X.A (call (.ref f) [.ref a, .ref b]) (fun w s' => ∃ p, w = Value.ref p ∧ EP X pins σ Q (.ref p) s') X.xe s :=
    wpAny_mono (run_deep (us := [.ref a, .ref b]) (vs := [.ref a, .ref b]) F hr I.env0 hb hx I (.cons rfl (.cons rfl .nil)) q) (fun w s' zz => by
      obtain ⟨x', H', I', rz, ⟨p, e⟩, qz⟩ := zz
      subst e
      cases (show w = Value.ref p from rz)
      exact ⟨p, rfl, .ref p, H', I', rfl, qz⟩) fun _ _ e => e
  unfold binaryOp1
  refine wpAny_bind (J.type.here (wpAny_bind (J'.type.here (wpAny_bind ((PySem.W.fills_K (nm := nm) KX hcd hm hs).here ?_)))))
  rw [if_pos (by simp)]
  refine wpAny_bind (wpAny_pure ?_)
  simp only [Bool.and_false, Bool.false_eq_true, if_false, Bool.false_and]
  refine wpAny_bind (wpAny_pure ?_)
  simp only [Bool.false_eq_true, if_false]
  refine wpAny_bind (m := tryMethod (.ref a) _ (.ref b)) ?_
  unfold tryMethod
  refine wpAny_bind (PySem.W.special_fn KX J hs (beq_iff_eq.mp hf) (wpAny_mono body (fun w s' ⟨p, e, qz⟩ => ?_) fun _ _ e => e))
  subst e
  exact wpAny_pure (wpAny_pure ⟨_, rfl, qz⟩)
end
section
variable {σ : Sl} {M : Hp} {ta tb : TE} {α : Type} {R1 : Rl α} {C : Addr}
theorem gv_binO [Mon R1] {pre : α → α → Prop} {R : α → α → Pr} {x y : α} (ha : Gv ta σ M (R1 x)) (hb : Gv tb σ M (R1 y)) (hi : ∀ z M v, R1 z M v → ∃ a dx fs, v = .ref a ∧ M a = some (.ins C dx fs)) (hp : pre x y) (hr : ∀ M v, R x y M v → ∃ p, v = .ref p) :
    Gv (tOp (rBinO C (sp2 R1 R1 pre R) E0) ta tb) σ M (R x y) := fun H mh Q q =>
  ha H mh _ fun v M1 H1 g1 p1 => hb.le g1.mm H1 g1.mh _ fun w M2 H2 g2 p2 => by
    have p3 : R1 x M2 v := Mon.mono g2.mm p1
    obtain ⟨a, dx, fs, rfl, h1⟩ := hi x M2 v p3
    obtain ⟨b, dy, gs, rfl, h2⟩ := hi y M2 w p2
    exact ⟨a, b, dx, dy, fs, gs, rfl, rfl, g2.mh _ _ h1, g2.mh _ _ h2, x, y, M2, _, _, rfl, g2.mh, p3, p2, hp, fun u M' H' g r => ⟨hr _ _ r, q u M' H' ((g1.trans g2).trans g) r⟩⟩
end
/-! every n-th item of a list -/
end L3

set_option Elab.async false
set_option linter.all false
set_option maxRecDepth 100000
set_option maxHeartbeats 1000000
namespace L3
open PySem PySem.Spec PyProof.Rows L2
/-! t[::-1] of a tuple; [x] * n -/
section
end
section
end
end L3

set_option Elab.async false
set_option linter.all false
set_option maxRecDepth 100000
set_option maxHeartbeats 1000000
namespace L3
open PySem PySem.Spec PyProof.Rows L2
/-! a method with arguments that raises -/
section
end
end L3

set_option Elab.async false
set_option linter.all false
set_option maxRecDepth 100000
set_option maxHeartbeats 1000000
namespace L3
open PySem PySem.Spec PyProof.Rows L2
/-! an instance whose __init__ may raise -/
def MakX (P : Program) (w : World) (K : PySem.W.Frag) (mg : Str → Option Value) (base : Heap) (k : Nat) (x : Str) (C : Addr) (ps : List Str) (sp : Sp) : Prop :=
  ∃ f fd, Mk K C f ∧ FnOk P w K mg base (L2.CX P w) k f fd ps sp ∧ mg x = some (.ref C) ∧ Binds K fd ps []
theorem pe_mkX {X : Cx} {W : WX} {E : XK} {k : Nat} {x : Str} {C : Addr} {ps : List Str} {sp : Sp} {e : Expr} {es : List Expr} {t : TA} {p pos : Pos} (c : MakX X.prog X.w X.K X.mg X.base k x C ps sp) (hr : Room (k + 1) X.A) (tk : Takes X W) (hW : ∀ cls d σ H, E cls d H → W cls d σ H) (ha : PA X (e :: es) t) (hg : Gl X x := by rfl)
    (hdb : (x == ("__debug__" : Str)) = false := by decide) (he : starEach (e :: es) X.env = (false, eval e X.env) :: starEach es X.env := by rfl) (hpl : (backTo pos (starEach es X.env)).any (·.1) = false := by rfl) :
    PE X (.Call (.Name x p) (e :: es) [] pos) (tMake C sp [] E t) := by
  obtain ⟨_, _, M, F, m, b⟩ := c
  exact pe_make M F hr hg m b .nil (passes_call tk hW) ha hdb he hpl
end L3

set_option Elab.async false
set_option linter.all false
set_option maxRecDepth 100000
set_option maxHeartbeats 1000000
namespace L3
open PySem PySem.Spec PyProof.Rows L2
/-! o - y by an own __sub__ that raises, y data or an empty dict -/
/-- an own special method whose other side is a built-in value; T: its type, c: whether it has the slot -/
structure OffT (T : String) (c : Bool) : Prop where
  fl : fillsNumberSlot (.type T) "sub" = pure c
  up : ∀ C, isSubtype (.type T) (.ref C) = pure false
  py : numberSlotInPython (.type T) "sub" = pure false
  rl : c = true → ∃ o, typeLookup (.type T) (dunderR "sub") = pure o
end L3

set_option Elab.async false
set_option linter.all false
set_option maxRecDepth 100000
set_option maxHeartbeats 1000000
namespace L3
open PySem PySem.Spec PyProof.Rows L2 PySem.SeqAt
open AutoSeq1 (wpAny_loadPart')
open MeetsSeq MeetsSeq2 MeetsSeq3 SeqRoads2
/-! o == y, y != o: o an instance with an own __eq__, y data or an empty dict -/
theorem nf_int (K : PySem.W.Frag) (C : Addr) : PySem.W.notFirst K C (.type "int") = true := by rfl
theorem nf_bool (K : PySem.W.Frag) (C : Addr) : PySem.W.notFirst K C (.type "bool") = true := by rfl
theorem nf_str (K : PySem.W.Frag) (C : Addr) : PySem.W.notFirst K C (.type "str") = true := by rfl
theorem nf_list (K : PySem.W.Frag) (C : Addr) : PySem.W.notFirst K C (.type "list") = true := by rfl
theorem nf_tup (K : PySem.W.Frag) (C : Addr) : PySem.W.notFirst K C (.type "tuple") = true := by rfl
theorem nf_dict (K : PySem.W.Frag) (C : Addr) : PySem.W.notFirst K C (.type "dict") = true := by rfl
theorem nf_none (K : PySem.W.Frag) (C : Addr) : PySem.W.notFirst K C (.type "NoneType") = true := by rfl
theorem nf_of (K : PySem.W.Frag) (C : Addr) {d : PyData} : PySem.W.notFirst K C (.type (tyN d)) = true := by
  cases d with
  | none => exact nf_none K C
  | bool b => exact nf_bool K C
  | int i => exact nf_int K C
  | str x => exact nf_str K C
  | list xs => exact nf_list K C
  | tuple xs => exact nf_tup K C
  | dict kvs => exact nf_dict K C
/-- a class that is no subclass of the built-in kinds of data -/
structure OffC (K : PySem.W.Frag) (C : Addr) : Prop where
  l : PySem.W.subIn K (.ref C) (.type "list") = some false
  t : PySem.W.subIn K (.ref C) (.type "tuple") = some false
  d : PySem.W.subIn K (.ref C) (.type "dict") = some false
  s : PySem.W.subIn K (.ref C) (.type "str") = some false
  i : PySem.W.subIn K (.ref C) (.type "int") = some false
  b : PySem.W.subIn K (.ref C) (.type "bool") = some false
  n : PySem.W.subIn K (.ref C) (.type "NoneType") = some false
  cd : (PySem.W.clsIn K C).isSome = true
  ty : PySem.W.typeIn K (.ref C) = some (.type "type")
/-- data is no instance of it -/
theorem OffC.kit {K : PySem.W.Frag} {C : Addr} (o : OffC K C) {d : PyData} : PySem.W.kitOne K (.type (tyN d)) (.ref C) = some false := by
  have e : PySem.W.subIn K (.type (tyN d)) (.ref C) = some false := by cases d <;> rfl
  unfold PySem.W.kitOne PySem.W.kitCls
  rw [if_neg (by simp)]
  show (if ((PySem.W.clsIn K C).isSome && PySem.W.typeIn K (.ref C) == some (.type "type")) = true then PySem.W.subIn K (.type (tyN d)) (.ref C) else none) = _
  rw [if_pos (by rw [o.cd, o.ty]; rfl), e]
theorem OffC.at_ {K : PySem.W.Frag} {C : Addr} (o : OffC K C) {d : PyData} : PySem.W.subIn K (.ref C) (.type (tyN d)) = some false := by
  cases d with
  | none => exact o.n
  | bool b => exact o.b
  | int i => exact o.i
  | str x => exact o.s
  | list xs => exact o.l
  | tuple xs => exact o.t
  | dict kvs => exact o.d
section
end
section
end
end L3

set_option Elab.async false
set_option linter.all false
set_option maxRecDepth 100000
set_option maxHeartbeats 4000000
namespace My
open PySem PySem.Spec PyProof.Rows L2 L3
section
variable {P : Program} {w : World} {K : PySem.W.Frag} {mg : Str → Option Value} {base : Heap}
def sp_is_listE (K : PySem.W.Frag) : Sp := sp1 (DdE K) (fun _ => True) fun d => Bl (isListD d)
theorem ok_is_listE {f : Addr} {fd : FuncData} (F : Fun K "is_list" "is_list" s_is_list f fd) (T : Bi mg) : FnOk P w K mg base CX0 1 f fd ["thing"] (sp_is_listE K) := by
  refine F.ok sc_is_list (fun vs H Q E h => ?_) (fun cdv A outer s H vs Q E hr h => ?_)
  · obtain ⟨x, M, v, rfl, _⟩ := h
    rfl
  · obtain ⟨d, M, v, rfl, mh, r1, hp, q⟩ := h
    refine ⟨_, (pss_one (ps_ret (pe_callB call_isiT (by rfl) T.isinstance boot_isinstance (pa_cons (pv 0) (pa_cons (pe_tup (pa_cons (pe_bltn (v := .ty "list") (u := .type "list") (by rfl) T.list (by decide +kernel) rfl) (pa_cons (pe_bltn (v := .ty "tuple") (u := .type "tuple") (by rfl) T.tuple (by decide +kernel) rfl) pa_nil))) pa_nil))))), ?_⟩
    have hv : Gv (tVar 0) (start ["thing"] [v]) M (DdE K d) := gv_var rfl r1
    cases d with
    | list _ => exact s_ret mh (gv_isi2E (b := true) (c := false) hv (by simp only [tyN]; decide +kernel) (by simp only [tyN]; decide +kernel)) q
    | tuple _ => exact s_ret mh (gv_isi2E (b := false) (c := true) hv (by simp only [tyN]; decide +kernel) (by simp only [tyN]; decide +kernel)) q
    | _ => exact s_ret mh (gv_isi2E (b := false) (c := false) hv (by simp only [tyN]; decide +kernel) (by simp only [tyN]; decide +kernel)) q
def sp_is_literalE (K : PySem.W.Frag) : Sp := sp2 (DdF K) (SqR K Tx) (fun d _ => shortD d) fun d ns => Bl (isLit ns d)
theorem ok_is_literalE {f : Addr} {fd : FuncData} (F : Fun K "is_literal" "is_literal" s_is_literal f fd) (T : Bi mg) (c_name_of : Cal P w K mg base 1 "name_of" ["literal"] (sp_name_of K)) : FnOk P w K mg base CX0 2 f fd ["thing", "names"] (sp_is_literalE K) := by
  refine F.ok sc_is_literal (fun vs H Q E h => ?_) (fun cdv A outer s H vs Q E hr h => ?_)
  · obtain ⟨x, y, M, v, w, rfl, _⟩ := h
    rfl
  · obtain ⟨d, ns, M, v, w, rfl, mh, r1, r2, hp, q⟩ := h
    have hu := hr.units
    refine ⟨_, (pss_one (ps_ret (pe_and (pe_callB call_isi (by rfl) T.isinstance boot_isinstance (pa_cons (pv 0) (pa_cons (pe_bltn (v := .ty "str") (u := .type "str") (by rfl) T.str (by decide +kernel) rfl) pa_nil))) (pe_one (pe_cmpR (op_inA hu) (pe_f c_name_of (hr.mono (by decide)) (pa_cons (pv 0) pa_nil)) (pv 1) (by rfl)))))), ?_⟩
    have hv : Gv (tVar 0) (start ["thing", "names"] [v, w]) M (DdF K d) := gv_var rfl r1
    cases d with
    | str x =>
      have e1 : v = .str x := by
        rcases r1 with h | ⟨h, _⟩
        · cases h; rfl
        · cases h
      cases e1
      exact s_ret mh (gv_is (gv_andV (gv_isiF (b := true) hv (by simp only [tyN]; decide +kernel)) fun _ => gv_inA (K := K) (gv_call1 (gv_var rfl rfl) hp) (gv_var rfl (.inl r2))) fun M' v h => by simpa [isLit] using h) q
    | _ => exact s_ret mh (gv_andV (c := false) (gv_isiF (b := false) hv (by simp only [tyN]; decide +kernel)) fun h => nomatch h) q
def sp_first_wrongE (K : PySem.W.Frag) : Sp := sp2 (DdE K) (SqR K Tx) (fun d _ => shortL d) fun d ns => OpN (firstWrong ns d)
theorem ok_first_wrongE {f : Addr} {fd : FuncData} (F : Fun K "first_wrong" "first_wrong" s_first_wrong f fd) (T : Bi mg) (c_is_list : Cal P w K mg base 1 "is_list" ["thing"] (sp_is_listE K)) (c_name_of : Cal P w K mg base 1 "name_of" ["literal"] (sp_name_of K))
    (c_is_literal : Cal P w K mg base 2 "is_literal" ["thing", "names"] (sp_is_literalE K)) : FnOk P w K mg base CX0 3 f fd ["things", "names"] (sp_first_wrongE K) := by
  refine F.ok sc_first_wrong (fun vs H Q E h => ?_) (fun cdv A outer s H vs Q E hr h => ?_)
  · obtain ⟨x, y, M, v, w, rfl, _⟩ := h
    rfl
  · obtain ⟨d, ns, M, v, w, rfl, mh, r1, r2, hp, q⟩ := h
    have hu := hr.units
    refine ⟨_, (pss_cons (ps_if (pt_not (pt_val (pe_f c_is_list (hr.mono (by decide)) (pa_cons (pv 0) pa_nil)))) (pss_one (ps_ret pe_int)) pss_nil)
      (pss_cons (ps_set (i := 2) sc_first_wrong.nd rfl (by first | exact .inl rfl | exact .inr rfl) (pe_lst pa_nil))
      (pss_cons (ps_for PassesOwn.never (by rfl) (pi_en (by rfl) T.enumerate (pa_cons (pv 0) pa_nil)) (pg_tup (by rfl) (pgs_cons (pg_name (i := 3) sc_first_wrong.nd rfl (by first | exact .inl rfl | exact .inr rfl)) (pgs_cons (pg_name (i := 4) sc_first_wrong.nd rfl (by first | exact .inl rfl | exact .inr rfl)) pgs_nil))) (pss_cons (ps_if (PW.pt (pw_or (pt_not (pt_val (pe_f c_is_literal (hr.mono (by decide)) (pa_cons (pv 4) (pa_cons (pv 1) pa_nil))))) (pw_or1 (pt_cmpR (op_inA hu) (pe_f c_name_of (hr.mono (by decide)) (pa_cons (pv 4) pa_nil)) (pv 2) (by rfl))))) (pss_one (ps_ret (pv 3))) pss_nil)
      (pss_one (ps_expr (pe_bm PySem.F.plainAttrs_list PySem.F.slot_list_append PySem.F.type_list_append mt_append (pv 2) (pa_cons (pe_f c_name_of (hr.mono (by decide)) (pa_cons (pv 4) pa_nil)) pa_nil))))))
      (pss_one (ps_ret pe_non))))), ?_⟩
    refine q_if mh (gt_not (gt_B (gv_call1 (gv_var rfl r1) trivial))) (fun hb H1 hh1 => ?_) (fun hb H1 hh1 => ?_)
    all_goals have g1 := Gr.idle mh hh1
    · refine s_ret g1.mh (P := It' 0) (gv_c rfl) fun v M' H' g r => q v M' H' (g1.trans g) ?_
      have : firstWrong ns d = some 0 := by
        cases d with
        | list _ => simp [isListD] at hb
        | tuple _ => simp [isListD] at hb
        | _ => rfl
      show v = match firstWrong ns d with | none => V.non | some i => V.int (i : Nat)
      rw [this]
      exact r
    · obtain ⟨ds, sq, efw, hlen, hsh⟩ : ∃ ds, SqR K (DdF K) ds M v ∧ firstWrong ns d = fwGo ns ds [] 0 ∧ ds.length ≤ 1000000 ∧ ∀ d ∈ ds, shortD d := by
        cases d with
        | list ds =>
          refine ⟨ds, ?_, rfl, hp.1, hp.2⟩
          rcases r1 with (h | ⟨h, _⟩) | ⟨a, es, vs, h, e, hs, pd⟩
          · exact sqF (dp_sqL h)
          · cases h
          · cases h
            exact .inl ⟨a, vs, e, hs, pd⟩
        | tuple ds =>
          refine ⟨ds, ?_, rfl, hp.1, hp.2⟩
          rcases r1 with (h | ⟨h, _⟩) | ⟨a, es, vs, h, e, hs, pd⟩
          · exact sqF (dp_sqT h)
          · cases h
          · cases h
        | _ => simp [isListD] at hb
      refine q_asgL g1.mh gl_nil fun p vs M2 H2 g2 h0 m0 hp2 hv => ?_
      subst hv
      have g02 := g1.trans g2
      refine q_forE (R1 := DdF K) (xs := ds) g2.mh (gv_var rfl (Mon.mono g02.mm sq))
        (fun M1' i σ' M' H' => ∃ y3 y4, Gr M H M' H' ∧ Same M1' M' ∧ Same M M' ∧ Own H M' H' p ((((ds.take i).map nameD)).map V.str) ∧ σ' = [some v, some w, some (.ref p), y3, y4] ∧ fwGo ns ds [] 0 = fwGo ns (ds.drop i) ((ds.take i).map nameD) i)
        (fun M3 H3 g3 => ⟨none, none, g02.trans g3, Same.refl _, (g02.trans g3).mm, Own.step ⟨g1.hh.free h0, m0, hp2⟩ g3, rfl, rfl⟩)
        (fun M3 i σ' M' H' ⟨_, _, g, s1, _⟩ => ⟨s1, g.mh⟩) ?_ ?_
      · rintro M3 i x v' σ' M' H' H'' sM hx ⟨y3, y4, g, s1, s2, ow, rfl, efw2⟩ gE rx
        have hxm : x ∈ ds := List.mem_of_getElem? hx
        have hil : i < ds.length := (List.getElem?_eq_some_iff.mp hx).1
        have g' := g.trans gE
        have ow' := ow.step gE
        have r2' : SqR K Tx ns M' w := Mon.mono s2 r2
        have et : ds.take (i + 1) = ds.take i ++ [x] := by rw [List.take_add_one, hx]; rfl
        have ed : ds.drop i = x :: ds.drop (i + 1) := by rw [List.drop_eq_getElem_cons hil]; congr 1; exact (List.getElem?_eq_some_iff.mp hx).2
        have up := ow'.up
        have pd := pd_of_tx (M := M') ((ds.take i).map nameD)
        refine q_if (ow'.fr g'.mh) (gt_or (c := decide (nameD x ∈ (ds.take i).map nameD)) (gt_not (gt_B (gv_call2 (R1 := DdF K) (R2 := SqR K Tx) (gv_var rfl (Mon.mono up rx)) (gv_var rfl (Mon.mono up r2')) (hsh x hxm)))) fun hl => ?_) (fun hb H4 hh4 => ?_) (fun hb H4 hh4 => ?_)
        · obtain ⟨y, rfl, _⟩ := lit_shape (d := x) (ns := ns) (by simpa using hl)
          have ex : v' = .str y := by
            rcases rx with h | ⟨h, _⟩
            · cases h; rfl
            · cases h
          cases ex
          exact gt_is (gt_test (gv_inA (K := K) (gv_call1 (gv_var rfl rfl) (hsh _ hxm)) (gv_var rfl (.inl (.inl (ow'.lst pd)))))) (by simp [nameD])
        · refine s_ret (P := It' (i : Nat)) (g'.mh.trans hh4) (gv_var rfl rfl) fun v5 M5 H5 g5 r5 => q v5 M5 H5 ((g'.trans (.idle g'.mh hh4)).trans g5) ?_
          show v5 = match firstWrong ns d with | none => V.non | some i => V.int (i : Nat)
          rw [efw, efw2, ed, fwGo, if_pos (by simpa using hb)]
          exact r5
        · obtain ⟨hb1, hb2⟩ : isLit ns x = true ∧ ¬ nameD x ∈ (ds.take i).map nameD := by simpa using hb
          obtain ⟨y, rfl, _⟩ := lit_shape hb1
          have ex : v' = .str y := by
            rcases rx with h | ⟨h, _⟩
            · cases h; rfl
            · cases h
          cases ex
          have g4 := g'.trans (.idle g'.mh hh4)
          have ow4 := ow'.idle hh4
          refine s_app (P := Tx (nameOf y)) g4.mh rfl ow4.h (szL (by simp; omega)) (gv_call1 (gv_var rfl rfl) (hsh _ hxm)) fun v5 M5 H5 g5 r5 => ?_
          cases r5
          have ow5 := ow4.step g5
          refine ⟨M5, _, _, (g4.trans g5).mut ow5.h0 ow5.m, s1.trans g5.mm, s2.trans g5.mm, ?_, rfl, ?_⟩
          · rw [et, List.map_append, List.map_append]
            exact ow5.put
          · rw [efw2, ed, fwGo, if_neg (by simpa using hb), et, List.map_append]
            rfl
      · rintro M3 σ' M' H' sM ⟨y3, y4, g, s1, s2, ow, rfl, efw2⟩
        refine s_ret g.mh (P := fun _ v => v = .non) (gv_c rfl) fun v M' H' g3 r => q v M' H' (g.trans g3) ?_
        show v = match firstWrong ns d with | none => V.non | some i => V.int (i : Nat)
        rw [efw, efw2, List.drop_length]
        exact r
end
end My

set_option Elab.async false
set_option linter.all false
set_option maxRecDepth 100000
set_option maxHeartbeats 4000000
namespace L3
open PySem PySem.Spec PyProof.Rows L2
/-- a def that raises, by its name -/
def CalX (P : Program) (w : World) (K : PySem.W.Frag) (mg : Str → Option Value) (base : Heap) (k : Nat) (x : Str) (ps : List Str) (sp : Sp) : Prop :=
  ∃ (f : Addr) (fd : FuncData), FnOk P w K mg base (L2.CX P w) k f fd ps sp ∧ mg x = some (.ref f) ∧ PySem.W.keepIn K (.ref f) = true ∧ L2.Binds K fd ps []
theorem pe_cX {X : Cx} {W : WX} {k : Nat} {x : Str} {ps : List Str} {sp : Sp} {e : Expr} {es : List Expr} {t : TA} {p pos : Pos} (c : CalX X.prog X.w X.K X.mg X.base k x ps sp) (hr : Room k X.A) (tk : Takes X W) (ha : PA X (e :: es) t) (hg : Gl X x := by rfl)
    (hdb : (x == ("__debug__" : Str)) = false := by decide) (he : starEach (e :: es) X.env = (false, eval e X.env) :: starEach es X.env := by rfl) (hpl : (backTo pos (starEach es X.env)).any (·.1) = false := by rfl) :
    PE X (.Call (.Name x p) (e :: es) [] pos) (tCallS sp (WE W) t) :=
  let ⟨_, _, F, m, kp, b⟩ := c
  pe_callS F hr hg m kp b (fun σ => passAt tk σ) ha hdb he hpl
end L3
namespace My
open PySem PySem.Spec PyProof.Rows L2 L3
theorem name_shape (x : Str) : x = nameOf x ∨ x = ("-" : Str) ++ nameOf x := by
  obtain ⟨l, rfl⟩ : ∃ l, x = SX.S l := ⟨_, (SX.S_tl x).symm⟩
  unfold nameOf
  cases l with
  | nil => left; rw [if_neg (by decide)]
  | cons c r =>
    rw [head1, tail1]
    by_cases h : SX.S [c] = ("-" : Str)
    · right
      rw [if_pos h]
      rw [minus] at h
      have := SX.S_inj h
      cases this
      rw [neg_S]
    · left
      rw [if_neg h]
theorem fw_none {ns : List Str} : ∀ {ys met : List Str} {i : Nat}, fwGo ns (ys.map PyData.str) met i = none → (∀ y ∈ ys, nameOf y ∈ ns ∧ nameOf y ∉ met) ∧ (ys.map nameOf).Nodup
  | [], _, _, _ => ⟨fun y h => (nomatch h), List.nodup_nil⟩
  | y :: ys, met, i, h => by
    rw [List.map_cons, fwGo] at h
    split at h
    · cases h
    · rename_i hn
      obtain ⟨h1, h2⟩ := not_or.mp hn
      obtain ⟨i1, i2⟩ := fw_none h
      have hy : nameOf y ∈ ns := by simpa [isLit] using h1
      have hm : nameOf y ∉ met := h2
      refine ⟨fun z hz => ?_, ?_⟩
      · rcases List.mem_cons.mp hz with rfl | hz
        · exact ⟨hy, hm⟩
        · exact ⟨(i1 z hz).1, fun q => (i1 z hz).2 (List.mem_append_left _ q)⟩
      · rw [List.map_cons]
        refine List.nodup_cons.mpr ⟨fun q => ?_, i2⟩
        obtain ⟨z, hz, e⟩ := List.mem_map.mp q
        exact (i1 z hz).2 (List.mem_append_right _ (by rw [e]; exact List.mem_singleton.mpr rfl))
theorem fw_lits_of {ns ys : List Str} (h : fwGo ns (ys.map PyData.str) [] 0 = none) : Lits ns ys := by
  obtain ⟨h1, h2⟩ := fw_none h
  exact ⟨h2, fun y hy => ⟨nameOf y, (h1 y hy).1, name_shape y⟩⟩
theorem fw_strs {ns : List Str} : ∀ {ds : List PyData} {met : List Str} {i : Nat}, fwGo ns ds met i = none → ∃ ys : List Str, ds = ys.map .str
  | [], _, _, _ => ⟨[], rfl⟩
  | d :: ds, met, i, h => by
    rw [fwGo] at h
    split at h
    · cases h
    · rename_i hn
      obtain ⟨h1, h2⟩ := not_or.mp hn
      obtain ⟨y, rfl, _⟩ := lit_shape (d := d) (ns := ns) (by simpa using h1)
      obtain ⟨ys, rfl⟩ := fw_strs h
      exact ⟨y :: ys, rfl⟩
theorem pd_strs {R : Rl PyData} {M : Hp} (hR : ∀ x v, R (.str x) M v → v = .str x) : ∀ {ys : List Str} {vs : List V}, Pd R M (ys.map .str) vs → Pd Tx M ys vs
  | [], _, h => by cases h; exact .nil
  | y :: ys, _, h => by cases h with | cons q t => exact .cons (hR _ _ q) (pd_strs hR t)
theorem dd_str {K : PySem.W.Frag} {M : Hp} {x : Str} {v : V} (h : Dd K (.str x) M v) : v = .str x := by cases h; rfl
theorem ddf_str {K : PySem.W.Frag} {M : Hp} {x : Str} {v : V} (h : DdF K (.str x) M v) : v = .str x := by
  rcases h with h | ⟨h, _⟩
  · exact dd_str h
  · cases h
theorem sq_strs {K : PySem.W.Frag} {R : Rl PyData} {M : Hp} {ys : List Str} {v : V} (hR : ∀ x v, R (.str x) M v → v = .str x) (h : SqR K R (ys.map .str) M v) : SqR K Tx ys M v := by
  rcases h with ⟨a, vs, e, hs, hp⟩ | ⟨a, vs, e, hs, hp⟩
  · exact .inl ⟨a, vs, e, hs, pd_strs hR hp⟩
  · exact .inr ⟨a, vs, e, hs, pd_strs hR hp⟩
/-- a thing that is let by is a list or tuple of literals -/
theorem dde_strs {K : PySem.W.Frag} {ns : List Str} {d : PyData} {M : Hp} {v : V} (h : firstWrong ns d = none) (r : DdE K d M v) : ∃ ys : List Str, SqR K Tx ys M v ∧ Lits ns ys ∧ (d = .list (ys.map .str) ∨ d = .tuple (ys.map .str)) := by
  cases d with
  | list ds =>
    obtain ⟨ys, rfl⟩ := fw_strs (show fwGo ns ds [] 0 = none from h)
    refine ⟨ys, ?_, fw_lits_of h, .inl rfl⟩
    rcases r with (h | ⟨h, _⟩) | ⟨a, es, vs, h, e, hs, pd⟩
    · exact sq_strs (fun _ _ => dd_str) (dp_sqL h)
    · cases h
    · cases h
      exact .inl ⟨a, vs, e, hs, pd_strs (fun _ _ => ddf_str) pd⟩
  | tuple ds =>
    obtain ⟨ys, rfl⟩ := fw_strs (show fwGo ns ds [] 0 = none from h)
    refine ⟨ys, ?_, fw_lits_of h, .inr rfl⟩
    rcases r with (h | ⟨h, _⟩) | ⟨a, es, vs, h, e, hs, pd⟩
    · exact sq_strs (fun _ _ => dd_str) (dp_sqT h)
    · cases h
    · cases h
  | _ => cases h
section
end
end My

set_option Elab.async false
set_option linter.all false
set_option maxRecDepth 100000
set_option maxHeartbeats 4000000
namespace My
open PySem PySem.Spec PyProof.Rows L2 L3
/-! what is small enough to be shown -/
structure Sm (d : PyData) : Prop where
  sh : d.showable = true
  dp : d.depth ≤ 60
  ls : d.leavesShort 13 = true
  wt : d.weight ≤ 100000
end My

set_option Elab.async false
set_option linter.all false
set_option maxRecDepth 100000
set_option maxHeartbeats 8000000
namespace My
open PySem PySem.Spec PyProof.Rows L2 L3
open L3.Strm
/-! the state of a law without a table -/
structure Zs (S : Strm) (M H : Hp) (k : Nat) : Prop where
  mh : Same M (S.cut H)
  at_ : S.At k H
section
variable {S : Strm} {M H M' H' M0 : Hp} {k j c : Nat} {σ : Sl} {te : TE} {P : Pr} {D : Ends} {tz tb : TS} {tt : L2.TT}
theorem Zs.step (L : Zs S M H k) (g : Gr M (S.cut H) M' (S.cut H')) (a : S.At j H') : Zs S M' H' j := ⟨g.mh, a⟩
theorem Zs.plain (L : Zs S M H k) (g : Gr M H M' H') : Zs S M' H' k := L.step (lift L.mh L.at_ g) (L.at_.same g.hh)
theorem Zs.le (L : Zs S M H k) (e : j ≤ k) : Zs S M H j := ⟨L.mh, L.at_.le e⟩
theorem Zs.sub (L : Zs S M H k) (e : Same M0 M) : Zs S M0 H k := ⟨e.trans L.mh, L.at_⟩
theorem Zs.idle (L : Zs S M H k) (hh : Same H H') : Zs S M H' k := L.plain (.idle (L.mh.trans cut_same) hh)
end
/-! lists that are changed behind -/
/-- what is known, without the lists that are newer -/
def thaw (M0 M : Hp) : Hp := fun x => match M x with
  | some (.lst _) => M0 x
  | o => o
section
variable {M0 M : Hp} {x : Addr}
theorem thaw_off {o : HO} (h : M x = some o) (n : ∀ vs, o ≠ .lst vs) : thaw M0 M x = some o := by
  unfold thaw
  rw [h]
  cases o <;> first | rfl | exact absurd rfl (n _)
theorem thaw_lst {vs : List V} (h : M x = some (.lst vs)) : thaw M0 M x = M0 x := by
  unfold thaw
  rw [h]
theorem thaw_le (s : Same M0 M) : Same (thaw M0 M) M := fun y o e => by
  unfold thaw at e
  split at e
  · exact s _ _ e
  · exact e
theorem thaw_ge (s : Same M0 M) : Same M0 (thaw M0 M) := fun y o e => by
  have h := s _ _ e
  unfold thaw
  split
  · exact e
  · exact h
theorem TT.thaw {xs : List Str} {v : V} (h : TT xs M v) : TT xs (thaw M0 M) v := let ⟨a, e, r⟩ := h; ⟨a, e, thaw_off r fun _ z => (by cases z)⟩
theorem TuR.thaw {xs : List (List Str)} {v : V} (h : TuR TT xs M v) : TuR TT xs (thaw M0 M) v := let ⟨a, vs, e, r, p⟩ := h; ⟨a, vs, e, thaw_off r (fun _ z => (by cases z)), Paired.mapP p fun _ _ q => TT.thaw q⟩
end
/-- the very value -/
def EqV : Rl V := fun x _ v => v = x
instance : Mon EqV := ⟨fun _ h => h⟩
theorem pd_eqv {M : Hp} : ∀ vs : List V, Pd EqV M vs vs
  | [] => .nil
  | _ :: r => .cons rfl (pd_eqv r)
section
end
/-! what is small enough to be shown, piece by piece -/
structure SmW (k w : Nat) (d : PyData) : Prop where
  sh : d.showable = true
  dp : d.depth ≤ k
  ls : d.leavesShort 13 = true
  wt : d.weight ≤ w
structure SmA (k w : Nat) (ds : List PyData) : Prop where
  sh : PyData.showableAll ds = true
  dp : PyData.depthAll ds ≤ k
  ls : PyData.leavesShortAll 13 ds = true
  wt : PyData.weightAll ds ≤ w
theorem SmA.nil {k : Nat} : SmA k 0 [] := ⟨by simp [PyData.showableAll], by simp [PyData.depthAll], by simp [PyData.leavesShortAll], by simp [PyData.weightAll]⟩
theorem SmA.cons {k a b : Nat} {d : PyData} {ds : List PyData} (h : SmW k a d) (r : SmA k b ds) : SmA k (a + b + 1) (d :: ds) := ⟨by simp only [PyData.showableAll, h.sh, r.sh, Bool.and_self], by
  have := h.dp
  have := r.dp
  simp only [PyData.depthAll]; omega, by simp only [PyData.leavesShortAll, h.ls, r.ls, Bool.and_self], by
  have := h.wt
  have := r.wt
  simp only [PyData.weightAll]; omega⟩
theorem SmA.lst {k w : Nat} {ds : List PyData} (h : SmA k w ds) : SmW (k + 1) (w + 10) (.list ds) := ⟨by rw [PyData.showable]; exact h.sh, by
  have := h.dp
  rw [PyData.depth]; omega, by rw [PyData.leavesShort]; exact h.ls, by
  have := h.wt
  rw [PyData.weight]; omega⟩
theorem SmW.up {k w k' w' : Nat} {d : PyData} (h : SmW k w d) (hk : k ≤ k') (hw : w ≤ w') : SmW k' w' d := ⟨h.sh, Nat.le_trans h.dp hk, h.ls, Nat.le_trans h.wt hw⟩
theorem SmA.up {k w k' w' : Nat} {ds : List PyData} (h : SmA k w ds) (hk : k ≤ k') (hw : w ≤ w') : SmA k' w' ds := ⟨h.sh, Nat.le_trans h.dp hk, h.ls, Nat.le_trans h.wt hw⟩
theorem pd_to {α β : Type} {R : Rl α} {T : Rl β} {f : α → β} {M : Hp} (h : ∀ x v, R x M v → T (f x) M v) : ∀ {xs : List α} {vs : List V}, Pd R M xs vs → Pd T M (xs.map f) vs
  | [], _, p => by cases p; exact .nil
  | x :: xs, _, p => by cases p with | cons q t => exact .cons (h _ _ q) (pd_to h t)
section
variable {K : PySem.W.Frag} {σ : Sl} {M : Hp} {te : TE} {α : Type} {R : Rl α}
theorem gt_nil {ds : List PyData} (h : Gv te σ M (Dd K (.list ds))) (hd : PyData.depthAll ds ≤ 40) : GvT (tTest (tOp (rEqP K true) te (tLst tNil))) σ M (decide (ds ≠ [])) := gt_test (gv_is (gv_eq (K := K) (neg := true) (d := .list ds) (e := .list []) h gv_nilD (by simp [PyData.depth]; omega)) fun M v h => by
  rw [show v = _ from h]
  cases ds with
  | nil => simp [PyData.eqv, PyData.eqvAll]
  | cons z r => simp [PyData.eqv, PyData.eqvAll])
end
/-! a list of ours that grows, of known things -/
structure Ac {α : Type} (R : Rl α) (S : Strm) (M0 H0 : Hp) (p : Addr) (xs : List α) (M H : Hp) (k : Nat) : Prop where
  Z : Zs S M H k
  G : Gr M0 (S.cut H0) M (S.cut H)
  h0 : S.cut H0 p = none
  m : M p = none
  ex : ∃ vs, S.cut H p = some (.lst vs) ∧ Pd R M xs vs
section
variable {K : PySem.W.Frag} {α : Type} {R : Rl α} [Mon R] {S : Strm} {M0 H0 M H M' H' : Hp} {p : Addr} {xs : List α} {k j c i : Nat} {σ : Sl} {te : TE} {D : Ends} {tz : TS} {P : Pr}
theorem Ac.step (A : Ac R S M0 H0 p xs M H k) (g : Gr M (S.cut H) M' (S.cut H')) (a : S.At j H') : Ac R S M0 H0 p xs M' H' j := let ⟨vs, h, pd⟩ := A.ex; ⟨⟨g.mh, a⟩, A.G.trans g, A.h0, g.keep A.m h, vs, g.hh _ _ h, pd.mono g.mm⟩
theorem Ac.le (A : Ac R S M0 H0 p xs M H k) (e : j ≤ k) : Ac R S M0 H0 p xs M H j := ⟨A.Z.le e, A.G, A.h0, A.m, A.ex⟩
end
/-! a list that is newer than what was known -/
def NewL (M0 : Hp) {α : Type} (R : Rl α) : Rl (List α) := fun xs M v => ∃ p vs, v = .ref p ∧ M p = some (.lst vs) ∧ M0 p = none ∧ Pd R M xs vs
section
variable {K : PySem.W.Frag} {α : Type} {R : Rl α} {M0 M : Hp}
instance [Mon R] : Mon (NewL M0 R) := ⟨fun e ⟨p, vs, h1, h2, h3, h4⟩ => ⟨p, vs, h1, e _ _ h2, h3, h4.mono e⟩⟩
theorem NewL.li {xs : List α} {v : V} (h : NewL M0 R xs M v) : LiR R xs M v := let ⟨p, vs, h1, h2, _, h4⟩ := h; ⟨p, vs, h1, h2, h4⟩
theorem NewL.sq [Mon R] {xs : List α} {v : V} (h : NewL M0 R xs M v) : SqR K R xs M v := h.li.sq
end
section
end
theorem li_sqq {K : PySem.W.Frag} {cs : List (List Str)} {M : Hp} {v : V} (h : LiR (LiR Tx) cs M v) : SqR K (SqR K Tx) cs M v :=
  let ⟨a, vs, e, r, p⟩ := h
  .inl ⟨a, vs, e, .inl (.inl r), Paired.mapP p fun _ _ q => LiR.sq q⟩
section
end
end My

set_option Elab.async false
set_option linter.all false
set_option maxRecDepth 100000
set_option maxHeartbeats 4000000
namespace L3
open PySem PySem.Spec PyProof.Rows L2
/-! x not in d.values() -/
section
end
section
end
end L3

set_option Elab.async false
set_option linter.all false
set_option maxRecDepth 100000
set_option maxHeartbeats 1000000
namespace L3
open PySem PySem.Spec PyProof.Rows L2
/-! a + b of two instances by an own method -/
section
variable {X : Cx} {C : Addr} {k : Nat} {ps : List Str} {sp : Sp} {CT : CXT} {E : XK}
theorem op_add_of {f : Addr} {fd : FuncData} (F : FnOk X.prog X.w X.K X.mg X.base CT k f fd ps sp) (hs : PySem.W.findIn X.K (.ref C) "__add__" = some (some (.ref f))) (hf : PySem.W.isFn X.K (.ref f) = true) (hb : Binds X.K fd ps []) (hx : Passes CT X E)
    (hsf : PySem.W.selfFirst X.K C = true) (hr : Room k X.A) : OpR X (binaryOp .Add) (rBinO C sp E) := by
  rintro pins s σ H x y u v Q I rx ry ⟨a, b, dx, dy, fs, gs, rfl, rfl, ha, hb', q⟩
  cases (show u = Value.ref a from rx)
  cases (show v = Value.ref b from ry)
  unfold binaryOp
  refine wpAny_holding (wpAny_bind (wpAny_mono (bin_own (nm := "add") F hs hf hb hx hsf hr I ha hb' q) (fun o s' ⟨w, e, z⟩ => ?_) fun _ _ z => z))
  subst e
  exact wpAny_pure z
theorem op_addO (o : OwnSp X.prog X.w X.K X.mg X.base k C "__add__" ps sp) (hsf : PySem.W.selfFirst X.K C = true) (hr : Room k X.A) : OpR X (binaryOp .Add) (rBinO C sp E0) := let ⟨_, _, F, hs, hf, hb⟩ := o; op_add_of F hs hf hb pass0 hsf hr
end
end L3

set_option Elab.async false
set_option linter.all false
set_option maxRecDepth 100000
set_option maxHeartbeats 1000000
namespace L3
open PySem PySem.Spec PyProof.Rows L2
/-! zip of two things that stand still, each a list or a tuple -/
/-- the walk: an item of each as a new pair -/
def IzS (rd rd' : Hp → List V → Prop) : It :=
  ⟨fun i H => ∃ xs ys, rd H xs ∧ rd' H ys ∧ i < xs.length ∧ i < ys.length, fun i H v H' => ∃ p x y, v = .ref p ∧ H p = none ∧ H' = upd H p (.tup [x, y]) ∧ (∀ xs, rd H xs → xs[i]? = some x) ∧ ∀ ys, rd' H ys → ys[i]? = some y,
    fun i H => ∃ xs ys, rd H xs ∧ rd' H ys ∧ i = min xs.length ys.length⟩
theorem walk_zS {rd rd' : Hp → List V → Prop} {xs ys : List V} {n : Nat} (hn : n = min xs.length ys.length) : Walk (IzS rd rd') n (fun H => rd H xs ∧ rd' H ys) (YPair (fun i => xs[i]?) (fun i => ys[i]?)) :=
  ⟨fun _ _ hi q => ⟨xs, ys, q.1, q.2, by omega, by omega⟩, fun _ q => ⟨xs, ys, q.1, q.2, hn⟩, fun i _ _ _ _ q ⟨p, x, y, h1, h2, h3, h4, h5⟩ => ⟨p, x, y, h1, h2, h3, h4 xs q.1, h5 ys q.2⟩⟩
section
variable {P : Program} {w : World} {K : PySem.W.Frag} {a b : Addr} {o o' : Obj} {rd rd' : Hp → List V → Prop} {pt pt' : Addr → Nat → Heap → Prop} {fx fx' : List Value → Heap → Prop} {elts : List Expr} {kk : Nat} {tpos : Pos}
/-- where the five objects of the walk stand -/
structure ZiAt (pt pt' : Addr → Nat → Heap → Prop) (z TI TO i1 i2 : Addr) (i : Nat) (h : Heap) : Prop where
  z : IsZip h z TI TO .none
  its : IsTupOf2 h TI (.ref i1) (.ref i2)
  out : ∃ u v, IsTupOf2 h TO u v
  p1 : pt i1 i h
  p2 : pt' i2 i h
theorem five {α : Type} {c z TI TO i1 i2 : α} (h : c ∈ [z, TI, TO, i1, i2]) : c = z ∨ c = TI ∨ c = TO ∨ c = i1 ∨ c = i2 := by simpa using h
theorem get_val {xs : List V} {its : List Value} {i : Nat} {y : Value} (rv : Vals xs its) (hl : i < xs.length) (hy : its.toArray[i]? = some y) : ∃ x, xs[i]? = some x ∧ RelV x y := by
  obtain ⟨y', g, rr⟩ := rv.get (x := xs[i]) (List.getElem?_eq_getElem hl)
  rw [List.getElem?_toArray, g] at hy
  exact ⟨_, List.getElem?_eq_getElem hl, Option.some.inj hy ▸ rr⟩
theorem turn_zS (S : Still P w K a o rd pt fx) (S' : Still P w K b o' rd' pt' fx') {z TI TO i1 i2 : Addr} (D : ZipSep2 z TI TO i1 i2 [i1, a] [i2, b]) (n1 : a ≠ i1) (n2 : b ≠ i2) : Turn P w K (.Tuple elts kk tpos) (IzS rd rd') [z, TI, TO, i1, i2] z (ZiAt pt pt' z TI TO i1 i2) where
  mem := .head _
  obj := fun i h A c hc => by
    obtain ⟨u, v, hO⟩ := A.out
    rcases five hc with rfl | rfl | rfl | rfl | rfl
    · exact ⟨_, A.z, fun v q => nomatch q⟩
    · exact ⟨_, A.its, fun v q => nomatch q⟩
    · exact ⟨_, hO, fun v q => nomatch q⟩
    · exact S.live A.p1
    · exact S'.live A.p2
  keep := fun i h h' A k => ⟨k z (by simp) _ A.z, k TI (by simp) _ A.its, let ⟨u, v, q⟩ := A.out; ⟨u, v, k TO (by simp) _ q⟩, S.mv A.p1 (k i1 (by simp)), S'.mv A.p2 (k i2 (by simp))⟩
  self := fun A i s Q E B q => wpAny_pyIter_zip B.z q
  done := fun X e1 e2 e3 hc i pins s σ H E I hf A ⟨xs, ys, hx, hy, hi⟩ => by
    subst e1 e2
    obtain ⟨its, rv, f1⟩ := S.got e3 I hx
    obtain ⟨its', rv', f2⟩ := S'.got e3 I hy
    obtain ⟨u, v, hO⟩ := A.out
    have l1 : its.toArray.size = xs.length := by rw [List.size_toArray, ← rv.length]
    have l2 : its'.toArray.size = ys.length := by rw [List.size_toArray, ← rv'.length]
    exact wpAny_pyNext_zipD2_end D (S.dr (A := X.A.in1) its (I.ok.hd hc) n1) (S'.dr (A := X.A.in1) its' (I.ok.hd hc) n2) A.z A.its hO ⟨A.p1, f1⟩ ⟨A.p2, f2⟩ (by omega) (by omega) (by omega) fun h' tk hk =>
      ⟨rfl, I.turnedL (t' := tk) (ch := [z, TI, TO, i1, i2]) (fun c ob hb q => hk c ob (fun e => hb (by simp [e])) (fun e => hb (by simp [e])) (fun e => hb (by simp [e])) (fun e => hb (by simp [e])) q) hf⟩
  item := fun X e1 e2 e3 hc i pins s σ H E I hf A ⟨xs, ys, hx, hy, lx, ly⟩ => by
    subst e1 e2
    obtain ⟨its, rv, f1⟩ := S.got e3 I hx
    obtain ⟨its', rv', f2⟩ := S'.got e3 I hy
    obtain ⟨u, v, hO⟩ := A.out
    have l1 : i < its.toArray.size := by rw [List.size_toArray, ← rv.length]; exact lx
    have l2 : i < its'.toArray.size := by rw [List.size_toArray, ← rv'.length]; exact ly
    have below : ∀ c ∈ [z, TI, TO, i1, i2], c < s.heap.objs.size := fun c hc => by
      rcases five hc with rfl | rfl | rfl | rfl | rfl
      · exact Heap.lt_size A.z
      · exact Heap.lt_size A.its
      · exact Heap.lt_size hO
      · obtain ⟨_, q, _⟩ := S.live A.p1; exact Heap.lt_size q
      · obtain ⟨_, q, _⟩ := S'.live A.p2; exact Heap.lt_size q
    refine wpAny_pyNext_zipD2_item D (S.dr (A := X.A.in1) its (I.ok.hd hc) n1) (S'.dr (A := X.A.in1) its' (I.ok.hd hc) n2) A.z A.its hO ⟨A.p1, f1⟩ ⟨A.p2, f2⟩ l1 l2 fun y1 y2 h1 tk g1 g2 hz hO' t1 t2 new _ kp => ⟨_, rfl, ?_⟩
    refine wpAny_letOwnedTupleGo_zip (s := { s with heap := h1, toks := tk }) hz fun h2 hz2 sb => ?_
    obtain ⟨x1, e1, r1⟩ := get_val rv lx g1
    obtain ⟨x2, e2, r2⟩ := get_val rv' ly g2
    have nz : s.heap.objs.size ≠ z := Nat.ne_of_gt (below z (.head _))
    have kept : ∀ c ob, c ∉ [z, TI, TO, i1, i2] → s.heap.get? c = some ob → h2.get? c = some ob := fun c ob hb q =>
      (sb.2 c fun e => hb (by simp [e])).trans (kp c ob (fun e => hb (by simp [e])) (fun e => hb (by simp [e])) (fun e => hb (by simp [e])) (fun e => hb (by simp [e])) q)
    have J := I.turnedNew (t' := tk) (ob := .tup [x1, x2]) (ch := [z, TI, TO, i1, i2]) kept hf (Nat.le_refl _) ⟨(by show 2 ≤ sizeLine; decide), [y1, y2], .cons r1 (.cons r2 .nil), ⟨_, (sb.2 _ nz).trans new, rfl, _, rfl⟩⟩
    refine ⟨.ref s.heap.objs.size, _, J, rfl, ⟨_, x1, x2, rfl, I.hok.fresh (Nat.le_refl _), rfl, fun l hl => S.one e3 I hx hl ▸ e1, fun l hl => S'.one e3 I hy hl ▸ e2⟩, ⟨hz2, ?_, ⟨y1, y2, (sb.2 _ D.TOz).trans hO'⟩, S.mv t1.1 fun ob q => (sb.2 i1 fun e => D.zi1 e.symm).trans q, S'.mv t2.1 fun ob q => (sb.2 i2 fun e => D.zi2 e.symm).trans q⟩, fun c hc => ?_⟩
    · exact (sb.2 _ D.TIz).trans (kp _ _ D.TIz D.TITO D.TIi1 D.TIi2 A.its)
    · rw [upd_ne (Nat.ne_of_lt (below c hc))]
      exact (hf c hc).1
theorem sep5 (n a b : Nat) (ha : a < n) (hb : b < n) : ZipSep2 (n + 4) (n + 2) (n + 3) n (n + 1) [n, a] [n + 1, b] := by
  have out : ∀ x c d : Nat, x ≠ c → x ≠ d → x ∉ [c, d] := fun x c d h1 h2 h => by
    rcases List.mem_cons.mp h with e | e
    · exact h1 e
    · exact h2 (List.mem_singleton.mp e)
  have p2 : n + 2 ≠ n + 4 := by omega
  have p3 : n + 3 ≠ n + 4 := by omega
  have p4 : n + 2 ≠ n + 3 := by omega
  have p5 : n + 2 ≠ n := by omega
  have p6 : n + 2 ≠ n + 1 := by omega
  exact ⟨p2, p3, p4, p5, .head _, out _ _ _ (by omega) (by omega), out _ _ _ (by omega) (by omega), p6, .head _, out _ _ _ (by omega) (by omega), out _ _ _ (by omega) (by omega), out _ _ _ (by omega) (by omega), out _ _ _ (by omega) (by omega)⟩
theorem zi_walk {X : Cx} {pins : List (Addr × Obj)} {s : Shared} {σ : Sl} {H : Hp} {R : It → Hp → Prop} {xs ys : List V} (S : Still X.prog X.w X.K a o rd pt fx) (S' : Still X.prog X.w X.K b o' rd' pt' fx') (I : Inv X pins σ H s) (hx : rd H xs) (hy : rd' H ys) (q : R (IzS rd rd') H) :
    wpAny (model X.prog X.w) X.A (call (.type "zip") [.ref a, .ref b]) (fun v s1 => wpAny (model X.prog X.w) X.A (pyIter v) (PIE X pins σ (.Tuple elts kk tpos) R) X.xe s1) X.xe s := by
  obtain ⟨its, _, f1⟩ := S.got rfl I hx
  obtain ⟨its', _, f2⟩ := S'.got rfl I hy
  have la := S.lt f1
  have lb := S'.lt f2
  refine zip_begins2 (S.bg its) (S'.bg its') f1 f2 fun h' hz hT hO g1 g2 _ hk => wpAny_pyIter_zip hz ⟨s.heap.objs.size + 4, _, _, IzS rd rd', H, rfl, I.kept (t' := s.toks) hk, turn_zS S S' (sep5 _ _ _ la lb) (Nat.ne_of_lt la) (Nat.ne_of_lt (Nat.lt_succ_of_lt lb)), ⟨hz, hT, ⟨_, _, hO⟩, S.st g1, S'.st g2⟩, fps_new I fun c hc => ?_, q⟩
  rcases five hc with rfl | rfl | rfl | rfl | rfl <;> omega
end
/-- a list or a tuple, as it stands -/
inductive RdS (K : PySem.W.Frag) (a : Addr) : (Hp → List V → Prop) → Prop where
  | lst : RdS K a fun H xs => SqL K H a xs
  | tup : RdS K a fun H xs => SqT K H a xs
def iZipS (K : PySem.W.Frag) (ta : TA) : TI := fun σ H R => ta σ H fun vs H1 => ∃ a b rd rd' xs ys, vs = [.ref a, .ref b] ∧ RdS K a rd ∧ RdS K b rd' ∧ rd H1 xs ∧ rd' H1 ys ∧ R (IzS rd rd') H1
theorem pi_zipS {X : Cx} {e e2 : Expr} {ta : TA} {p pos tpos : Pos} {elts : List Expr} {kk : Nat} (hg : Gl X "zip") (hm : X.mg "zip" = none) (ha : PA X [e, e2] ta)
    (hs : starEach [e, e2] X.env = (false, eval e X.env) :: starEach [e2] X.env := by rfl) (hpl : (backTo pos (starEach [e2] X.env)).any (·.1) = false := by rfl) :
    PI X (.Tuple elts kk tpos) (.Call (.Name "zip" p) [e, e2] [] pos) (iZipS X.K ta) where
  run pins s σ H R I h := by
    refine Call_ (ld_blt I hg hm boot_zip (PyProof.Rows.callWith_type1 (thn (ha.run pos pins s σ H _ I h) fun us s1 z => ?_) hs hpl))
    obtain ⟨vs, H1, I1, rvs, a, b, rd, rd', xs, ys, rfl, ra, rb, hx, hy, q⟩ := z
    cases rvs with
    | cons r1 rr =>
      cases rr with
      | cons r2 rr =>
        cases rr
        cases r1
        cases r2
        cases ra <;> cases rb
        · exact zi_walk (still_lst a) (still_lst b) I1 hx hy q
        · exact zi_walk (still_lst a) (still_tup b) I1 hx hy q
        · exact zi_walk (still_tup a) (still_lst b) I1 hx hy q
        · exact zi_walk (still_tup a) (still_tup b) I1 hx hy q
section
variable {K : PySem.W.Frag} {σ : Sl} {M : Hp} {ta tb te : TE} {α β : Type} {R : Rl α} {S : Rl β}
theorem sq_rd [Mon R] {xs : List α} {M : Hp} {v : V} (h : SqR K R xs M v) : ∃ a vs rd, v = .ref a ∧ RdS K a rd ∧ (∀ M2, Same M M2 → rd M2 vs) ∧ Pd R M xs vs := by
  rcases h with ⟨a, vs, e, hs, pd⟩ | ⟨a, vs, e, hs, pd⟩
  · exact ⟨a, vs, _, e, .lst, fun M2 s => sl_mono s hs, pd⟩
  · exact ⟨a, vs, _, e, .tup, fun M2 s => st_mono s hs, pd⟩
/-- two lists or tuples of one length walked together -/
theorem gi_zipS [Mon R] [Mon S] {xs : List α} {ys : List β} (h1 : Gv ta σ M (SqR K R xs)) (h2 : Gv tb σ M (SqR K S ys)) : GvI (iZipS K (tCons ta (tCons tb tNil))) σ M (xs.zip ys) (PrR K R S) := fun H mh Q q =>
  h1 H mh _ fun v M1 H1 g1 r1 => h2.le g1.mm H1 g1.mh _ fun w M2 H2 g2 r2 => by
    obtain ⟨a, vs, rd, ev, ra, ka, pv⟩ := sq_rd (Mon.mono (R := SqR K R) g2.mm r1)
    obtain ⟨b, ws, rd', ew, rb, kb, pw⟩ := sq_rd r2
    subst ev ew
    have len : (xs.zip ys).length = min vs.length ws.length := by rw [List.length_zip, pv.length, pw.length]
    refine ⟨a, b, rd, rd', vs, ws, rfl, ra, rb, ka _ g2.mh, kb _ g2.mh, q _ M2 H2 (g1.trans g2) ⟨_, _, walk_zS (xs := vs) (ys := ws) len, fun M3 H3 s1 s2 => ⟨ka _ (s1.trans s2), kb _ (s1.trans s2)⟩, ?_⟩⟩
    rintro i M3 H3 z H4 s1 s2 hi ⟨p, x1, x2, rfl, np, rfl, e1, e2⟩
    obtain ⟨x, hx, rx⟩ := pd_get' pv e1
    obtain ⟨y, hy, ry⟩ := pd_get' pw e2
    have up : Same M2 (upd M3 p (.tup [x1, x2])) := s1.trans (same_new (s2.free np))
    exact ⟨(x, y), upd M3 p (.tup [x1, x2]), List.getElem?_zip_eq_some.mpr ⟨hx, hy⟩, .new s2 np, p, _, _, rfl, .inl (.inl upd_same), Mon.mono (M' := upd M3 p (.tup [x1, x2])) up rx, Mon.mono up ry⟩
end
end L3

set_option Elab.async false
set_option linter.all false
set_option maxRecDepth 100000
set_option maxHeartbeats 1000000
namespace L3
open PySem PySem.Spec PyProof.Rows L2 SeqAt
/-! data at any depth, among which empty dicts may stand anywhere -/
mutual
inductive Dx (K : PySem.W.Frag) (M : Hp) : V → PyData → Prop
  | non : Dx K M .non .none
  | bl (b : Bool) : Dx K M (.bl b) (.bool b)
  | int (i : Int) : Dx K M (.int i) (.int i)
  | str (x : Str) : Dx K M (.str x) (.str x)
  | dct {a : Addr} : M a = some (.dK []) → Dx K M (.ref a) (.dict [])
  | lst {a : Addr} {xs : List V} {ds : List PyData} : SqL K M a xs → DxAll K M xs ds → Dx K M (.ref a) (.list ds)
  | tup {a : Addr} {xs : List V} {ds : List PyData} : SqT K M a xs → DxAll K M xs ds → Dx K M (.ref a) (.tuple ds)
inductive DxAll (K : PySem.W.Frag) (M : Hp) : List V → List PyData → Prop
  | nil : DxAll K M [] []
  | cons {v : V} {vs : List V} {d : PyData} {ds : List PyData} : Dx K M v d → DxAll K M vs ds → DxAll K M (v :: vs) (d :: ds)
end
mutual
theorem dx_mono {K : PySem.W.Frag} {M M' : Hp} (e : Same M M') : ∀ {v : V} {d : PyData}, Dx K M v d → Dx K M' v d
  | _, _, .non => .non
  | _, _, .bl b => .bl b
  | _, _, .int i => .int i
  | _, _, .str x => .str x
  | _, _, .dct h => .dct (e _ _ h)
  | _, _, .lst hs ha => .lst (sl_mono e hs) (dxa_mono e ha)
  | _, _, .tup hs ha => .tup (st_mono e hs) (dxa_mono e ha)
theorem dxa_mono {K : PySem.W.Frag} {M M' : Hp} (e : Same M M') : ∀ {vs : List V} {ds : List PyData}, DxAll K M vs ds → DxAll K M' vs ds
  | _, _, .nil => .nil
  | _, _, .cons h t => .cons (dx_mono e h) (dxa_mono e t)
end
mutual
theorem dx_of {K : PySem.W.Frag} {M : Hp} : ∀ {v : V} {d : PyData}, Dp K M v d → Dx K M v d
  | _, _, .non => .non
  | _, _, .bl b => .bl b
  | _, _, .int i => .int i
  | _, _, .str x => .str x
  | _, _, .lst hs ha => .lst hs (dxa_of ha)
  | _, _, .tup hs ha => .tup hs (dxa_of ha)
theorem dxa_of {K : PySem.W.Frag} {M : Hp} : ∀ {vs : List V} {ds : List PyData}, DpAll K M vs ds → DxAll K M vs ds
  | _, _, .nil => .nil
  | _, _, .cons h t => .cons (dx_of h) (dxa_of t)
end
abbrev DxR (K : PySem.W.Frag) : Rl PyData := fun d M v => Dx K M v d
instance {K : PySem.W.Frag} : Mon (DxR K) := ⟨fun e h => dx_mono e h⟩
section
end
section
end
section
end
end L3

set_option Elab.async false
set_option linter.all false
set_option maxRecDepth 100000
set_option maxHeartbeats 8000000
namespace L3
open PySem PySem.Spec PyProof.Rows L2
section
end
end L3
namespace My
open PySem PySem.Spec PyProof.Rows L2 L3
structure RuleP (a : RuleD) : Prop where
  s : Shorts a.names
  n : a.names.length ≤ 1000
  k : a.allowed.length ≤ 1000000
section
end
end My

set_option Elab.async false
set_option linter.all false
set_option maxRecDepth 100000
set_option maxHeartbeats 8000000
namespace My
open PySem PySem.Spec PyProof.Rows L2 L3
/-! a code that is asked: what it has, what lies in it, whether it is another one -/
structure CodeP (c : CodeD) : Prop where
  nm : NmL c.names
  l : ∀ x ∈ c.clauses, Lits c.names x
  n : c.names.length ≤ 100
  k : c.clauses.length ≤ 1000
theorem CodeP.len {c : CodeD} (X : CodeP c) : ∀ x ∈ c.clauses, x.length ≤ 100 := fun x hx => Nat.le_trans (lits_len (X.l x hx) X.nm) X.n
theorem CodeP.sh {c : CodeD} (X : CodeP c) : ∀ x ∈ c.clauses, shortL (.tuple (x.map .str)) := fun x hx => ⟨by rw [List.length_map]; have := X.len x hx; omega, fun d hd => by
  obtain ⟨y, hy, rfl⟩ := List.mem_map.mp hd
  exact Nat.le_trans (lits_short (X.l x hx) X.nm y hy) (by decide)⟩
theorem inst_code {C : Addr} (c : CodeD) : ∀ (M : Hp) (v : V), CodeR C c M v → ∃ a dx fs, v = .ref a ∧ M a = some (.ins C dx fs) := fun M v ⟨a, dx, va, vb, vn, vc, e, h, _⟩ => ⟨a, dx, _, e, h⟩
theorem gv_mkCode {K : PySem.W.Frag} {σ : Sl} {M : Hp} {t1 t2 t3 : TE} {C : Addr} {ss hs : List Str} {cs : List (List Str)} (h1 : Gv t1 σ M (SqR K Tx ss)) (h2 : Gv t2 σ M (SqR K (SqR K Tx) cs)) (h3 : Gv t3 σ M (SqR K Tx hs)) (ok : CodeOk ss hs cs) : Gv (tMake C (sp_Code_init K C) [] E0 (tCons t1 (tCons t2 (tCons t3 tNil)))) σ M (CodeR C (mkCode ss hs cs)) := fun H mh Q q =>
  h1 H mh _ fun v1 M1 H1 g1 q1 => h2.le g1.mm H1 g1.mh _ fun v2 M2 H2 g2 q2 => h3.le (g1.mm.trans g2.mm) H2 g2.mh _ fun v3 M3 H3 g3 q3 x dx hx hdx hne => by
    have m3 := g3.mh
    have gN : Gr M3 H3 M3 (upd (upd H3 dx (.own x)) x (.ins C dx [])) := (Gr.own m3 hdx).trans (.own (m3.trans (same_new hdx)) (by rw [upd_ne (Ne.symm hne)]; exact hx))
    exact ⟨ss, hs, cs, M3, H3, x, dx, v1, v2, v3, rfl, gN, hx, m3.free hx, upd_same, Mon.mono (g2.mm.trans g3.mm) q1, Mon.mono g3.mm q2, q3, ok, fun M' H' g r => ⟨rfl, q _ M' H' (((g1.trans g2).trans g3).trans g) r⟩⟩
def sameN (xs ys : List Str) : Bool := decide (xs.length = ys.length) && xs.all fun x => decide (x ∈ ys)
def strsOf (ds : List PyData) : List Str := ds.filterMap fun d => match d with | .str x => some x | _ => none
theorem strs_map (xs : List Str) : strsOf (xs.map PyData.str) = xs := by
  unfold strsOf
  rw [List.filterMap_map]
  induction xs with
  | nil => rfl
  | cons x xs ih => rw [List.filterMap_cons]; exact congrArg (x :: ·) ih
def inD (c : CodeD) (d : PyData) : Bool := decide (firstWrong c.names d = none) && decide (asc (strsOf (itemsD d)) c.names ∈ c.clauses)
def eqC (a b : CodeD) : Bool := decide (a.clauses.length = b.clauses.length) && (sameN a.signs b.signs && (sameN a.helpers b.helpers && a.clauses.all fun x => inD b (.tuple (x.map .str))))
section
variable {P : Program} {w : World} {K : PySem.W.Frag} {mg : Str → Option Value} {base : Heap}
abbrev s_Code_signs : Stmt := inClass (topS 34) 1
theorem sc_Code_signs : FnScope ["self"] ["self"] (defScope s_Code_signs) := ⟨rfl, rfl, rfl, by decide +kernel, rfl, by decide +kernel, by decide +kernel⟩
def sp_Code_signs (K : PySem.W.Frag) (C : Addr) : Sp := sp1 (CodeR C) (fun _ => True) fun c => LiR Tx c.signs
theorem ok_Code_signs {f C : Addr} {fd : FuncData} (F : Fun K "signs" "Code.signs" s_Code_signs f fd) (T : Gc mg) (TC : CodeT K mg C) : FnOk P w K mg base CX0 1 f fd ["self"] (sp_Code_signs K C) := by
  refine F.ok sc_Code_signs (fun vs H Q E h => ?_) (fun cdv A outer s H vs Q E hr h => ?_)
  · obtain ⟨x, M, v, rfl, _⟩ := h
    rfl
  · obtain ⟨c, M, v, rfl, mh, r1, _, q⟩ := h
    have hu := hr.units
    refine ⟨_, (pss_one (ps_ret (pe_callTy call_lstA (by rfl) T.list boot_list (pa_cons (pe_fld (pv 0) rfl) pa_nil)))), ?_⟩
    exact s_ret mh (gl_lstOf (K := K) (R1 := Tx) (gv_is (gv_sign TC (gv_var rfl r1)) fun _ _ h => h.sq)).li q
abbrev s_Code_helpers : Stmt := inClass (topS 34) 2
theorem sc_Code_helpers : FnScope ["self"] ["self"] (defScope s_Code_helpers) := ⟨rfl, rfl, rfl, by decide +kernel, rfl, by decide +kernel, by decide +kernel⟩
def sp_Code_helpers (K : PySem.W.Frag) (C : Addr) : Sp := sp1 (CodeR C) (fun _ => True) fun c => LiR Tx c.helpers
theorem ok_Code_helpers {f C : Addr} {fd : FuncData} (F : Fun K "helpers" "Code.helpers" s_Code_helpers f fd) (T : Gc mg) (TC : CodeT K mg C) : FnOk P w K mg base CX0 1 f fd ["self"] (sp_Code_helpers K C) := by
  refine F.ok sc_Code_helpers (fun vs H Q E h => ?_) (fun cdv A outer s H vs Q E hr h => ?_)
  · obtain ⟨x, M, v, rfl, _⟩ := h
    rfl
  · obtain ⟨c, M, v, rfl, mh, r1, _, q⟩ := h
    have hu := hr.units
    refine ⟨_, (pss_one (ps_ret (pe_callTy call_lstA (by rfl) T.list boot_list (pa_cons (pe_fld (pv 0) rfl) pa_nil)))), ?_⟩
    exact s_ret mh (gl_lstOf (K := K) (R1 := Tx) (gv_is (gv_helper TC (gv_var rfl r1)) fun _ _ h => h.sq)).li q
abbrev s_Code_clauses : Stmt := inClass (topS 34) 3
theorem sc_Code_clauses : FnScope ["self"] ["self"] (defScope s_Code_clauses) := ⟨rfl, rfl, rfl, by decide +kernel, rfl, by decide +kernel, by decide +kernel⟩
def sp_Code_clauses (K : PySem.W.Frag) (C : Addr) : Sp := sp1 (CodeR C) (fun _ => True) fun c => LiR TT c.clauses
theorem ok_Code_clauses {f C : Addr} {fd : FuncData} (F : Fun K "clauses" "Code.clauses" s_Code_clauses f fd) (T : Gc mg) (TC : CodeT K mg C) : FnOk P w K mg base CX0 1 f fd ["self"] (sp_Code_clauses K C) := by
  refine F.ok sc_Code_clauses (fun vs H Q E h => ?_) (fun cdv A outer s H vs Q E hr h => ?_)
  · obtain ⟨x, M, v, rfl, _⟩ := h
    rfl
  · obtain ⟨c, M, v, rfl, mh, r1, _, q⟩ := h
    have hu := hr.units
    refine ⟨_, (pss_one (ps_ret (pe_callTy call_lstA (by rfl) T.list boot_list (pa_cons (pe_fld (pv 0) rfl) pa_nil)))), ?_⟩
    exact s_ret mh (gl_lstOf (K := K) (R1 := TT) (gv_is (gv_clause TC (gv_var rfl r1)) fun _ _ h => h.sq)).li q
theorem gv_clauses {σ : Sl} {M : Hp} {C : Addr} {c : CodeD} {te : TE} (h : Gv te σ M (CodeR C c)) : Gv (tMeth C "clauses" (sp_Code_clauses K C) [] E0 te tNil) σ M (LiR TT c.clauses) :=
  gv_met1 (R1 := CodeR C) (pre := fun _ => True) (R := fun c => LiR TT c.clauses) (x := c) (insR_code (by decide +kernel) (by decide +kernel) (by decide +kernel) (by decide +kernel)) h trivial
theorem gv_signsM {σ : Sl} {M : Hp} {C : Addr} {c : CodeD} {te : TE} (h : Gv te σ M (CodeR C c)) : Gv (tMeth C "signs" (sp_Code_signs K C) [] E0 te tNil) σ M (LiR Tx c.signs) :=
  gv_met1 (R1 := CodeR C) (pre := fun _ => True) (R := fun c => LiR Tx c.signs) (x := c) (insR_code (by decide +kernel) (by decide +kernel) (by decide +kernel) (by decide +kernel)) h trivial
theorem gv_helpersM {σ : Sl} {M : Hp} {C : Addr} {c : CodeD} {te : TE} (h : Gv te σ M (CodeR C c)) : Gv (tMeth C "helpers" (sp_Code_helpers K C) [] E0 te tNil) σ M (LiR Tx c.helpers) :=
  gv_met1 (R1 := CodeR C) (pre := fun _ => True) (R := fun c => LiR Tx c.helpers) (x := c) (insR_code (by decide +kernel) (by decide +kernel) (by decide +kernel) (by decide +kernel)) h trivial
abbrev s_are_same : Stmt := topS 35
theorem sc_are_same : FnScope ["names", "others", "name"] ["names", "others"] (defScope s_are_same) := ⟨rfl, rfl, rfl, by decide +kernel, rfl, by decide +kernel, by decide +kernel⟩
def sp_are_same (K : PySem.W.Frag) : Sp := sp2 (SqR K Tx) (SqR K Tx) (fun xs _ => xs.length ≤ 1000000) fun xs ys => Bl (sameN xs ys)
theorem ok_are_same {f : Addr} {fd : FuncData} (F : Fun K "are_same" "are_same" s_are_same f fd) (T : Gc mg) : FnOk P w K mg base CX0 1 f fd ["names", "others"] (sp_are_same K) := by
  refine F.ok sc_are_same (fun vs H Q E h => ?_) (fun cdv A outer s H vs Q E hr h => ?_)
  · obtain ⟨x, y, M, v, w, rfl, _⟩ := h
    rfl
  · obtain ⟨xs, ys, M, v, w, rfl, mh, r1, r2, hl, q⟩ := h
    have hu := hr.units
    refine ⟨_, (pss_one (ps_ret (pe_and (pe_cmpR (op_eqP hu) (pe_callB call_lenA (by rfl) T.len boot_len (pa_cons (pv 0) pa_nil)) (pe_callB call_lenA (by rfl) T.len boot_len (pa_cons (pv 1) pa_nil)) (nomark _)) (pe_one (pe_callB (cr_all rfl) (by rfl) T.all boot_all (pa_cons (pe_lc (own := [("name", 2)]) (g := (gName 2)) (tt := tYes) (te := (tOp (rInA K false) (tVar 2) (tVar 1))) (by rfl) sc_are_same.nd (pi_sq (pv 0)) (blkOk_by (by rfl)) (fun _ _ _ _ _ => (pg_name (i := 2) sc_are_same.nd rfl (by first | exact .inl rfl | exact .inr rfl))) (fun _ _ _ _ _ => pts_nil) (fun _ _ _ _ _ => (pe_cmpR (op_inA hu) (pv 2) (pv 1) (by rfl)))) pa_nil)))))), ?_⟩
    refine s_ret mh (gv_is (gv_andV (b := decide (xs.length = ys.length)) (c := xs.all fun x => decide (x ∈ ys)) (gv_is (gv_eqT (K := K) (neg := false) (x := (xs.length : Int)) (y := (ys.length : Int)) py_int inj_int (gv_lenA (K := K) (R := Tx) (gv_var rfl r1)) (gv_lenA (K := K) (R := Tx) (gv_var rfl r2)) (by simp [PyData.depth])) fun M v h => by
      rw [show v = _ from h]; show V.bl _ = V.bl _; congr 1; simp [Int.ofNat_inj]) fun _ => gv_is (gv_all (K := K) (gl_m1 (S := Bl) (R := Tx) (xs := xs) (gi_sq (K := K) (gv_var rfl r1)) (szK hl) (fun x => decide (x ∈ ys)) fun x _ M1 u sm ru => gv_is (gv_inA (K := K) (neg := false) (gv_var rfl ru) (gv_var rfl (.inl (Mon.mono sm r2)))) fun M v h => by simpa using h)) fun M v h => by rw [show v = _ from h, List.all_map]; rfl) fun M v h => h) q
abbrev s_Code_contains : Stmt := inClass (topS 34) 6
theorem sc_Code_contains : FnScope ["self", "thing"] ["self", "thing"] (defScope s_Code_contains) := ⟨rfl, rfl, rfl, by decide +kernel, rfl, by decide +kernel, by decide +kernel⟩
def sp_Code_containsE (K : PySem.W.Frag) (C : Addr) : Sp := sp2 (CodeR C) (DdE K) (fun c d => Shorts c.names ∧ shortL d) fun c d => Bl (inD c d)
theorem ok_Code_containsE {f C : Addr} {fd : FuncData} (F : Fun K "__contains__" "Code.__contains__" s_Code_contains f fd) (TC : CodeT K mg C) (c_first_wrong : Cal P w K mg base 3 "first_wrong" ["things", "names"] (sp_first_wrongE K)) (c_ascending : Cal P w K mg base 1 "ascending" ["literals", "names"] (sp_ascending K)) : FnOk P w K mg base CX0 4 f fd ["self", "thing"] (sp_Code_containsE K C) := by
  refine F.ok sc_Code_contains (fun vs H Q E h => ?_) (fun cdv A outer s H vs Q E hr h => ?_)
  · obtain ⟨x, y, M, v, w, rfl, _⟩ := h
    rfl
  · obtain ⟨c, d, M, v, w, rfl, mh, r1, r2, ⟨hs, hd⟩, q⟩ := h
    have hu := hr.units
    refine ⟨_, (pss_one (ps_ret (pe_and (pe_cmp (pc_isN (pe_f c_first_wrong (hr.mono (by decide)) (pa_cons (pv 1) (pa_cons (pe_fld (pv 0) rfl) pa_nil))))) (pe_one (pe_cmpR (op_inA hu) (pe_f c_ascending (hr.mono (by decide)) (pa_cons (pv 1) (pa_cons (pe_fld (pv 0) rfl) pa_nil))) (pe_fld (pv 0) rfl) (by rfl)))))), ?_⟩
    refine s_ret mh (gv_andV (b := decide (firstWrong c.names d = none)) (c := decide (asc (strsOf (itemsD d)) c.names ∈ c.clauses)) (gv_isN (b := decide (firstWrong c.names d = none)) (gv_call2 (R1 := DdE K) (R2 := SqR K Tx) (pre := fun d _ => shortL d) (R := fun d ns => OpN (firstWrong ns d)) (x := d) (y := c.names) (gv_var rfl r2) (gv_is (gv_names TC (gv_var rfl r1)) fun _ _ h => h.sq) hd) fun M v h => ?_) fun hb => ?_) q
    · have h : OpN (firstWrong c.names d) M v := h
      revert h
      cases firstWrong c.names d with
      | none => intro h; cases (show v = .non from h); rfl
      | some i => intro h; cases (show v = .int _ from h); rfl
    · obtain ⟨ys, ry, Ly, ed⟩ := dde_strs (of_decide_eq_true hb) r2
      have e : strsOf (itemsD d) = ys := by
        rcases ed with e | e <;> rw [e] <;> exact strs_map ys
      rw [e]
      exact gv_is (gv_inD (K := K) (R := TT) (neg := false) py_TT inj_TT (gv_call2 (R1 := CtR K) (R2 := SqR K Tx) (pre := fun _ ns => Shorts ns) (R := fun ls ns => TT (asc ls ns)) (x := ys) (y := c.names) (gv_var rfl (.inl ry)) (gv_is (gv_names TC (gv_var rfl r1)) fun _ _ h => h.sq) hs) (gv_is (gv_clause TC (gv_var rfl r1)) fun _ _ h => h.sq) (by simp [PyData.depth, depthS])) fun M v h => by rw [show v = _ from h]; show V.bl _ = V.bl _; congr 1; simp
abbrev s_Code_eq : Stmt := inClass (topS 34) 7
theorem sc_Code_eq : FnScope ["self", "other", "clause"] ["self", "other"] (defScope s_Code_eq) := ⟨rfl, rfl, rfl, by decide +kernel, rfl, by decide +kernel, by decide +kernel⟩
def sp_Code_eq (K : PySem.W.Frag) (C : Addr) : Sp := sp2 (CodeR C) (CodeR C) (fun a b => CodeP a ∧ CodeP b) fun a b => Bl (eqC a b)
theorem ok_Code_eq {f C : Addr} {fd : FuncData} (F : Fun K "__eq__" "Code.__eq__" s_Code_eq f fd) (T : Gc mg) (TC : CodeT K mg C) (IC : InsF K C) (g_Code : mg "Code" = some (.ref C)) (o_len : OwnLen P w K mg base 1 C (sp_Code_len K C)) (o_in : OwnSp P w K mg base 4 C "__contains__" ["self", "thing"] (sp_Code_containsE K C)) (c_are_same : Cal P w K mg base 1 "are_same" ["names", "others"] (sp_are_same K)) : FnOk P w K mg base CX0 5 f fd ["self", "other"] (sp_Code_eq K C) := by
  refine F.ok sc_Code_eq (fun vs H Q E h => ?_) (fun cdv A outer s H vs Q E hr h => ?_)
  · obtain ⟨x, y, M, v, w, rfl, _⟩ := h
    rfl
  · obtain ⟨a, b, M, v, w, rfl, mh, r1, r2, ⟨XA, XB⟩, q⟩ := h
    have hu := hr.units
    refine ⟨_, (pss_cons (ps_if (PW.pt (pw_or (pt_not (pt_val (pe_callB call_isi (by rfl) T.isinstance boot_isinstance (pa_cons (pv 1) (pa_cons (pe_glob (v := .ref C) (by rfl) g_Code rfl) pa_nil))))) (pw_or1 (pt_cmpR (op_neP hu) (pe_callB (call_lenO o_len (hr.mono (by decide))) (by rfl) T.len boot_len (pa_cons (pv 0) pa_nil)) (pe_callB (call_lenO o_len (hr.mono (by decide))) (by rfl) T.len boot_len (pa_cons (pv 1) pa_nil)) (nomark _))))) (pss_one (ps_ret pe_bl)) pss_nil)
      (pss_cons (ps_if (PW.pt (pw_or (pt_not (pt_val (pe_f c_are_same (hr.mono (by decide)) (pa_cons (pe_fld (pv 0) rfl) (pa_cons (pe_fld (pv 1) rfl) pa_nil))))) (pw_or1 (pt_not (pt_val (pe_f c_are_same (hr.mono (by decide)) (pa_cons (pe_fld (pv 0) rfl) (pa_cons (pe_fld (pv 1) rfl) pa_nil)))))))) (pss_one (ps_ret pe_bl)) pss_nil)
      (pss_one (ps_ret (pe_callB (cr_all rfl) (by rfl) T.all boot_all (pa_cons (pe_lc (own := [("clause", 2)]) (g := (gName 2)) (tt := tYes) (te := (tOp (rInO C (sp_Code_containsE K C) false) (tVar 2) (tVar 1))) (by rfl) sc_Code_eq.nd (pi_sq (pe_fld (pv 0) rfl)) (blkOk_by (by rfl)) (fun _ _ _ _ _ => (pg_name (i := 2) sc_Code_eq.nd rfl (by first | exact .inl rfl | exact .inr rfl))) (fun _ _ _ _ _ => pts_nil) (fun _ _ _ _ _ => (pe_cmpR (op_inO o_in (hr.mono (by decide))) (pv 2) (pv 1) (by rfl)))) pa_nil)))))), ?_⟩
    have ka := XA.k
    have kb := XB.k
    have na : a.names.length = a.signs.length + a.helpers.length := List.length_append
    have nn := XA.n
    have glen : ∀ {σ' : Sl} {te : TE} {d : CodeD}, d.clauses.length ≤ 1000 → Gv te σ' M (CodeR C d) → Gv (tCB (rLenO C (sp_Code_len K C)) (tCons te tNil)) σ' M (It' (d.clauses.length : Nat)) := fun hk h => gv_lenO (R1 := CodeR C) (pre := fun _ => True) (R := fun c => It' (c.clauses.length : Nat)) h (fun M v r => inst_code _ M v r) trivial (by omega) fun _ _ r => r
    have gsame : ∀ {σ' : Sl} {M' : Hp} {t1 t2 : TE} {xs ys : List Str}, xs.length ≤ 1000000 → Gv t1 σ' M' (TT xs) → Gv t2 σ' M' (TT ys) → Gv (tCall (sp_are_same K) [] E0 (tCons t1 (tCons t2 tNil))) σ' M' (Bl (sameN xs ys)) := fun hl h1 h2 => gv_call2 (R1 := SqR K Tx) (R2 := SqR K Tx) (pre := fun xs _ => xs.length ≤ 1000000) (R := fun xs ys => Bl (sameN xs ys)) (gv_is h1 fun _ _ h => h.sq) (gv_is h2 fun _ _ h => h.sq) hl
    have fin : ∀ (z : V) (M' H' : Hp) (e : Bool), Gr M H M' H' → z = .bl e → e = eqC a b → Q z H' := fun z M' H' e g hz he => q z M' H' g (by rw [hz, he])
    refine q_if0 (b := !decide (a.clauses.length = b.clauses.length)) mh (gt_is (gt_or (b := false) (c := !decide (a.clauses.length = b.clauses.length)) (gt_is (gt_not (gt_B (gv_isC (K := K) IC (gv_var (P := CodeR C b) rfl r2) (inst_code b)))) rfl) fun _ => gt_is (gt_test (gv_eqT (K := K) (neg := true) (x := (a.clauses.length : Int)) (y := (b.clauses.length : Int)) py_int inj_int (glen ka (gv_var rfl r1)) (glen kb (gv_var rfl r2)) (by simp [PyData.depth]))) (by simp [Int.ofNat_inj])) (by simp)) (fun hb H1 hh1 => ?_) fun hb H1 hh1 => ?_
    · exact s_ret (P := Bl false) (mh.trans hh1) (gv_c rfl) fun z M' H' g r => fin z M' H' false (.trans (.idle mh hh1) g) r (by unfold eqC; rw [show decide (a.clauses.length = b.clauses.length) = false by simpa using hb]; rfl)
    have e0 : decide (a.clauses.length = b.clauses.length) = true := by simpa using hb
    have G1 : Gr M H M H1 := .idle mh hh1
    refine q_if0 (b := !sameN a.signs b.signs || !sameN a.helpers b.helpers) G1.mh (gt_or (b := !sameN a.signs b.signs) (c := !sameN a.helpers b.helpers) (gt_not (gt_B (gsame (by omega) (gv_sign TC (gv_var rfl r1)) (gv_sign TC (gv_var rfl r2))))) fun _ => gt_not (gt_B (gsame (by omega) (gv_helper TC (gv_var rfl r1)) (gv_helper TC (gv_var rfl r2))))) (fun hb H2 hh2 => ?_) fun hb H2 hh2 => ?_
    · refine s_ret (P := Bl false) (G1.mh.trans hh2) (gv_c rfl) fun z M' H' g r => fin z M' H' false ((G1.trans (.idle G1.mh hh2)).trans g) r ?_
      unfold eqC
      rw [e0]
      revert hb
      cases sameN a.signs b.signs <;> cases sameN a.helpers b.helpers <;> simp
    have G2 := G1.trans (.idle G1.mh hh2)
    refine s_ret G2.mh (gv_all (K := K) (gl_m1 (S := Bl) (R := TT) (xs := a.clauses) (gi_sq (K := K) (gv_is (gv_clause TC (gv_var rfl r1)) fun _ _ h => h.sq)) (szK (by omega)) (fun x => inD b (.tuple (x.map .str))) fun x hx M1 u sm ru => gv_is (gv_inO (R1 := CodeR C) (R2 := DdE K) (pre := fun c d => Shorts c.names ∧ shortL d) (B := inD) (x := b) (y := .tuple (x.map .str)) (neg := false) (gv_is (gv_var rfl ru) fun M v h => .inl (.inl (py_TT _ _ _ h))) (gv_var rfl (Mon.mono sm r2)) (inst_code b) ⟨nm_shorts XB.nm, XA.sh x hx⟩) fun M v h => by simpa using h)) fun z M' H' g r => fin z M' H' _ (G2.trans g) r ?_
    unfold eqC
    rw [e0]
    revert hb
    cases sameN a.signs b.signs <;> cases sameN a.helpers b.helpers <;> simp [List.all_map, Function.comp_def]
end
end My

set_option Elab.async false
set_option linter.all false
set_option maxRecDepth 100000
set_option maxHeartbeats 8000000
namespace My
open PySem PySem.Spec PyProof.Rows L2 L3
/-! codes that are asked, more, less, put together -/
theorem ref_code {C : Addr} (c : CodeD) : ∀ (M : Hp) (v : V), CodeR C c M v → ∃ p, v = .ref p := fun M v h => let ⟨a, _, _, e, _⟩ := inst_code c M v h; ⟨a, e⟩
structure CG (c : CodeD) : Prop where
  nm : NmL c.names
  l : ∀ x ∈ c.clauses, Lits c.names x
  n : c.names.length ≤ 100
  k : c.clauses.length ≤ 1000
  nf : Nf c
theorem CG.made {c : CodeD} (g : CG c) : mkCode c.signs c.helpers c.clauses = c := g.nf.made
theorem code_ok {ss hs : List Str} {cs : List (List Str)} (nm : NmL (ss ++ hs)) (n : (ss ++ hs).length ≤ 100) (l : ∀ x ∈ cs, Lits (ss ++ hs) x) (k : cs.length ≤ 1000) : CodeOk ss hs cs ∧ CG (mkCode ss hs cs) := by
  have hl : (ss ++ hs).length = ss.length + hs.length := List.length_append
  obtain ⟨n1, n2, n3⟩ := List.nodup_append.mp nm.nd
  refine ⟨⟨⟨n1, fun x hx => ⟨nm.nm x (List.mem_append_left _ hx), fun h => by cases h⟩, by omega⟩, ⟨n2, fun x hx => ⟨nm.nm x (List.mem_append_right _ hx), fun h => n3 x h x hx rfl⟩, by omega⟩, by omega, fun x hx => clOk_lits nm (l x hx), by omega⟩, nm, fun x hx => ?_, n, ?_, ⟨fun x hx => ?_, once_nodup _⟩⟩
  · obtain ⟨d, hd, rfl⟩ := List.mem_map.mp (mem_once.mp (show x ∈ once (cs.map fun d => asc d (ss ++ hs)) from hx))
    exact (l d hd).asc nm
  · exact Nat.le_trans (once_len2 _) (by rw [List.length_map]; exact k)
  · obtain ⟨d, hd, rfl⟩ := List.mem_map.mp (mem_once.mp (show x ∈ once (cs.map fun d => asc d (ss ++ hs)) from hx))
    exact asc_asc _ _
theorem tu_sqq {K : PySem.W.Frag} {cs : List (List Str)} {M : Hp} {v : V} (h : TuR TT cs M v) : SqR K (SqR K Tx) cs M v :=
  let ⟨a, vs, e, r, p⟩ := h
  .inr ⟨a, vs, e, .inl (.inl r), Paired.mapP p fun _ _ q => TT.sq q⟩
theorem tx_new {K : PySem.W.Frag} {σ : Sl} {M : Hp} {te : TE} {xs : List Str} (h : Gv te σ M (LiR Tx xs)) : Gv (tCB (rTupOf K) (tCons te tNil)) σ M (TT xs) := gv_cb1 h fun M' v ⟨a, vs, e, r, pd⟩ H mh Q q => ⟨a, vs, by rw [e], .inl ⟨.inl (.inl (mh _ _ r)), fun l nl => q (.ref l) _ _ (.new mh nl) ⟨l, rfl, by rw [upd_same, pd_tx pd]⟩⟩⟩
/-! two codes put together -/
def addD (c d : CodeD) : CodeD := mkCode (c.signs ++ d.signs.filter fun n => decide (n ∉ c.signs)) (c.helpers ++ d.helpers) (c.clauses ++ d.clauses)
def clash (c d : CodeD) : Option Str := ((c.helpers.filter fun n => decide (n ∈ d.names)) ++ d.helpers.filter fun n => decide (n ∈ c.names)).head?
structure AddPre (c d : CodeD) : Prop where
  C : CG c
  D : CG d
  n1 : c.names.length ≤ 40
  n2 : d.names.length ≤ 40
  k1 : c.clauses.length ≤ 400
  k2 : d.clauses.length ≤ 400
theorem no_clash {c d : CodeD} (h : clash c d = none) : (∀ n ∈ c.helpers, n ∉ d.names) ∧ ∀ n ∈ d.helpers, n ∉ c.names := by
  unfold clash at h
  rw [List.head?_eq_none_iff, List.append_eq_nil_iff, List.filter_eq_nil_iff, List.filter_eq_nil_iff] at h
  exact ⟨fun n hn hd => h.1 n hn (decide_eq_true hd), fun n hn hd => h.2 n hn (decide_eq_true hd)⟩
theorem mem_addN {c d : CodeD} {n : Str} : n ∈ (addD c d).names ↔ n ∈ c.names ∨ n ∈ d.names := by
  show n ∈ (c.signs ++ d.signs.filter fun n => decide (n ∉ c.signs)) ++ (c.helpers ++ d.helpers) ↔ n ∈ c.signs ++ c.helpers ∨ n ∈ d.signs ++ d.helpers
  simp only [List.mem_append, List.mem_filter, decide_eq_true_eq]
  constructor
  · rintro ((h | ⟨h, _⟩) | h | h)
    · exact .inl (.inl h)
    · exact .inr (.inl h)
    · exact .inl (.inr h)
    · exact .inr (.inr h)
  · rintro ((h | h) | h | h)
    · exact .inl (.inl h)
    · exact .inr (.inl h)
    · by_cases z : n ∈ c.signs
      · exact .inl (.inl z)
      · exact .inl (.inr ⟨h, z⟩)
    · exact .inr (.inr h)
theorem lits_wide {ns ms ys : List Str} (h : Lits ns ys) (s : ∀ n ∈ ns, n ∈ ms) : Lits ms ys := ⟨h.nd, fun y hy => let ⟨n, hn, e⟩ := h.of y hy; ⟨n, s n hn, e⟩⟩
theorem AddPre.sum {c d : CodeD} (p : AddPre c d) (h : clash c d = none) : CodeOk (c.signs ++ d.signs.filter fun n => decide (n ∉ c.signs)) (c.helpers ++ d.helpers) (c.clauses ++ d.clauses) ∧ CG (addD c d) := by
  obtain ⟨h1, h2⟩ := no_clash h
  obtain ⟨c1, c2, c3⟩ := List.nodup_append.mp (show (c.signs ++ c.helpers).Nodup from p.C.nm.nd)
  obtain ⟨d1, d2, d3⟩ := List.nodup_append.mp (show (d.signs ++ d.helpers).Nodup from p.D.nm.nd)
  have cl : c.names.length = c.signs.length + c.helpers.length := List.length_append
  have dl : d.names.length = d.signs.length + d.helpers.length := List.length_append
  have n1 := p.n1
  have n2 := p.n2
  have fl : (d.signs.filter fun n => decide (n ∉ c.signs)).length ≤ d.signs.length := List.length_filter_le _ _
  have len : (addD c d).names.length ≤ 80 := by
    show ((c.signs ++ d.signs.filter fun n => decide (n ∉ c.signs)) ++ (c.helpers ++ d.helpers)).length ≤ 80
    simp only [List.length_append]
    omega
  have inD : ∀ n ∈ d.signs, n ∈ d.names := fun n hn => List.mem_append_left _ hn
  have inD' : ∀ n ∈ d.helpers, n ∈ d.names := fun n hn => List.mem_append_right _ hn
  have inC : ∀ n ∈ c.signs, n ∈ c.names := fun n hn => List.mem_append_left _ hn
  have inC' : ∀ n ∈ c.helpers, n ∈ c.names := fun n hn => List.mem_append_right _ hn
  have nm : NmL (addD c d).names := by
    refine ⟨?_, fun n hn => (mem_addN.mp hn).elim (p.C.nm.nm n) (p.D.nm.nm n), by omega⟩
    show ((c.signs ++ d.signs.filter fun n => decide (n ∉ c.signs)) ++ (c.helpers ++ d.helpers)).Nodup
    rw [List.nodup_append, List.nodup_append, List.nodup_append]
    refine ⟨⟨c1, d1.filter _, fun a ha b hb e => ?_⟩, ⟨c2, d2, fun a ha b hb e => ?_⟩, fun a ha b hb e => ?_⟩
    · subst e
      exact of_decide_eq_true (List.mem_filter.mp hb).2 ha
    · subst e
      exact h1 a ha (inD' a hb)
    · subst e
      rcases List.mem_append.mp ha with ha | ha <;> rcases List.mem_append.mp hb with hb | hb
      · exact c3 a ha a hb rfl
      · exact h2 a hb (inC a ha)
      · exact h1 a hb (inD a (List.mem_filter.mp ha).1)
      · exact d3 a (List.mem_filter.mp ha).1 a hb rfl
  have l : ∀ x ∈ c.clauses ++ d.clauses, Lits (addD c d).names x := fun x hx => by
    rcases List.mem_append.mp hx with hx | hx
    · exact lits_wide (p.C.l x hx) fun n hn => mem_addN.mpr (.inl hn)
    · exact lits_wide (p.D.l x hx) fun n hn => mem_addN.mpr (.inr hn)
  exact code_ok nm (by show (addD c d).names.length ≤ 100; omega) l (by rw [List.length_append]; have := p.k1; have := p.k2; omega)
/-- the signs of both -/
def joinN (a b : RuleD) : List Str := a.names ++ b.names.filter fun n => decide (n ∉ a.names)
structure RuleQ (r : RuleD) : Prop where
  nm : NmL r.names
  k : r.names.length ≤ 6
  m : ∀ s ∈ r.allowed, s ∈ fulls r.names
  l : r.allowed.length ≤ 64
theorem RuleQ.w {a : RuleD} (A : RuleQ a) : RuleW a := ⟨A.k, nm_shorts A.nm⟩
theorem join_nm {a b : RuleD} (A : NmL a.names) (B : NmL b.names) (h : (joinN a b).length ≤ 500) : NmL (joinN a b) := ⟨List.nodup_append.mpr ⟨A.nd, B.nd.sublist List.filter_sublist, fun x hx y hy e => by
  subst e
  have := (List.mem_filter.mp hy).2
  exact of_decide_eq_true this hx⟩, fun n hn => (List.mem_append.mp hn).elim (A.nm n) fun h => B.nm n (List.mem_filter.mp h).1, h⟩
structure JoinPre (a b : RuleD) : Prop where
  A : RuleQ a
  B : RuleQ b
  k : (joinN a b).length ≤ 6
theorem JoinPre.nm {a b : RuleD} (J : JoinPre a b) : NmL (joinN a b) := join_nm J.A.nm J.B.nm (Nat.le_trans J.k (by decide))
section
end
end My

set_option Elab.async false
set_option linter.all false
set_option maxRecDepth 100000
set_option maxHeartbeats 8000000
namespace My
open PySem PySem.Spec PyProof.Rows L2 L3
theorem clash_0 {c d : CodeD} (all1 : ∀ z ∈ c.helpers, z ∉ d.names) (all2 : ∀ z ∈ d.helpers, z ∉ c.names) : clash c d = none := by
  unfold clash
  rw [List.filter_eq_nil_iff.mpr fun z hz => by simp [all1 z hz], List.filter_eq_nil_iff.mpr fun z hz => by simp [all2 z hz]]; rfl
section
variable {P : Program} {w : World} {K : PySem.W.Frag} {mg : Str → Option Value} {base : Heap}
abbrev s_Code_add : Stmt := inClass (topS 34) 11
theorem sc_Code_add : FnScope ["self", "other", "name", "signs"] ["self", "other"] (defScope s_Code_add) := ⟨rfl, rfl, rfl, by decide +kernel, rfl, by decide +kernel, by decide +kernel⟩
def sp_addN (K : PySem.W.Frag) (C : Addr) : Sp := sp2 (CodeR C) (CodeR C) (fun c d => AddPre c d ∧ clash c d = none) fun c d => CodeR C (addD c d)
theorem ok_addN {f C : Addr} {fd : FuncData} (F : Fun K "__add__" "Code.__add__" s_Code_add f fd) (T : Gb mg) (TC : CodeT K mg C) (k_Code : Mak P w K mg base 5 "Code" C ["self", "signs", "clauses", "helpers"] (sp_Code_init K C)) : FnOk P w K mg base CX0 7 f fd ["self", "other"] (sp_addN K C) := by
  refine F.ok sc_Code_add (fun vs H Q E h => ?_) (fun cdv A outer s H vs Q E hr h => ?_)
  · obtain ⟨x, y, M, v, w, rfl, _⟩ := h
    rfl
  · obtain ⟨c, d, M, v, w, rfl, mh, r1, r2, ⟨AP, cn⟩, q⟩ := h
    have hu := hr.units
    obtain ⟨nc1, nc2⟩ := no_clash cn
    refine ⟨_, (pss_cons (ps_for PassesOwn.never (by rfl) (pi_sq (pe_fld (pv 0) rfl)) (pg_name (i := 2) sc_Code_add.nd rfl (by first | exact .inl rfl | exact .inr rfl)) (pss_one (ps_if (pt_cmpR (op_inA hu) (pv 2) (pe_fld (pv 1) rfl) (by rfl)) (pss_one ps_never) pss_nil)))
      (pss_cons (ps_for PassesOwn.never (by rfl) (pi_sq (pe_fld (pv 1) rfl)) (pg_name (i := 2) sc_Code_add.nd rfl (by first | exact .inl rfl | exact .inr rfl)) (pss_one (ps_if (pt_cmpR (op_inA hu) (pv 2) (pe_fld (pv 0) rfl) (by rfl)) (pss_one ps_never) pss_nil)))
      (pss_cons (ps_set (i := 3) sc_Code_add.nd rfl (by first | exact .inl rfl | exact .inr rfl) (pe_op op_addA (pe_fld (pv 0) rfl) (pe_callTy call_tupA (by rfl) T.tuple boot_tuple (pa_cons (pe_lc (own := [("name", 2)]) (g := (gName 2)) (tt := (tTest (tOp (rInA K true) (tVar 2) (tFld K (tVar 0) "sign_row")))) (te := (tVar 2)) (by rfl) sc_Code_add.nd (pi_sq (pe_fld (pv 1) rfl)) (blkOk_by (by rfl)) (fun _ _ _ _ _ => (pg_name (i := 2) sc_Code_add.nd rfl (by first | exact .inl rfl | exact .inr rfl))) (fun _ _ _ _ _ => (pts_one (pt_cmpR (op_niA hu) (pv 2) (pe_fld (pv 0) rfl) (by rfl)))) (fun _ _ _ _ _ => (pv 2))) pa_nil))))
      (pss_one (ps_ret (pe_mk k_Code (hr.mono (by decide)) (pa_cons (pv 3) (pa_cons (pe_op op_addA (pe_fld (pv 0) rfl) (pe_fld (pv 1) rfl)) (pa_cons (pe_op op_addA (pe_fld (pv 0) rfl) (pe_fld (pv 1) rfl)) pa_nil))))))))), ?_⟩
    refine q_for (R1 := Tx) (xs := c.helpers) mh (gv_is (gv_helper TC (gv_var rfl r1)) fun _ _ h => h.sq) (fun M1 i σ' M' H' => ∃ y, Gr M H M' H' ∧ Same M1 M' ∧ Same M M' ∧ (∀ x ∈ (c.helpers).take i, x ∉ d.names) ∧ σ' = [some v, some w, y, none]) (fun M3 H3 g3 => ⟨_, g3, Same.refl _, (g3).mm, (by simp), rfl⟩) (fun M3 i σ' M' H' ⟨_, g, s1, _⟩ => ⟨s1, g.mh⟩) ?_ ?_
    · rintro M3 i x u σ' M' H' sM hx ⟨y, g, s1, s2, no, rfl⟩ rx
      refine s_if0 (b := decide (x ∈ d.names)) g.mh (gt_is (gt_test (gv_inA (K := K) (neg := false) (x := x) (xs := d.names) (gv_var rfl rx) (gv_is (gv_names TC (gv_var rfl (Mon.mono s2 r2))) fun _ _ h => .inl h.sq))) (by simp)) (fun hb H4 hh4 => ?_) (fun hb H4 hh4 => ⟨M', _, g.trans (.idle g.mh hh4), s1, s2, fun z hz => ?_, rfl⟩)
      · exact absurd (of_decide_eq_true hb) (nc1 x (List.mem_of_getElem? hx))
      · rw [List.take_add_one, hx] at hz
        rcases List.mem_append.mp hz with hz | hz
        · exact no z hz
        · have : z = x := by simpa using hz
          rw [this]
          exact of_decide_eq_false hb
    rintro M3 σ1 M4 H4 sM4 ⟨y1, G4, _, s4, all1, rfl⟩
    rw [List.take_length] at all1
    refine q_for (R1 := Tx) (xs := d.helpers) G4.mh (gv_is (gv_helper TC (gv_var rfl (Mon.mono s4 r2))) fun _ _ h => h.sq) (fun M1 i σ' M' H' => ∃ y, Gr M H M' H' ∧ Same M1 M' ∧ Same M M' ∧ (∀ x ∈ (d.helpers).take i, x ∉ c.names) ∧ σ' = [some v, some w, y, none]) (fun M3 H3 g3 => ⟨_, G4.trans g3, Same.refl _, (G4.trans g3).mm, (by simp), rfl⟩) (fun M3 i σ' M' H' ⟨_, g, s1, _⟩ => ⟨s1, g.mh⟩) ?_ ?_
    · rintro M3 i x u σ' M' H' sM hx ⟨y, g, s1, s2, no, rfl⟩ rx
      refine s_if0 (b := decide (x ∈ c.names)) g.mh (gt_is (gt_test (gv_inA (K := K) (neg := false) (x := x) (xs := c.names) (gv_var rfl rx) (gv_is (gv_names TC (gv_var rfl (Mon.mono s2 r1))) fun _ _ h => .inl h.sq))) (by simp)) (fun hb H4 hh4 => ?_) (fun hb H4 hh4 => ⟨M', _, g.trans (.idle g.mh hh4), s1, s2, fun z hz => ?_, rfl⟩)
      · exact absurd (of_decide_eq_true hb) (nc2 x (List.mem_of_getElem? hx))
      · rw [List.take_add_one, hx] at hz
        rcases List.mem_append.mp hz with hz | hz
        · exact no z hz
        · have : z = x := by simpa using hz
          rw [this]
          exact of_decide_eq_false hb
    rintro M5 σ2 M6 H6 sM6 ⟨y2, G, _, s6, all2, rfl⟩
    rw [List.take_length] at all2
    skip
    obtain ⟨ok, _⟩ := AP.sum cn
    have r1 : CodeR C c M6 v := Mon.mono s6 r1
    have r2 : CodeR C d M6 w := Mon.mono s6 r2
    have cl : c.names.length = c.signs.length + c.helpers.length := List.length_append
    have dl : d.names.length = d.signs.length + d.helpers.length := List.length_append
    have n1 := AP.n1
    have n2 := AP.n2
    have k1 := AP.k1
    have k2 := AP.k2
    have fl : (d.signs.filter fun n => decide (n ∉ c.signs)).length ≤ d.signs.length := List.length_filter_le _ _
    refine q_asg (P := TT (c.signs ++ d.signs.filter fun n => decide (n ∉ c.signs))) G.mh (gv_addTT (K := K) (gv_sign TC (gv_var rfl r1)) (tx_new (K := K) (gv_is (gl_c1 (S := Tx) (R := Tx) (xs := d.signs) (gi_sq (K := K) (gv_is (gv_sign TC (gv_var rfl r2)) fun _ _ h => h.sq)) (szK (by omega)) (fun n => decide (n ∉ c.signs)) id (fun n _ M' u sm ru => gt_is (gt_test (gv_inA (K := K) (neg := true) (x := n) (xs := c.signs) (gv_var rfl ru) (gv_is (gv_sign TC (gv_var rfl (Mon.mono sm r1))) fun _ _ h => .inl h.sq))) (by simp)) fun n _ _ M' u sm ru => gv_var rfl ru).li fun M v h => by rw [List.map_id] at h; exact h)) (szM (by omega))) fun v3 M7 H7 g7 r3 => ?_
    have G := G.trans g7
    exact s_ret G.mh (gv_mkCode (K := K) (C := C) (gv_is (gv_var rfl r3) fun _ _ h => h.sq) (gv_is (gv_addT (K := K) (R := TT) (xs := c.clauses) (ys := d.clauses) (gv_clause TC (gv_var rfl (Mon.mono g7.mm r1))) (gv_clause TC (gv_var rfl (Mon.mono g7.mm r2))) (szM (by omega))) fun _ _ h => tu_sqq h) (gv_is (gv_addTT (K := K) (gv_helper TC (gv_var rfl (Mon.mono g7.mm r1))) (gv_helper TC (gv_var rfl (Mon.mono g7.mm r2))) (szM (by omega))) fun _ _ h => h.sq) ok) (fun u M' H' g' r => q u M' H' (G.trans g') r)
end
end My

set_option Elab.async false
set_option linter.all false
set_option maxRecDepth 100000
set_option maxHeartbeats 1000000
namespace LsQ
open PySem PySem.SeqAt
open AutoSeq1 (wpAny_loadPart')
open MeetsSeq MeetsSeq2 MeetsSeq3 SeqRoads2
open GQ (FinOf)
/-! xs == ys, xs != ys of lists whose items are compared by running code -/
section
variable {prog : Program} {w : World} {A : Around} {R : Result → Shared → Prop}
/-- at each turn the two lists are read anew: N items each; whether the i-th two are equal -/
def ListB (prog : Program) (w : World) (A : Around) (E : Value → Shared → Prop) (l b : Addr) (N : Nat) (e : Nat → Bool) (I : Nat → Shared → Prop) : Prop :=
  ∀ i s, I i s → ∃ (items items2 : Array Value) (n n2 : Nat), s.heap.get? l = some { cls := .type "list", data := .seq items n } ∧ s.heap.get? b = some { cls := .type "list", data := .seq items2 n2 } ∧ items.size = N ∧ items2.size = N ∧
    ∀ (h1 : i < items.size) (h2 : i < items2.size), wpAny (model prog w) A.in1 (eqBool items[i] items2[i]) (fun r s' => r = e i ∧ I (i + 1) s') E s
theorem loop_eq (l b : Addr) (N : Nat) (e : Nat → Bool) (I : Nat → Shared → Prop) (hl : ListB prog w A (fun e s' => R (.error e) s') l b N e I)
    (fin : ∀ (i : Nat) (c : Bool) (s : Shared), i ≤ N → I i s → (c = true → i = N ∧ ∀ j, j < N → e j = true) → (c = false → ∃ j, j < N ∧ e j = false) → R (.ok (.ret (.bool c))) s) (k : Nat) :
    ∀ i : Nat, N - i = k → i ≤ N → (∀ j, j < i → e j = true) → ∀ s, I i s →
      wpAny (model prog w) A.in1 (Builtin.«list.__eq__.loop» ⟨[.ref l, .ref b, rawInt i, rawInt 2], []⟩) (FinOf prog w A R) (fun e s' => R (.error e) s') s := by
  induction k with
  | zero =>
    intro i hk hi ha s h
    obtain ⟨items, items2, n, n2, hl1, hb1, hs1, hs2, _⟩ := hl _ _ h
    have hi' : i = N := by omega
    have hR : R (.ok (.ret (.bool true))) s := fin i true s hi h (fun _ => ⟨hi', fun j hj => ha j (by omega)⟩) nofun
    obtain ⟨hp, g, d, tk, os⟩ := s
    wp_walk using wpAny_loadPart' hl1, wpAny_loadPart' hb1
    have hi1 : items[((i : Nat) : Int).toNat]? = none := by simp; omega
    have hi2 : items2[((i : Nat) : Int).toNat]? = none := by simp; omega
    rw [hi1, hi2]
    wp_walk using wpAny_loadPart' hl1, wpAny_loadPart' hb1
    show R (.ok (.ret (.bool (items.size == items2.size)))) _
    rw [hs1, hs2]
    simpa using hR
  | succ k ih =>
    intro i hk hi ha s h
    obtain ⟨items, items2, n, n2, hl1, hb1, hs1, hs2, turn⟩ := hl _ _ h
    have hlt : i < items.size := by omega
    have hlt2 : i < items2.size := by omega
    have ht := turn hlt hlt2
    obtain ⟨hp, g, d, tk, os⟩ := s
    wp_walk using wpAny_loadPart' hl1, wpAny_loadPart' hb1
    have hi1 : items[((i : Nat) : Int).toNat]? = some items[i] := by simp [hlt]
    have hi2 : items2[((i : Nat) : Int).toNat]? = some items2[i] := by simp [hlt2]
    have hc : ((i : Int) + 1) = ((i + 1 : Nat) : Int) := by omega
    rw [hi1, hi2]
    refine wpAny_bind (wpAny_mono ht (fun r s2 h2 => ?_) fun _ _ x => x)
    obtain ⟨hr, h2⟩ := h2
    cases he : e i with
    | true =>
      rw [he] at hr
      subst hr
      have hrec := ih (i + 1) (by omega) (by omega) (fun j hj => by
        rcases Nat.lt_or_ge j i with z | z
        · exact ha j z
        · rw [show j = i from by omega]; exact he) s2 h2
      obtain ⟨hp2, g2, d2, tk2, os2⟩ := s2
      wp_walk
      rw [hc]
      exact ⟨plainId_quiet plain_eq_loop _, codeAny_builtin entry_eq_loop (by
        rw [Around.under_plainId plain_eq_loop _]
        exact hrec)⟩
    | false =>
      rw [he] at hr
      subst hr
      obtain ⟨items', items2', n', n2', hl1', hb1', hs1', hs2', _⟩ := hl _ _ h2
      have hR : R (.ok (.ret (.bool false))) s2 := fin (i + 1) false s2 (by omega) h2 nofun fun _ => ⟨i, by omega, he⟩
      have hi1' : items'[((i : Nat) : Int).toNat]? = some (items'[i]'(by omega)) := by simp
      have hi2' : items2'[((i : Nat) : Int).toNat]? = some (items2'[i]'(by omega)) := by simp
      obtain ⟨hp2, g2, d2, tk2, os2⟩ := s2
      wp_walk using wpAny_loadPart' hl1', wpAny_loadPart' hb1'
      rw [hi1', hi2']
      wp_walk
      exact hR
theorem loop_ne (l b : Addr) (N : Nat) (e : Nat → Bool) (I : Nat → Shared → Prop) (hl : ListB prog w A (fun e s' => R (.error e) s') l b N e I)
    (fin : ∀ (i : Nat) (c : Bool) (s : Shared), i ≤ N → I i s → (c = true → i = N ∧ ∀ j, j < N → e j = true) → (c = false → ∃ j, j < N ∧ e j = false) → R (.ok (.ret (.bool (!c)))) s) (k : Nat) :
    ∀ i : Nat, N - i = k → i ≤ N → (∀ j, j < i → e j = true) → ∀ s, I i s →
      wpAny (model prog w) A.in1 (Builtin.«list.__eq__.loop» ⟨[.ref l, .ref b, rawInt i, rawInt 3], []⟩) (FinOf prog w A R) (fun e s' => R (.error e) s') s := by
  induction k with
  | zero =>
    intro i hk hi ha s h
    obtain ⟨items, items2, n, n2, hl1, hb1, hs1, hs2, _⟩ := hl _ _ h
    have hi' : i = N := by omega
    have hR : R (.ok (.ret (.bool (!true)))) s := fin i true s hi h (fun _ => ⟨hi', fun j hj => ha j (by omega)⟩) nofun
    obtain ⟨hp, g, d, tk, os⟩ := s
    wp_walk using wpAny_loadPart' hl1, wpAny_loadPart' hb1
    have hi1 : items[((i : Nat) : Int).toNat]? = none := by simp; omega
    have hi2 : items2[((i : Nat) : Int).toNat]? = none := by simp; omega
    rw [hi1, hi2]
    wp_walk using wpAny_loadPart' hl1, wpAny_loadPart' hb1
    show R (.ok (.ret (.bool (items.size != items2.size)))) _
    rw [hs1, hs2]
    simpa using hR
  | succ k ih =>
    intro i hk hi ha s h
    obtain ⟨items, items2, n, n2, hl1, hb1, hs1, hs2, turn⟩ := hl _ _ h
    have hlt : i < items.size := by omega
    have hlt2 : i < items2.size := by omega
    have ht := turn hlt hlt2
    obtain ⟨hp, g, d, tk, os⟩ := s
    wp_walk using wpAny_loadPart' hl1, wpAny_loadPart' hb1
    have hi1 : items[((i : Nat) : Int).toNat]? = some items[i] := by simp [hlt]
    have hi2 : items2[((i : Nat) : Int).toNat]? = some items2[i] := by simp [hlt2]
    have hc : ((i : Int) + 1) = ((i + 1 : Nat) : Int) := by omega
    rw [hi1, hi2]
    refine wpAny_bind (wpAny_mono ht (fun r s2 h2 => ?_) fun _ _ x => x)
    obtain ⟨hr, h2⟩ := h2
    cases he : e i with
    | true =>
      rw [he] at hr
      subst hr
      have hrec := ih (i + 1) (by omega) (by omega) (fun j hj => by
        rcases Nat.lt_or_ge j i with z | z
        · exact ha j z
        · rw [show j = i from by omega]; exact he) s2 h2
      obtain ⟨hp2, g2, d2, tk2, os2⟩ := s2
      wp_walk
      rw [hc]
      exact ⟨plainId_quiet plain_eq_loop _, codeAny_builtin entry_eq_loop (by
        rw [Around.under_plainId plain_eq_loop _]
        exact hrec)⟩
    | false =>
      rw [he] at hr
      subst hr
      obtain ⟨items', items2', n', n2', hl1', hb1', hs1', hs2', _⟩ := hl _ _ h2
      have hR : R (.ok (.ret (.bool (!false)))) s2 := fin (i + 1) false s2 (by omega) h2 nofun fun _ => ⟨i, by omega, he⟩
      have hi1' : items'[((i : Nat) : Int).toNat]? = some (items'[i]'(by omega)) := by simp
      have hi2' : items2'[((i : Nat) : Int).toNat]? = some (items2'[i]'(by omega)) := by simp
      obtain ⟨hp2, g2, d2, tk2, os2⟩ := s2
      wp_walk using wpAny_loadPart' hl1', wpAny_loadPart' hb1'
      rw [hi1', hi2']
      wp_walk
      exact hR

theorem list_eqB (l b : Addr) (N : Nat) (e : Nat → Bool) (I : Nat → Shared → Prop) (hl : ListB prog w A (fun e s' => R (.error e) s') l b N e I)
    (fin : ∀ (i : Nat) (c : Bool) (s : Shared), i ≤ N → I i s → (c = true → i = N ∧ ∀ j, j < N → e j = true) → (c = false → ∃ j, j < N ∧ e j = false) → R (.ok (.ret (.bool c))) s) {s : Shared} (h : I 0 s) :
    wpAny (model prog w) A.in1 (Builtin.«list.__eq__» ⟨[.ref l, .ref b], []⟩) (FinOf prog w A R) (fun e s' => R (.error e) s') s := by
  obtain ⟨items, items2, n, n2, hl1, hb1, hs1, hs2, _⟩ := hl _ _ h
  have hrec := loop_eq (A := A) (R := R) l b N e I hl fin _ 0 rfl (Nat.zero_le _) (fun j hj => absurd hj (Nat.not_lt_zero _)) s h
  obtain ⟨hp, g, d, tk, os⟩ := s
  have f3 := AutoSeq1.sub_list_list
  have hne : ¬ (items.size != items2.size) = true := by simp [hs1, hs2]
  wp_walk using wpAny_loadPart' hl1, wpAny_loadPart' hb1
  exact ⟨plainId_quiet plain_eq_loop _, codeAny_builtin entry_eq_loop (by
    rw [Around.under_plainId plain_eq_loop _]
    exact hrec)⟩

theorem list_neB (l b : Addr) (N : Nat) (e : Nat → Bool) (I : Nat → Shared → Prop) (hl : ListB prog w A (fun e s' => R (.error e) s') l b N e I)
    (fin : ∀ (i : Nat) (c : Bool) (s : Shared), i ≤ N → I i s → (c = true → i = N ∧ ∀ j, j < N → e j = true) → (c = false → ∃ j, j < N ∧ e j = false) → R (.ok (.ret (.bool (!c)))) s) {s : Shared} (h : I 0 s) :
    wpAny (model prog w) A.in1 (Builtin.«list.__ne__» ⟨[.ref l, .ref b], []⟩) (FinOf prog w A R) (fun e s' => R (.error e) s') s := by
  obtain ⟨items, items2, n, n2, hl1, hb1, hs1, hs2, _⟩ := hl _ _ h
  have hrec := loop_ne (A := A) (R := R) l b N e I hl fin _ 0 rfl (Nat.zero_le _) (fun j hj => absurd hj (Nat.not_lt_zero _)) s h
  obtain ⟨hp, g, d, tk, os⟩ := s
  have f3 := AutoSeq1.sub_list_list
  have hne : ¬ (items.size != items2.size) = true := by simp [hs1, hs2]
  wp_walk using wpAny_loadPart' hl1, wpAny_loadPart' hb1
  exact ⟨plainId_quiet plain_eq_loop _, codeAny_builtin entry_eq_loop (by
    rw [Around.under_plainId plain_eq_loop _]
    exact hrec)⟩

theorem rc_eqB {E : Value → Shared → Prop} {s : Shared} {l b : Addr} {N : Nat} {Q : Value → Shared → Prop} (hu : A.units < cLine) (e : Nat → Bool) (I : Nat → Shared → Prop) (hl : ListB prog w A E l b N e I)
    (fin : ∀ (i : Nat) (c : Bool) (s : Shared), i ≤ N → I i s → (c = true → i = N ∧ ∀ j, j < N → e j = true) → (c = false → ∃ j, j < N ∧ e j = false) → Q (.bool c) s) (h : I 0 s) : wpAny (model prog w) A (richCompare .Eq (.ref l) (.ref b)) Q E s := by
  obtain ⟨items, items2, n, n2, hl1, hb1, _, _, _⟩ := hl _ _ h
  refine wpAny_richCompare_same_room (op := .Eq) ⟨_, hl1, rfl⟩ ⟨_, hb1, rfl⟩ F.slot_list_eq (GQ.call_here F.slot_list_eq ⟨_, hl1, rfl⟩ F.entry_list_eq (F.args_list_eq_2 _ _) ?_) hu
  exact list_eqB (R := wants (fun v s' => v ≠ .notImplemented ∧ Q v s') E) l b N e I hl (fun i c s' hi q h1 h2 => ⟨(fun x => nomatch x), fin i c s' hi q h1 h2⟩) h
theorem rc_neB {E : Value → Shared → Prop} {s : Shared} {l b : Addr} {N : Nat} {Q : Value → Shared → Prop} (hu : A.units < cLine) (e : Nat → Bool) (I : Nat → Shared → Prop) (hl : ListB prog w A E l b N e I)
    (fin : ∀ (i : Nat) (c : Bool) (s : Shared), i ≤ N → I i s → (c = true → i = N ∧ ∀ j, j < N → e j = true) → (c = false → ∃ j, j < N ∧ e j = false) → Q (.bool (!c)) s) (h : I 0 s) : wpAny (model prog w) A (richCompare .NotEq (.ref l) (.ref b)) Q E s := by
  obtain ⟨items, items2, n, n2, hl1, hb1, _, _, _⟩ := hl _ _ h
  refine wpAny_richCompare_same_room (op := .NotEq) ⟨_, hl1, rfl⟩ ⟨_, hb1, rfl⟩ F.slot_list_ne (GQ.call_here F.slot_list_ne ⟨_, hl1, rfl⟩ F.entry_list_ne (F.args_list_ne_2 _ _) ?_) hu
  exact list_neB (R := wants (fun v s' => v ≠ .notImplemented ∧ Q v s') E) l b N e I hl (fun i c s' hi q h1 h2 => ⟨(fun x => nomatch x), fin i c s' hi q h1 h2⟩) h
end
end LsQ
namespace L3
open PySem PySem.Spec PyProof.Rows L2
/-! lists of instances: the same object, or their own == -/
section
variable {X : Cx} {pins : List (Addr × Obj)} {σ : L2.St} {H : Hp} {s : Shared} {C : Addr} {k : Nat} {ps : List Str} {sp : Sp}
/-- o == p somewhere below the running body -/
theorem eq_below {A : Around} {p q dx dy : Addr} {fs gs : List (Str × V)} {Z : Bool → Hp → Prop} (o : OwnSp X.prog X.w X.K X.mg X.base k C "__eq__" ps sp) (hr : Room k A) (fr : A.frames = X.A.frames) (I : L2.Inv X pins σ H s) (ha : H p = some (.ins C dx fs)) (hb : H q = some (.ins C dy gs))
    (h : sp [.ref p, .ref q] H (fun v H' => ∃ c, v = .bl c ∧ Z c H') E0) : wpAny (model X.prog X.w) A (richCompare .Eq (.ref p) (.ref q)) (fun v s' => ∃ c, v = .bool c ∧ ∃ H', L2.Inv X pins σ H' s' ∧ Z c H') X.xe s := by
  obtain ⟨f, fd, F, hs, hf, hbi⟩ := o
  obtain ⟨ox, od, J⟩ := own_inst I ha
  obtain ⟨oy, od', J'⟩ := own_inst I hb
  obtain ⟨m, hF⟩ := I.fr
  refine PySem.W.cmp_K (op := .Eq) (tb := .ref C) hr.units0 hF I.ok.mod.kin J J'.type (by simp [PySem.W.notFirst]) hs hf ?_
  have e0 : Env0 X.prog X.w X.K X.mg X.base A X.stack s H := by
    have e := I.env0
    exact ⟨by rw [fr]; exact e.frames, e.mod, e.bs, e.bsz, e.funs, e.frf, e.hok, e.bare⟩
  have hl := F.len _ _ _ _ h
  have r2 : Vals [V.ref p, V.ref q] [Value.ref p, Value.ref q] := .cons rfl (.cons rfl .nil)
  refine wpAny_call (codeAny_mono (F.run A X.stack s H ⟨[.ref p, .ref q], []⟩ [.ref p, .ref q] [.ref p, .ref q] _ E0 hr e0 (by
    have := hbi s [.ref p, .ref q] I.kIn (by simpa using hl)
    simpa using this) r2 h) fun r s' hq => ?_)
  cases r with
  | error e => exact pass0 pins σ H s e s' I hq
  | ok fl =>
    cases fl with
    | ret w =>
      obtain ⟨z, H', I', rz, c, ez, qz⟩ := I.after hq
      subst ez
      cases (show w = Value.bool c from rz)
      exact ⟨c, rfl, H', I', qz⟩
    | next => exact False.elim hq
    | brk => exact False.elim hq
    | cont => exact False.elim hq
/-- the i-th two: one object, or two that the own == tells apart or not -/
def PairI (C : Addr) (sp : Sp) (M H : Hp) (u v : V) (e : Bool) : Prop := ∃ p q, u = V.ref p ∧ v = V.ref q ∧ (p = q → e = true) ∧ (p ≠ q → ∃ dx dy fs gs, H p = some (.ins C dx fs) ∧ H q = some (.ins C dy gs) ∧ ∀ M1 H1, Gr M H M1 H1 → sp [.ref p, .ref q] H1 (fun v H2 => ∃ c, v = .bl c ∧ c = e ∧ ∃ M2, Gr M H M2 H2) E0)
def rLsq (C : Addr) (sp : Sp) (neg : Bool) : R2 := fun x y H Q => ∃ (a b : Addr) (xs ys : List V) (M : Hp) (e : Nat → Bool), x = .ref a ∧ y = .ref b ∧ Same M H ∧ H a = some (.lst xs) ∧ H b = some (.lst ys) ∧ xs.length = ys.length ∧
  (∀ i u v, xs[i]? = some u → ys[i]? = some v → PairI C sp M H u v (e i)) ∧ ∀ (c : Bool) M' H', (c = true → ∀ j, j < xs.length → e j = true) → (c = false → ∃ j, j < xs.length ∧ e j = false) → Gr M H M' H' → Q (.bl (xor neg c)) H'
theorem lsq_turns (o : OwnSp X.prog X.w X.K X.mg X.base k C "__eq__" ps sp) (hr : Room (k + 1) X.A) {M : Hp} {a b : Addr} {xs ys : List V} {e : Nat → Bool} (ha : H a = some (.lst xs)) (hb : H b = some (.lst ys)) (hl : xs.length = ys.length)
    (hp : ∀ i u v, xs[i]? = some u → ys[i]? = some v → PairI C sp M H u v (e i)) : LsQ.ListB X.prog X.w X.A X.xe a b xs.length e (fun _ s' => ∃ M' H', L2.Inv X pins σ H' s' ∧ Gr M H M' H') := by
  rintro i s1 ⟨M1, H1, I1, g1⟩
  obtain ⟨z, its, n, r, e1⟩ := I1.hok a _ (g1.hh _ _ ha)
  obtain ⟨z2, its2, n2, r2, e2⟩ := I1.hok b _ (g1.hh _ _ hb)
  refine ⟨its.toArray, its2.toArray, n, n2, e1, e2, by rw [List.size_toArray, ← r.length], by rw [List.size_toArray, ← r2.length, ← hl], fun h1 h2 => ?_⟩
  have q1 : its[i]? = some its.toArray[i] := by
    have h1' : i < its.length := by simpa using h1
    rw [List.getElem?_eq_getElem h1'] <;> simp
  have q2 : its2[i]? = some its2.toArray[i] := by
    have h2' : i < its2.length := by simpa using h2
    rw [List.getElem?_eq_getElem h2'] <;> simp
  have k1 : i < xs.length := by rw [r.length]; simpa using h1
  have k2 : i < ys.length := by rw [r2.length]; simpa using h2
  obtain ⟨u, hu, ru⟩ := r.get (List.getElem?_eq_getElem k1)
  obtain ⟨v, hv, rv⟩ := r2.get (List.getElem?_eq_getElem k2)
  rw [q1] at hu
  rw [q2] at hv
  rw [Option.some.inj hu, Option.some.inj hv]
  obtain ⟨p, q, ep, eq, same, apart⟩ := hp i _ _ (List.getElem?_eq_getElem k1) (List.getElem?_eq_getElem k2)
  rw [ep] at ru
  rw [eq] at rv
  cases (show u = Value.ref p from ru)
  cases (show v = Value.ref q from rv)
  by_cases hpq : p = q
  · subst hpq
    exact SeqAt.EqAt.same (A := X.A.in1) (s := s1) (.ref p) X.prog X.w X.xe _ ⟨(same rfl).symm, M1, H1, I1, g1⟩
  · obtain ⟨dx, dy, fs, gs, hx, hy, hsp⟩ := apart hpq
    refine GQ.eqBool_refG hpq (wpAny_mono (eq_below (A := X.A.in1) (Z := fun c H2 => c = e i ∧ ∃ M2, Gr M H M2 H2) o hr.in1 rfl I1 (g1.hh _ _ hx) (g1.hh _ _ hy) (by simpa using hsp M1 H1 g1)) (fun r s2 z => ?_) fun _ _ x => x)
    obtain ⟨c, rfl, H2, I2, ec, M2, g2⟩ := z
    exact ⟨c, rfl, ec, M2, H2, I2, g2⟩
theorem op_eqLs (o : OwnSp X.prog X.w X.K X.mg X.base k C "__eq__" ps sp) (hr : Room (k + 1) X.A) : OpR X (compareOp .Eq) (rLsq C sp false) := by
  intro pins s σ H x y u v Q I rx ry h
  obtain ⟨a, b, xs, ys, M, e, rfl, rfl, mh, ha, hb, hl, hp, q⟩ := h
  cases (show u = Value.ref a from rx)
  cases (show v = Value.ref b from ry)
  show wpAny (model X.prog X.w) X.A (richCompare .Eq (.ref a) (.ref b)) (EP X pins σ Q) X.xe s
  refine LsQ.rc_eqB hr.units0 e _ (lsq_turns (M := M) o hr ha hb hl hp) (fun i c s' hi z h1 h2 => ?_) ⟨M, H, I, .refl mh⟩
  obtain ⟨M', H', I', g⟩ := z
  exact ⟨.bl c, H', I', rfl, by simpa using q c M' H' (fun z => (h1 z).2) h2 g⟩
theorem op_neLs (o : OwnSp X.prog X.w X.K X.mg X.base k C "__eq__" ps sp) (hr : Room (k + 1) X.A) : OpR X (compareOp .NotEq) (rLsq C sp true) := by
  intro pins s σ H x y u v Q I rx ry h
  obtain ⟨a, b, xs, ys, M, e, rfl, rfl, mh, ha, hb, hl, hp, q⟩ := h
  cases (show u = Value.ref a from rx)
  cases (show v = Value.ref b from ry)
  show wpAny (model X.prog X.w) X.A (richCompare .NotEq (.ref a) (.ref b)) (EP X pins σ Q) X.xe s
  refine LsQ.rc_neB hr.units0 e _ (lsq_turns (M := M) o hr ha hb hl hp) (fun i c s' hi z h1 h2 => ?_) ⟨M, H, I, .refl mh⟩
  obtain ⟨M', H', I', g⟩ := z
  exact ⟨.bl (!c), H', I', rfl, by simpa using q c M' H' (fun z => (h1 z).2) h2 g⟩
end
section
variable {σ : Sl} {M : Hp} {ta tb : TE} {α : Type} {R1 : Rl α} {C : Addr} {pre : α → α → Prop} {B : α → α → Bool}
/-- whether all pairs are alike -/
def allB (B : α → α → Bool) : List α → List α → Bool
  | x :: xs, y :: ys => B x y && allB B xs ys
  | _, _ => true
theorem allB_at : ∀ {xs ys : List α}, xs.length = ys.length → ∀ {c : Bool} {e : Nat → Bool}, (∀ i x y, xs[i]? = some x → ys[i]? = some y → e i = B x y) → (c = true → ∀ j, j < xs.length → e j = true) → (c = false → ∃ j, j < xs.length ∧ e j = false) → c = allB B xs ys
  | [], ys, hl, c, e, he, h1, h2 => by
    cases c with
    | true => simp [allB]
    | false => obtain ⟨j, hj, _⟩ := h2 rfl; exact absurd hj (Nat.not_lt_zero _)
  | x :: xs, [], hl, _, _, _, _, _ => by simp at hl
  | x :: xs, y :: ys, hl, c, e, he, h1, h2 => by
    have e0 := he 0 x y rfl rfl
    cases c with
    | true =>
      have b0 := h1 rfl 0 (Nat.succ_pos _)
      have := allB_at (xs := xs) (ys := ys) (by simpa using hl) (c := true) (e := fun i => e (i + 1)) (fun i u v hu hv => he (i + 1) u v hu hv) (fun _ j hj => h1 rfl (j + 1) (Nat.succ_lt_succ hj)) nofun
      show true = (B x y && allB B xs ys)
      rw [← e0, b0, ← this]; rfl
    | false =>
      obtain ⟨j, hj, ej⟩ := h2 rfl
      show false = (B x y && allB B xs ys)
      cases j with
      | zero => rw [← e0, ej]; rfl
      | succ j =>
        have hn : allB B xs ys ≠ true := fun z => by
          have k : ∀ (xs ys : List α) (j : Nat) x y, allB B xs ys = true → xs[j]? = some x → ys[j]? = some y → B x y = true := by
            intro xs
            induction xs with
            | nil => intro ys j x y _ h; simp at h
            | cons u us ih =>
              intro ys j x y ha hx hy
              cases ys with
              | nil => simp at hy
              | cons v vs =>
                obtain ⟨a1, a2⟩ := Bool.and_eq_true_iff.mp (show (B u v && allB B us vs) = true from ha)
                cases j with
                | zero => simp at hx hy; subst hx hy; exact a1
                | succ j => exact ih vs j x y a2 (by simpa using hx) (by simpa using hy)
          have hj' : j < xs.length := Nat.lt_of_succ_lt_succ hj
          have hj2 : j < ys.length := by have : (x :: xs).length = (y :: ys).length := hl; simp at this; omega
          have := k xs ys j _ _ z (List.getElem?_eq_getElem hj') (List.getElem?_eq_getElem hj2)
          rw [← he (j + 1) _ _ (by simpa using List.getElem?_eq_getElem hj') (by simpa using List.getElem?_eq_getElem hj2), ej] at this
          cases this
        cases hb : allB B xs ys with
        | true => exact absurd hb hn
        | false => rw [Bool.and_false]
def eAt (B : α → α → Bool) (xs ys : List α) (i : Nat) : Bool := match xs[i]?, ys[i]? with
  | some x, some y => B x y
  | _, _ => true
theorem eAt_of {xs ys : List α} {i : Nat} {x y : α} (hx : xs[i]? = some x) (hy : ys[i]? = some y) : eAt B xs ys i = B x y := by unfold eAt; rw [hx, hy]
theorem gv_eqLs [Mon R1] {xs ys : List α} {neg : Bool} (ha : Gv ta σ M (LiR R1 xs)) (hb : Gv tb σ M (LiR R1 ys)) (hl : xs.length = ys.length) (hi : ∀ z M v, R1 z M v → ∃ a dx fs, v = .ref a ∧ M a = some (.ins C dx fs)) (hs : ∀ M v, ∀ x ∈ xs, ∀ y ∈ ys, R1 x M v → R1 y M v → B x y = true)
    (hp : ∀ x ∈ xs, ∀ y ∈ ys, pre x y) : Gv (tOp (rLsq C (sp2 R1 R1 pre fun x y => Bl (B x y)) neg) ta tb) σ M (Bl (xor neg (allB B xs ys))) := fun H mh Q q =>
  ha H mh _ fun v M1 H1 g1 p1 => hb.le g1.mm H1 g1.mh _ fun w M2 H2 g2 p2 => by
    have p12 : LiR R1 xs M2 v := Mono.mono g2.mm p1
    obtain ⟨a, vs, rfl, h1, d1⟩ := p12
    obtain ⟨b, ws, rfl, h2, d2⟩ := p2
    have l1 : xs.length = vs.length := d1.length
    have l2 : ys.length = ws.length := d2.length
    refine ⟨a, b, vs, ws, M2, eAt B xs ys, rfl, rfl, g2.mh, g2.mh _ _ h1, g2.mh _ _ h2, by omega, fun i u v hu hv => ?_, fun c M' H' c1 c2 g => ?_⟩
    · obtain ⟨x, hx, rx⟩ := pd_get' d1 hu
      obtain ⟨y, hy, ry⟩ := pd_get' d2 hv
      obtain ⟨p, dx, fs, rfl, hp1⟩ := hi x M2 u rx
      obtain ⟨q', dy, gs, rfl, hp2⟩ := hi y M2 v ry
      refine ⟨p, q', rfl, rfl, fun e => ?_, fun _ => ⟨dx, dy, fs, gs, g2.mh _ _ hp1, g2.mh _ _ hp2, fun M3 H3 g3 => ?_⟩⟩
      · subst e
        rw [eAt_of hx hy]
        exact hs M2 _ x (List.mem_of_getElem? hx) y (List.mem_of_getElem? hy) rx ry
      · rw [eAt_of hx hy]
        exact ⟨x, y, M3, _, _, rfl, g3.mh, Mon.mono g3.mm rx, Mon.mono g3.mm ry, hp x (List.mem_of_getElem? hx) y (List.mem_of_getElem? hy), fun u M' H' g r => ⟨_, r, rfl, M', g3.trans g⟩⟩
    · have : c = allB B xs ys := allB_at hl (e := eAt B xs ys) (fun i x y hx hy => eAt_of hx hy) (by rw [l1]; exact c1) (by rw [l1]; exact c2)
      rw [this]
      exact q _ M' H' ((g1.trans g2).trans g) rfl
end
end L3

set_option Elab.async false
set_option linter.all false
set_option maxRecDepth 100000
set_option maxHeartbeats 8000000
namespace My
open PySem PySem.Spec PyProof.Rows L2 L3
/-! what is handed to a web: codes among which another thing may stand, or no list at all -/
inductive Th where
  | code (c : CodeD)
  | odd (d : PyData)
def Th.isC : Th → Bool
  | .code _ => true
  | .odd _ => false
def ThR (K : PySem.W.Frag) (C : Addr) : Rl Th := fun t M v => match t with
  | .code c => CodeR C c M v
  | .odd d => DdF K d M v ∨ ∃ a vs, d = .list [] ∧ v = .ref a ∧ M a = some (.lst vs)
instance {K : PySem.W.Frag} {C : Addr} : Mon (ThR K C) := ⟨fun {t M M' v} e h => by
  cases t with
  | code c => exact Mon.mono (R := CodeR C) (x := c) e h
  | odd d =>
    rcases h with h | ⟨a, vs, h1, h2, h3⟩
    · exact .inl (Mon.mono e h)
    · exact .inr ⟨a, vs, h1, h2, e _ _ h3⟩⟩
inductive Wh where
  | seq (ts : List Th)
  | odd (d : PyData)
def seqB : PyData → Bool
  | .list _ => true
  | .tuple _ => true
  | _ => false
def WhR (K : PySem.W.Frag) (C : Addr) : Rl Wh := fun x M v => match x with
  | .seq ts => SqR K (ThR K C) ts M v
  | .odd d => DdF K d M v ∧ seqB d = false
instance {K : PySem.W.Frag} {C : Addr} : Mon (WhR K C) := ⟨fun {t M M' v} e h => by
  cases t with
  | seq ts => exact Mon.mono (R := SqR K (ThR K C)) (x := ts) e h
  | odd d => exact ⟨Mon.mono e h.1, h.2⟩⟩
def Wh.isL : Wh → Bool
  | .seq _ => true
  | .odd _ => false
theorem ty_sq {α : Type} {K : PySem.W.Frag} {R : Rl α} {M : Hp} {xs : List α} {v : V} (h : SqR K R xs M v) : TyX K M v (.type "list") ∨ TyX K M v (.type "tuple") := by
  rcases h with ⟨a, vs, rfl, hs, _⟩ | ⟨a, vs, rfl, hs, _⟩
  · left
    rcases hs with (h | ⟨o, h⟩) | ⟨o, its, n, hk, hc, _⟩
    · exact .base (.lst h)
    · exact .base (.frz h)
    · exact .kList hk hc
  · right
    rcases hs with (h | ⟨o, h⟩) | ⟨o, its, n, hk, hc, _⟩
    · exact .base (.tup h)
    · exact .fTuple h
    · exact .kTuple hk hc
section
variable {K : PySem.W.Frag} {σ : Sl} {M : Hp} {ta : TE} {P : Pr}
theorem gv_isi2Y {n m : String} {r : Bool} [Mono P] (h : Gv ta σ M P) (hy : ∀ M v, P M v → ∃ T b c, TyX K M v (.type T) ∧ kitB T n = some b ∧ kitB T m = some c ∧ (b || c) = r) : Gv (tCB (rIsiT K) (tCons ta (tCons (tTup (tCons (tC (.ty n)) (tCons (tC (.ty m)) tNil))) tNil))) σ M (Bl r) := fun H mh Q q =>
  h H mh _ fun v M1 H1 g1 p => ⟨by show 2 ≤ sizeLine; decide, fun tp ntp => by
    obtain ⟨T, b, c, ty, hk, hm, rfl⟩ := hy _ v (Mono.mono ((g1.mh).trans (same_new ntp)) p)
    refine ⟨v, tp, _, _, _, b || c, rfl, upd_same, .cons (.ty n) (.cons (.ty m) .nil), ty, ?_, q _ M1 _ (g1.trans (.own g1.mh ntp)) rfl⟩
    refine kitAny_cons (kit_ty hk) (fun hb => kitAny_cons (kit_ty hm) (fun hc => ?_) fun hc => ?_) fun h => ?_
    · rw [hb, hc]; exact kitAny_nil
    · rw [hb, hc]; rfl
    · rw [h]; rfl⟩
/-- isinstance(x, (list, tuple)) -/
theorem gv_isWh {C : Addr} {x : Wh} (h : Gv ta σ M (WhR K C x)) : Gv (tCB (rIsiT K) (tCons ta (tCons (tTup (tCons (tC (.ty "list")) (tCons (tC (.ty "tuple")) tNil))) tNil))) σ M (Bl x.isL) := gv_isi2Y h fun M v r => by
  cases x with
  | seq ts =>
    rcases ty_sq (K := K) r with t | t
    · exact ⟨"list", true, false, t, by decide +kernel, by decide +kernel, rfl⟩
    · exact ⟨"tuple", false, true, t, by decide +kernel, by decide +kernel, rfl⟩
  | odd d =>
    refine ⟨tyN d, false, false, ty_F r.1, ?_, ?_, rfl⟩
    · have := r.2
      cases d <;> first | (cases this; done) | (simp only [tyN]; decide +kernel)
    · have := r.2
      cases d <;> first | (cases this; done) | (simp only [tyN]; decide +kernel)
/-- isinstance(x, Code) -/
theorem gv_isTh {C : Addr} {x : Th} (O : OffC K C) (IC : InsF K C) (h : Gv ta σ M (ThR K C x)) : Gv (tCB (rIsi K) (tCons ta (tCons (tC (.ref C)) tNil))) σ M (Bl x.isC) := by
  cases x with
  | code c => exact gv_isC (K := K) IC h fun M v r => inst_code c M v r
  | odd d => exact fun H mh Q q => h H mh _ fun v M1 H1 g1 p => ⟨v, .ref C, .type (tyN d), .ref C, false, rfl, .own C, by
      rcases p with p | ⟨a, vs, rfl, rfl, p⟩
      · exact ty_F (Mon.mono g1.mh p)
      · exact .base (.lst (g1.mh _ _ p)), O.kit, q _ M1 H1 g1 rfl⟩
end
/-- how the making of a web ends, if not well -/
inductive WErr where
  | code (i : Nat)
  | many (n : Nat)
  | clash (x : Str)
  | tree (i : Nat)
def thBad : List Th → Nat → Option Nat
  | [], _ => none
  | .code _ :: r, i => thBad r (i + 1)
  | .odd _ :: _, i => some i
def whBad : Wh → Option Nat
  | .odd _ => some 0
  | .seq [] => some 0
  | .seq (t :: r) => thBad (t :: r) 0
def codesOf (ts : List Th) : List CodeD := ts.filterMap fun t => match t with | .code c => some c | .odd _ => none
theorem thBad_none : ∀ {ts : List Th} {i : Nat}, thBad ts i = none → ts = (codesOf ts).map .code
  | [], _, _ => rfl
  | .code c :: r, i, h => by
    have := thBad_none (ts := r) (i := i + 1) h
    show _ = Th.code c :: (codesOf r).map .code
    rw [← this]
  | .odd _ :: _, _, h => by cases h
def inAny (x : Str) (f : CodeD → List Str) (cs : List CodeD) : Bool := cs.any fun d => decide (x ∈ f d)
def checkC (c : CodeD) (ahead : List CodeD) : Option WErr :=
  if 6 < c.signs.length then some (.many c.signs.length)
  else match ((c.helpers.filter fun x => inAny x CodeD.names ahead) ++ c.signs.filter fun x => inAny x CodeD.helpers ahead).head? with
    | some x => some (.clash x)
    | none => none
structure CheckPre (c : CodeD) (ahead : List CodeD) : Prop where
  n1 : c.names.length ≤ 100
  n2 : ahead.length ≤ 1000
section
variable {P : Program} {w : World} {K : PySem.W.Frag} {mg : Str → Option Value} {base : Heap}
def sp_is_listW (K : PySem.W.Frag) (C : Addr) : Sp := sp1 (WhR K C) (fun _ => True) fun x => Bl x.isL
theorem ok_is_listW {f C : Addr} {fd : FuncData} (F : Fun K "is_list" "is_list" s_is_list f fd) (T : Bi mg) : FnOk P w K mg base CX0 1 f fd ["thing"] (sp_is_listW K C) := by
  refine F.ok sc_is_list (fun vs H Q E h => ?_) (fun cdv A outer s H vs Q E hr h => ?_)
  · obtain ⟨x, M, v, rfl, _⟩ := h
    rfl
  · obtain ⟨x, M, v, rfl, mh, r1, _, q⟩ := h
    have hu := hr.units
    refine ⟨_, (pss_one (ps_ret (pe_callB call_isiT (by rfl) T.isinstance boot_isinstance (pa_cons (pv 0) (pa_cons (pe_tup (pa_cons (pe_bltn (v := .ty "list") (u := .type "list") (by rfl) T.list (by decide +kernel) rfl) (pa_cons (pe_bltn (v := .ty "tuple") (u := .type "tuple") (by rfl) T.tuple (by decide +kernel) rfl) pa_nil))) pa_nil))))), ?_⟩
    exact s_ret mh (gv_isWh (gv_var rfl r1)) q
abbrev s_check_codes : Stmt := topS 40
theorem sc_check_codes : FnScope ["codes", "index", "code"] ["codes"] (defScope s_check_codes) := ⟨rfl, rfl, rfl, by decide +kernel, rfl, by decide +kernel, by decide +kernel⟩
def sp_check_codes (K : PySem.W.Frag) (C BC : Addr) : Sp := fun vs H Q E => ∃ x M v, vs = [v] ∧ Same M H ∧ WhR K C x M v ∧ (∀ ts, x = .seq ts → ts.length ≤ 1000) ∧
  (∀ M' H', Gr M H M' H' → whBad x = none → Q .non H') ∧ ∀ i a M' H', Gr M H M' H' → whBad x = some i → H' a = some (.xd [("index", .int ((i : Nat) : Int))]) → E (.ref BC) (some a) H'
theorem ok_check_codes {f C BC : Addr} {fd : FuncData} (F : Fun K "check_codes" "check_codes" s_check_codes f fd) (T : Gb mg) (O : OffC K C) (IC : InsF K C) (g_Code : mg "Code" = some (.ref C)) (RB : Rai P w K mg base 1 "BadCode" BC "index") (cW_is_list : Cal P w K mg base 1 "is_list" ["thing"] (sp_is_listW K C)) : FnOk P w K mg base (L2.CX P w) 3 f fd ["codes"] (sp_check_codes K C BC) := by
  refine F.okX sc_check_codes (fun vs H Q E h => ?_) (fun cdv A outer s H vs Q E hr h => ?_)
  · obtain ⟨_, _, _, rfl, _⟩ := h
    rfl
  · obtain ⟨x, M, v, rfl, mh, r1, hl, q, qe⟩ := h
    have hu := hr.units
    refine ⟨_, (pss_cons (ps_if (PW.pt (pw_or (pt_not (pt_val (pe_f cW_is_list (hr.mono (by decide)) (pa_cons (pv 0) pa_nil)))) (pw_or1 (pt_cmpR (op_eqP hu) (pe_callB call_lenA (by rfl) T.len boot_len (pa_cons (pv 0) pa_nil)) pe_int (nomark _))))) (pss_one (ps_rai RB (hr.mono (by decide)) rfl (takes_of rfl rfl rfl rfl) (pa_cons pe_int pa_nil))) pss_nil)
      (pss_one (ps_for (passes_of rfl) (by rfl) (pi_en (by rfl) T.enumerate (pa_cons (pv 0) pa_nil)) (pg_tup (by rfl) (pgs_cons (pg_name (i := 1) sc_check_codes.nd rfl (by first | exact .inl rfl | exact .inr rfl)) (pgs_cons (pg_name (i := 2) sc_check_codes.nd rfl (by first | exact .inl rfl | exact .inr rfl)) pgs_nil))) (pss_one (ps_if (pt_not (pt_val (pe_callB call_isi (by rfl) T.isinstance boot_isinstance (pa_cons (pv 2) (pa_cons (pe_glob (v := .ref C) (by rfl) g_Code rfl) pa_nil))))) (pss_one (ps_rai RB (hr.mono (by decide)) rfl (takes_of rfl rfl rfl rfl) (pa_cons (pv 1) pa_nil))) pss_nil))))), ?_⟩
    have gis : ∀ {y : Wh}, WhR K C y M v → Gv (tCall (sp_is_listW K C) [] E0 (tCons (tVar 0) tNil)) [some v, none, none] M (Bl y.isL) := fun r => gv_call1 (R1 := WhR K C) (pre := fun _ => True) (R := fun x => Bl x.isL) (gv_var rfl r) trivial
    have zero : whBad x = some 0 → ∀ {H4 : Hp}, Same H H4 → tRai K BC "index" (fun cls d _ H => E cls d H) (tC (.int 0)) { nx := fun _ H' => Q .non H', rt := Q } [some v, none, none] H4 := fun e H4 hh4 =>
      s_rai (P := It' 0) (mh.trans hh4) (gv_c rfl) fun v6 M6 H6 d6 g6 r6 nd => qe 0 d6 _ _ ((Gr.idle mh hh4).trans (g6.trans (.own g6.mh nd))) e (by rw [show v6 = _ from r6]; exact upd_same)
    cases x with
    | odd d =>
      exact q_if (b := true) mh (gt_is (gt_or (b := true) (c := false) (gt_is (gt_not (gt_B (gis r1))) rfl) fun h => nomatch h) rfl) (fun _ H4 hh4 => zero rfl hh4) fun h => nomatch h
    | seq ts =>
    have hl := hl ts rfl
    have r1 : SqR K (ThR K C) ts M v := r1
    refine q_if (b := decide (ts = [])) mh (gt_is (gt_or (b := false) (c := decide (ts.length = 0)) (gt_is (gt_not (gt_B (gis (y := .seq ts) r1))) rfl) fun _ => gt_is (gt_test (gv_eqT (K := K) (neg := false) (x := (ts.length : Int)) (y := 0) py_int inj_int (gv_lenA (K := K) (R := ThR K C) (gv_var rfl r1)) (gv_c rfl) (by simp [PyData.depth]))) (by simp)) (by cases ts <;> simp)) (fun hb H4 hh4 => ?_) fun hb H4 hh4 => ?_
    · have e : ts = [] := of_decide_eq_true hb
      subst e
      exact zero rfl hh4
    have hne : ts ≠ [] := of_decide_eq_false hb
    have eb : whBad (.seq ts) = thBad ts 0 := by
      cases ts with
      | nil => exact absurd rfl hne
      | cons t r => rfl
    have G0 := Gr.idle mh hh4
    refine s_forE (R1 := ThR K C) (xs := ts) G0.mh (gv_var rfl r1) (fun M1' i σ' M' H' => ∃ y3 y4, Gr M H M' H' ∧ Same M1' M' ∧ thBad (ts.drop i) i = thBad ts 0 ∧ σ' = [some v, y3, y4]) (fun M3 H3 g3 => ⟨none, none, G0.trans g3, Same.refl _, rfl, rfl⟩) (fun M3 i σ' M' H' ⟨_, _, g, s1, _⟩ => ⟨s1, g.mh⟩) ?_ ?_
    · rintro M3 i t v' σ' M' H' H'' sM hx ⟨y3, y4, g, s1, en, rfl⟩ gE rx
      have hil : i < ts.length := (List.getElem?_eq_some_iff.mp hx).1
      have ed : ts.drop i = t :: ts.drop (i + 1) := by
        rw [List.drop_eq_getElem_cons hil]
        congr 1
        exact (List.getElem?_eq_some_iff.mp hx).2
      rw [ed] at en
      have g' := g.trans gE
      refine s_if0 (b := !t.isC) g'.mh (gt_not (gt_B (gv_isTh O IC (gv_var rfl rx)))) (fun hb H5 hh5 => ?_) (fun hb H5 hh5 => ?_)
      · cases t with
        | code c => cases hb
        | odd d =>
          have en : some i = thBad ts 0 := en
          exact s_rai (W := fun cls d _ H => E cls d H) (P := It' ((i : Nat) : Int)) (g'.mh.trans hh5) (gv_var rfl rfl) fun v6 M6 H6 d6 g6 r6 nd => qe i d6 _ _ ((g'.trans (.idle g'.mh hh5)).trans (g6.trans (.own g6.mh nd))) (eb.trans en.symm) (by rw [show v6 = _ from r6]; exact upd_same)
      · cases t with
        | odd d => cases hb
        | code c => exact ⟨M', _, _, g'.trans (.idle g'.mh hh5), s1, en, rfl⟩
    · rintro M3 σ' M' H' sM ⟨y3, y4, g, s1, en, rfl⟩
      rw [List.drop_length] at en
      exact q M' H' g (eb.trans en.symm)
theorem filter_head {p : Str → Bool} : ∀ {xs : List Str} {i : Nat} {x : Str}, xs[i]? = some x → (∀ z ∈ xs.take i, p z = false) → p x = true → (xs.filter p).head? = some x
  | [], i, x, h, _, _ => by simp at h
  | y :: ys, 0, x, h, _, hp => by
    cases (show y = x from Option.some.inj h)
    rw [List.filter_cons, if_pos hp]
    rfl
  | y :: ys, i + 1, x, h, no, hp => by
    have hy : p y = false := no y (by simp)
    rw [List.filter_cons, if_neg (by rw [hy]; decide)]
    exact filter_head (i := i) (by simpa using h) (fun z hz => no z (by simp [hz])) hp
theorem filter_no {p : Str → Bool} {xs : List Str} (h : ∀ z ∈ xs, p z = false) : xs.filter p = [] := List.filter_eq_nil_iff.mpr fun z hz => by rw [h z hz]; decide
abbrev s_check_code : Stmt := topS 41
theorem sc_check_code : FnScope ["code", "ahead", "name", "other"] ["code", "ahead"] (defScope s_check_code) := ⟨rfl, rfl, rfl, by decide +kernel, rfl, by decide +kernel, by decide +kernel⟩
def sp_check_code (K : PySem.W.Frag) (C TM CL : Addr) : Sp := fun vs H Q E => ∃ c ahead M v w, vs = [v, w] ∧ Same M H ∧ CodeR C c M v ∧ SqR K (CodeR C) ahead M w ∧ CheckPre c ahead ∧
  (∀ M' H', Gr M H M' H' → checkC c ahead = none → Q .non H') ∧ (∀ n a M' H', Gr M H M' H' → checkC c ahead = some (.many n) → H' a = some (.xd [("n", .int ((n : Nat) : Int))]) → E (.ref TM) (some a) H') ∧
  ∀ x a M' H', Gr M H M' H' → checkC c ahead = some (.clash x) → H' a = some (.xd [("name", .str x)]) → E (.ref CL) (some a) H'
theorem ok_check_code {f C TM CL : Addr} {fd : FuncData} (F : Fun K "check_code" "check_code" s_check_code f fd) (T : Ge mg) (TC : CodeT K mg C) (RT : Rai P w K mg base 1 "TooMany" TM "n") (RC : Rai P w K mg base 1 "Clash" CL "name") : FnOk P w K mg base (L2.CX P w) 3 f fd ["code", "ahead"] (sp_check_code K C TM CL) := by
  refine F.okX sc_check_code (fun vs H Q E h => ?_) (fun cdv A outer s H vs Q E hr h => ?_)
  · obtain ⟨_, _, _, _, _, rfl, _⟩ := h
    rfl
  · obtain ⟨c, ahead, M, v, w, rfl, mh, r1, r2, ⟨hn, ha⟩, q, qm, qc⟩ := h
    have hu := hr.units
    obtain ⟨tk, hL⟩ := T.g_MOST_SIGNS
    refine ⟨_, (pss_cons (ps_if (pt_cmpR op_gt (pe_callB call_lenA (by rfl) T.len boot_len (pa_cons (pe_fld (pv 0) rfl) pa_nil)) (pe_glob (v := .int 6) (by rfl) hL ⟨_, rfl⟩) (nomark _)) (pss_one (ps_rai RT (hr.mono (by decide)) rfl (takes_of rfl rfl rfl rfl) (pa_cons (pe_callB call_lenA (by rfl) T.len boot_len (pa_cons (pe_fld (pv 0) rfl) pa_nil)) pa_nil))) pss_nil)
      (pss_cons (ps_for (passes_of rfl) (by rfl) (pi_sq (pe_fld (pv 0) rfl)) (pg_name (i := 2) sc_check_code.nd rfl (by first | exact .inl rfl | exact .inr rfl)) (pss_one (ps_if (pt_val (pe_callB (cr_any rfl) (by rfl) T.any boot_any (pa_cons (pe_lc (own := [("other", 3)]) (g := (gName 3)) (tt := tYes) (te := (tOp (rInA K false) (tVar 2) (tFld K (tVar 3) "names"))) (by rfl) sc_check_code.nd (pi_sq (pv 1)) (blkOk_by (by rfl)) (fun _ _ _ _ _ => (pg_name (i := 3) sc_check_code.nd rfl (by first | exact .inl rfl | exact .inr rfl))) (fun _ _ _ _ _ => pts_nil) (fun _ _ _ _ _ => (pe_cmpR (op_inA hu) (pv 2) (pe_fld (pv 3) rfl) (by rfl)))) pa_nil))) (pss_one (ps_rai RC (hr.mono (by decide)) rfl (takes_of rfl rfl rfl rfl) (pa_cons (pv 2) pa_nil))) pss_nil)))
      (pss_one (ps_for (passes_of rfl) (by rfl) (pi_sq (pe_fld (pv 0) rfl)) (pg_name (i := 2) sc_check_code.nd rfl (by first | exact .inl rfl | exact .inr rfl)) (pss_one (ps_if (pt_val (pe_callB (cr_any rfl) (by rfl) T.any boot_any (pa_cons (pe_lc (own := [("other", 3)]) (g := (gName 3)) (tt := tYes) (te := (tOp (rInA K false) (tVar 2) (tFld K (tVar 3) "helper_row"))) (by rfl) sc_check_code.nd (pi_sq (pv 1)) (blkOk_by (by rfl)) (fun _ _ _ _ _ => (pg_name (i := 3) sc_check_code.nd rfl (by first | exact .inl rfl | exact .inr rfl))) (fun _ _ _ _ _ => pts_nil) (fun _ _ _ _ _ => (pe_cmpR (op_inA hu) (pv 2) (pe_fld (pv 3) rfl) (by rfl)))) pa_nil))) (pss_one (ps_rai RC (hr.mono (by decide)) rfl (takes_of rfl rfl rfl rfl) (pa_cons (pv 2) pa_nil))) pss_nil)))))), ?_⟩
    have nn : c.names.length = c.signs.length + c.helpers.length := List.length_append
    have glen : ∀ {σ' : Sl}, σ'[0]? = some (some v) → Gv (tCB (rLenA K) (tCons (tFld K (tVar 0) "sign_row") tNil)) σ' M (It' (c.signs.length : Nat)) := fun h0 => gv_lenA (K := K) (R := Tx) (gv_is (gv_sign TC (gv_var h0 r1)) fun _ _ h => h.sq)
    refine q_if0 (b := decide (6 < c.signs.length)) mh (gt_is (gt_test (gv_gt (g := fun i j => .bl (decide (j < i))) (i := (c.signs.length : Int)) (j := 6) (glen rfl) (gv_c rfl))) (by simp only [decide_eq_decide]; omega)) (fun hb H4 hh4 => ?_) fun hb H4 hh4 => ?_
    · have hb : 6 < c.signs.length := of_decide_eq_true hb
      exact s_rai (W := fun cls d _ H => E cls d H) (P := It' (c.signs.length : Nat)) (mh.trans hh4) (glen rfl) fun v6 M6 H6 d6 g6 r6 nd => qm c.signs.length d6 _ _ ((Gr.idle mh hh4).trans (g6.trans (.own g6.mh nd))) (by unfold checkC; rw [if_pos hb]) (by rw [show v6 = _ from r6]; exact upd_same)
    have hb : ¬ 6 < c.signs.length := of_decide_eq_false hb
    have G0 := Gr.idle mh hh4
    refine q_for (R1 := Tx) (xs := c.helpers) G0.mh (gv_is (gv_helper TC (gv_var rfl r1)) fun _ _ h => h.sq) (fun M1 i σ' M' H' => ∃ y z, Gr M H M' H' ∧ Same M1 M' ∧ (∀ x ∈ c.helpers.take i, inAny x CodeD.names ahead = false) ∧ σ' = [some v, some w, y, z]) (fun M3 H3 g3 => ⟨_, _, G0.trans g3, Same.refl _, (by simp), rfl⟩) (fun M3 i σ' M' H' ⟨_, _, g, s1, _⟩ => ⟨s1, g.mh⟩) ?_ ?_
    · rintro M3 i x u σ' M' H' sM hx ⟨y, z, g, s1, no, rfl⟩ rx
      refine s_if0 (b := inAny x CodeD.names ahead) g.mh (gt_is (gt_B (gv_any (K := K) (gl_m1 (S := Bl) (R := CodeR C) (xs := ahead) (gi_sq (K := K) (gv_var rfl (Mon.mono g.mm r2))) (szK (by omega)) (fun d => decide (x ∈ d.names)) fun d _ M5 u5 sm ru => gv_is (gv_inA (K := K) (neg := false) (x := x) (xs := d.names) (gv_var rfl rx) (gv_is (gv_names TC (gv_var rfl ru)) fun _ _ h => .inl h.sq)) fun M v h => by simpa using h))) (by unfold inAny; rw [List.any_map]; rfl)) (fun hb5 H5 hh5 => ?_) (fun hb5 H5 hh5 => ⟨M', _, _, g.trans (.idle g.mh hh5), s1, fun z hz => ?_, rfl⟩)
      · exact s_rai (W := fun cls d _ H => E cls d H) (P := Tx x) (g.mh.trans hh5) (gv_var rfl rx) fun v6 M6 H6 d6 g6 r6 nd => qc x d6 _ _ ((g.trans (.idle g.mh hh5)).trans (g6.trans (.own g6.mh nd))) (by
          unfold checkC
          rw [if_neg hb, List.head?_append, filter_head hx no hb5]
          rfl) (by rw [show v6 = _ from r6]; exact upd_same)
      · rw [List.take_add_one, hx] at hz
        rcases List.mem_append.mp hz with hz | hz
        · exact no z hz
        · rw [show z = x by simpa using hz]
          exact hb5
    rintro M3 σ1 M4 H4' sM4 ⟨y1, z1, G4, _, all1, rfl⟩
    rw [List.take_length] at all1
    refine s_for (R1 := Tx) (xs := c.signs) G4.mh (gv_is (gv_sign TC (gv_var rfl (Mon.mono G4.mm r1))) fun _ _ h => h.sq) (fun M1 i σ' M' H' => ∃ y z, Gr M H M' H' ∧ Same M1 M' ∧ (∀ x ∈ c.signs.take i, inAny x CodeD.helpers ahead = false) ∧ σ' = [some v, some w, y, z]) (fun M3 H3 g3 => ⟨_, _, G4.trans g3, Same.refl _, (by simp), rfl⟩) (fun M3 i σ' M' H' ⟨_, _, g, s1, _⟩ => ⟨s1, g.mh⟩) ?_ ?_
    · rintro M3 i x u σ' M' H' sM hx ⟨y, z, g, s1, no, rfl⟩ rx
      refine s_if0 (b := inAny x CodeD.helpers ahead) g.mh (gt_is (gt_B (gv_any (K := K) (gl_m1 (S := Bl) (R := CodeR C) (xs := ahead) (gi_sq (K := K) (gv_var rfl (Mon.mono g.mm r2))) (szK (by omega)) (fun d => decide (x ∈ d.helpers)) fun d _ M5 u5 sm ru => gv_is (gv_inA (K := K) (neg := false) (x := x) (xs := d.helpers) (gv_var rfl rx) (gv_is (gv_helper TC (gv_var rfl ru)) fun _ _ h => .inl h.sq)) fun M v h => by simpa using h))) (by unfold inAny; rw [List.any_map]; rfl)) (fun hb5 H5 hh5 => ?_) (fun hb5 H5 hh5 => ⟨M', _, _, g.trans (.idle g.mh hh5), s1, fun z hz => ?_, rfl⟩)
      · exact s_rai (W := fun cls d _ H => E cls d H) (P := Tx x) (g.mh.trans hh5) (gv_var rfl rx) fun v6 M6 H6 d6 g6 r6 nd => qc x d6 _ _ ((g.trans (.idle g.mh hh5)).trans (g6.trans (.own g6.mh nd))) (by
          unfold checkC
          rw [if_neg hb, filter_no all1, List.nil_append, filter_head hx no hb5]) (by rw [show v6 = _ from r6]; exact upd_same)
      · rw [List.take_add_one, hx] at hz
        rcases List.mem_append.mp hz with hz | hz
        · exact no z hz
        · rw [show z = x by simpa using hz]
          exact hb5
    rintro M5 σ2 M6 H6 sM6 ⟨y2, z2, G, _, all2, rfl⟩
    rw [List.take_length] at all2
    exact q _ _ G (by unfold checkC; rw [if_neg hb, filter_no all1, filter_no all2]; rfl)
end
end My

set_option Elab.async false
set_option linter.all false
set_option maxRecDepth 100000
set_option maxHeartbeats 1000000
namespace My
open PySem PySem.Spec PyProof.Rows L2 L3
/-! the making of a web, told plainly -/
def touches (c : CodeD) (l : List Str) : Bool := c.signs.any fun x => decide (x ∈ l)
def twice (c : CodeD) (l : List Str) : Bool := decide (1 < (c.signs.filter fun x => decide (x ∈ l)).length)
def nearL (c : CodeD) (ls : List (List Str)) : List (List Str) := ls.filter (touches c)
def lumpsN (c : CodeD) (ls : List (List Str)) : List (List Str) := ls.filter (fun l => decide (l ∉ nearL c ls)) ++ [(nearL c ls).flatMap (fun l => l.map id) ++ c.signs]
def webGo : List CodeD → List CodeD → List (List Str) → Option WErr
  | _, [], _ => none
  | ahead, c :: r, ls => match checkC c ahead with
    | some e => some e
    | none => if (nearL c ls).any (twice c) = true then some (.tree ahead.length) else webGo (ahead ++ [c]) r (lumpsN c ls)
def webEnd (x : Wh) : Option WErr := match whBad x with
  | some i => some (.code i)
  | none => match x with
    | .seq ts => webGo [] (codesOf ts) []
    | .odd _ => none
def joinAll : List CodeD → CodeD
  | [] => ⟨[], [], []⟩
  | c :: r => r.foldl addD c
noncomputable def tabOf (c : CodeD) : List (List Str) := (mkRule c.signs ((fulls c.signs).filter (satB c.names c.clauses))).settings
structure WC (c : CodeD) : Prop where
  g : CG c
  z : c.signs.length ≤ 6 → CodeZ c
  k : c.clauses.length ≤ 10
  h : c.helpers.length ≤ 1
  s : c.signs.length ≤ 3 ∨ 6 < c.signs.length
  n : c.names.length ≤ 14
structure WebPre (cs : List CodeD) : Prop where
  n : cs.length ≤ 7
  c : ∀ c ∈ cs, WC c
theorem check_ok {c : CodeD} {ahead : List CodeD} (h : checkC c ahead = none) : c.signs.length ≤ 6 ∧ (∀ x ∈ c.helpers, ∀ d ∈ ahead, x ∉ d.names) ∧ ∀ x ∈ c.signs, ∀ d ∈ ahead, x ∉ d.helpers := by
  unfold checkC at h
  by_cases h6 : 6 < c.signs.length
  · rw [if_pos h6] at h; cases h
  rw [if_neg h6] at h
  cases e : ((c.helpers.filter fun x => inAny x CodeD.names ahead) ++ c.signs.filter fun x => inAny x CodeD.helpers ahead).head? with
  | some x => rw [e] at h; cases h
  | none =>
    rw [List.head?_eq_none_iff, List.append_eq_nil_iff, List.filter_eq_nil_iff, List.filter_eq_nil_iff] at e
    refine ⟨by omega, fun x hx d hd hm => e.1 x hx ?_, fun x hx d hd hm => e.2 x hx ?_⟩
    · exact List.any_eq_true.mpr ⟨d, hd, decide_eq_true hm⟩
    · exact List.any_eq_true.mpr ⟨d, hd, decide_eq_true hm⟩
theorem go_at : ∀ {r ahead : List CodeD} {ls : List (List Str)}, webGo ahead r ls = none → ∀ {i : Nat} {c : CodeD}, r[i]? = some c → checkC c (ahead ++ r.take i) = none
  | [], _, _, _, i, c, hc => by simp at hc
  | d :: r, ahead, ls, h, i, c, hc => by
    have h : (match checkC d ahead with | some e => some e | none => if (nearL d ls).any (twice d) = true then some (.tree ahead.length) else webGo (ahead ++ [d]) r (lumpsN d ls)) = none := h
    cases e : checkC d ahead with
    | some z => rw [e] at h; cases h
    | none =>
      rw [e] at h
      have h : (if (nearL d ls).any (twice d) = true then some (.tree ahead.length) else webGo (ahead ++ [d]) r (lumpsN d ls)) = none := h
      cases i with
      | zero =>
        cases (show d = c from Option.some.inj hc)
        rw [List.take_zero, List.append_nil]
        exact e
      | succ i =>
        have := go_at (r := r) (ahead := ahead ++ [d]) (ls := lumpsN d ls) (by
          split at h
          · cases h
          · exact h) (i := i) (c := c) (by simpa using hc)
        rw [List.take_succ_cons]
        simpa using this
/-- what is joined so far -/
structure JoinI (cs : List CodeD) (i : Nat) : Prop where
  g : CG (joinAll (cs.take i))
  nm : ∀ x, x ∈ (joinAll (cs.take i)).names ↔ ∃ d ∈ cs.take i, x ∈ d.names
  hp : ∀ x, x ∈ (joinAll (cs.take i)).helpers ↔ ∃ d ∈ cs.take i, x ∈ d.helpers
  n : (joinAll (cs.take i)).names.length ≤ 4 * i
  k : (joinAll (cs.take i)).clauses.length ≤ 10 * i
theorem join_take {cs : List CodeD} {i : Nat} {c : CodeD} (h0 : 0 < i) (hc : cs[i]? = some c) : joinAll (cs.take (i + 1)) = addD (joinAll (cs.take i)) c := by
  rw [List.take_add_one, hc]
  cases cs with
  | nil => simp at hc
  | cons d r =>
    cases i with
    | zero => exact absurd h0 (Nat.lt_irrefl _)
    | succ i =>
      rw [List.take_succ_cons]
      show joinAll ((d :: r.take i) ++ [c]) = addD (joinAll (d :: r.take i)) c
      show (r.take i ++ [c]).foldl addD d = addD ((r.take i).foldl addD d) c
      rw [List.foldl_append]
      rfl
theorem WC.small {c : CodeD} (w : WC c) (h : c.signs.length ≤ 6) : c.names.length ≤ 4 := by
  have e : c.names.length = c.signs.length + c.helpers.length := List.length_append
  have := w.h
  have := w.s
  omega
theorem join_inv {cs : List CodeD} (W : WebPre cs) (h : webGo [] cs [] = none) : ∀ i, 0 < i → i ≤ cs.length → JoinI cs i ∧ ∀ c, cs[i]? = some c → AddPre (joinAll (cs.take i)) c ∧ clash (joinAll (cs.take i)) c = none := by
  have step : ∀ i, JoinI cs i → ∀ c, cs[i]? = some c → AddPre (joinAll (cs.take i)) c ∧ clash (joinAll (cs.take i)) c = none := by
    intro i J c hc
    have hi : i < cs.length := (List.getElem?_eq_some_iff.mp hc).1
    have wc := W.c c (List.mem_of_getElem? hc)
    obtain ⟨h6, hh, hs⟩ := check_ok (go_at h hc)
    rw [List.nil_append] at hh hs
    have n4 := wc.small h6
    have W7 := W.n
    have Jn := J.n
    have Jk := J.k
    have wk := wc.k
    refine ⟨⟨J.g, wc.g, by omega, by omega, by omega, by omega⟩, clash_0 (fun z hz hd => ?_) fun z hz hd => ?_⟩
    · obtain ⟨d, hd1, hd2⟩ := (J.hp z).mp hz
      rcases List.mem_append.mp hd with hd | hd
      · exact hs z hd d hd1 hd2
      · exact hh z hd d hd1 (List.mem_append_right _ hd2)
    · obtain ⟨d, hd1, hd2⟩ := (J.nm z).mp hd
      exact hh z hz d hd1 hd2
  intro i h0
  induction i with
  | zero => exact absurd h0 (Nat.lt_irrefl _)
  | succ i ih =>
    intro hi
    suffices J : JoinI cs (i + 1) from ⟨J, step _ J⟩
    obtain ⟨c, hc⟩ : ∃ c, cs[i]? = some c := ⟨cs[i], List.getElem?_eq_getElem hi⟩
    have wc := W.c c (List.mem_of_getElem? hc)
    have h6 := (check_ok (go_at h hc)).1
    have n4 := wc.small h6
    have wk := wc.k
    cases i with
    | zero =>
      have e : cs.take 1 = [c] := by rw [List.take_add_one, hc]; rfl
      refine ⟨?_, ?_, ?_, ?_, ?_⟩ <;> rw [show 0 + 1 = 1 from rfl, e]
      · exact wc.g
      · intro x; show x ∈ c.names ↔ _; simp
      · intro x; show x ∈ c.helpers ↔ _; simp
      · exact n4
      · show c.clauses.length ≤ 10; omega
    | succ i =>
      obtain ⟨J, st⟩ := ih (Nat.succ_pos _) (by omega)
      obtain ⟨ap, cl⟩ := st c hc
      obtain ⟨_, cg⟩ := ap.sum cl
      have e := join_take (Nat.succ_pos i) hc
      have et : cs.take (i + 1 + 1) = cs.take (i + 1) ++ [c] := by rw [List.take_add_one, hc]; rfl
      have Jn := J.n
      have Jk := J.k
      have fl : (c.signs.filter fun n => decide (n ∉ (joinAll (cs.take (i + 1))).signs)).length ≤ c.signs.length := List.length_filter_le _ _
      refine ⟨?_, ?_, ?_, ?_, ?_⟩ <;> rw [e]
      · exact cg
      · intro x
        rw [mem_addN, J.nm x, et]
        constructor
        · rintro (⟨d, h1, h2⟩ | h2)
          · exact ⟨d, List.mem_append_left _ h1, h2⟩
          · exact ⟨c, List.mem_append_right _ (List.mem_singleton.mpr rfl), h2⟩
        · rintro ⟨d, h1, h2⟩
          rcases List.mem_append.mp h1 with h1 | h1
          · exact .inl ⟨d, h1, h2⟩
          · rw [List.mem_singleton.mp h1] at h2; exact .inr h2
      · intro x
        show x ∈ (joinAll (cs.take (i + 1))).helpers ++ c.helpers ↔ _
        rw [List.mem_append, J.hp x, et]
        constructor
        · rintro (⟨d, h1, h2⟩ | h2)
          · exact ⟨d, List.mem_append_left _ h1, h2⟩
          · exact ⟨c, List.mem_append_right _ (List.mem_singleton.mpr rfl), h2⟩
        · rintro ⟨d, h1, h2⟩
          rcases List.mem_append.mp h1 with h1 | h1
          · exact .inl ⟨d, h1, h2⟩
          · rw [List.mem_singleton.mp h1] at h2; exact .inr h2
      · have cn : c.names.length = c.signs.length + c.helpers.length := List.length_append
        have jn : (joinAll (cs.take (i + 1))).names.length = (joinAll (cs.take (i + 1))).signs.length + (joinAll (cs.take (i + 1))).helpers.length := List.length_append
        show (((joinAll (cs.take (i + 1))).signs ++ c.signs.filter fun n => decide (n ∉ (joinAll (cs.take (i + 1))).signs)) ++ ((joinAll (cs.take (i + 1))).helpers ++ c.helpers)).length ≤ _
        simp only [List.length_append]
        omega
      · refine Nat.le_trans (once_len2 _) ?_
        rw [List.length_map, List.length_append]
        have Jk : (joinAll (cs.take i.succ)).clauses.length ≤ 10 * (i + 1) := Jk
        omega
theorem codes_th {cs : List CodeD} : codesOf (cs.map .code) = cs := by
  unfold codesOf
  rw [List.filterMap_map]
  induction cs with
  | nil => rfl
  | cons c r ih => rw [List.filterMap_cons]; exact congrArg (c :: ·) ih
/-- how far the making has come -/
theorem go_step {cs : List CodeD} {i : Nat} {c : CodeD} {ls : List (List Str)} (hc : cs[i]? = some c) (hg : webGo (cs.take i) (cs.drop i) ls = webGo [] cs []) :
    (∀ e, checkC c (cs.take i) = some e → webGo [] cs [] = some e) ∧ (checkC c (cs.take i) = none → ((nearL c ls).any (twice c) = true → webGo [] cs [] = some (.tree i)) ∧ ((nearL c ls).any (twice c) = false → webGo (cs.take (i + 1)) (cs.drop (i + 1)) (lumpsN c ls) = webGo [] cs [])) := by
  have hi : i < cs.length := (List.getElem?_eq_some_iff.mp hc).1
  have ed : cs.drop i = c :: cs.drop (i + 1) := by
    rw [List.drop_eq_getElem_cons hi]
    congr 1
    exact (List.getElem?_eq_some_iff.mp hc).2
  have et : cs.take (i + 1) = cs.take i ++ [c] := by rw [List.take_add_one, hc]; rfl
  have el : (cs.take i).length = i := by rw [List.length_take]; omega
  rw [ed] at hg
  have hg : (match checkC c (cs.take i) with | some e => some e | none => if (nearL c ls).any (twice c) = true then some (.tree (cs.take i).length) else webGo (cs.take i ++ [c]) (cs.drop (i + 1)) (lumpsN c ls)) = webGo [] cs [] := hg
  refine ⟨fun e h => ?_, fun h => ⟨fun h2 => ?_, fun h2 => ?_⟩⟩
  · rw [h] at hg; exact hg.symm
  · rw [h] at hg
    have hg : (if (nearL c ls).any (twice c) = true then some (.tree (cs.take i).length) else webGo (cs.take i ++ [c]) (cs.drop (i + 1)) (lumpsN c ls)) = webGo [] cs [] := hg
    rw [if_pos h2, el] at hg
    exact hg.symm
  · rw [h] at hg
    have hg : (if (nearL c ls).any (twice c) = true then some (.tree (cs.take i).length) else webGo (cs.take i ++ [c]) (cs.drop (i + 1)) (lumpsN c ls)) = webGo [] cs [] := hg
    rw [if_neg (by rw [h2]; decide), ← et] at hg
    exact hg
end My

set_option Elab.async false
set_option linter.all false
set_option maxRecDepth 100000
set_option maxHeartbeats 8000000
namespace My
open PySem PySem.Spec PyProof.Rows L2 L3
/-! a web is made -/
def webF (vr vt vj : V) : List (Str × V) := putF "joined" vj (putF "tables" vt (putF "row" vr []))
def WebR (K : PySem.W.Frag) (C CW : Addr) : Rl (List CodeD) := fun cs M v => ∃ a dx vr vt vj, v = .ref a ∧ M a = some (.ins CW dx (webF vr vt vj)) ∧ TupR K (CodeR C) cs M vr ∧ LiR (LiR TT) (cs.map tabOf) M vt ∧ CodeR C (joinAll cs) M vj
instance {K : PySem.W.Frag} {C CW : Addr} : Mon (WebR K C CW) := ⟨fun e ⟨a, dx, vr, vt, vj, h1, h2, h3, h4, h5⟩ => ⟨a, dx, vr, vt, vj, h1, e _ _ h2, Mon.mono e h3, Mon.mono e h4, Mon.mono e h5⟩⟩
structure WebT (K : PySem.W.Frag) (CW : Addr) : Prop where
  cl : Cls K CW
  nR : NoAttr K CW "row"
  nT : NoAttr K CW "tables"
  nJ : NoAttr K CW "joined"
section
variable {K : PySem.W.Frag} {σ : Sl} {M H : Hp} {te ts : TE} {P P' : Pr} {D : Ends} {tz tb : TS} {i : Nat} {x C dx : Addr} {fs : List (Str × V)} {f : Str}
/-- self.f = e, what is known of the value does not need self -/
theorem s_fldI (mh : Same M H) (hm : M x = none) (hx : H x = some (.ins C dx fs)) (hi : σ[i]? = some (some (.ref x))) (cl : Cls K C) (na : NoAttr K C f) (hl : fs.length < 1000)
    (h : Gv te σ (upd M x (.ins C dx fs)) P) (hd : ∀ M v, M x = some (.ins C dx fs) → P M v → P' (L3.del M x) v) (k : ∀ v M' H', Gr M H M' H' → M' x = none → P' M' v → D.nx σ (upd H' x (.ins C dx (putF f v fs)))) : sFld K (tVar i) te f D σ H :=
  h H (same_lent mh hx) _ fun v M' H' g p => ⟨.ref x, hi, x, C, dx, fs, rfl, g.hh _ _ hx, cl, na, hl, k v _ H' (g.back hm) del_at (hd M' v (g.mm x _ upd_same) p)⟩
theorem q_fldI (mh : Same M H) (hm : M x = none) (hx : H x = some (.ins C dx fs)) (hi : σ[i]? = some (some (.ref x))) (cl : Cls K C) (na : NoAttr K C f) (hl : fs.length < 1000)
    (h : Gv te σ (upd M x (.ins C dx fs)) P) (hd : ∀ M v, M x = some (.ins C dx fs) → P M v → P' (L3.del M x) v) (k : ∀ v M' H', Gr M H M' H' → M' x = none → P' M' v → tz D σ (upd H' x (.ins C dx (putF f v fs)))) : tSeq (sFld K (tVar i) te f) tz D σ H :=
  s_fldI (D := { D with nx := tz D }) mh hm hx hi cl na hl h hd k
/-- self.f = e, e without self -/
theorem q_fld0 (mh : Same M H) (hm : M x = none) (hx : H x = some (.ins C dx fs)) (hi : σ[i]? = some (some (.ref x))) (cl : Cls K C) (na : NoAttr K C f) (hl : fs.length < 1000)
    (h : Gv te σ M P) (k : ∀ v M' H', Gr M H M' H' → M' x = none → P M' v → tz D σ (upd H' x (.ins C dx (putF f v fs)))) : tSeq (sFld K (tVar i) te f) tz D σ H :=
  h H mh _ fun v M' H' g p => ⟨.ref x, hi, x, C, dx, fs, rfl, g.hh _ _ hx, cl, na, hl, k v _ H' g (g.keep hm hx) p⟩
/-- for y in e: what e gives does not need self -/
theorem s_forI {j : Nat} (mh : Same M H) (hm : M x = none) (hx : H x = some (.ins C dx fs)) (h : Gv ts σ (upd M x (.ins C dx fs)) P) (hd : ∀ M v, M x = some (.ins C dx fs) → P M v → P' (L3.del M x) v)
    (k : ∀ v M' H', Gr M H M' H' → M' x = none → H' x = some (.ins C dx fs) → P' M' v → tFor (iSq K (tC v)) (gName j) tb D σ H') : tFor (iSq K ts) (gName j) tb D σ H :=
  h H (same_lent mh hx) _ fun v M' H' g p => k v _ H' (g.back hm) del_at (g.hh _ _ hx) (hd M' v (g.mm x _ upd_same) p)
theorem code_del {C' : Addr} {c : CodeD} {v : V} {u : V} (hx : M x = some (.ins C dx fs)) (hr : fs.lookup ("row" : Str) = some u) (h : CodeR C' c M v) : CodeR C' c (L3.del M x) v := by
  obtain ⟨a, d, va, vb, vn, vc, rfl, ha, h1, h2, h3, h4⟩ := h
  have na : a ≠ x := fun z => by
    rw [z, hx] at ha
    have e : fs = codeF va vb vn vc := by
      have := Option.some.inj ha
      injection this
    rw [e] at hr
    unfold codeF at hr
    rw [lookup_putF, if_neg (by decide +kernel), lookup_putF, if_neg (by decide +kernel), lookup_putF, if_neg (by decide +kernel), lookup_putF, if_neg (by decide +kernel)] at hr
    cases hr
  have nt : ∀ xs, HO.ins C dx fs ≠ HO.tup xs := ins_nt
  exact ⟨a, d, va, vb, vn, vc, rfl, by rw [L3.del_ne na]; exact ha, Stl.del nt hx h1, Stl.del nt hx h2, Stl.del nt hx h3, Stl.del nt hx h4⟩
theorem li_del {α : Type} {R : Rl α} {xs : List α} {v : V} (hx : M x = some (.ins C dx fs)) (hR : ∀ y u, R y M u → R y (L3.del M x) u) (h : LiR R xs M v) : LiR R xs (L3.del M x) v := by
  obtain ⟨a, vs, rfl, ha, hp⟩ := h
  exact ⟨a, vs, rfl, by rw [L3.del_ne (fun z => by rw [z, hx] at ha; cases ha)]; exact ha, Paired.mapP hp fun _ _ q => hR _ _ q⟩
theorem tp_del {α : Type} {R : Rl α} {xs : List α} {v : V} (hx : M x = some (.ins C dx fs)) (hR : ∀ y u, R y M u → R y (L3.del M x) u) (h : TupR K R xs M v) : TupR K R xs (L3.del M x) v := by
  obtain ⟨a, vs, rfl, ha, hp⟩ := h
  refine ⟨a, vs, rfl, ?_, Paired.mapP hp fun _ _ q => hR _ _ q⟩
  rcases ha with (h | ⟨o, h⟩) | h
  · exact .inl (.inl (by rw [L3.del_ne (fun z => by rw [z, hx] at h; cases h)]; exact h))
  · exact .inl (.inr ⟨o, by rw [L3.del_ne (fun z => by rw [z, hx] at h; cases h)]; exact h⟩)
  · exact .inr h
/-- t[lo:hi], t a tuple of any kind -/
theorem gv_cutTK {α : Type} {R : Rl α} [Mon R] {tl th : TO} {xs : List α} {lo hi : Option Int} (h : Gv te σ M (TupR K R xs)) (hl : ∀ (H : Hp) (Q : Option Int → Hp → Prop), Q lo H → tl σ H Q) (hh : ∀ (H : Hp) (Q : Option Int → Hp → Prop), Q hi H → th σ H Q) :
    Gv (tSl (rSlX K) te tl th) σ M (TupR K R (cutL xs lo hi)) := fun H mh Q q => h H mh _ fun v M1 H1 g1 ⟨a, vs, e, r, p⟩ => hl _ _ (hh _ _ (by
    subst e
    have el : xs.length = vs.length := p.length
    refine .inr (.inr ⟨a, vs, rfl, st_mono g1.mh r, fun ⟨w1, w2⟩ => ?_, fun _ t nt => ?_⟩)
    · refine q _ M1 H1 g1 ⟨a, vs, rfl, r, ?_⟩
      have : cutL xs lo hi = xs := by unfold cutL; rw [el, w1, w2, List.drop_zero, Nat.sub_zero, ← el, List.take_length]
      rw [this]
      exact p
    · exact q _ _ _ (g1.trans (.new g1.mh nt)) ⟨t, _, rfl, .inl (.inl upd_same), (pd_cut p).mono (same_new (g1.mh.free nt))⟩))
end
theorem putF_twice {f : Str} {u v : V} : ∀ fs : List (Str × V), putF f v (putF f u fs) = putF f v fs
  | [] => by
    show putF f v [(f, u)] = [(f, v)]
    unfold putF
    rw [if_pos rfl]
  | (g, y) :: r => by
    by_cases h : g = f
    · have e1 : putF f u ((g, y) :: r) = (g, u) :: r := if_pos h
      have e2 : putF f v ((g, y) :: r) = (g, v) :: r := if_pos h
      rw [e1, e2]
      exact if_pos h
    · have e1 : putF f u ((g, y) :: r) = (g, y) :: putF f u r := if_neg h
      have e2 : putF f v ((g, y) :: r) = (g, y) :: putF f v r := if_neg h
      rw [e1, e2]
      have e3 : putF f v ((g, y) :: putF f u r) = (g, y) :: putF f v (putF f u r) := if_neg h
      rw [e3, putF_twice r]
theorem pd_codes {K : PySem.W.Frag} {C : Addr} {M : Hp} : ∀ {cs : List CodeD} {vs : List V}, Pd (ThR K C) M (cs.map .code) vs → Pd (CodeR C) M cs vs
  | [], _, h => by cases h; exact .nil
  | c :: cs, _, h => by cases h with | cons q t => exact .cons q (pd_codes t)
theorem sq_codes {K : PySem.W.Frag} {C : Addr} {M : Hp} {cs : List CodeD} {v : V} (h : SqR K (ThR K C) (cs.map .code) M v) : SqR K (CodeR C) cs M v := by
  rcases h with ⟨a, vs, e, hs, hp⟩ | ⟨a, vs, e, hs, hp⟩
  · exact .inl ⟨a, vs, e, hs, pd_codes hp⟩
  · exact .inr ⟨a, vs, e, hs, pd_codes hp⟩
theorem py_LT {K : PySem.W.Frag} : PyR K (LiR Tx) fun xs => .list (xs.map .str) := fun xs M v h => py_lst py_str _ _ _ h.lst
theorem inj_LT : Inj fun xs : List Str => PyData.list (xs.map .str) := inj_lst inj_str
theorem not_near (c : CodeD) (ls : List (List Str)) : ls.filter (fun l => decide (l ∉ nearL c ls)) = ls.filter fun l => !touches c l := by
  refine List.filter_congr fun l hl => ?_
  unfold nearL
  cases e : touches c l with
  | true => simp [List.mem_filter, hl, e]
  | false => simp [List.mem_filter, e]
theorem part_len (p : List Str → Bool) : ∀ ls : List (List Str), (ls.filter fun l => !p l).flatten.length + (ls.filter p).flatten.length = ls.flatten.length
  | [] => rfl
  | l :: ls => by
    have ih := part_len p ls
    rw [List.filter_cons, List.filter_cons]
    cases p l <;> simp only [Bool.not_false, Bool.not_true, if_true, if_false, Bool.false_eq_true, List.flatten_cons, List.length_append] <;> omega
theorem near_flat (c : CodeD) (ls : List (List Str)) : (nearL c ls).flatMap (fun l => l.map id) = (nearL c ls).flatten := by
  rw [List.flatMap_def]
  congr 1
  exact (List.map_congr_left fun l _ => List.map_id l).trans (List.map_id _)
theorem lumps_len (c : CodeD) (ls : List (List Str)) : (lumpsN c ls).flatten.length = ls.flatten.length + c.signs.length ∧ (lumpsN c ls).length ≤ ls.length + 1 := by
  unfold lumpsN
  rw [not_near, near_flat]
  have h := part_len (touches c) ls
  have h2 := List.length_filter_le (fun l => !touches c l) ls
  constructor
  · rw [List.flatten_append, List.length_append, List.flatten_singleton, List.length_append]
    unfold nearL
    omega
  · rw [List.length_append, List.length_singleton]
    omega
theorem mem_flat {l : List Str} {ls : List (List Str)} (h : l ∈ ls) : l.length ≤ ls.flatten.length := by
  induction ls with
  | nil => cases h
  | cons a r ih =>
    rw [List.flatten_cons, List.length_append]
    rcases List.mem_cons.mp h with rfl | h
    · omega
    · have := ih h; omega
/-- which class, which field -/
def errC (BC TM CL NT : Addr) : WErr → Addr
  | .code _ => BC
  | .many _ => TM
  | .clash _ => CL
  | .tree _ => NT
def errF : WErr → Str × V
  | .code i => ("index", .int ((i : Nat) : Int))
  | .many n => ("n", .int ((n : Nat) : Int))
  | .clash x => ("name", .str x)
  | .tree i => ("index", .int ((i : Nat) : Int))
theorem end_seq {cs : List CodeD} (h : cs ≠ []) : webEnd (.seq (cs.map .code)) = webGo [] cs [] := by
  have e : ∀ (cs : List CodeD) i, thBad (cs.map .code) i = none := fun cs => by
    induction cs with
    | nil => intro i; rfl
    | cons c r ih => intro i; exact ih (i + 1)
  cases cs with
  | nil => exact absurd rfl h
  | cons c r =>
    have : whBad (.seq ((c :: r).map .code)) = none := e (c :: r) 0
    unfold webEnd
    rw [this]
    show webGo [] (codesOf ((c :: r).map .code)) [] = _
    rw [codes_th]
section
variable {P : Program} {w : World} {K : PySem.W.Frag} {mg : Str → Option Value} {base : Heap}
abbrev s_Web_init : Stmt := inClass (topS 39) 0
theorem sc_Web_init : FnScope ["self", "codes", "lumps", "code", "index", "near", "lump", "name", "sign"] ["self", "codes"] (defScope s_Web_init) := ⟨rfl, rfl, rfl, by decide +kernel, rfl, by decide +kernel, by decide +kernel⟩
def sp_webX (K : PySem.W.Frag) (C CW BC TM CL NT : Addr) : Sp := fun vs H Q E => ∃ u M Hb x dx v, vs = [.ref x, v] ∧ Gr M Hb M H ∧ Hb x = none ∧ M x = none ∧ H x = some (.ins CW dx []) ∧ WhR K C u M v ∧ (∀ ts, u = .seq ts → ts.length ≤ 1000 ∧ (thBad ts 0 = none → WebPre (codesOf ts))) ∧
  (∀ M' H', Gr M Hb M' H' → webEnd u = none → (∀ ts, u = .seq ts → WebR K C CW (codesOf ts) M' (.ref x)) → Q .non H') ∧ ∀ e a M' H', Gr M Hb M' H' → webEnd u = some e → H' a = some (.xd [errF e]) → E (.ref (errC BC TM CL NT e)) (some a) H'
theorem ok_webX {f C CR CW BC TM CL NT : Addr} {fd : FuncData} (F : Fun K "__init__" "Web.__init__" s_Web_init f fd) (T : Ge mg) (TC : CodeT K mg C) (TW : WebT K CW) (sfC : PySem.W.selfFirst K C = true) (RN : Rai P w K mg base 1 "NotTree" NT "index")
    (cX_check_codes : CalX P w K mg base 3 "check_codes" ["codes"] (sp_check_codes K C BC)) (cX_check_code : CalX P w K mg base 3 "check_code" ["code", "ahead"] (sp_check_code K C TM CL)) (m_rule : Met P w K mg base 20 C "rule" ["self"] (sp_Code_rule K C CR)) (m_settings : Met P w K mg base 2 CR "settings" ["self"] (sp_Rule_settings K CR)) (o_add : OwnSp P w K mg base 7 C "__add__" ["self", "other"] (sp_addN K C)) : FnOk P w K mg base (L2.CX P w) 22 f fd ["self", "codes"] (sp_webX K C CW BC TM CL NT) := by
  refine F.okX sc_Web_init (fun vs H Q E h => ?_) (fun cdv A outer s H vs Q E hr h => ?_)
  · obtain ⟨_, _, _, _, _, _, rfl, _⟩ := h
    rfl
  · obtain ⟨wh, M, Hb, x, dx, v, rfl, g0, hb, hm, hx, r1, PRE, q, qe⟩ := h
    have hu := hr.units
    refine ⟨_, (pss_cons (ps_expr (pe_cX cX_check_codes (hr.mono (by decide)) (takes_of rfl rfl rfl rfl) (pa_cons (pv 1) pa_nil)))
      (pss_cons (ps_fld (pv 0) (pe_callTy call_tupA (by rfl) T.tuple boot_tuple (pa_cons (pv 1) pa_nil)) rfl)
      (pss_cons (ps_set (i := 2) sc_Web_init.nd rfl (by first | exact .inl rfl | exact .inr rfl) (pe_lst pa_nil))
      (pss_cons (ps_for (passes_of rfl) (by rfl) (pi_en (by rfl) T.enumerate (pa_cons (pe_fld (pv 0) rfl) pa_nil)) (pg_tup (by rfl) (pgs_cons (pg_name (i := 4) sc_Web_init.nd rfl (by first | exact .inl rfl | exact .inr rfl)) (pgs_cons (pg_name (i := 3) sc_Web_init.nd rfl (by first | exact .inl rfl | exact .inr rfl)) pgs_nil))) (pss_cons (ps_expr (pe_cX cX_check_code (hr.mono (by decide)) (takes_of rfl rfl rfl rfl) (pa_cons (pv 3) (pa_cons (pe_slice sl_X (pe_fld (pv 0) rfl) po_none (po_some (pv 4))) pa_nil))))
      (pss_cons (ps_set (i := 5) sc_Web_init.nd rfl (by first | exact .inl rfl | exact .inr rfl) (pe_lc (own := [("lump", 6)]) (g := (gName 6)) (tt := (tB (tCB (rAny K) (tCons (tLc (iSq K (tFld K (tVar 3) "sign_row")) (gName 8) tYes (tOp (rInA K false) (tVar 8) (tVar 6)) [8]) tNil)))) (te := (tVar 6)) (by rfl) sc_Web_init.nd (pi_sq (pv 2)) (blkOk_by (by rfl)) (fun _ _ _ _ _ => (pg_name (i := 6) sc_Web_init.nd rfl (by first | exact .inl rfl | exact .inr rfl))) (fun _ _ _ _ _ => (pts_one (pt_val (pe_callB (cr_any rfl) (by rfl) T.any boot_any (pa_cons (pe_lc (own := [("sign", 8)]) (g := (gName 8)) (tt := tYes) (te := (tOp (rInA K false) (tVar 8) (tVar 6))) (by rfl) sc_Web_init.nd (pi_sq (pe_fld (pv 3) rfl)) (blkOk_by (by rfl)) (fun _ _ _ _ _ => (pg_name (i := 8) sc_Web_init.nd rfl (by first | exact .inl rfl | exact .inr rfl))) (fun _ _ _ _ _ => pts_nil) (fun _ _ _ _ _ => (pe_cmpR (op_inA hu) (pv 8) (pv 6) (by rfl)))) pa_nil))))) (fun _ _ _ _ _ => (pv 6))))
      (pss_cons (ps_if (pt_val (pe_callB (cr_any rfl) (by rfl) T.any boot_any (pa_cons (pe_lc (own := [("lump", 6)]) (g := (gName 6)) (tt := tYes) (te := (tOp (rI0 fun i j => .bl (decide (j < i))) (tCB (rLenA K) (tCons (tLc (iSq K (tFld K (tVar 3) "sign_row")) (gName 8) (tTest (tOp (rInA K false) (tVar 8) (tVar 6))) (tVar 8) [8]) tNil)) (tC (.int 1)))) (by rfl) sc_Web_init.nd (pi_sq (pv 5)) (blkOk_by (by rfl)) (fun _ _ _ _ _ => (pg_name (i := 6) sc_Web_init.nd rfl (by first | exact .inl rfl | exact .inr rfl))) (fun _ _ _ _ _ => pts_nil) (fun _ _ _ _ _ => (pe_cmpR op_gt (pe_callB call_lenA (by rfl) T.len boot_len (pa_cons (pe_lc (own := [("sign", 8)]) (g := (gName 8)) (tt := (tTest (tOp (rInA K false) (tVar 8) (tVar 6)))) (te := (tVar 8)) (by rfl) sc_Web_init.nd (pi_sq (pe_fld (pv 3) rfl)) (blkOk_by (by rfl)) (fun _ _ _ _ _ => (pg_name (i := 8) sc_Web_init.nd rfl (by first | exact .inl rfl | exact .inr rfl))) (fun _ _ _ _ _ => (pts_one (pt_cmpR (op_inA hu) (pv 8) (pv 6) (by rfl)))) (fun _ _ _ _ _ => (pv 8))) pa_nil)) pe_int (nomark _)))) pa_nil))) (pss_one (ps_rai RN (hr.mono (by decide)) rfl (takes_of rfl rfl rfl rfl) (pa_cons (pv 4) pa_nil))) pss_nil)
      (pss_cons (ps_setLc (i := 2) (own := [("lump", 6)]) (g := (gName 6)) (tt := (tTest (tOp (rInA K true) (tVar 6) (tVar 5)))) (te := (tVar 6)) (by rfl) sc_Web_init.nd rfl rfl (sw_true rfl rfl rfl (by decide +kernel)) (pi_sq (pv 2)) (blkOk_by (by rfl)) (fun _ _ _ _ _ => (pg_name (i := 6) sc_Web_init.nd rfl (by first | exact .inl rfl | exact .inr rfl))) (fun _ _ _ _ _ => (pts_one (pt_cmpR (op_niA hu) (pv 6) (pv 5) (by rfl)))) (fun _ _ _ _ _ => (pv 6)))
      (pss_one (ps_expr (pe_bm PySem.F.plainAttrs_list PySem.F.slot_list_append PySem.F.type_list_append mt_append (pv 2) (pa_cons (pe_op op_addA (pe_lc2 (own := [("lump", 6), ("name", 7)]) (vs1 := [7]) (g := (gName 6)) (tt := tYes) (wi1 := (iSq K (tVar 6))) (g1 := (gName 7)) (tt1 := tYes) (te := (tVar 7)) (by rfl) sc_Web_init.nd (pi_sq (pv 5)) (blkOk_by (by rfl)) (by decide) (fun _ _ _ _ _ => (pg_name (i := 6) sc_Web_init.nd rfl (by first | exact .inl rfl | exact .inr rfl))) (fun _ _ _ _ _ => pts_nil) (fun _ _ _ _ _ => (pi_sq (pv 6))) (fun _ _ _ _ _ => (pg_name (i := 7) sc_Web_init.nd rfl (by first | exact .inl rfl | exact .inr rfl))) (fun _ _ _ _ _ => pts_nil) (fun _ _ _ _ _ => (pv 7))) (pe_callTy call_lstA (by rfl) T.list boot_list (pa_cons (pe_fld (pv 3) rfl) pa_nil))) pa_nil)))))))))
      (pss_cons (ps_fld (pv 0) (pe_lc (own := [("code", 3)]) (g := (gName 3)) (tt := tYes) (te := (tMeth CR "settings" (sp_Rule_settings K CR) [] E0 (tMeth C "rule" (sp_Code_rule K C CR) [] E0 (tVar 3) tNil) tNil)) (by rfl) sc_Web_init.nd (pi_sq (pe_fld (pv 0) rfl)) (blkOk_by (by rfl)) (fun _ _ _ _ _ => (pg_name (i := 3) sc_Web_init.nd rfl (by first | exact .inl rfl | exact .inr rfl))) (fun _ _ _ _ _ => pts_nil) (fun _ _ _ _ _ => (pe_m0 m_settings (hr.mono (by decide)) (pe_m0 m_rule (hr.mono (by decide)) (pv 3))))) rfl)
      (pss_cons (ps_fld (pv 0) (pe_ix ix_X (pe_fld (pv 0) rfl) pe_int (fun _ _ => rfl)) rfl)
      (pss_one (ps_for (passes_of rfl) (by rfl) (pi_sq (pe_slice sl_X (pe_fld (pv 0) rfl) (po_some pe_int) po_none)) (pg_name (i := 3) sc_Web_init.nd rfl (by first | exact .inl rfl | exact .inr rfl)) (pss_one (ps_fld (pv 0) (pe_op (op_addO o_add sfC (hr.mono (by decide))) (pe_fld (pv 0) rfl) (pv 3)) rfl)))))))))), ?_⟩
    -- check_codes(codes)
    refine ⟨v, rfl, wh, M, v, rfl, g0.mh, r1, fun ts e => (PRE ts e).1, fun Mb Hb' gb wb => ?_, fun i a M' H' g wb ha => qe (.code i) a M' H' (g0.trans g) (by unfold webEnd; rw [wb]) ha⟩
    obtain ⟨cs, hne, rfl⟩ : ∃ cs : List CodeD, cs ≠ [] ∧ wh = .seq (cs.map .code) := by
      cases wh with
      | odd d => cases wb
      | seq ts =>
        cases ts with
        | nil => cases wb
        | cons t r =>
          have := thBad_none (show thBad (t :: r) 0 = none from wb)
          exact ⟨codesOf (t :: r), (fun z => by rw [z] at this; cases this), by rw [← this]⟩
    have W : WebPre cs := by
      have := (PRE _ rfl).2 (by
        cases cs with
        | nil => exact absurd rfl hne
        | cons c r => exact wb)
      rwa [codes_th] at this
    have rs : SqR K (CodeR C) cs M v := sq_codes r1
    have n7 := W.n
    have we : webEnd (.seq (cs.map .code)) = webGo [] cs [] := end_seq hne
    rw [we] at q qe
    have g0 := g0.trans gb
    have hx : Hb' x = some (.ins CW dx []) := gb.hh _ _ hx
    have hm : Mb x = none := gb.keep hm (by assumption)
    -- self.row = tuple(codes)
    refine q_fld0 (P := TupR K (CodeR C) cs) g0.mh hm hx rfl TW.cl TW.nR (by decide) (gv_tupOf (K := K) (gv_var rfl (Mon.mono gb.mm rs))) fun vr M1 H1 g1 m1 rr => ?_
    have G1 := (g0.trans g1).mut (o := .ins CW dx (putF "row" vr [])) hb m1
    have z1 : (putF "row" vr []).length ≤ 1 := putF_len (Nat.le_refl 0)
    have l1 : (putF "row" vr []).lookup ("row" : Str) = some vr := by rw [lookup_putF, if_pos rfl]
    have s1 := same_new (o := .ins CW dx (putF "row" vr [])) m1
    have mhl : Same (upd M1 x (.ins CW dx (putF "row" vr []))) (upd H1 x (.ins CW dx (putF "row" vr []))) := same_lent G1.mh upd_same
    have at1 : (upd M1 x (.ins CW dx (putF "row" vr []))) x = some (.ins CW dx (putF "row" vr [])) := upd_same
    have rrl : TupR K (CodeR C) cs (upd M1 x (.ins CW dx (putF "row" vr []))) vr := Mon.mono s1 rr
    have qe' : ∀ {M' H' e a}, Gr (upd M1 x (.ins CW dx (putF "row" vr []))) (upd H1 x (.ins CW dx (putF "row" vr []))) M' H' → webGo [] cs [] = some e → H' a = some (.xd [errF e]) → E (.ref (errC BC TM CL NT e)) (some a) H' := fun g e ha => qe _ _ _ _ (G1.trans (g.back m1)) e ha
    revert mhl at1 rrl qe'
    generalize hML : upd M1 x (.ins CW dx (putF "row" vr [])) = ML
    generalize hHL : upd H1 x (.ins CW dx (putF "row" vr [])) = HL
    intro mhl at1 rrl qe'
    have grow : ∀ {σ' : Sl} {M' : Hp}, σ'[0]? = some (some (.ref x)) → Same ML M' → Gv (tFld K (tVar 0) "row") σ' M' (TupR K (CodeR C) cs) := fun h0 sm => gv_self h0 (sm _ _ at1) TW.cl TW.nR l1 (Mon.mono sm rrl)
    -- lumps = []
    refine q_asgL mhl gl_nil fun p vs M2 H2 g2 h0 m0 hp ev => ?_
    subst ev
    have G2 := g2.freeze h0 m0 hp
    refine q_forE (R1 := CodeR C) (xs := cs) G2.mh (gv_is (grow rfl G2.mm) fun _ _ h => .inr h)
      (fun M1' i σ' M' H' => ∃ y3 y4 y5 p ls, Gr ML HL M' H' ∧ Same M1' M' ∧ LiR (LiR Tx) ls M' (.ref p) ∧ ls.flatten.length ≤ 14 * i ∧ ls.length ≤ i ∧ webGo (cs.take i) (cs.drop i) ls = webGo [] cs [] ∧ σ' = [some (.ref x), some v, some (.ref p), y3, y4, y5, none, none, none])
      (fun M3 H3 g3 => ⟨none, none, none, p, [], G2.trans g3, Same.refl _, ⟨p, [], rfl, g3.mm _ _ upd_same, .nil⟩, Nat.le_refl _, Nat.le_refl _, rfl, rfl⟩) (fun M3 i σ' M' H' ⟨_, _, _, _, _, g, s1, _⟩ => ⟨s1, g.mh⟩) ?_ ?_
    · rintro M3 i c vc σ' M' H' H'' sM hc ⟨y3, y4, y5, p, ls, g, s3, rl, k1, k2, hgo, rfl⟩ gE rc
      have hil : i < cs.length := (List.getElem?_eq_some_iff.mp hc).1
      have wc := W.c c (List.mem_of_getElem? hc)
      have wn := wc.n
      have cn : c.names.length = c.signs.length + c.helpers.length := List.length_append
      have g' := g.trans gE
      obtain ⟨st1, st2⟩ := go_step hc hgo
      -- check_code(code, self.row[:index])
      refine ⟨vc, rfl, gv_cutTK (K := K) (lo := none) (hi := some ((i : Nat) : Int)) (grow rfl g'.mm) (fun _ _ h => h) (fun _ _ h => ⟨_, rfl, _, rfl, h⟩) H'' g'.mh _ fun vn M4 H4 g4 rn => ⟨c, cs.take i, M4, vc, vn, rfl, g4.mh, Mon.mono g4.mm rc, by rw [cut_take] at rn; exact .inr rn, ⟨by omega, by rw [List.length_take]; omega⟩, fun M5 H5 g5 ce => ?_, fun n a M5 H5 g5 ce ha => qe' ((g'.trans g4).trans g5) (st1 _ ce) ha, fun y a M5 H5 g5 ce ha => qe' ((g'.trans g4).trans g5) (st1 _ ce) ha⟩⟩
      obtain ⟨st3, st4⟩ := st2 ce
      have g5 := (g'.trans g4).trans g5
      have s45 : Same M' M5 := gE.mm.trans (g4.mm.trans (by assumption : Gr M4 H4 M5 H5).mm)
      have rl5 : LiR (LiR Tx) ls M5 (.ref p) := Mon.mono s45 rl
      have rc5 : CodeR C c M5 vc := Mon.mono s45 rc
      have gsig : ∀ {σ' : Sl} {M' : Hp}, σ'[3]? = some (some vc) → Same M5 M' → Gv (tFld K (tVar 3) "sign_row") σ' M' (SqR K Tx c.signs) := fun h0 sm => gv_is (gv_sign TC (gv_var h0 (Mon.mono sm rc5))) fun _ _ h => h.sq
      -- near
      refine q_asg (P := LiR (LiR Tx) (nearL c ls)) g5.mh (gv_is (gl_c1 (S := LiR Tx) (R := LiR Tx) (xs := ls) (gi_sq (K := K) (gv_is (gv_var rfl rl5) fun _ _ h => h.sq)) (szK (by omega)) (touches c) id
        (fun l hl M6 u6 sm ru => gt_is (gt_B (gv_any (K := K) (gl_m1 (S := Bl) (R := Tx) (xs := c.signs) (gi_sq (K := K) (gsig rfl sm)) (szK (by omega)) (fun y => decide (y ∈ l)) fun y _ M7 u7 sm7 ry => gv_is (gv_inA (K := K) (neg := false) (x := y) (xs := l) (gv_var rfl ry) (gv_is (gv_var rfl (Mon.mono sm7 ru)) fun _ _ h => .inl (LiR.sq h))) fun M v h => by simpa using h))) (by unfold touches; rw [List.any_map]; rfl))
        fun l hl _ M6 u6 sm ru => gv_var rfl ru).li fun M v h => by rw [List.map_id] at h; exact h) fun vn M6 H6 g6 rn6 => ?_
      have G6 := g5.trans g6
      have nl : (nearL c ls).length ≤ ls.length := List.length_filter_le _ _
      have gnear : ∀ {σ' : Sl} {M' : Hp}, σ'[5]? = some (some vn) → Same M6 M' → Gv (tVar 5) σ' M' (SqR K (LiR Tx) (nearL c ls)) := fun h0 sm => gv_is (gv_var h0 (Mon.mono sm rn6)) fun _ _ h => h.sq
      -- two signs in one lump
      refine q_if0 (b := (nearL c ls).any (twice c)) G6.mh (gt_is (gt_B (gv_any (K := K) (gl_m1 (S := Bl) (R := LiR Tx) (xs := nearL c ls) (gi_sq (K := K) (gnear rfl (Same.refl _))) (szK (by omega)) (twice c) fun l _ M7 u7 sm7 ru => gv_is (gv_gt (g := fun i j => .bl (decide (j < i))) (i := ((c.signs.filter fun y => decide (y ∈ l)).length : Int)) (j := 1) (gv_lenA (K := K) (R := Tx) (gv_is (gl_c1 (S := Tx) (R := Tx) (xs := c.signs) (gi_sq (K := K) (gsig rfl (g6.mm.trans sm7))) (szK (by omega)) (fun y => decide (y ∈ l)) id
        (fun y _ M8 u8 sm8 ry => gt_is (gt_test (gv_inA (K := K) (neg := false) (x := y) (xs := l) (gv_var rfl ry) (gv_is (gv_var rfl (Mon.mono sm8 ru)) fun _ _ h => .inl (LiR.sq h)))) (by simp)) fun y _ _ M8 u8 sm8 ry => gv_var rfl ry).li fun M v h => by rw [List.map_id] at h; exact h.sq)) (gv_c rfl)) fun M v h => by rw [show v = _ from h]; show V.bl _ = V.bl _; congr 1; unfold twice; simp only [decide_eq_decide]; omega))) (by rw [List.any_map]; rfl)) (fun hb7 H7 hh7 => ?_) fun hb7 H7 hh7 => ?_
      · exact s_rai (W := fun cls d _ H => E cls d H) (P := It' ((i : Nat) : Int)) (G6.mh.trans hh7) (gv_var rfl rfl) fun v8 M8 H8 d8 g8 r8 nd => qe' (e := .tree i) ((G6.trans (.idle G6.mh hh7)).trans (g8.trans (.own g8.mh nd))) (st3 hb7) (by rw [show v8 = _ from r8]; exact upd_same)
      have G7 := G6.trans (.idle G6.mh hh7)
      -- the others, and the joined one
      refine q_asgL G7.mh (gl_c1 (S := LiR Tx) (R := LiR Tx) (xs := ls) (gi_sq (K := K) (gv_is (gv_var rfl (Mon.mono g6.mm rl5)) fun _ _ h => LiR.sq h)) (szK (by omega)) (fun l => decide (l ∉ nearL c ls)) id
        (fun l hl M8 u8 sm ru => gt_is (gt_test (gv_inD (K := K) (R := LiR Tx) (neg := true) py_LT inj_LT (gv_var rfl ru) (gnear rfl sm) (by simp [PyData.depth, depthS]))) (by simp))
        fun l hl _ M8 u8 sm ru => gv_var rfl ru) fun p2 ws M8 H8 g8 h02 m02 hp2 hpd => ?_
      rw [List.map_id] at hpd
      have G8 := G7.trans g8
      have wl : ws.length ≤ ls.length := by rw [← hpd.length]; exact List.length_filter_le _ _
      have nf : (nearL c ls).flatten.length ≤ ls.flatten.length := by
        have := part_len (touches c) ls
        unfold nearL
        omega
      have fm : ((nearL c ls).flatMap fun l => l.map id).length ≤ 14 * i := by rw [near_flat]; omega
      have lp := lumps_len c ls
      refine s_app (P := LiR Tx ((nearL c ls).flatMap (fun l => l.map id) ++ c.signs)) G8.mh rfl hp2 (szL (by omega)) (gl_addL (K := K) (R := Tx) (gl_two (T := Tx) (R := LiR Tx) (R1 := Tx) (xs := nearL c ls) (ys := fun l => l) (f := fun _ y => y) (gi_sq (K := K) (gnear rfl g8.mm)) (szM (by rw [show (nearL c ls).flatMap (fun l => l) = (nearL c ls).flatten from by rw [List.flatMap_def, List.map_id']]; omega))
        (fun l hl M9 u9 sm ru => gi_sq (K := K) (gv_is (gv_var rfl ru) fun _ _ h => LiR.sq h)) fun l hl y hy M9 u9 w9 sm ru ry => gv_var rfl ry).li
        (gl_lstOf (K := K) (R1 := Tx) (gsig rfl (g6.mm.trans g8.mm))).li (szM (by have : ((nearL c ls).flatMap fun x => x.map fun y => y).length ≤ 14 * i := fm; omega))).li fun v9 M9 H9 g9 r9 => ?_
      have m92 := g9.keep m02 hp2
      have h92 := g9.hh _ _ hp2
      have hl2 : HL p2 = none := by
        cases e : HL p2 with
        | none => rfl
        | some o =>
          have := G7.hh _ _ e
          rw [h02] at this
          cases this
      have G9 := (((G8.trans g9).mut (o := .lst (ws ++ [v9])) hl2 m92)).freeze hl2 m92 upd_same
      have e9 := same_new (o := .lst (ws ++ [v9])) m92
      refine ⟨_, _, _, _, p2, lumpsN c ls, G9, (s3.trans s45).trans (g6.mm.trans (g8.mm.trans (g9.mm.trans e9))), ⟨p2, _, rfl, upd_same, ?_⟩, by omega, by omega, st4 hb7, rfl⟩
      exact pd_app (hpd.mono (R := LiR Tx) (g9.mm.trans e9)) (.cons (Mon.mono e9 r9) .nil)
    rintro M3 σ3 M4 H4 sM4 ⟨y3, y4, y5, p, ls, g4, s3, rl, k1, k2, hgo, rfl⟩
    have hgo : webGo [] cs [] = none := by
      rw [List.drop_length] at hgo
      exact hgo.symm
    -- self.tables
    obtain ⟨hJ0, hJ⟩ : (∃ c0 r, cs = c0 :: r) ∧ ∀ i, 0 < i → i ≤ cs.length → JoinI cs i ∧ ∀ c, cs[i]? = some c → AddPre (joinAll (cs.take i)) c ∧ clash (joinAll (cs.take i)) c = none := ⟨by
      cases cs with
      | nil => exact absurd rfl hne
      | cons c r => exact ⟨c, r, rfl⟩, join_inv W hgo⟩
    have s6 : ∀ c ∈ cs, c.signs.length ≤ 6 := fun c hc => by
      obtain ⟨i, hi⟩ := List.getElem?_of_mem hc
      exact (check_ok (go_at hgo hi)).1
    subst hML hHL
    have gB := g4.back m1
    have GB := G1.trans gB
    have hx4 : H4 x = some (.ins CW dx (putF "row" vr [])) := g4.hh _ _ upd_same
    have rrD : TupR K (CodeR C) cs (L3.del M4 x) vr := Mon.mono gB.mm rr
    have z2 : ∀ vt : V, (putF "tables" vt (putF "row" vr [])).length ≤ 2 := fun vt => putF_len z1
    have z3 : ∀ vt vj : V, (webF vr vt vj).length ≤ 3 := fun vt vj => putF_len (z2 vt)
    have l2 : ∀ vt : V, (putF "tables" vt (putF "row" vr [])).lookup ("row" : Str) = some vr := fun vt => by rw [lookup_putF, if_neg (by decide +kernel)]; exact l1
    have l3 : ∀ vt vj : V, (webF vr vt vj).lookup ("row" : Str) = some vr := fun vt vj => by unfold webF; rw [lookup_putF, if_neg (by decide +kernel)]; exact l2 vt
    have lj : ∀ vt vj : V, (webF vr vt vj).lookup ("joined" : Str) = some vj := fun vt vj => by unfold webF; rw [lookup_putF, if_pos rfl]
    refine q_fldI (P := LiR (LiR TT) (cs.map tabOf)) (P' := LiR (LiR TT) (cs.map tabOf)) GB.mh L3.del_at hx4 rfl TW.cl TW.nT (lt1000 z1) (gl_m1 (S := LiR TT) (R := CodeR C) (xs := cs) (gi_sq (K := K) (gv_is (gv_self (P := TupR K (CodeR C) cs) rfl upd_same TW.cl TW.nR l1 (Mon.mono (same_new L3.del_at) rrD)) fun _ _ h => .inr h)) (szK (by omega)) tabOf fun c hc M5 u5 sm ru =>
      gv_met1 (R1 := RuleR CR) (pre := RuleW) (R := fun r => LiR TT r.settings) (x := mkRule c.signs ((fulls c.signs).filter (satB c.names c.clauses))) (insR_rule (by decide +kernel) (by decide +kernel)) (gv_met1 (R1 := CodeR C) (pre := CodeZ) (R := fun c => RuleR CR (mkRule c.signs ((fulls c.signs).filter (satB c.names c.clauses)))) (x := c) (insR_code (by decide +kernel) (by decide +kernel) (by decide +kernel) (by decide +kernel)) (gv_var rfl ru) ((W.c c hc).z (s6 c hc))) ⟨s6 c hc, nm_shorts ((W.c c hc).z (s6 c hc)).sg.1⟩).li
      (fun M v hx h => li_del hx (fun y u h => li_del hx (fun y u h => Stl.del ins_nt hx h) h) h) fun vt M5 H5 g5 m5 rt => ?_
    have G5 := (GB.trans g5).mut (o := .ins CW dx (putF "tables" vt (putF "row" vr []))) hb m5
    have rr5 : TupR K (CodeR C) cs M5 vr := Mon.mono g5.mm rrD
    -- self.joined
    obtain ⟨c0, r0, e0⟩ := hJ0
    have ix0 : cs[0]? = some c0 := by rw [e0]; rfl
    refine q_fldI (P := CodeR C c0) (P' := CodeR C c0) G5.mh m5 upd_same rfl TW.cl TW.nJ (lt1000 (z2 vt)) (gv_ix (K := K) (R := CodeR C) (xs := cs) (i := ((0 : Nat) : Int)) (gv_is (gv_self (P := TupR K (CodeR C) cs) rfl upd_same TW.cl TW.nR (l2 vt) (Mon.mono (same_new m5) rr5)) fun _ _ h => .inr h) (gv_c rfl) (atI_nat (j := 0) ix0)) (fun M v hx h => code_del hx (l2 vt) h) fun vj M6 H6 g6 m6 rj => ?_
    have G6 := (G5.trans g6).mut (o := .ins CW dx (webF vr vt vj)) hb m6
    refine s_forI (P := TupR K (CodeR C) (cs.drop 1)) (P' := TupR K (CodeR C) (cs.drop 1)) G6.mh m6 upd_same (gv_is (gv_cutTK (K := K) (lo := some ((1 : Nat) : Int)) (hi := none) (gv_self (P := TupR K (CodeR C) cs) rfl upd_same TW.cl TW.nR (l3 vt vj) (Mon.mono (g6.mm.trans (same_new m6)) rr5)) (fun _ _ h => ⟨_, rfl, h⟩) (fun _ _ h => h)) fun M v h => by rw [cut_drop] at h; exact h) (fun M v hx h => tp_del hx (fun y u h => code_del hx (l3 vt vj) h) h) fun vs M7 H7 g7 m7 h7 rs7 => ?_
    have G7 := G6.trans g7
    have dl : (cs.drop 1).length + 1 = cs.length := by rw [e0]; rfl
    refine s_for (R1 := CodeR C) (xs := cs.drop 1) G7.mh (gv_c (.inr rs7))
      (fun M1' i σ' M' H' => ∃ y2 y3 y4 y5 vj', Gr M Hb M' H' ∧ Same M1' M' ∧ Same M7 M' ∧ M' x = none ∧ H' x = some (.ins CW dx (webF vr vt vj')) ∧ CodeR C (joinAll (cs.take (i + 1))) M' vj' ∧ σ' = [some (.ref x), some v, y2, y3, y4, y5, none, none, none])
      (fun M3 H3 g3 => ⟨_, _, _, _, vj, G7.trans g3, Same.refl _, g3.mm, g3.keep m7 h7, g3.hh _ _ h7, by rw [show cs.take (0 + 1) = [c0] by rw [e0]; rfl]; exact Mon.mono (g7.mm.trans g3.mm) rj, rfl⟩) (fun M3 i σ' M' H' ⟨_, _, _, _, _, g, s1, _⟩ => ⟨s1, g.mh⟩) ?_ ?_
    · rintro M8 i c vc σ' M' H' sM hc ⟨y2, y3, y4, y5, vj', g, s1, s2, mx, hx', rj', rfl⟩ rc
      have hc : cs[i + 1]? = some c := by rw [List.getElem?_drop, Nat.add_comm] at hc; exact hc
      have hil : i + 1 < cs.length := (List.getElem?_eq_some_iff.mp hc).1
      obtain ⟨ap, cl⟩ := (hJ (i + 1) (Nat.succ_pos _) (by omega)).2 c hc
      refine s_fldI (P := CodeR C (addD (joinAll (cs.take (i + 1))) c)) (P' := CodeR C (addD (joinAll (cs.take (i + 1))) c)) g.mh mx hx' rfl TW.cl TW.nJ (lt1000 (z3 vt vj')) (gv_binO (R1 := CodeR C) (pre := fun c d => AddPre c d ∧ clash c d = none) (R := fun c d => CodeR C (addD c d)) (x := joinAll (cs.take (i + 1))) (y := c) (gv_self (P := CodeR C (joinAll (cs.take (i + 1)))) rfl upd_same TW.cl TW.nJ (lj vt vj') (Mon.mono (same_new mx) rj')) (gv_var rfl (Mon.mono (same_new mx) rc)) inst_code ⟨ap, cl⟩ (ref_code _)) (fun M v hx h => code_del hx (l3 vt vj') h) fun vj2 M9 H9 g9 m9 rj2 => ?_
      have ew : putF "joined" vj2 (webF vr vt vj') = webF vr vt vj2 := putF_twice _
      rw [ew]
      exact ⟨M9, _, _, _, _, vj2, (g.trans g9).mut hb m9, s1.trans g9.mm, s2.trans g9.mm, m9, upd_same, by rw [join_take (Nat.succ_pos i) hc]; exact rj2, rfl⟩
    rintro M8 σ8 M9 H9 sM8 ⟨y2, y3, y4, y5, vj', g, s1, s2, mx, hx', rj', rfl⟩
    rw [dl, List.take_length] at rj'
    have GF := g.freeze hb mx hx'
    have eF := same_new (o := .ins CW dx (webF vr vt vj')) mx
    refine q _ _ GF hgo fun ts e => ?_
    have e2 : ts = cs.map .code := by injection e with e; exact e.symm
    subst e2
    rw [codes_th]
    have up : Same M5 (upd M9 x (.ins CW dx (webF vr vt vj'))) := (g6.mm.trans (g7.mm.trans s2)).trans eF
    exact ⟨x, dx, vr, vt, vj', rfl, upd_same, Mon.mono up rr5, Mon.mono up rt, Mon.mono eF rj'⟩
end
end My

set_option Elab.async false
set_option linter.all false
set_option maxRecDepth 100000
set_option maxHeartbeats 8000000
namespace My
open PySem PySem.Spec PyProof.Rows L2 L3
/-! a web that is asked -/
/-- a web without its tables -/
def WebQ (K : PySem.W.Frag) (C CW : Addr) : Rl (List CodeD) := fun cs M v => ∃ a dx vr vt vj, v = .ref a ∧ M a = some (.ins CW dx (webF vr vt vj)) ∧ TupR K (CodeR C) cs M vr ∧ CodeR C (joinAll cs) M vj
instance {K : PySem.W.Frag} {C CW : Addr} : Mon (WebQ K C CW) := ⟨fun e ⟨a, dx, vr, vt, vj, h1, h2, h3, h5⟩ => ⟨a, dx, vr, vt, vj, h1, e _ _ h2, Mon.mono e h3, Mon.mono e h5⟩⟩
theorem WebR.q {K : PySem.W.Frag} {C CW : Addr} {cs : List CodeD} {M : Hp} {v : V} (h : WebR K C CW cs M v) : WebQ K C CW cs M v := let ⟨a, dx, vr, vt, vj, h1, h2, h3, _, h5⟩ := h; ⟨a, dx, vr, vt, vj, h1, h2, h3, h5⟩
theorem inst_web {K : PySem.W.Frag} {C CW : Addr} (cs : List CodeD) : ∀ (M : Hp) (v : V), WebQ K C CW cs M v → ∃ a dx fs, v = .ref a ∧ M a = some (.ins CW dx fs) := fun M v ⟨a, dx, vr, vt, vj, e, h, _⟩ => ⟨a, dx, _, e, h⟩
theorem webF_row (vr vt vj : V) : (webF vr vt vj).lookup ("row" : Str) = some vr := by
  unfold webF
  rw [lookup_putF, if_neg (by decide +kernel), lookup_putF, if_neg (by decide +kernel), lookup_putF, if_pos rfl]
theorem webF_joined (vr vt vj : V) : (webF vr vt vj).lookup ("joined" : Str) = some vj := by
  unfold webF
  rw [lookup_putF, if_pos rfl]
theorem insR_web {K : PySem.W.Frag} {C CW : Addr} {m : Str} {cs : List CodeD} (h1 : ¬ m = ("joined" : Str)) (h2 : ¬ m = ("tables" : Str)) (h3 : ¬ m = ("row" : Str)) : InsR CW m (WebQ K C CW cs) := fun M v ⟨a, dx, vr, vt, vj, e, h, _⟩ => ⟨a, dx, _, e, h, by
  unfold webF
  rw [lookup_putF, if_neg h1, lookup_putF, if_neg h2, lookup_putF, if_neg h3]
  rfl⟩
section
variable {K : PySem.W.Frag} {σ : Sl} {M : Hp} {te : TE} {C CW : Addr} {cs : List CodeD}
theorem gv_row (TW : WebT K CW) (h : Gv te σ M (WebQ K C CW cs)) : Gv (tFld K te "row") σ M (TupR K (CodeR C) cs) := gv_fld h fun M' v ⟨a, dx, vr, vt, vj, h1, h2, h3, h5⟩ => ⟨a, CW, dx, _, vr, h1, h2, TW.cl, TW.nR, webF_row .., h3⟩
theorem gv_joinW (TW : WebT K CW) (h : Gv te σ M (WebQ K C CW cs)) : Gv (tFld K te "joined") σ M (CodeR C (joinAll cs)) := gv_fld h fun M' v ⟨a, dx, vr, vt, vj, h1, h2, h3, h5⟩ => ⟨a, CW, dx, _, vj, h1, h2, TW.cl, TW.nJ, webF_joined .., h5⟩
end
def eqW (cs ds : List CodeD) : Bool := decide (cs.length = ds.length) && (cs.zip ds).all fun p => eqC p.1 p.2
structure AskP (cs : List CodeD) : Prop where
  n : cs.length ≤ 1000
  c : ∀ c ∈ cs, CodeP c
/-- another thing -/
inductive Ot where
  | data (d : PyData)
  | seq (ds : List CodeD)
  | code (c : CodeD)
def OtR (K : PySem.W.Frag) (C : Addr) : Rl Ot := fun x M v => match x with
  | .data d => DdF K d M v
  | .seq ds => SqR K (CodeR C) ds M v
  | .code c => CodeR C c M v
instance {K : PySem.W.Frag} {C : Addr} : Mon (OtR K C) := ⟨fun {t M M' v} e h => by
  cases t with
  | data d => exact Mon.mono (R := DdF K) (x := d) e h
  | seq ds => exact Mon.mono (R := SqR K (CodeR C)) (x := ds) e h
  | code c => exact Mon.mono (R := CodeR C) (x := c) e h⟩
/-- what the head must say of the two classes -/
structure WebO (K : PySem.W.Frag) (C CW : Addr) : Prop where
  O : OffC K CW
  IC : InsF K C
  nf : PySem.W.notFirst K CW (.ref C) = true
  kc : PySem.W.kitOne K (.ref C) (.ref CW) = some false
theorem ot_ty {K : PySem.W.Frag} {C CW : Addr} (W : WebO K C CW) {x : Ot} {M : Hp} {v : V} (h : OtR K C x M v) : ∃ t, TyX K M v t ∧ PySem.W.notFirst K CW t = true ∧ PySem.W.kitOne K t (.ref CW) = some false := by
  cases x with
  | data d => exact ⟨_, ty_F h, nf_of K CW, W.O.kit⟩
  | seq ds =>
    rcases ty_sq (K := K) (show SqR K (CodeR C) ds M v from h) with t | t
    · exact ⟨_, t, nf_list K CW, W.O.kit (d := .list [])⟩
    · exact ⟨_, t, nf_tup K CW, W.O.kit (d := .tuple [])⟩
  | code c =>
    obtain ⟨a, dx, fs, rfl, ha⟩ := inst_code c M v h
    exact ⟨_, .base (.ins ha W.IC.cl W.IC.gc W.IC.sp W.IC.tk W.IC.mr), W.nf, W.kc⟩
section
variable {X : Cx} {k : Nat} {C : Addr} {ps : List Str} {sp : Sp}
/-- o == y, y of another kind -/
def rEqY (K : PySem.W.Frag) (C : Addr) (sp : Sp) : R2 := fun x y H Q => ∃ a dx fs t, x = V.ref a ∧ H a = some (.ins C dx fs) ∧ TyX K H y t ∧ PySem.W.notFirst K C t = true ∧ sp [.ref a, y] H (fun v H' => ∃ c, v = .bl c ∧ Q (.bl c) H') E0
theorem op_eqY (o : OwnSp X.prog X.w X.K X.mg X.base k C "__eq__" ps sp) (hr : Room k X.A) : OpR X (compareOp .Eq) (rEqY X.K C sp) := by
  intro pins s σ H x y u v Q I rx ry h
  obtain ⟨f, fd, F, hs, hf, hb⟩ := o
  obtain ⟨a, dx, fs, t, rfl, ha, ty, nf, q⟩ := h
  cases (show u = Value.ref a from rx)
  obtain ⟨ox, od, J⟩ := own_inst I ha
  obtain ⟨m, hF⟩ := I.fr
  have KX := I.ok.mod.kin.keeps hF.keep
  obtain ⟨P, Z, hP, _⟩ := kit_of I ry ty
  refine PySem.W.cmp_K (op := .Eq) (tb := t) hr.units0 hF I.ok.mod.kin J (Z.ty (model X.prog X.w) s.heap KX hP) nf hs hf (wpAny_mono (run_deep (us := [.ref a, v]) (vs := [.ref a, y]) F hr I.env0 hb pass0 I (.cons rfl (.cons ry .nil)) q) (fun w s' z => ?_) fun _ _ x => x)
  obtain ⟨z', H', I', rz, c, e, qz⟩ := z
  subst e
  cases (show w = Value.bool c from rz)
  exact ⟨.bl c, H', I', rfl, qz⟩
end
section
variable {P : Program} {w : World} {K : PySem.W.Frag} {mg : Str → Option Value} {base : Heap}
abbrev s_Web_codes : Stmt := inClass (topS 39) 1
theorem sc_Web_codes : FnScope ["self"] ["self"] (defScope s_Web_codes) := ⟨rfl, rfl, rfl, by decide +kernel, rfl, by decide +kernel, by decide +kernel⟩
def sp_Web_codes (K : PySem.W.Frag) (C CW : Addr) : Sp := sl1 (WebQ K C CW) (fun _ => True) fun cs M ws => Pd (CodeR C) M cs ws
theorem ok_Web_codes {f C CW : Addr} {fd : FuncData} (F : Fun K "codes" "Web.codes" s_Web_codes f fd) (T : Gc mg) (TW : WebT K CW) : FnOk P w K mg base CX0 1 f fd ["self"] (sp_Web_codes K C CW) := by
  refine F.ok sc_Web_codes (fun vs H Q E h => ?_) (fun cdv A outer s H vs Q E hr h => ?_)
  · obtain ⟨x, M, v, rfl, _⟩ := h
    rfl
  · obtain ⟨cs, M, v, rfl, mh, r1, _, q⟩ := h
    have hu := hr.units
    refine ⟨_, (pss_one (ps_ret (pe_callTy call_lstA (by rfl) T.list boot_list (pa_cons (pe_fld (pv 0) rfl) pa_nil)))), ?_⟩
    exact (gl_lstOf (K := K) (R1 := CodeR C) (gv_is (gv_row TW (gv_var rfl r1)) fun _ _ h => .inr h)) H mh _ fun p vs M' H' g h0 m0 hp pd => q p vs M' H' g h0 m0 hp pd
abbrev s_Web_len : Stmt := inClass (topS 39) 2
theorem sc_Web_len : FnScope ["self"] ["self"] (defScope s_Web_len) := ⟨rfl, rfl, rfl, by decide +kernel, rfl, by decide +kernel, by decide +kernel⟩
def sp_Web_len (K : PySem.W.Frag) (C CW : Addr) : Sp := sp1 (WebQ K C CW) (fun _ => True) fun cs => It' (cs.length : Nat)
theorem ok_Web_len {f C CW : Addr} {fd : FuncData} (F : Fun K "__len__" "Web.__len__" s_Web_len f fd) (T : Gc mg) (TW : WebT K CW) : FnOk P w K mg base CX0 1 f fd ["self"] (sp_Web_len K C CW) := by
  refine F.ok sc_Web_len (fun vs H Q E h => ?_) (fun cdv A outer s H vs Q E hr h => ?_)
  · obtain ⟨x, M, v, rfl, _⟩ := h
    rfl
  · obtain ⟨cs, M, v, rfl, mh, r1, _, q⟩ := h
    have hu := hr.units
    refine ⟨_, (pss_one (ps_ret (pe_callB call_lenA (by rfl) T.len boot_len (pa_cons (pe_fld (pv 0) rfl) pa_nil)))), ?_⟩
    exact s_ret mh (gv_lenA (K := K) (R := CodeR C) (gv_is (gv_row TW (gv_var rfl r1)) fun _ _ h => .inr h)) q
abbrev s_Web_code : Stmt := inClass (topS 39) 5
theorem sc_Web_code : FnScope ["self"] ["self"] (defScope s_Web_code) := ⟨rfl, rfl, rfl, by decide +kernel, rfl, by decide +kernel, by decide +kernel⟩
def sp_Web_code (K : PySem.W.Frag) (C CW : Addr) : Sp := sp1 (WebQ K C CW) (fun _ => True) fun cs => CodeR C (joinAll cs)
theorem ok_Web_code {f C CW : Addr} {fd : FuncData} (F : Fun K "code" "Web.code" s_Web_code f fd) (TW : WebT K CW) : FnOk P w K mg base CX0 1 f fd ["self"] (sp_Web_code K C CW) := by
  refine F.ok sc_Web_code (fun vs H Q E h => ?_) (fun cdv A outer s H vs Q E hr h => ?_)
  · obtain ⟨x, M, v, rfl, _⟩ := h
    rfl
  · obtain ⟨cs, M, v, rfl, mh, r1, _, q⟩ := h
    have hu := hr.units
    refine ⟨_, (pss_one (ps_ret (pe_fld (pv 0) rfl))), ?_⟩
    exact s_ret mh (gv_joinW TW (gv_var rfl r1)) q
abbrev s_Web_eq : Stmt := inClass (topS 39) 4
theorem sc_Web_eq : FnScope ["self", "other", "one", "two"] ["self", "other"] (defScope s_Web_eq) := ⟨rfl, rfl, rfl, by decide +kernel, rfl, by decide +kernel, by decide +kernel⟩
def sp_Web_eq (K : PySem.W.Frag) (C CW : Addr) : Sp := sp2 (WebQ K C CW) (WebQ K C CW) (fun a b => AskP a ∧ AskP b) fun a b => Bl (eqW a b)
theorem ok_Web_eq {f C CW : Addr} {fd : FuncData} (F : Fun K "__eq__" "Web.__eq__" s_Web_eq f fd) (T : Gc mg) (hz : mg "zip" = none) (TW : WebT K CW) (IW : InsF K CW) (g_Web : mg "Web" = some (.ref CW)) (oW_len : OwnLen P w K mg base 1 CW (sp_Web_len K C CW)) (o_eq : OwnSp P w K mg base 5 C "__eq__" ["self", "other"] (sp_Code_eq K C)) : FnOk P w K mg base CX0 7 f fd ["self", "other"] (sp_Web_eq K C CW) := by
  refine F.ok sc_Web_eq (fun vs H Q E h => ?_) (fun cdv A outer s H vs Q E hr h => ?_)
  · obtain ⟨x, y, M, v, w, rfl, _⟩ := h
    rfl
  · obtain ⟨a, b, M, v, w, rfl, mh, r1, r2, ⟨XA, XB⟩, q⟩ := h
    have hu := hr.units
    refine ⟨_, (pss_cons (ps_if (PW.pt (pw_or (pt_not (pt_val (pe_callB call_isi (by rfl) T.isinstance boot_isinstance (pa_cons (pv 1) (pa_cons (pe_glob (v := .ref CW) (by rfl) g_Web rfl) pa_nil))))) (pw_or1 (pt_cmpR (op_neP hu) (pe_callB (call_lenO oW_len (hr.mono (by decide))) (by rfl) T.len boot_len (pa_cons (pv 0) pa_nil)) (pe_callB (call_lenO oW_len (hr.mono (by decide))) (by rfl) T.len boot_len (pa_cons (pv 1) pa_nil)) (nomark _))))) (pss_one (ps_ret pe_bl)) pss_nil)
      (pss_one (ps_ret (pe_callB (cr_all rfl) (by rfl) T.all boot_all (pa_cons (pe_lc (own := [("one", 2), ("two", 3)]) (g := (gTup K 2 (gCons (gName 2) (gCons (gName 3) gNil)))) (tt := tYes) (te := (tOp (rEqO C (sp_Code_eq K C) false) (tVar 2) (tVar 3))) (by rfl) sc_Web_eq.nd (pi_zipS (by rfl) hz (pa_cons (pe_fld (pv 0) rfl) (pa_cons (pe_fld (pv 1) rfl) pa_nil))) (blkOk_by (by rfl)) (fun _ _ _ _ _ => (pg_tup (by rfl) (pgs_cons (pg_name (i := 2) sc_Web_eq.nd rfl (by first | exact .inl rfl | exact .inr rfl)) (pgs_cons (pg_name (i := 3) sc_Web_eq.nd rfl (by first | exact .inl rfl | exact .inr rfl)) pgs_nil)))) (fun _ _ _ _ _ => pts_nil) (fun _ _ _ _ _ => (pe_cmpR (op_eqO o_eq (hr.mono (by decide))) (pv 2) (pv 3) (nomark _)))) pa_nil))))), ?_⟩
    have na := XA.n
    have nb := XB.n
    have glen : ∀ {σ' : Sl} {te : TE} {d : List CodeD}, d.length ≤ 1000 → Gv te σ' M (WebQ K C CW d) → Gv (tCB (rLenO CW (sp_Web_len K C CW)) (tCons te tNil)) σ' M (It' (d.length : Nat)) := fun hk h => gv_lenO (R1 := WebQ K C CW) (pre := fun _ => True) (R := fun c => It' (c.length : Nat)) h (fun M v r => inst_web _ M v r) trivial (by omega) fun _ _ r => r
    refine q_if0 (b := !decide (a.length = b.length)) mh (gt_is (gt_or (b := false) (c := !decide (a.length = b.length)) (gt_is (gt_not (gt_B (gv_isC (K := K) IW (gv_var (P := WebQ K C CW b) rfl r2) (inst_web b)))) rfl) fun _ => gt_is (gt_test (gv_eqT (K := K) (neg := true) (x := (a.length : Int)) (y := (b.length : Int)) py_int inj_int (glen na (gv_var rfl r1)) (glen nb (gv_var rfl r2)) (by simp [PyData.depth]))) (by simp [Int.ofNat_inj])) (by simp)) (fun hb H1 hh1 => ?_) fun hb H1 hh1 => ?_
    · refine s_ret (P := Bl false) (mh.trans hh1) (gv_c rfl) fun z M' H' g r => q z M' H' (.trans (.idle mh hh1) g) ?_
      show z = .bl (eqW a b)
      rw [show z = _ from r]
      unfold eqW
      rw [show decide (a.length = b.length) = false by simpa using hb]; rfl
    have e0 : decide (a.length = b.length) = true := by simpa using hb
    have G1 : Gr M H M H1 := .idle mh hh1
    refine s_ret G1.mh (gv_all (K := K) (gl_comp (R := PrR K (CodeR C) (CodeR C)) (S := Bl) (xs := a.zip b) (gi_zipS (K := K) (gv_is (gv_row TW (gv_var rfl r1)) fun _ _ h => .inr h) (gv_is (gv_row TW (gv_var rfl r2)) fun _ _ h => .inr h)) tg_2 (fun x M' σ' ⟨_, _, _, _, e⟩ => by subst e; rfl) (by rw [List.length_zip]; exact szK (by omega)) (fun _ => true) (fun p => eqC p.1 p.2) (fun _ _ _ _ _ _ => gt_yes) fun p hp _ M1 σ' sm ⟨u1, u2, ru1, ru2, e⟩ => by
      subst e
      obtain ⟨x, y⟩ := p
      have := List.of_mem_zip hp
      exact gv_is (gv_eqO (R1 := CodeR C) (pre := fun a b => CodeP a ∧ CodeP b) (B := eqC) (x := x) (y := y) (neg := false) (gv_var rfl ru1) (gv_var rfl ru2) (fun z M v r => inst_code z M v r) ⟨XA.c x this.1, XB.c y this.2⟩) fun M v h => by simpa using h)) fun z M' H' g r => q z M' H' (G1.trans g) ?_
    show z = .bl (eqW a b)
    rw [show z = _ from r]
    unfold eqW
    rw [e0, List.filter_eq_self.mpr fun _ _ => rfl, List.all_map]
    rfl
/-- other things -/
def sp_Web_eqY (K : PySem.W.Frag) (C CW : Addr) : Sp := sp2 (WebQ K C CW) (OtR K C) (fun _ _ => True) fun _ _ => Bl false
theorem ok_Web_eqY {f C CW : Addr} {fd : FuncData} (F : Fun K "__eq__" "Web.__eq__" s_Web_eq f fd) (T : Gc mg) (hz : mg "zip" = none) (TW : WebT K CW) (WO : WebO K C CW) (g_Web : mg "Web" = some (.ref CW)) (oW_len : OwnLen P w K mg base 1 CW (sp_Web_len K C CW)) (o_eq : OwnSp P w K mg base 5 C "__eq__" ["self", "other"] (sp_Code_eq K C)) : FnOk P w K mg base CX0 7 f fd ["self", "other"] (sp_Web_eqY K C CW) := by
  refine F.ok sc_Web_eq (fun vs H Q E h => ?_) (fun cdv A outer s H vs Q E hr h => ?_)
  · obtain ⟨x, y, M, v, w, rfl, _⟩ := h
    rfl
  · obtain ⟨a, y, M, v, w, rfl, mh, r1, r2, _, q⟩ := h
    have hu := hr.units
    refine ⟨_, (pss_cons (ps_if (PW.pt (pw_or (pt_not (pt_val (pe_callB call_isi (by rfl) T.isinstance boot_isinstance (pa_cons (pv 1) (pa_cons (pe_glob (v := .ref CW) (by rfl) g_Web rfl) pa_nil))))) (pw_or1 (pt_cmpR (op_neP hu) (pe_callB (call_lenO oW_len (hr.mono (by decide))) (by rfl) T.len boot_len (pa_cons (pv 0) pa_nil)) (pe_callB (call_lenO oW_len (hr.mono (by decide))) (by rfl) T.len boot_len (pa_cons (pv 1) pa_nil)) (nomark _))))) (pss_one (ps_ret pe_bl)) pss_nil)
      (pss_one (ps_ret (pe_callB (cr_all rfl) (by rfl) T.all boot_all (pa_cons (pe_lc (own := [("one", 2), ("two", 3)]) (g := (gTup K 2 (gCons (gName 2) (gCons (gName 3) gNil)))) (tt := tYes) (te := (tOp (rEqO C (sp_Code_eq K C) false) (tVar 2) (tVar 3))) (by rfl) sc_Web_eq.nd (pi_zipS (by rfl) hz (pa_cons (pe_fld (pv 0) rfl) (pa_cons (pe_fld (pv 1) rfl) pa_nil))) (blkOk_by (by rfl)) (fun _ _ _ _ _ => (pg_tup (by rfl) (pgs_cons (pg_name (i := 2) sc_Web_eq.nd rfl (by first | exact .inl rfl | exact .inr rfl)) (pgs_cons (pg_name (i := 3) sc_Web_eq.nd rfl (by first | exact .inl rfl | exact .inr rfl)) pgs_nil)))) (fun _ _ _ _ _ => pts_nil) (fun _ _ _ _ _ => (pe_cmpR (op_eqO o_eq (hr.mono (by decide))) (pv 2) (pv 3) (nomark _)))) pa_nil))))), ?_⟩
    obtain ⟨t, ty, _, ht⟩ := ot_ty WO (Mon.mono mh r2)
    refine q_if0 (b := true) mh (gt_is (gt_or (b := true) (c := false) (gt_is (gt_not (gt_B (b := false) fun H1 mh1 Q q => by
      obtain ⟨t, ty, _, ht⟩ := ot_ty WO (Mon.mono mh1 r2)
      exact ⟨w, rfl, _, _, t, .ref CW, false, rfl, .own CW, ty, ht, q _ M H1 (.refl mh1) rfl⟩)) rfl) fun h => nomatch h) rfl) (fun _ H1 hh1 => ?_) fun h => nomatch h
    exact s_ret (P := Bl false) (mh.trans hh1) (gv_c rfl) fun z M' H' g r => q z M' H' (.trans (.idle mh hh1) g) r
end
end My

set_option Elab.async false
set_option linter.all false
set_option maxRecDepth 100000
set_option maxHeartbeats 1000000
namespace My
open PySem PySem.Spec PyProof.Rows L2 L3
/-! when a web is made: in any order, in any writing -/
/-- signs tied by some rows -/
inductive Conn (A : List (List Str)) : Str → Str → Prop where
  | refl (x : Str) : Conn A x x
  | step {x y z : Str} {l : List Str} (h : Conn A x y) (hl : l ∈ A) (hy : y ∈ l) (hz : z ∈ l) : Conn A x z
theorem Conn.trans {A : List (List Str)} {x y z : Str} (h1 : Conn A x y) (h2 : Conn A y z) : Conn A x z := by
  induction h2 with
  | refl => exact h1
  | step _ hl hy hz ih => exact ih.step hl hy hz
theorem Conn.symm {A : List (List Str)} {x y : Str} (h : Conn A x y) : Conn A y x := by
  induction h with
  | refl => exact .refl _
  | step _ hl hy hz ih => exact ((Conn.refl _).step hl hz hy).trans ih
theorem Conn.mono {A B : List (List Str)} (s : ∀ l ∈ A, ∃ m ∈ B, ∀ x ∈ l, x ∈ m) {x y : Str} (h : Conn A x y) : Conn B x y := by
  induction h with
  | refl => exact .refl _
  | step _ hl hy hz ih =>
    obtain ⟨m, hm, e⟩ := s _ hl
    exact ih.step hm (e _ hy) (e _ hz)
theorem Conn.wide {A : List (List Str)} {c : List Str} {x y : Str} (h : Conn A x y) : Conn (c :: A) x y := h.mono fun l hl => ⟨l, List.mem_cons_of_mem _ hl, fun _ h => h⟩
theorem Conn.one {A : List (List Str)} {c : List Str} {x y : Str} (h : Conn (c :: A) x y) : Conn A x y ∨ ∃ u ∈ c, ∃ v ∈ c, Conn A x u ∧ Conn A v y := by
  induction h with
  | refl => exact .inl (.refl _)
  | step _ hl hy hz ih =>
    rcases List.mem_cons.mp hl with rfl | hl
    · rcases ih with ih | ⟨u, hu, v, hv, h1, h2⟩
      · exact .inr ⟨_, hy, _, hz, ih, .refl _⟩
      · exact .inr ⟨u, hu, _, hz, h1, .refl _⟩
    · rcases ih with ih | ⟨u, hu, v, hv, h1, h2⟩
      · exact .inl (ih.step hl hy hz)
      · exact .inr ⟨u, hu, v, hv, h1, h2.step hl hy hz⟩
theorem Conn.from {A : List (List Str)} {x y : Str} (h : Conn A x y) : x = y ∨ ∃ l ∈ A, x ∈ l := by
  induction h with
  | refl => exact .inl rfl
  | step _ hl hy hz ih =>
    rcases ih with rfl | ih
    · exact .inr ⟨_, hl, hy⟩
    · exact .inr ih
def Free (A : List (List Str)) (c : List Str) : Prop := ∀ x ∈ c, ∀ y ∈ c, Conn A x y → x = y
def OkF : List (List Str) → List (List Str) → Prop
  | _, [] => True
  | A, c :: r => Free A c ∧ OkF (c :: A) r
theorem Free.swap {A : List (List Str)} {c d : List Str} (h1 : Free A c) (h2 : Free (c :: A) d) : Free A d ∧ Free (d :: A) c := by
  refine ⟨fun x hx y hy h => h2 x hx y hy h.wide, fun x hx y hy h => ?_⟩
  rcases h.one with h | ⟨u, hu, v, hv, hxu, hvy⟩
  · exact h1 x hx y hy h
  · have e := h2 u hu v hv ((hxu.symm.wide.step (List.mem_cons_self ..) hx hy).trans hvy.symm.wide)
    subst e
    exact h1 x hx y hy (hxu.trans hvy)
theorem okF_alike : ∀ {r s A B : List (List Str)}, Paired (fun l m => ∀ x : Str, x ∈ l ↔ x ∈ m) r s → (∀ l ∈ B, ∃ m ∈ A, ∀ x ∈ l, x ∈ m) → OkF A r → OkF B s
  | [], _, A, B, h, _, _ => by cases h; trivial
  | c :: r, _, A, B, h, sB, ⟨f, o⟩ => by
    cases h with
    | @cons _ d _ s q t =>
      refine ⟨fun x hx y hy hc => f x ((q x).mpr hx) y ((q y).mpr hy) (hc.mono sB), okF_alike t (fun l hl => ?_) o⟩
      rcases List.mem_cons.mp hl with rfl | hl
      · exact ⟨c, List.mem_cons_self .., fun x hx => (q x).mpr hx⟩
      · obtain ⟨m, hm, e⟩ := sB l hl
        exact ⟨m, List.mem_cons_of_mem _ hm, e⟩
theorem paired_self {α : Type} {F : α → α → Prop} (h : ∀ x, F x x) : ∀ xs : List α, Paired F xs xs
  | [] => .nil
  | x :: xs => .cons (h x) (paired_self h xs)
theorem okF_mem {r A B : List (List Str)} (s : ∀ l ∈ B, l ∈ A) (h : OkF A r) : OkF B r := okF_alike (paired_self (fun l x => Iff.rfl) r) (fun l hl => ⟨l, s l hl, fun _ h => h⟩) h
theorem okF_perm {r s : List (List Str)} (p : r.Perm s) : ∀ {A : List (List Str)}, OkF A r → OkF A s := by
  induction p with
  | nil => exact fun h => h
  | cons c _ ih => exact fun ⟨f, o⟩ => ⟨f, ih o⟩
  | swap d c l =>
    rintro A ⟨f1, f2, o⟩
    obtain ⟨g1, g2⟩ := Free.swap f1 f2
    exact ⟨g1, g2, okF_mem (fun l hl => by
      simp only [List.mem_cons] at hl ⊢
      rcases hl with h | h | h
      · exact .inr (.inl h)
      · exact .inl h
      · exact .inr (.inr h)) o⟩
  | trans _ _ ih1 ih2 => exact fun h => ih2 (ih1 h)
theorem okF_take : ∀ {r A : List (List Str)} (k : Nat), OkF A r → OkF A (r.take k)
  | _, _, 0, _ => trivial
  | [], _, _ + 1, _ => trivial
  | _ :: _, _, k + 1, ⟨f, o⟩ => ⟨f, okF_take k o⟩
/-- what lumps are -/
structure LumpI (A ls : List (List Str)) : Prop where
  i1 : ∀ l ∈ ls, ∀ x ∈ l, ∀ y ∈ l, Conn A x y
  i2 : ∀ l ∈ A, ∀ x ∈ l, ∃ m ∈ ls, x ∈ m
  i3 : ∀ x y, Conn A x y → ∀ m ∈ ls, x ∈ m → y ∈ m
theorem touches_iff {c : CodeD} {l : List Str} : touches c l = true ↔ ∃ x ∈ c.signs, x ∈ l := by
  unfold touches
  rw [List.any_eq_true]
  exact ⟨fun ⟨x, h1, h2⟩ => ⟨x, h1, of_decide_eq_true h2⟩, fun ⟨x, h1, h2⟩ => ⟨x, h1, decide_eq_true h2⟩⟩
theorem twice_iff {c : CodeD} (nd : c.signs.Nodup) {l : List Str} : twice c l = true ↔ ∃ x ∈ c.signs, ∃ y ∈ c.signs, x ≠ y ∧ x ∈ l ∧ y ∈ l := by
  unfold twice
  rw [decide_eq_true_eq]
  have nf : (c.signs.filter fun x => decide (x ∈ l)).Nodup := nd.sublist List.filter_sublist
  have mem : ∀ x, x ∈ (c.signs.filter fun x => decide (x ∈ l)) ↔ x ∈ c.signs ∧ x ∈ l := fun x => by rw [List.mem_filter, decide_eq_true_eq]
  revert nf mem
  generalize (c.signs.filter fun x => decide (x ∈ l)) = f
  intro nf mem
  constructor
  · intro h
    match f, h, nf, mem with
    | a :: b :: r, _, nf, mem =>
      have ha := (mem a).mp (List.mem_cons_self ..)
      have hb := (mem b).mp (List.mem_cons_of_mem _ (List.mem_cons_self ..))
      exact ⟨a, ha.1, b, hb.1, fun e => (List.nodup_cons.mp nf).1 (by rw [e]; exact List.mem_cons_self ..), ha.2, hb.2⟩
  · rintro ⟨x, hx, y, hy, ne, h1, h2⟩
    have mx := (mem x).mpr ⟨hx, h1⟩
    have my := (mem y).mpr ⟨hy, h2⟩
    match f, mx, my with
    | [a], mx, my => exact absurd ((List.mem_singleton.mp mx).trans (List.mem_singleton.mp my).symm) ne
    | a :: b :: r, _, _ => show 1 < r.length + 1 + 1; omega
theorem LumpI.free {A ls : List (List Str)} (L : LumpI A ls) {c : CodeD} (nd : c.signs.Nodup) : (nearL c ls).any (twice c) = false ↔ Free A c.signs := by
  constructor
  · intro h x hx y hy hc
    rcases hc.from with e | ⟨l, hl, hxl⟩
    · exact e
    · obtain ⟨m, hm, hxm⟩ := L.i2 l hl x hxl
      have hym := L.i3 x y hc m hm hxm
      by_cases e : x = y
      · exact e
      · have ht : twice c m = true := (twice_iff nd).mpr ⟨x, hx, y, hy, e, hxm, hym⟩
        have : (nearL c ls).any (twice c) = true := List.any_eq_true.mpr ⟨m, List.mem_filter.mpr ⟨hm, touches_iff.mpr ⟨x, hx, hxm⟩⟩, ht⟩
        rw [h] at this
        cases this
  · intro f
    rw [List.any_eq_false]
    intro m hm ht
    obtain ⟨x, hx, y, hy, ne, h1, h2⟩ := (twice_iff nd).mp ht
    exact ne (f x hx y hy (L.i1 m (List.mem_filter.mp hm).1 x h1 y h2))
theorem LumpI.step {A ls : List (List Str)} (L : LumpI A ls) {c : CodeD} {J : List Str} (hJ : ∀ x, x ∈ J ↔ x ∈ c.signs ∨ ∃ l ∈ ls, touches c l = true ∧ x ∈ l) : LumpI (c.signs :: A) (ls.filter (fun l => !touches c l) ++ [J]) := by
  have toC : ∀ x ∈ J, ∃ u ∈ c.signs, Conn A x u := fun x hx => by
    rcases (hJ x).mp hx with h | ⟨l, hl, ht, hxl⟩
    · exact ⟨x, h, .refl _⟩
    · obtain ⟨u, hu, hul⟩ := touches_iff.mp ht
      exact ⟨u, hu, L.i1 l hl x hxl u hul⟩
  have inJ : ∀ x ∈ c.signs, ∀ y, Conn A x y → y ∈ J := fun x hx y h => by
    rcases h.from with e | ⟨l, hl, hxl⟩
    · rw [← e]; exact (hJ x).mpr (.inl hx)
    · obtain ⟨m, hm, hxm⟩ := L.i2 l hl x hxl
      exact (hJ y).mpr (.inr ⟨m, hm, touches_iff.mpr ⟨x, hx, hxm⟩, L.i3 x y h m hm hxm⟩)
  have mem : ∀ m, m ∈ ls.filter (fun l => !touches c l) ++ [J] ↔ (m ∈ ls ∧ touches c m = false) ∨ m = J := fun m => by
    rw [List.mem_append, List.mem_filter, List.mem_singleton, Bool.not_eq_true']
  refine ⟨fun l hl x hx y hy => ?_, fun l hl x hx => ?_, fun x y h m hm hx => ?_⟩
  · rcases (mem l).mp hl with ⟨h1, _⟩ | rfl
    · exact (L.i1 l h1 x hx y hy).wide
    · obtain ⟨u, hu, h1⟩ := toC x hx
      obtain ⟨v, hv, h2⟩ := toC y hy
      exact (h1.wide.step (List.mem_cons_self ..) hu hv).trans h2.symm.wide
  · rcases List.mem_cons.mp hl with rfl | hl
    · exact ⟨J, (mem J).mpr (.inr rfl), (hJ x).mpr (.inl hx)⟩
    · obtain ⟨m, hm, hxm⟩ := L.i2 l hl x hx
      cases ht : touches c m with
      | true => exact ⟨J, (mem J).mpr (.inr rfl), (hJ x).mpr (.inr ⟨m, hm, ht, hxm⟩)⟩
      | false => exact ⟨m, (mem m).mpr (.inl ⟨hm, ht⟩), hxm⟩
  · rcases (mem m).mp hm with ⟨h1, h2⟩ | rfl
    · rcases h.one with h | ⟨u, hu, v, hv, hxu, _⟩
      · exact L.i3 x y h m h1 hx
      · have := L.i3 x u hxu m h1 hx
        rw [touches_iff.mpr ⟨u, hu, this⟩] at h2
        cases h2
    · rcases h.one with h | ⟨u, hu, v, hv, _, hvy⟩
      · rcases (hJ x).mp hx with hc | ⟨l, hl, ht, hxl⟩
        · exact inJ x hc y h
        · exact (hJ y).mpr (.inr ⟨l, hl, ht, L.i3 x y h l hl hxl⟩)
      · exact inJ v hv y hvy
theorem near_mem {c : CodeD} {ls : List (List Str)} {x : Str} : x ∈ (nearL c ls).flatMap (fun l => l.map id) ↔ ∃ l ∈ ls, touches c l = true ∧ x ∈ l := by
  rw [near_flat, List.mem_flatten]
  constructor
  · rintro ⟨l, hl, hx⟩
    obtain ⟨h1, h2⟩ := List.mem_filter.mp hl
    exact ⟨l, h1, h2, hx⟩
  · rintro ⟨l, h1, h2, hx⟩
    exact ⟨l, List.mem_filter.mpr ⟨h1, h2⟩, hx⟩
theorem LumpI.web {A ls : List (List Str)} (L : LumpI A ls) (c : CodeD) : LumpI (c.signs :: A) (lumpsN c ls) := by
  unfold lumpsN
  rw [not_near]
  refine L.step fun x => ?_
  rw [List.mem_append, near_mem, Or.comm]
/-- the law's lumps -/
def lawLumps (c : CodeD) (ls : List (List Str)) : List (List Str) := ls.filter (fun l => decide (l ∉ nearL c ls)) ++ [c.signs ++ (nearL c ls).flatten]
theorem LumpI.law {A ls : List (List Str)} (L : LumpI A ls) (c : CodeD) : LumpI (c.signs :: A) (lawLumps c ls) := by
  unfold lawLumps
  rw [not_near, ← near_flat]
  refine L.step fun x => ?_
  rw [List.mem_append, near_mem]
theorem LumpI.nil : LumpI [] [] := ⟨fun l hl => (nomatch hl), fun l hl => (nomatch hl), fun x y _ m hm => (nomatch hm)⟩
def lawGo : List CodeD → List CodeD → List (List Str) → Option WErr
  | _, [], _ => none
  | ahead, c :: r, ls => match checkC c ahead with
    | some e => some e
    | none => if (nearL c ls).any (twice c) = true then some (.tree ahead.length) else lawGo (ahead ++ [c]) r (lawLumps c ls)
theorem go_law : ∀ {r ahead : List CodeD} {A ls ms : List (List Str)}, (∀ c ∈ r, c.signs.Nodup) → LumpI A ls → LumpI A ms → lawGo ahead r ms = webGo ahead r ls
  | [], _, _, _, _, _, _, _ => rfl
  | c :: r, ahead, A, ls, ms, nd, L, N => by
    have nc := nd c (List.mem_cons_self ..)
    have ih := go_law (r := r) (ahead := ahead ++ [c]) (fun d hd => nd d (List.mem_cons_of_mem _ hd)) (L.web c) (N.law c)
    have e : (nearL c ms).any (twice c) = (nearL c ls).any (twice c) := by
      have h := (N.free nc).trans (L.free nc).symm
      cases h1 : (nearL c ms).any (twice c) <;> cases h2 : (nearL c ls).any (twice c) <;> simp_all
    show (match checkC c ahead with | some e => some e | none => if (nearL c ms).any (twice c) = true then some (WErr.tree ahead.length) else lawGo (ahead ++ [c]) r (lawLumps c ms)) = (match checkC c ahead with | some e => some e | none => if (nearL c ls).any (twice c) = true then some (WErr.tree ahead.length) else webGo (ahead ++ [c]) r (lumpsN c ls))
    rw [e, ih]
/-- two codes that share no helper -/
def Dis (d c : CodeD) : Prop := (∀ x ∈ c.helpers, x ∉ d.names) ∧ ∀ x ∈ c.signs, x ∉ d.helpers
theorem Dis.symm {c d : CodeD} (h : Dis d c) : Dis c d := by
  refine ⟨fun x hx hn => ?_, fun x hx hh => h.1 x hh (List.mem_append_left _ hx)⟩
  rcases List.mem_append.mp (show x ∈ c.signs ++ c.helpers from hn) with hn | hn
  · exact h.2 x hn hx
  · exact h.1 x hn (List.mem_append_right _ hx)
theorem check_iff {c : CodeD} {ahead : List CodeD} : checkC c ahead = none ↔ c.signs.length ≤ 6 ∧ ∀ d ∈ ahead, Dis d c := by
  constructor
  · intro h
    obtain ⟨h1, h2, h3⟩ := check_ok h
    exact ⟨h1, fun d hd => ⟨fun x hx => h2 x hx d hd, fun x hx => h3 x hx d hd⟩⟩
  · rintro ⟨h1, h2⟩
    unfold checkC
    rw [if_neg (by omega), filter_no fun z hz => ?_, filter_no fun z hz => ?_]
    · rfl
    · unfold inAny
      rw [List.any_eq_false]
      exact fun d hd e => (h2 d hd).2 z hz (of_decide_eq_true e)
    · unfold inAny
      rw [List.any_eq_false]
      exact fun d hd e => (h2 d hd).1 z hz (of_decide_eq_true e)
theorem go_none : ∀ {r ahead : List CodeD} {A ls : List (List Str)}, (∀ c ∈ r, c.signs.Nodup) → LumpI A ls → (webGo ahead r ls = none ↔ (∀ c ∈ r, c.signs.length ≤ 6 ∧ ∀ d ∈ ahead, Dis d c) ∧ r.Pairwise Dis ∧ OkF A (r.map CodeD.signs))
  | [], _, _, _, _, _ => ⟨fun _ => ⟨fun c hc => (nomatch hc), List.Pairwise.nil, trivial⟩, fun _ => rfl⟩
  | c :: r, ahead, A, ls, nd, L => by
    have nc := nd c (List.mem_cons_self ..)
    have ih := go_none (r := r) (ahead := ahead ++ [c]) (fun d hd => nd d (List.mem_cons_of_mem _ hd)) (L.web c)
    have step : webGo ahead (c :: r) ls = none ↔ checkC c ahead = none ∧ (nearL c ls).any (twice c) = false ∧ webGo (ahead ++ [c]) r (lumpsN c ls) = none := by
      show (match checkC c ahead with | some e => some e | none => if (nearL c ls).any (twice c) = true then some (WErr.tree ahead.length) else webGo (ahead ++ [c]) r (lumpsN c ls)) = none ↔ _
      cases checkC c ahead with
      | some e => simp
      | none => cases (nearL c ls).any (twice c) <;> simp
    rw [step, check_iff, L.free nc, ih, List.pairwise_cons]
    constructor
    · rintro ⟨⟨h1, h2⟩, h3, h4, h5, h6⟩
      refine ⟨fun d hd => ?_, ⟨fun d hd => (h4 d hd).2 c (List.mem_append_right _ (List.mem_singleton.mpr rfl)), h5⟩, h3, h6⟩
      rcases List.mem_cons.mp hd with rfl | hd
      · exact ⟨h1, h2⟩
      · exact ⟨(h4 d hd).1, fun e he => (h4 d hd).2 e (List.mem_append_left _ he)⟩
    · rintro ⟨h1, ⟨h2, h3⟩, h4, h5⟩
      refine ⟨h1 c (List.mem_cons_self ..), h4, fun d hd => ⟨(h1 d (List.mem_cons_of_mem _ hd)).1, fun e he => ?_⟩, h3, h5⟩
      rcases List.mem_append.mp he with he | he
      · exact (h1 d (List.mem_cons_of_mem _ hd)).2 e he
      · rw [List.mem_singleton.mp he]; exact h2 d hd
theorem go_nil {cs : List CodeD} (nd : ∀ c ∈ cs, c.signs.Nodup) : webGo [] cs [] = none ↔ (∀ c ∈ cs, c.signs.length ≤ 6) ∧ cs.Pairwise Dis ∧ OkF [] (cs.map CodeD.signs) := by
  rw [go_none nd .nil]
  constructor
  · rintro ⟨h1, h2, h3⟩; exact ⟨fun c hc => (h1 c hc).1, h2, h3⟩
  · rintro ⟨h1, h2, h3⟩; exact ⟨fun c hc => ⟨h1 c hc, fun d hd => (nomatch hd)⟩, h2, h3⟩
theorem go_perm {cs ds : List CodeD} (nd : ∀ c ∈ cs, c.signs.Nodup) (p : cs.Perm ds) (h : webGo [] cs [] = none) : webGo [] ds [] = none := by
  obtain ⟨h1, h2, h3⟩ := (go_nil nd).mp h
  exact (go_nil fun c hc => nd c (p.mem_iff.mpr hc)).mpr ⟨fun c hc => h1 c (p.mem_iff.mpr hc), p.pairwise h2 fun h => h.symm, okF_perm (p.map _) h3⟩
theorem go_take {cs : List CodeD} (nd : ∀ c ∈ cs, c.signs.Nodup) (k : Nat) (h : webGo [] cs [] = none) : webGo [] (cs.take k) [] = none := by
  obtain ⟨h1, h2, h3⟩ := (go_nil nd).mp h
  exact (go_nil fun c hc => nd c (List.mem_of_mem_take hc)).mpr ⟨fun c hc => h1 c (List.mem_of_mem_take hc), h2.sublist (List.take_sublist _ _), by rw [List.map_take]; exact okF_take k h3⟩
/-- codes with the same signs and helpers, in other orders -/
structure Twin (c d : CodeD) : Prop where
  s : c.signs.Perm d.signs
  h : c.helpers.Perm d.helpers
theorem Twin.nm {c d : CodeD} (t : Twin c d) : c.names.Perm d.names := List.Perm.append t.s t.h
theorem Twin.dis {a b c d : CodeD} (t : Twin a c) (u : Twin b d) (h : Dis a b) : Dis c d := ⟨fun x hx hn => h.1 x (u.h.mem_iff.mpr hx) (t.nm.mem_iff.mpr hn), fun x hx hh => h.2 x (u.s.mem_iff.mpr hx) (t.h.mem_iff.mpr hh)⟩
theorem twin_right {cs ds : List CodeD} (t : Paired Twin cs ds) : (∀ d ∈ ds, ∃ c ∈ cs, Twin c d) ∧ Paired (fun l m => ∀ x : Str, x ∈ l ↔ x ∈ m) (cs.map CodeD.signs) (ds.map CodeD.signs) := by
  induction t with
  | nil => exact ⟨fun d hd => (nomatch hd), .nil⟩
  | cons q _ ih =>
    refine ⟨fun d hd => ?_, .cons (fun x => q.s.mem_iff) ih.2⟩
    rcases List.mem_cons.mp hd with rfl | hd
    · exact ⟨_, List.mem_cons_self .., q⟩
    · obtain ⟨c, hc, t⟩ := ih.1 d hd
      exact ⟨c, List.mem_cons_of_mem _ hc, t⟩
theorem twin_pair {cs ds : List CodeD} (t : Paired Twin cs ds) (h : cs.Pairwise Dis) : ds.Pairwise Dis := by
  induction t with
  | nil => exact List.Pairwise.nil
  | cons q t ih =>
    obtain ⟨h1, h2⟩ := List.pairwise_cons.mp h
    refine List.pairwise_cons.mpr ⟨fun d hd => ?_, ih h2⟩
    obtain ⟨c, hc, u⟩ := (twin_right t).1 d hd
    exact q.dis u (h1 c hc)
theorem go_twin {cs ds : List CodeD} (nd : ∀ c ∈ cs, c.signs.Nodup) (t : Paired Twin cs ds) (h : webGo [] cs [] = none) : webGo [] ds [] = none := by
  obtain ⟨h1, h2, h3⟩ := (go_nil nd).mp h
  obtain ⟨r1, r2⟩ := twin_right t
  refine (go_nil fun d hd => ?_).mpr ⟨fun d hd => ?_, twin_pair t h2, okF_alike r2 (fun l hl => (nomatch hl)) h3⟩
  · obtain ⟨c, hc, u⟩ := r1 d hd
    exact u.s.nodup_iff.mp (nd c hc)
  · obtain ⟨c, hc, u⟩ := r1 d hd
    rw [← u.s.length_eq]; exact h1 c hc
end My

set_option Elab.async false
set_option linter.all false
set_option maxRecDepth 100000
set_option maxHeartbeats 4000000
namespace My
open PySem PySem.Spec PyProof.Rows L2 L3
/-! equal codes, twins -/
theorem nodup_cover {α : Type} [DecidableEq α] : ∀ {xs ys : List α}, xs.Nodup → ys.Nodup → (∀ x ∈ xs, x ∈ ys) → ys.length ≤ xs.length → ∀ y ∈ ys, y ∈ xs
  | [], ys, _, _, _, h, y, hy => by
    cases ys with
    | nil => cases hy
    | cons a r => simp at h
  | x :: r, ys, n1, n2, s, h, y, hy => by
    obtain ⟨nx, nr⟩ := List.nodup_cons.mp n1
    have mx := s x (List.mem_cons_self ..)
    by_cases e : y = x
    · rw [e]; exact List.mem_cons_self ..
    · refine List.mem_cons_of_mem _ (nodup_cover (xs := r) (ys := ys.erase x) nr (n2.erase x) (fun z hz => ?_) ?_ y ((List.mem_erase_of_ne e).mpr hy))
      · exact (List.mem_erase_of_ne (fun z1 : z = x => nx (by rw [← z1]; exact hz))).mpr (s z (List.mem_cons_of_mem _ hz))
      · rw [List.length_erase_of_mem mx]
        have : ys.length ≤ r.length + 1 := h
        omega
theorem CG.cp {c : CodeD} (g : CG c) : CodeP c := ⟨g.nm, g.l, g.n, g.k⟩
theorem CG.sn {c : CodeD} (g : CG c) : c.signs.Nodup ∧ c.helpers.Nodup := let ⟨h1, h2, _⟩ := List.nodup_append.mp (show (c.signs ++ c.helpers).Nodup from g.nm.nd); ⟨h1, h2⟩
theorem w_asc_memL {ns ys : List Str} (h : ∀ y ∈ ys, ∃ n ∈ ns, y = n ∨ y = ("-" : Str) ++ n) (x : Str) : x ∈ asc ys ns ↔ x ∈ ys := by
  rw [mem_asc]
  constructor
  · rintro ⟨_, _, _, h⟩; exact h
  · intro hx; obtain ⟨n, hn, e⟩ := h x hx; exact ⟨n, hn, e, hx⟩
theorem w_inD {c : CodeD} (nm : NmL c.names) {ys : List Str} (L : Lits c.names ys) : inD c (.tuple (ys.map .str)) = decide (asc ys c.names ∈ c.clauses) := by
  unfold inD
  rw [show firstWrong c.names (.tuple (ys.map .str)) = none from (clOk_lits nm L).1, show strsOf (itemsD (.tuple (ys.map .str))) = ys from strs_map ys]
  simp
theorem w_back {c : CodeD} (g : CG c) {ms : List Str} (mn : ∀ n ∈ c.names, n ∈ ms) {x : List Str} (hx : x ∈ c.clauses) : asc (asc x ms) c.names = x := by
  rw [asc_congr (l' := x) fun _ _ y _ => w_asc_memL (fun y hy => let ⟨n, hn, e⟩ := (g.l x hx).of y hy; ⟨n, mn n hn, e⟩) y]
  exact g.nf.a x hx
theorem sameN_iff {xs ys : List Str} (n1 : xs.Nodup) (n2 : ys.Nodup) : sameN xs ys = true ↔ xs.length = ys.length ∧ ∀ x, x ∈ xs ↔ x ∈ ys := by
  unfold sameN
  rw [Bool.and_eq_true, decide_eq_true_eq, List.all_eq_true]
  constructor
  · rintro ⟨h1, h2⟩
    have h2 : ∀ x ∈ xs, x ∈ ys := fun x hx => of_decide_eq_true (h2 x hx)
    exact ⟨h1, fun x => ⟨h2 x, nodup_cover n1 n2 h2 (by omega) x⟩⟩
  · rintro ⟨h1, h2⟩
    exact ⟨h1, fun x hx => decide_eq_true ((h2 x).mp hx)⟩
theorem eqC_iff {a b : CodeD} (A : CG a) (B : CG b) : eqC a b = true ↔ a.clauses.length = b.clauses.length ∧ (a.signs.length = b.signs.length ∧ ∀ x, x ∈ a.signs ↔ x ∈ b.signs) ∧ (a.helpers.length = b.helpers.length ∧ ∀ x, x ∈ a.helpers ↔ x ∈ b.helpers) ∧ ∀ x ∈ a.clauses, asc x b.names ∈ b.clauses := by
  unfold eqC
  rw [Bool.and_eq_true, Bool.and_eq_true, Bool.and_eq_true, decide_eq_true_eq, sameN_iff A.sn.1 B.sn.1, sameN_iff A.sn.2 B.sn.2]
  refine and_congr_right fun _ => and_congr_right fun h1 => and_congr_right fun h2 => ?_
  have mn : ∀ n, n ∈ a.names ↔ n ∈ b.names := fun n => by
    show n ∈ a.signs ++ a.helpers ↔ n ∈ b.signs ++ b.helpers
    rw [List.mem_append, List.mem_append, h1.2, h2.2]
  rw [List.all_eq_true]
  refine forall_congr' fun x => forall_congr' fun hx => ?_
  rw [w_inD B.nm (lits_wide (A.l x hx) fun n hn => (mn n).mp hn), decide_eq_true_eq]
theorem eqC_symm1 {a b : CodeD} (A : CG a) (B : CG b) (h : eqC a b = true) : eqC b a = true := by
  obtain ⟨k, s, hp, cl⟩ := (eqC_iff A B).mp h
  refine (eqC_iff B A).mpr ⟨k.symm, ⟨s.1.symm, fun x => (s.2 x).symm⟩, ⟨hp.1.symm, fun x => (hp.2 x).symm⟩, fun y hy => ?_⟩
  have mn : ∀ n ∈ a.names, n ∈ b.names := fun n hn => by
    rcases List.mem_append.mp (show n ∈ a.signs ++ a.helpers from hn) with h | h
    · exact List.mem_append_left _ ((s.2 n).mp h)
    · exact List.mem_append_right _ ((hp.2 n).mp h)
  have nd : (a.clauses.map fun x => asc x b.names).Nodup := by
    refine List.pairwise_map.mpr (List.Pairwise.imp_of_mem (fun {u v} hu hv ne e => ne ?_) A.nf.nd)
    rw [← w_back A mn hu, ← w_back A mn hv, e]
  have := nodup_cover nd B.nf.nd (fun z hz => by
    obtain ⟨x, hx, rfl⟩ := List.mem_map.mp hz
    exact cl x hx) (by rw [List.length_map]; omega) y hy
  obtain ⟨x, hx, rfl⟩ := List.mem_map.mp this
  rw [w_back A mn hx]
  exact hx
theorem eqC_symm {a b : CodeD} (A : CG a) (B : CG b) : eqC a b = eqC b a := by
  cases h : eqC a b with
  | true => exact (eqC_symm1 A B h).symm
  | false =>
    cases h2 : eqC b a with
    | true => rw [eqC_symm1 B A h2] at h; cases h
    | false => rfl
theorem eqC_refl {a : CodeD} (A : CG a) : eqC a a = true := (eqC_iff A A).mpr ⟨rfl, ⟨rfl, fun _ => Iff.rfl⟩, ⟨rfl, fun _ => Iff.rfl⟩, fun x hx => by rw [A.nf.a x hx]; exact hx⟩
/-- clauses in another order, each turned -/
structure Turned (c : CodeD) (cs : List (List Str)) : Prop where
  ex : ∃ ps : List (List Str), ps.Perm c.clauses ∧ Paired (fun x y => List.Perm y x) ps cs
theorem paired_fn {ns ms : List Str} {ps cs : List (List Str)} (h : Paired (fun x y => List.Perm y x) ps cs) : (∀ y ∈ cs, ∃ x ∈ ps, List.Perm y x) ∧ cs.map (fun d => asc d ns) = ps.map (fun d => asc d ns) := by
  induction h with
  | nil => exact ⟨fun y h => (by cases h), rfl⟩
  | cons q _ ih =>
    refine ⟨fun y hy => ?_, ?_⟩
    · rcases List.mem_cons.mp hy with rfl | hy
      · exact ⟨_, List.mem_cons_self .., q⟩
      · obtain ⟨x, hx, p⟩ := ih.1 y hy
        exact ⟨x, List.mem_cons_of_mem _ hx, p⟩
    · rw [List.map_cons, List.map_cons, ih.2, asc_congr (l' := _) fun _ _ _ _ => q.mem_iff]
theorem w_twin {c : CodeD} (g : CG c) {ss hs : List Str} {cs : List (List Str)} (p1 : ss.Perm c.signs) (p2 : hs.Perm c.helpers) (t : Turned c cs) : CodeOk ss hs cs ∧ CG (mkCode ss hs cs) ∧ eqC c (mkCode ss hs cs) = true ∧ (mkCode ss hs cs).clauses.length = c.clauses.length := by
  have pn : (ss ++ hs).Perm c.names := List.Perm.append p1 p2
  have mn : ∀ n, n ∈ ss ++ hs ↔ n ∈ c.names := fun n => pn.mem_iff
  have nm : NmL (ss ++ hs) := ⟨pn.nodup_iff.mpr g.nm.nd, fun x h => g.nm.nm x ((mn x).mp h), by rw [pn.length_eq]; exact g.nm.n⟩
  obtain ⟨ps, p, q⟩ := t.ex
  have tl : ∀ x ∈ cs, Lits c.names x := fun y hy => by
    obtain ⟨x, hx, py⟩ := (paired_fn (ns := c.names) (ms := c.names) q).1 y hy
    exact (g.l x (p.mem_iff.mp hx)).perm py
  have tn : cs.length = c.clauses.length := by rw [← q.length, p.length_eq]
  obtain ⟨o1, o2⟩ := code_ok (cs := cs) nm (by rw [pn.length_eq]; exact g.n) (fun x hx => lits_wide (tl x hx) fun n hn => (mn n).mpr hn) (by rw [tn]; exact g.k)
  have e1 : cs.map (fun d => asc d (ss ++ hs)) = ps.map (fun d => asc d (ss ++ hs)) := (paired_fn (ms := c.names) q).2
  have bk : ∀ x ∈ ps, asc (asc x (ss ++ hs)) c.names = x := fun x hx => w_back g (fun n hn => (mn n).mpr hn) (p.mem_iff.mp hx)
  have nd : (ps.map fun d => asc d (ss ++ hs)).Nodup := by
    refine List.pairwise_map.mpr (List.Pairwise.imp_of_mem (fun {a b} ha hb ne e => ne ?_) (p.nodup_iff.mpr g.nf.nd))
    rw [← bk a ha, ← bk b hb, e]
  have ec : (mkCode ss hs cs).clauses = ps.map fun d => asc d (ss ++ hs) := by
    show once (cs.map fun d => asc d (ss ++ hs)) = _
    rw [e1, once_self nd]
  have el : (mkCode ss hs cs).clauses.length = c.clauses.length := by rw [ec, List.length_map, p.length_eq]
  refine ⟨o1, o2, (eqC_iff g o2).mpr ⟨el.symm, ⟨p1.length_eq.symm, fun x => p1.mem_iff.symm⟩, ⟨p2.length_eq.symm, fun x => p2.mem_iff.symm⟩, fun x hx => ?_⟩, el⟩
  rw [ec]
  exact List.mem_map.mpr ⟨x, p.mem_iff.mpr hx, rfl⟩
theorem eqW_self {cs : List CodeD} (g : ∀ c ∈ cs, CG c) : eqW cs cs = true := by
  unfold eqW
  rw [decide_eq_true rfl, Bool.true_and, List.all_eq_true]
  rintro ⟨a, b⟩ h
  have : a = b := by
    clear g
    induction cs with
    | nil => cases h
    | cons c r ih =>
      rw [List.zip_cons_cons] at h
      rcases List.mem_cons.mp h with e | h
      · injection e with e1 e2; rw [e1, e2]
      · exact ih h
  subst this
  exact eqC_refl (g a (List.of_mem_zip h).1)
theorem eqW_all {cs ds : List CodeD} (h : cs.length = ds.length) : eqW cs ds = L3.allB eqC cs ds := by
  unfold eqW
  rw [decide_eq_true h, Bool.true_and]
  clear h
  induction cs generalizing ds with
  | nil => cases ds <;> rfl
  | cons c r ih =>
    cases ds with
    | nil => rfl
    | cons d s =>
      rw [List.zip_cons_cons, List.all_cons, ih]
      rfl
theorem eqW_symm {cs ds : List CodeD} (gc : ∀ c ∈ cs, CG c) (gd : ∀ d ∈ ds, CG d) : eqW cs ds = eqW ds cs := by
  unfold eqW
  congr 1
  · simp [eq_comm]
  · induction cs generalizing ds with
    | nil => cases ds <;> rfl
    | cons c r ih =>
      cases ds with
      | nil => rfl
      | cons d s =>
        rw [List.zip_cons_cons, List.zip_cons_cons, List.all_cons, List.all_cons, ih (fun x hx => gc x (List.mem_cons_of_mem _ hx)) fun x hx => gd x (List.mem_cons_of_mem _ hx), eqC_symm (gc c (List.mem_cons_self ..)) (gd d (List.mem_cons_self ..))]
theorem eqW_pair {cs ds : List CodeD} (h : Paired (fun c d => eqC c d = true) cs ds) : eqW cs ds = true := by
  unfold eqW
  rw [decide_eq_true h.length, Bool.true_and]
  induction h with
  | nil => rfl
  | cons q _ ih => rw [List.zip_cons_cons, List.all_cons, q, ih]; rfl
theorem eqW_len {cs ds : List CodeD} (h : cs.length ≠ ds.length) : eqW cs ds = false := by unfold eqW; rw [decide_eq_false h]; rfl
end My

set_option Elab.async false
set_option linter.all false
set_option maxRecDepth 100000
set_option maxHeartbeats 8000000
namespace My
open PySem PySem.Spec PyProof.Rows L2 L3 LamX
open L3.Strm
/-! the law's own def that takes a lambda: how the making of a web ends -/
def errS : WErr → Str
  | .code _ => "code"
  | .many _ => "many"
  | .clash _ => "clash"
  | .tree _ => "tree"
def errD : WErr → PyData
  | .code i => .int ((i : Nat) : Int)
  | .many n => .int ((n : Nat) : Int)
  | .clash x => .str x
  | .tree i => .int ((i : Nat) : Int)
def whLen : Wh → Nat
  | .seq ts => ts.length
  | .odd _ => 0
def endW (u : Wh) : Str × PyData := match webEnd u with
  | some e => (errS e, errD e)
  | none => ("told", .int ((whLen u : Nat) : Int))
section
variable {P : Program} {w : World} {K : PySem.W.Frag} {mg : Str → Option Value} {base : Heap}
abbrev s__law_end : Stmt := topS 51
theorem sc__law_end : FnScope ["_law_ask", "e", "_law_found"] ["_law_ask"] (defScope s__law_end) := ⟨rfl, rfl, rfl, by decide +kernel, rfl, by decide +kernel, by decide +kernel⟩
structure RefX (P : Program) (w : World) (K : PySem.W.Frag) (mg : Str → Option Value) (base : Heap) (C CW BC TM CL NT : Addr) : Prop where
  ex : ∃ g fd, Fun K "_law_end" "_law_end" s__law_end g fd ∧ mg "_law_end" = some (.ref g) ∧ L2.Binds K fd ["_law_ask"] []
  g1 : mg "BadCode" = some (.ref BC)
  g2 : mg "TooMany" = some (.ref TM)
  g3 : mg "Clash" = some (.ref CL)
  g4 : mg "NotTree" = some (.ref NT)
  x1 : XfC K BC
  x2 : XfC K TM
  x3 : XfC K CL
  x4 : XfC K NT
  n1 : PySem.W.findIn K (.ref BC) "index" = some none
  n2 : PySem.W.findIn K (.ref TM) "n" = some none
  n3 : PySem.W.findIn K (.ref CL) "name" = some none
  n4 : PySem.W.findIn K (.ref NT) "index" = some none
  e0_0 : PySem.W.exmOne K (.ref BC) (.ref BC) = some true
  e1_0 : PySem.W.exmOne K (.ref TM) (.ref BC) = some false
  e1_1 : PySem.W.exmOne K (.ref TM) (.ref TM) = some true
  e2_0 : PySem.W.exmOne K (.ref CL) (.ref BC) = some false
  e2_1 : PySem.W.exmOne K (.ref CL) (.ref TM) = some false
  e2_2 : PySem.W.exmOne K (.ref CL) (.ref CL) = some true
  e3_0 : PySem.W.exmOne K (.ref NT) (.ref BC) = some false
  e3_1 : PySem.W.exmOne K (.ref NT) (.ref TM) = some false
  e3_2 : PySem.W.exmOne K (.ref NT) (.ref CL) = some false
  e3_3 : PySem.W.exmOne K (.ref NT) (.ref NT) = some true
  T : Gc mg
  ol : OwnLen P w K mg base 1 CW (sp_Web_len K C CW)
/-- what one clause makes of an exception -/
def raisedAs (C : Addr) (a f : Str) (Q : VK) (cls : Value) (d : Option Addr) (H' : Hp) : Prop := cls = .ref C ∧ ∃ x v, d = some x ∧ H' x = some (.xd [(f, v)]) ∧ ∀ p, H' p = none → Q (.ref p) (upd H' p (.tup [.str a, v]))
/-- try: found = ask() / except .. as e: return ("..", e.f) / return ("told", len(found)) -/
def TTw (K : PySem.W.Frag) (C CW BC TM CL NT : Addr) : (XK → Hp → VK → Prop) → Hp → VK → Prop := fun tl H Q => tl (fun cls d H' => raisedAs BC "code" "index" Q cls d H' ∨ raisedAs TM "many" "n" Q cls d H' ∨ raisedAs CL "clash" "name" Q cls d H' ∨ raisedAs NT "tree" "index" Q cls d H') H fun v H' => ∃ x, (some (some v) : Option (Option V)) = some (some x) ∧ rLenO CW (sp_Web_len K C CW) [x] H' fun u H2 => [V.str "told", u].length ≤ sizeLine ∧ ∀ p, H2 p = none → Q (.ref p) (upd H2 p (.tup [.str "told", u]))
theorem gives_end {X : Cx} {C CW BC TM CL NT g : Addr} {cdv : Value} {q : Str} (R : RefX X.prog X.w X.K X.mg X.base C CW BC TM CL NT) (hr : Room 20 X.A) : GivesTo X ["_law_ask", "e", "_law_found"] "_law_end" (defScope s__law_end) g cdv (defBody s__law_end) "_law_ask" q (TTw X.K C CW BC TM CL NT) := by
  intro f c' s H Q tl act hc h
  have nd := sc__law_end.nd
  have T := R.T
  have hr1 : Room 19 (X.A.deeper (envOfC "_law_end" (defScope s__law_end) s.heap.objs.size g cdv)) := hr.deeper _
  refine ⟨_, pss_cons (ps_try_cl (X := (cxOf C8.CX0 X.prog X.w X.K X.mg X.base ["_law_ask", "e", "_law_found"] "_law_end" (defScope s__law_end) g cdv X.A X.stack s H C8.E0).nox)
      (tb := fun W D σ H => ∃ Ech : XK, (∀ cls d σ' H', Ech cls d H' → σ'.length = 3 → W cls d σ' H') ∧ σ[0]? = some (some (.ref f)) ∧ H c' = some (CodeO c' q) ∧ tl Ech H fun v H' => D.nx (σ.set 2 (some v)) H')
      (l := [(.ref BC, some 1, fun a cls d => tRet (tTup (tCons (tC (.str "code")) (tCons (tXf a cls d BC "index" (tVar 1)) tNil)))), (.ref TM, some 1, fun a cls d => tRet (tTup (tCons (tC (.str "many")) (tCons (tXf a cls d TM "n" (tVar 1)) tNil)))), (.ref CL, some 1, fun a cls d => tRet (tTup (tCons (tC (.str "clash")) (tCons (tXf a cls d CL "name" (tVar 1)) tNil)))), (.ref NT, some 1, fun a cls d => tRet (tTup (tCons (tC (.str "tree")) (tCons (tXf a cls d NT "index" (tVar 1)) tNil))))])
      (W := fun _ _ _ _ => False) rfl rfl L2.takes0 (fun W pn xe tk _ => ?_)
      (.named nd rfl rfl ⟨rfl, by decide, .inl R.g1⟩ (fun a oe cls d pn hz hf => pss_one (ps_ret (pe_tup (pa_cons pe_str (pa_cons (pe_xf R.x1 R.n1 hz hf (pv 1)) pa_nil)))))
        (.named nd rfl rfl ⟨rfl, by decide, .inl R.g2⟩ (fun a oe cls d pn hz hf => pss_one (ps_ret (pe_tup (pa_cons pe_str (pa_cons (pe_xf R.x2 R.n2 hz hf (pv 1)) pa_nil)))))
        (.named nd rfl rfl ⟨rfl, by decide, .inl R.g3⟩ (fun a oe cls d pn hz hf => pss_one (ps_ret (pe_tup (pa_cons pe_str (pa_cons (pe_xf R.x3 R.n3 hz hf (pv 1)) pa_nil)))))
        (.named nd rfl rfl ⟨rfl, by decide, .inl R.g4⟩ (fun a oe cls d pn hz hf => pss_one (ps_ret (pe_tup (pa_cons pe_str (pa_cons (pe_xf R.x4 R.n4 hz hf (pv 1)) pa_nil)))))
        .nil))))) (pss_one (ps_ret (pe_tup (pa_cons pe_str (pa_cons (pe_callB (call_lenO R.ol (hr1.mono (by decide))) (by rfl) T.len boot_len (pa_cons (pv 2) pa_nil)) pa_nil))))), ?_⟩
  · refine ⟨fun pins s' σ H' D I h' => ?_⟩
    obtain ⟨Ech, hW, h1, h2, h3⟩ := h'
    exact (pss_one (ps_set (i := 2) nd rfl (by first | exact .inl rfl | exact .inr rfl) (act _ pn xe Ech _ _ (takes_len tk) hW))).run pins s' σ H' D I ⟨h1, h2, h3⟩
  · refine ⟨_, fun cls d σ' H' hh hl => ?_, rfl, hc, h⟩
    rcases hh with ⟨e1, a, v, e2, h1, h2⟩ | ⟨e1, a, v, e2, h1, h2⟩ | ⟨e1, a, v, e2, h1, h2⟩ | ⟨e1, a, v, e2, h1, h2⟩
    · subst e1 e2
      exact ⟨true, R.e0_0, fun _ a' na => ⟨.ref a', by show (σ'.set 1 (some (V.ref a')))[1]? = _; rw [List.getElem?_set_self (by omega)], rfl, rfl, a, _, _, rfl, h1, rfl, by show 2 ≤ sizeLine; decide, fun p np => h2 p np⟩, fun h => nomatch h⟩
    · subst e1 e2
      exact ⟨false, R.e1_0, (fun h => nomatch h), fun _ => ⟨true, R.e1_1, fun _ a' na => ⟨.ref a', by show (σ'.set 1 (some (V.ref a')))[1]? = _; rw [List.getElem?_set_self (by omega)], rfl, rfl, a, _, _, rfl, h1, rfl, by show 2 ≤ sizeLine; decide, fun p np => h2 p np⟩, fun h => nomatch h⟩⟩
    · subst e1 e2
      exact ⟨false, R.e2_0, (fun h => nomatch h), fun _ => ⟨false, R.e2_1, (fun h => nomatch h), fun _ => ⟨true, R.e2_2, fun _ a' na => ⟨.ref a', by show (σ'.set 1 (some (V.ref a')))[1]? = _; rw [List.getElem?_set_self (by omega)], rfl, rfl, a, _, _, rfl, h1, rfl, by show 2 ≤ sizeLine; decide, fun p np => h2 p np⟩, fun h => nomatch h⟩⟩⟩
    · subst e1 e2
      exact ⟨false, R.e3_0, (fun h => nomatch h), fun _ => ⟨false, R.e3_1, (fun h => nomatch h), fun _ => ⟨false, R.e3_2, (fun h => nomatch h), fun _ => ⟨true, R.e3_3, fun _ a' na => ⟨.ref a', by show (σ'.set 1 (some (V.ref a')))[1]? = _; rw [List.getElem?_set_self (by omega)], rfl, rfl, a, _, _, rfl, h1, rfl, by show 2 ≤ sizeLine; decide, fun p np => h2 p np⟩, fun h => nomatch h⟩⟩⟩⟩
theorem gv_lamW {K : PySem.W.Frag} {σ : Sl} {M : Hp} {C CW BC TM CL NT : Addr} {u : Wh} {t1 : TE} (h : Gv t1 σ M (WhR K C u)) (hp : ∀ ts, u = .seq ts → ts.length ≤ 1000 ∧ (thBad ts 0 = none → WebPre (codesOf ts))) :
    Gv (fun σ H Q => TTw K C CW BC TM CL NT (fun E H' Q' => tMake CW (sp_webX K C CW BC TM CL NT) [] E (tCons t1 tNil) σ H' Q') H Q) σ M (TxF K (endW u)) := fun H mh Q q =>
  h H mh _ fun v M1 H1 g1 r1 x dx hx hdx hne => by
    have gN : Gr M1 H1 M1 (upd (upd H1 dx (.own x)) x (.ins CW dx [])) := (Gr.own g1.mh hdx).trans (.own (g1.mh.trans (same_new hdx)) (by rw [upd_ne (Ne.symm hne)]; exact hx))
    refine ⟨u, M1, H1, x, dx, v, rfl, gN, hx, g1.mh.free hx, upd_same, r1, hp, fun M' H' g we rw' => ⟨rfl, ?_⟩, fun e a M' H' g we ha => ?_⟩
    · have ee : endW u = (("told" : Str), PyData.int ((whLen u : Nat) : Int)) := by unfold endW; rw [we]
      obtain ⟨ts, rfl⟩ : ∃ ts, u = .seq ts := by
        cases u with
        | seq ts => exact ⟨ts, rfl⟩
        | odd d => cases we
      have rW := (rw' ts rfl).q
      have lc : (codesOf ts).length = ts.length := by
        have wb : whBad (.seq ts) = none := by
          unfold webEnd at we
          cases z : whBad (.seq ts) with
          | none => rfl
          | some i => rw [z] at we; cases we
        have : thBad ts 0 = none := by
          cases ts with
          | nil => cases wb
          | cons t r => exact wb
        have e := thBad_none this
        have : ts.length = ((codesOf ts).map Th.code).length := by rw [← e]
        rw [List.length_map] at this
        exact this.symm
      have hl := (hp ts rfl).1
      obtain ⟨a', dx', fs', ea, ha⟩ := inst_web _ M' _ rW
      cases ea
      refine ⟨.ref x, rfl, x, dx', fs', rfl, g.mh _ _ ha, codesOf ts, M', .ref x, rfl, g.mh, rW, trivial, fun z M2 H2 g2 rz => ⟨(codesOf ts).length, rz, by omega, by show 2 ≤ sizeLine; decide, fun p np => ?_⟩⟩
      have rz : z = .int (((codesOf ts).length : Nat) : Int) := rz
      refine q (.ref p) _ _ (((g1.trans g).trans g2).trans (.new g2.mh np)) ?_
      rw [ee]
      refine ⟨p, z, rfl, upd_same, .inl ?_⟩
      rw [rz, lc]
      exact .int _
    · have ee : endW u = (errS e, errD e) := by unfold endW; rw [we]
      cases e with
      | code i => exact .inl ⟨rfl, a, _, rfl, ha, fun p np => q (.ref p) _ _ ((g1.trans g).trans (.new g.mh np)) (by rw [ee]; exact ⟨p, _, rfl, upd_same, .inl (.int _)⟩)⟩
      | many n => exact .inr (.inl ⟨rfl, a, _, rfl, ha, fun p np => q (.ref p) _ _ ((g1.trans g).trans (.new g.mh np)) (by rw [ee]; exact ⟨p, _, rfl, upd_same, .inl (.int _)⟩)⟩)
      | clash x => exact .inr (.inr (.inl ⟨rfl, a, _, rfl, ha, fun p np => q (.ref p) _ _ ((g1.trans g).trans (.new g.mh np)) (by rw [ee]; exact ⟨p, _, rfl, upd_same, .inl (.str _)⟩)⟩))
      | tree i => exact .inr (.inr (.inr ⟨rfl, a, _, rfl, ha, fun p np => q (.ref p) _ _ ((g1.trans g).trans (.new g.mh np)) (by rw [ee]; exact ⟨p, _, rfl, upd_same, .inl (.int _)⟩)⟩))
/-- a web of codes that can stand beside one another -/
theorem gv_mkWeb {K : PySem.W.Frag} {σ : Sl} {M : Hp} {C CW BC TM CL NT : Addr} {cs : List CodeD} {t1 : TE} (h : Gv t1 σ M (SqR K (CodeR C) cs)) (hn : cs ≠ []) (W : WebPre cs) (ok : webGo [] cs [] = none) :
    Gv (tMake CW (sp_webX K C CW BC TM CL NT) [] (fun _ _ _ => False) (tCons t1 tNil)) σ M (WebQ K C CW cs) := fun H mh Q q =>
  h H mh _ fun v M1 H1 g1 r1 x dx hx hdx hne => by
    have gN : Gr M1 H1 M1 (upd (upd H1 dx (.own x)) x (.ins CW dx [])) := (Gr.own g1.mh hdx).trans (.own (g1.mh.trans (same_new hdx)) (by rw [upd_ne (Ne.symm hne)]; exact hx))
    have ru : WhR K C (.seq (cs.map .code)) M1 v := by
      have pc : ∀ {ds : List CodeD} {vs : List V}, Pd (CodeR C) M1 ds vs → Pd (ThR K C) M1 (ds.map .code) vs := fun {ds vs} p => pd_to (T := ThR K C) (fun x v r => r) p
      rcases r1 with ⟨a, vs, e, hs, hp⟩ | ⟨a, vs, e, hs, hp⟩
      · exact .inl ⟨a, vs, e, hs, pc hp⟩
      · exact .inr ⟨a, vs, e, hs, pc hp⟩
    have n7 := W.n
    refine ⟨.seq (cs.map .code), M1, H1, x, dx, v, rfl, gN, hx, g1.mh.free hx, upd_same, ru, fun ts e => ?_, fun M' H' g we rw' => ⟨rfl, q (.ref x) M' H' (g1.trans g) ?_⟩, fun e a M' H' g we ha => ?_⟩
    · have e2 : ts = cs.map .code := by injection e with e; exact e.symm
      subst e2
      exact ⟨by rw [List.length_map]; omega, fun _ => by rw [codes_th]; exact W⟩
    · have := (rw' _ rfl).q
      rw [codes_th] at this
      exact this
    · rw [end_seq hn, ok] at we
      cases we
end
end My

set_option Elab.async false
set_option linter.all false
set_option maxRecDepth 100000
set_option maxHeartbeats 8000000
namespace My
open PySem PySem.Spec PyProof.Rows L2 L3
/-! how the making of a web must end, by the law -/
def Fin3 (K : PySem.W.Frag) (i j l : Nat) (tz : TS) (D : Ends) (σ : Sl) : List V → Hp → Prop := fun vs H1 => vs.length ≤ sizeLine ∧ ∀ p, H1 p = none → gTup K 3 (gCons (gName i) (gCons (gName j) (gCons (gName l) gNil))) (.ref p) σ (upd H1 p (.tup vs)) fun σ' H' => tz D σ' H'
theorem q_asg3 {K : PySem.W.Frag} {i j l : Nat} {tz : TS} {D : Ends} {σ : Sl} {H : Hp} {ta : TA} (h : ta σ H (Fin3 K i j l tz D σ)) : tSeq (tAsg (tTup ta) (gTup K 3 (gCons (gName i) (gCons (gName j) (gCons (gName l) gNil))))) tz D σ H := h
theorem fin3 {K : PySem.W.Frag} {i j l : Nat} {tz : TS} {D : Ends} {σ : Sl} {H1 : Hp} {u v x : V} (h : ∀ p, H1 p = none → tz D (((σ.set i (some u)).set j (some v)).set l (some x)) (upd H1 p (.tup [u, v, x]))) : Fin3 K i j l tz D σ [u, v, x] H1 :=
  ⟨by show 3 ≤ sizeLine; decide, fun p np => ⟨p, _, rfl, .inl (.inl upd_same), rfl, u, _, rfl, v, _, rfl, x, _, rfl, rfl, h p np⟩⟩
theorem s_asg2 {K : PySem.W.Frag} {i j : Nat} {D : Ends} {σ : Sl} {H : Hp} {ta : TA} (h : ta σ H (Fin2 K i j (fun D σ H => D.nx σ H) D σ)) : tAsg (tTup ta) (gTup K 2 (gCons (gName i) (gCons (gName j) gNil))) D σ H := h
/-- what was met so far -/
def sgs (cs : List CodeD) : List Str := cs.flatMap CodeD.signs
def hps (cs : List CodeD) : List Str := cs.flatMap CodeD.helpers
theorem in_names {x : Str} {cs : List CodeD} : inAny x CodeD.names cs = decide (x ∈ sgs cs ++ hps cs) := by
  rw [Bool.eq_iff_iff, decide_eq_true_eq, List.mem_append]
  unfold inAny sgs hps
  rw [List.any_eq_true, List.mem_flatMap, List.mem_flatMap]
  constructor
  · rintro ⟨d, hd, h⟩
    rcases List.mem_append.mp (show x ∈ d.signs ++ d.helpers from of_decide_eq_true h) with h | h
    · exact .inl ⟨d, hd, h⟩
    · exact .inr ⟨d, hd, h⟩
  · rintro (⟨d, hd, h⟩ | ⟨d, hd, h⟩)
    · exact ⟨d, hd, decide_eq_true (List.mem_append_left _ h)⟩
    · exact ⟨d, hd, decide_eq_true (List.mem_append_right _ h)⟩
theorem in_helpers {x : Str} {cs : List CodeD} : inAny x CodeD.helpers cs = decide (x ∈ hps cs) := by
  rw [Bool.eq_iff_iff, decide_eq_true_eq]
  unfold inAny hps
  rw [List.any_eq_true, List.mem_flatMap]
  exact ⟨fun ⟨d, hd, h⟩ => ⟨d, hd, of_decide_eq_true h⟩, fun ⟨d, hd, h⟩ => ⟨d, hd, decide_eq_true h⟩⟩
def badL (c : CodeD) (cs : List CodeD) : List Str := c.helpers.filter (fun x => decide (x ∈ sgs cs ++ hps cs)) ++ c.signs.filter fun x => decide (x ∈ hps cs)
theorem check_law (c : CodeD) (cs : List CodeD) : checkC c cs = if 6 < c.signs.length then some (.many c.signs.length) else match (badL c cs).head? with
    | some x => some (.clash x)
    | none => none := by
  unfold checkC badL
  simp only [in_names, in_helpers]
  all_goals
    split
    · rfl
    · cases (List.filter (fun x => decide (x ∈ sgs cs ++ hps cs)) c.helpers ++ List.filter (fun x => decide (x ∈ hps cs)) c.signs).head? <;> rfl
theorem law_step {cs : List CodeD} {i : Nat} {c : CodeD} {ls : List (List Str)} (hc : cs[i]? = some c) (hg : lawGo (cs.take i) (cs.drop i) ls = lawGo [] cs []) :
    (∀ e, checkC c (cs.take i) = some e → lawGo [] cs [] = some e) ∧ (checkC c (cs.take i) = none → ((nearL c ls).any (twice c) = true → lawGo [] cs [] = some (.tree i)) ∧ ((nearL c ls).any (twice c) = false → lawGo (cs.take (i + 1)) (cs.drop (i + 1)) (lawLumps c ls) = lawGo [] cs [])) := by
  have hi : i < cs.length := (List.getElem?_eq_some_iff.mp hc).1
  have ed : cs.drop i = c :: cs.drop (i + 1) := by
    rw [List.drop_eq_getElem_cons hi]
    congr 1
    exact (List.getElem?_eq_some_iff.mp hc).2
  have et : cs.take (i + 1) = cs.take i ++ [c] := by rw [List.take_add_one, hc]; rfl
  have el : (cs.take i).length = i := by rw [List.length_take]; omega
  rw [ed] at hg
  have hg : (match checkC c (cs.take i) with | some e => some e | none => if (nearL c ls).any (twice c) = true then some (WErr.tree (cs.take i).length) else lawGo (cs.take i ++ [c]) (cs.drop (i + 1)) (lawLumps c ls)) = lawGo [] cs [] := hg
  refine ⟨fun e h => ?_, fun h => ⟨fun h2 => ?_, fun h2 => ?_⟩⟩
  · rw [h] at hg; exact hg.symm
  · rw [h] at hg
    have hg : (if (nearL c ls).any (twice c) = true then some (WErr.tree (cs.take i).length) else lawGo (cs.take i ++ [c]) (cs.drop (i + 1)) (lawLumps c ls)) = lawGo [] cs [] := hg
    rw [if_pos h2, el] at hg
    exact hg.symm
  · rw [h] at hg
    have hg : (if (nearL c ls).any (twice c) = true then some (WErr.tree (cs.take i).length) else lawGo (cs.take i ++ [c]) (cs.drop (i + 1)) (lawLumps c ls)) = lawGo [] cs [] := hg
    rw [if_neg (by rw [h2]; decide), ← et] at hg
    exact hg
theorem lawLumps_len (c : CodeD) (ls : List (List Str)) : (lawLumps c ls).flatten.length = ls.flatten.length + c.signs.length ∧ (lawLumps c ls).length ≤ ls.length + 1 := by
  unfold lawLumps
  rw [not_near]
  have h := part_len (touches c) ls
  have h2 := List.length_filter_le (fun l => !touches c l) ls
  constructor
  · rw [List.flatten_append, List.length_append, List.flatten_singleton, List.length_append]
    unfold nearL
    omega
  · rw [List.length_append, List.length_singleton]
    omega
theorem touch_nil {c : CodeD} {l : List Str} : decide ((c.signs.filter fun x => decide (x ∈ l)) ≠ []) = touches c l := by
  rw [Bool.eq_iff_iff, decide_eq_true_eq, touches_iff, Ne, List.filter_eq_nil_iff]
  constructor
  · intro h
    exact Classical.byContradiction fun n => h fun x hx e => n ⟨x, hx, of_decide_eq_true e⟩
  · rintro ⟨x, hx, hl⟩ h
    exact h x hx (decide_eq_true hl)
theorem tree_nil {c : CodeD} {ls : List (List Str)} : decide (((nearL c ls).filter (twice c)) ≠ []) = (nearL c ls).any (twice c) := by
  rw [Bool.eq_iff_iff, decide_eq_true_eq, List.any_eq_true, Ne, List.filter_eq_nil_iff]
  constructor
  · intro h
    exact Classical.byContradiction fun n => h fun x hx e => n ⟨x, hx, e⟩
  · rintro ⟨x, hx, e⟩ h
    exact h x hx e
theorem depthLL : ∀ ls : List (List Str), PyData.depthAll (ls.map fun l => .list (l.map .str)) ≤ 1
  | [] => by simp [PyData.depthAll]
  | l :: r => by
    have := depthLL r
    simp [PyData.depthAll, PyData.depth, depthS]
    omega
theorem map_nil {α β : Type} {f : α → β} {xs : List α} : decide (xs.map f ≠ []) = decide (xs ≠ []) := by simp
/-- xs + .., xs known -/
theorem q_addK {α : Type} {R : Rl α} {K : PySem.W.Frag} {σ : Sl} {M H : Hp} {ta tb : TE} {D : Ends} {tz : TS} {i : Nat} {xs : List α} (mh : Same M H) (h : Gv ta σ M (LiR R xs))
    (k : ∀ a us M1 H1, Gr M H M1 H1 → M1 a = some (.lst us) → Pd R M1 xs us → tb σ H1 fun y H2 => rAddA K (.ref a) y H2 fun v H3 => tz D (σ.set i (some v)) H3) : tSeq (tAsg (tOp (rAddA K) ta tb) (gName i)) tz D σ H :=
  h H mh _ fun v M1 H1 g1 ⟨a, us, e, ha, pa⟩ => by subst e; exact k a us M1 H1 g1 ha pa
/-- xs[..].extend(l): the reading of the list that is extended -/
theorem s_extR {K : PySem.W.Frag} {σ : Sl} {H : Hp} {to te : TE} {D : Ends} {pin : Addr} {wz : List V} {N : Hp} (h : Gv to σ N (EqV (.ref pin))) (nh : Same N H) (hp : H pin = some (.lst wz)) (hn : ∀ N' H', Gr N H N' H' → ∃ b zs, te σ H' = (fun Q => Q (.ref b) H') ∧ H' b = some (.lst zs) ∧ wz.length + zs.length ≤ sizeLine ∧ D.nx σ (upd H' pin (.lst (wz ++ zs)))) : tDrop (tBM K "list" rExtend to (tCons te tNil)) D σ H :=
  h H nh _ fun x N' H' g ex => by
    cases (show x = V.ref pin from ex)
    obtain ⟨b, zs, e, hb, hz, k⟩ := hn N' H' g
    refine ⟨.inl ⟨rfl, _, .inl (.inl (g.hh _ _ hp))⟩, ?_⟩
    show te σ H' _
    rw [e]
    exact ⟨pin, b, wz, zs, rfl, rfl, g.hh _ _ hp, hb, hz, k⟩
theorem sgs_take {cs : List CodeD} {i : Nat} {c : CodeD} (h : cs[i]? = some c) : sgs (cs.take (i + 1)) = sgs (cs.take i) ++ c.signs ∧ hps (cs.take (i + 1)) = hps (cs.take i) ++ c.helpers := by
  rw [List.take_add_one, h]
  unfold sgs hps
  simp
theorem at_last {us : List V} {v : V} : atI (us ++ [v]) (-1) = some v := by
  unfold atI
  rw [show ixN (us ++ [v]).length (-1) = some us.length from by
    unfold ixN
    rw [List.length_append, List.length_singleton]
    simp
    omega]
  simp
section
variable {P : Program} {w : World} {K : PySem.W.Frag} {mg : Str → Option Value} {base : Heap}
abbrev s__law_due : Stmt := topS 52
theorem sc__law_due : FnScope ["_law_things", "_law_index", "_law_one", "_law_lumps", "_law_signs", "_law_helpers", "_law_code", "_law_bad", "_law_near", "_law_lump"] ["_law_things"] (defScope s__law_due) := ⟨rfl, rfl, rfl, by decide +kernel, rfl, by decide +kernel, by decide +kernel⟩
def sp__law_due (K : PySem.W.Frag) (C : Addr) : Sp := sp1 (LiR (ThR K C)) (fun ts => ts.length ≤ 1000 ∧ (thBad ts 0 = none → WebPre (codesOf ts))) fun ts => TxF K (endW (.seq ts))
theorem ok__law_due {f C : Addr} {fd : FuncData} (F : Fun K "_law_due" "_law_due" s__law_due f fd) (T : Gc mg) (O : OffC K C) (IC : InsF K C) (g_Code : mg "Code" = some (.ref C)) (m_signs : Met P w K mg base 1 C "signs" ["self"] (sp_Code_signs K C)) (m_helpers : Met P w K mg base 1 C "helpers" ["self"] (sp_Code_helpers K C)) : FnOk P w K mg base CX0 3 f fd ["_law_things"] (sp__law_due K C) := by
  refine F.ok sc__law_due (fun vs H Q E h => ?_) (fun cdv A outer s H vs Q E hr h => ?_)
  · obtain ⟨x, M, v, rfl, _⟩ := h
    rfl
  · obtain ⟨ts, M, v, rfl, mh, r1, ⟨hl, PRE⟩, q⟩ := h
    have hu := hr.units
    refine ⟨_, (pss_cons (ps_if (PW.pt (pw_or (pt_not (pt_val (pe_callB call_isiT (by rfl) T.isinstance boot_isinstance (pa_cons (pv 0) (pa_cons (pe_tup (pa_cons (pe_bltn (v := .ty "list") (u := .type "list") (by rfl) T.list (by decide +kernel) rfl) (pa_cons (pe_bltn (v := .ty "tuple") (u := .type "tuple") (by rfl) T.tuple (by decide +kernel) rfl) pa_nil))) pa_nil))))) (pw_or1 (pt_cmpR (op_eqP hu) (pe_callB call_lenA (by rfl) T.len boot_len (pa_cons (pv 0) pa_nil)) pe_int (nomark _))))) (pss_one (ps_ret (pe_tup (pa_cons pe_str (pa_cons pe_int pa_nil))))) pss_nil)
      (pss_cons (ps_for PassesOwn.never (by rfl) (pi_en (by rfl) T.enumerate (pa_cons (pv 0) pa_nil)) (pg_tup (by rfl) (pgs_cons (pg_name (i := 1) sc__law_due.nd rfl (by first | exact .inl rfl | exact .inr rfl)) (pgs_cons (pg_name (i := 2) sc__law_due.nd rfl (by first | exact .inl rfl | exact .inr rfl)) pgs_nil))) (pss_one (ps_if (pt_not (pt_val (pe_callB call_isi (by rfl) T.isinstance boot_isinstance (pa_cons (pv 2) (pa_cons (pe_glob (v := .ref C) (by rfl) g_Code rfl) pa_nil))))) (pss_one (ps_ret (pe_tup (pa_cons pe_str (pa_cons (pv 1) pa_nil))))) pss_nil)))
      (pss_cons (ps_asg (pe_tup (pa_cons (pe_lst pa_nil) (pa_cons (pe_lst pa_nil) (pa_cons (pe_lst pa_nil) pa_nil)))) (pg_tup (by rfl) (pgs_cons (pg_name (i := 3) sc__law_due.nd rfl (by first | exact .inl rfl | exact .inr rfl)) (pgs_cons (pg_name (i := 4) sc__law_due.nd rfl (by first | exact .inl rfl | exact .inr rfl)) (pgs_cons (pg_name (i := 5) sc__law_due.nd rfl (by first | exact .inl rfl | exact .inr rfl)) pgs_nil)))))
      (pss_cons (ps_for PassesOwn.never (by rfl) (pi_en (by rfl) T.enumerate (pa_cons (pv 0) pa_nil)) (pg_tup (by rfl) (pgs_cons (pg_name (i := 1) sc__law_due.nd rfl (by first | exact .inl rfl | exact .inr rfl)) (pgs_cons (pg_name (i := 6) sc__law_due.nd rfl (by first | exact .inl rfl | exact .inr rfl)) pgs_nil))) (pss_cons (ps_if (pt_cmpR op_gt (pe_callB call_lenA (by rfl) T.len boot_len (pa_cons (pe_m0 m_signs (hr.mono (by decide)) (pv 6)) pa_nil)) pe_int (nomark _)) (pss_one (ps_ret (pe_tup (pa_cons pe_str (pa_cons (pe_callB call_lenA (by rfl) T.len boot_len (pa_cons (pe_m0 m_signs (hr.mono (by decide)) (pv 6)) pa_nil)) pa_nil))))) pss_nil)
      (pss_cons (ps_setLc (i := 7) (own := [("_law_one", 2)]) (g := (gName 2)) (tt := (tTest (tOp (rInA K false) (tVar 2) (tOp (rAddA K) (tVar 4) (tVar 5))))) (te := (tVar 2)) (by rfl) sc__law_due.nd rfl rfl (sw_true rfl rfl rfl (by decide +kernel)) (pi_sq (pe_m0 m_helpers (hr.mono (by decide)) (pv 6))) (blkOk_by (by rfl)) (fun _ _ _ _ _ => (pg_name (i := 2) sc__law_due.nd rfl (by first | exact .inl rfl | exact .inr rfl))) (fun _ _ _ _ _ => (pts_one (pt_cmpR (op_inA hu) (pv 2) (pe_op op_addA (pv 4) (pv 5)) (by rfl)))) (fun _ _ _ _ _ => (pv 2)))
      (pss_cons (ps_expr (pe_bm PySem.F.plainAttrs_list PySem.F.slot_list_extend PySem.F.type_list_extend mt_extend (pv 7) (pa_cons (pe_lc (own := [("_law_one", 2)]) (g := (gName 2)) (tt := (tTest (tOp (rInA K false) (tVar 2) (tVar 5)))) (te := (tVar 2)) (by rfl) sc__law_due.nd (pi_sq (pe_m0 m_signs (hr.mono (by decide)) (pv 6))) (blkOk_by (by rfl)) (fun _ _ _ _ _ => (pg_name (i := 2) sc__law_due.nd rfl (by first | exact .inl rfl | exact .inr rfl))) (fun _ _ _ _ _ => (pts_one (pt_cmpR (op_inA hu) (pv 2) (pv 5) (by rfl)))) (fun _ _ _ _ _ => (pv 2))) pa_nil)))
      (pss_cons (ps_if (pt_cmpR (op_neP hu) (pv 7) (pe_lst pa_nil) (nomark _)) (pss_one (ps_ret (pe_tup (pa_cons pe_str (pa_cons (pe_ix ix_X (pv 7) pe_int (fun _ _ => rfl)) pa_nil))))) pss_nil)
      (pss_cons (ps_set (i := 8) sc__law_due.nd rfl (by first | exact .inl rfl | exact .inr rfl) (pe_lc (own := [("_law_lump", 9)]) (g := (gName 9)) (tt := (tTest (tOp (rEqP K true) (tLc (iSq K (tMeth C "signs" (sp_Code_signs K C) [] E0 (tVar 6) tNil)) (gName 2) (tTest (tOp (rInA K false) (tVar 2) (tVar 9))) (tVar 2) [2]) (tLst tNil)))) (te := (tVar 9)) (by rfl) sc__law_due.nd (pi_sq (pv 3)) (blkOk_by (by rfl)) (fun _ _ _ _ _ => (pg_name (i := 9) sc__law_due.nd rfl (by first | exact .inl rfl | exact .inr rfl))) (fun _ _ _ _ _ => (pts_one (pt_cmpR (op_neP hu) (pe_lc (own := [("_law_one", 2)]) (g := (gName 2)) (tt := (tTest (tOp (rInA K false) (tVar 2) (tVar 9)))) (te := (tVar 2)) (by rfl) sc__law_due.nd (pi_sq (pe_m0 m_signs (hr.mono (by decide)) (pv 6))) (blkOk_by (by rfl)) (fun _ _ _ _ _ => (pg_name (i := 2) sc__law_due.nd rfl (by first | exact .inl rfl | exact .inr rfl))) (fun _ _ _ _ _ => (pts_one (pt_cmpR (op_inA hu) (pv 2) (pv 9) (by rfl)))) (fun _ _ _ _ _ => (pv 2))) (pe_lst pa_nil) (nomark _)))) (fun _ _ _ _ _ => (pv 9))))
      (pss_cons (ps_if (pt_cmpR (op_neP hu) (pe_lc (own := [("_law_lump", 9)]) (g := (gName 9)) (tt := (tTest (tOp (rI0 fun i j => .bl (decide (j < i))) (tCB (rLenA K) (tCons (tLc (iSq K (tMeth C "signs" (sp_Code_signs K C) [] E0 (tVar 6) tNil)) (gName 2) (tTest (tOp (rInA K false) (tVar 2) (tVar 9))) (tVar 2) [2]) tNil)) (tC (.int 1))))) (te := (tVar 9)) (by rfl) sc__law_due.nd (pi_sq (pv 8)) (blkOk_by (by rfl)) (fun _ _ _ _ _ => (pg_name (i := 9) sc__law_due.nd rfl (by first | exact .inl rfl | exact .inr rfl))) (fun _ _ _ _ _ => (pts_one (pt_cmpR op_gt (pe_callB call_lenA (by rfl) T.len boot_len (pa_cons (pe_lc (own := [("_law_one", 2)]) (g := (gName 2)) (tt := (tTest (tOp (rInA K false) (tVar 2) (tVar 9)))) (te := (tVar 2)) (by rfl) sc__law_due.nd (pi_sq (pe_m0 m_signs (hr.mono (by decide)) (pv 6))) (blkOk_by (by rfl)) (fun _ _ _ _ _ => (pg_name (i := 2) sc__law_due.nd rfl (by first | exact .inl rfl | exact .inr rfl))) (fun _ _ _ _ _ => (pts_one (pt_cmpR (op_inA hu) (pv 2) (pv 9) (by rfl)))) (fun _ _ _ _ _ => (pv 2))) pa_nil)) pe_int (nomark _)))) (fun _ _ _ _ _ => (pv 9))) (pe_lst pa_nil) (nomark _)) (pss_one (ps_ret (pe_tup (pa_cons pe_str (pa_cons (pv 1) pa_nil))))) pss_nil)
      (pss_cons (ps_set (i := 3) sc__law_due.nd rfl (by first | exact .inl rfl | exact .inr rfl) (pe_op op_addA (pe_lc (own := [("_law_lump", 9)]) (g := (gName 9)) (tt := (tTest (tOp (rInA K true) (tVar 9) (tVar 8)))) (te := (tVar 9)) (by rfl) sc__law_due.nd (pi_sq (pv 3)) (blkOk_by (by rfl)) (fun _ _ _ _ _ => (pg_name (i := 9) sc__law_due.nd rfl (by first | exact .inl rfl | exact .inr rfl))) (fun _ _ _ _ _ => (pts_one (pt_cmpR (op_niA hu) (pv 9) (pv 8) (by rfl)))) (fun _ _ _ _ _ => (pv 9))) (pe_lst (pa_cons (pe_callTy call_lstA (by rfl) T.list boot_list (pa_cons (pe_m0 m_signs (hr.mono (by decide)) (pv 6)) pa_nil)) pa_nil))))
      (pss_cons (ps_for PassesOwn.never (by rfl) (pi_sq (pv 8)) (pg_name (i := 9) sc__law_due.nd rfl (by first | exact .inl rfl | exact .inr rfl)) (pss_one (ps_expr (pe_bm PySem.F.plainAttrs_list PySem.F.slot_list_extend PySem.F.type_list_extend mt_extend (pe_ix ix_X (pv 3) (pe_un un_neg pe_int) (fun _ _ => rfl)) (pa_cons (pv 9) pa_nil)))))
      (pss_one (ps_asg (pe_tup (pa_cons (pe_op op_addA (pv 4) (pe_m0 m_signs (hr.mono (by decide)) (pv 6))) (pa_cons (pe_op op_addA (pv 5) (pe_m0 m_helpers (hr.mono (by decide)) (pv 6))) pa_nil))) (pg_tup (by rfl) (pgs_cons (pg_name (i := 4) sc__law_due.nd rfl (by first | exact .inl rfl | exact .inr rfl)) (pgs_cons (pg_name (i := 5) sc__law_due.nd rfl (by first | exact .inl rfl | exact .inr rfl)) pgs_nil))))))))))))))
      (pss_one (ps_ret (pe_tup (pa_cons pe_str (pa_cons (pe_callB call_lenA (by rfl) T.len boot_len (pa_cons (pv 0) pa_nil)) pa_nil))))))))), ?_⟩
    have rw0 : WhR K C (.seq ts) M v := r1.sq
    have answer : ∀ {σ' : Sl} {te : TE} {M' H' : Hp} {e : WErr}, Gr M H M' H' → Gv te σ' M' (TxF K (errS e, errD e)) → webEnd (.seq ts) = some e → tRet te { nx := fun _ H' => Q .non H', rt := Q } σ' H' := fun g h e => s_ret g.mh h fun z M2 H2 g2 rz => q z M2 H2 (g.trans g2) (by
      show TxF K (endW (.seq ts)) M2 z
      unfold endW
      rw [e]
      exact rz)
    refine q_if0 (b := decide (ts = [])) mh (gt_is (gt_or (b := false) (c := decide (ts.length = 0)) (gt_is (gt_not (gt_B (gv_isWh (K := K) (x := .seq ts) (gv_var rfl rw0)))) rfl) fun _ => gt_is (gt_test (gv_eqT (K := K) (neg := false) (x := (ts.length : Int)) (y := 0) py_int inj_int (gv_lenA (K := K) (R := ThR K C) (gv_var rfl r1.sq)) (gv_c rfl) (by simp [PyData.depth]))) (by simp)) (by cases ts <;> simp)) (fun hb H4 hh4 => ?_) fun hb H4 hh4 => ?_
    · have e : ts = [] := of_decide_eq_true hb
      subst e
      exact answer (e := .code 0) (.idle mh hh4) (gv_tupF (gv_c rfl) (gv_c (.inl (.int 0)))) rfl
    have hne : ts ≠ [] := of_decide_eq_false hb
    have eb : whBad (.seq ts) = thBad ts 0 := by
      cases ts with
      | nil => exact absurd rfl hne
      | cons t r => rfl
    have G0 := Gr.idle mh hh4
    refine q_forE (R1 := ThR K C) (xs := ts) G0.mh (gv_var rfl r1.sq) (fun M1' i σ' M' H' => ∃ y1 y2, Gr M H M' H' ∧ Same M1' M' ∧ thBad (ts.drop i) i = thBad ts 0 ∧ σ' = [some v, y1, y2, none, none, none, none, none, none, none]) (fun M3 H3 g3 => ⟨none, none, G0.trans g3, Same.refl _, rfl, rfl⟩) (fun M3 i σ' M' H' ⟨_, _, g, s1, _⟩ => ⟨s1, g.mh⟩) ?_ ?_
    · rintro M3 i t v' σ' M' H' H'' sM hx ⟨y1, y2, g, s1, en, rfl⟩ gE rx
      have hil : i < ts.length := (List.getElem?_eq_some_iff.mp hx).1
      have ed : ts.drop i = t :: ts.drop (i + 1) := by
        rw [List.drop_eq_getElem_cons hil]
        congr 1
        exact (List.getElem?_eq_some_iff.mp hx).2
      rw [ed] at en
      have g' := g.trans gE
      refine s_if0 (b := !t.isC) g'.mh (gt_not (gt_B (gv_isTh O IC (gv_var rfl rx)))) (fun hb H5 hh5 => ?_) (fun hb H5 hh5 => ?_)
      · cases t with
        | code c => cases hb
        | odd d =>
          have en : some i = thBad ts 0 := en
          exact answer (e := .code i) (g'.trans (.idle g'.mh hh5)) (gv_tupF (gv_c rfl) (gv_is (gv_var (P := It' ((i : Nat) : Int)) rfl rfl) fun M v h => by rw [show v = _ from h]; exact .inl (.int _))) (by unfold webEnd; rw [eb, ← en])
      · cases t with
        | odd d => cases hb
        | code c => exact ⟨M', _, _, g'.trans (.idle g'.mh hh5), s1, en, rfl⟩
    rintro M3 σ3 M4 H5 sM4 ⟨y1, y2, G4, _, en, rfl⟩
    rw [List.drop_length] at en
    have tb : thBad ts 0 = none := en.symm
    have W := PRE tb
    obtain ⟨cs, rfl⟩ : ∃ cs : List CodeD, ts = cs.map .code := ⟨codesOf ts, thBad_none tb⟩
    rw [codes_th] at W
    have hne : cs ≠ [] := fun e => by rw [e] at hne; exact hne rfl
    have nd : ∀ c ∈ cs, c.signs.Nodup := fun c hc => (W.c c hc).g.sn.1
    have we : webEnd (.seq (cs.map .code)) = lawGo [] cs [] := by rw [end_seq hne, go_law nd .nil .nil]
    have n7 := W.n
    have rc : LiR (CodeR C) cs M v := by
      obtain ⟨a, vs, e, h1, h2⟩ := r1
      exact ⟨a, vs, e, h1, pd_codes h2⟩
    refine q_asg3 (a_V (P := LiR (LiR Tx) []) G4.mh (gl_nil.gv fun M' vs p h m => by subst h; exact ⟨p, [], rfl, upd_same, .nil⟩) fun v3 M5 H6 g5 r3 => a_V (P := LiR Tx []) g5.mh (gl_nil.gv fun M' vs p h m => by subst h; exact ⟨p, [], rfl, upd_same, .nil⟩) fun v4 M6 H7 g6 r4 => a_V (P := LiR Tx []) g6.mh (gl_nil.gv fun M' vs p h m => by subst h; exact ⟨p, [], rfl, upd_same, .nil⟩) fun v5 M7 H8 g7 r5 => a_nil (fin3 fun t nt => ?_))
    have G7 := (((G4.trans g5).trans g6).trans g7).trans (.own (o := .tup [v3, v4, v5]) g7.mh nt)
    revert G7
    generalize upd H8 t (.tup [v3, v4, v5]) = H9
    intro G7
    refine q_forE (R1 := CodeR C) (xs := cs) G7.mh (gv_var rfl (Mon.mono G7.mm rc).sq)
      (fun M1' i σ' M' H' => ∃ y1 y2 y6 y7 y8 y9 p3 v4 v5 ls, Gr M H M' H' ∧ Same M1' M' ∧ LiR (LiR Tx) ls M' p3 ∧ LiR Tx (sgs (cs.take i)) M' v4 ∧ LiR Tx (hps (cs.take i)) M' v5 ∧ ls.flatten.length ≤ 14 * i ∧ ls.length ≤ i ∧ (sgs (cs.take i)).length ≤ 14 * i ∧ (hps (cs.take i)).length ≤ 14 * i ∧ lawGo (cs.take i) (cs.drop i) ls = lawGo [] cs [] ∧ σ' = [some v, y1, y2, some p3, some v4, some v5, y6, y7, y8, y9])
      (fun M3 H3 g3 => ⟨_, _, none, none, none, none, v3, v4, v5, [], G7.trans g3, Same.refl _, Mon.mono (g6.mm.trans (g7.mm.trans g3.mm)) r3, Mon.mono (g7.mm.trans g3.mm) r4, Mon.mono g3.mm r5, Nat.le_refl _, Nat.le_refl _, Nat.le_refl _, Nat.le_refl _, rfl, rfl⟩) (fun M3 i σ' M' H' ⟨_, _, _, _, _, _, _, _, _, _, g, s1, _⟩ => ⟨s1, g.mh⟩) ?_ ?_
    · rintro M9 i c vc σ' M' H' H'' sM hc ⟨y1, y2, y6, y7, y8, y9, p3, v4, v5, ls, g, s1, r3, r4, r5, k1, k2, k3, k4, hgo, rfl⟩ gE rcc
      have hil : i < cs.length := (List.getElem?_eq_some_iff.mp hc).1
      have wc := W.c c (List.mem_of_getElem? hc)
      have wn := wc.n
      have cn : c.names.length = c.signs.length + c.helpers.length := List.length_append
      have g' := g.trans gE
      obtain ⟨st1, st2⟩ := law_step hc hgo
      rw [check_law] at st1 st2
      have gs : ∀ {σ' : Sl} {M2 : Hp}, σ'[6]? = some (some vc) → Same M' M2 → Gv (tMeth C "signs" (sp_Code_signs K C) [] E0 (tVar 6) tNil) σ' M2 (LiR Tx c.signs) := fun h0 sm => gv_signsM (gv_var h0 (Mon.mono sm rcc))
      have gh : ∀ {σ' : Sl} {M2 : Hp}, σ'[6]? = some (some vc) → Same M' M2 → Gv (tMeth C "helpers" (sp_Code_helpers K C) [] E0 (tVar 6) tNil) σ' M2 (LiR Tx c.helpers) := fun h0 sm => gv_helpersM (gv_var h0 (Mon.mono sm rcc))
      -- many
      refine q_if0 (b := decide (6 < c.signs.length)) g'.mh (gt_is (gt_test (gv_gt (g := fun i j => .bl (decide (j < i))) (i := (c.signs.length : Int)) (j := 6) (gv_lenA (K := K) (R := Tx) (gv_is (gs rfl (Same.refl _)) fun _ _ h => h.sq)) (gv_c rfl))) (by simp only [decide_eq_decide]; omega)) (fun hb5 H5' hh5 => ?_) fun hb5 H5' hh5 => ?_
      · have hb5 : 6 < c.signs.length := of_decide_eq_true hb5
        exact answer (e := .many c.signs.length) (g'.trans (.idle g'.mh hh5)) (gv_tupF (gv_c rfl) (gv_is (gv_lenA (K := K) (R := Tx) (xs := c.signs) (gv_is (gs rfl (Same.refl _)) fun _ _ h => h.sq)) fun M v h => by rw [show v = _ from h]; exact .inl (.int _))) (by rw [we]; exact st1 _ (if_pos hb5))
      have hb5 : ¬ 6 < c.signs.length := of_decide_eq_false hb5
      rw [if_neg hb5] at st1 st2
      have G5' := g'.trans (.idle g'.mh hh5)
      -- bad
      refine q_asgL G5'.mh (gl_c1 (S := Tx) (R := Tx) (xs := c.helpers) (gi_sq (K := K) (gv_is (gh rfl (Same.refl _)) fun _ _ h => h.sq)) (szK (by omega)) (fun x => decide (x ∈ sgs (cs.take i) ++ hps (cs.take i))) id
        (fun x _ M2 u2 sm ru => gt_is (gt_test (gv_inA (K := K) (neg := false) (x := x) (xs := sgs (cs.take i) ++ hps (cs.take i)) (gv_var rfl ru) (gv_is (gl_addL (K := K) (R := Tx) (gv_var rfl (Mon.mono sm r4)) (gv_var rfl (Mon.mono sm r5)) (szM (by omega))).li fun _ _ h => .inl (LiR.sq h)))) (by simp)) fun x _ _ M2 u2 sm ru => gv_var rfl ru) fun p7 w7 Ma Ha ga h07 m07 hp7 hpd7 => ?_
      rw [List.map_id] at hpd7
      have Ga := G5'.trans ga
      refine q_ext Ga.mh rfl hp7 (gl_c1 (S := Tx) (R := Tx) (xs := c.signs) (gi_sq (K := K) (gv_is (gs rfl ga.mm) fun _ _ h => h.sq)) (szK (by omega)) (fun x => decide (x ∈ hps (cs.take i))) id
        (fun x _ M2 u2 sm ru => gt_is (gt_test (gv_inA (K := K) (neg := false) (x := x) (xs := hps (cs.take i)) (gv_var rfl ru) (gv_var rfl (.inl (LiR.sq (Mon.mono (ga.mm.trans sm) r5)))))) (by simp)) fun x _ _ M2 u2 sm ru => gv_var rfl ru)
        (fun M2 ws pd => by
          have l1 := hpd7.length
          have l2 := pd.length
          have l3 := List.length_filter_le (fun x => decide (x ∈ sgs (cs.take i) ++ hps (cs.take i))) c.helpers
          have l4 := List.length_filter_le (fun x => decide (x ∈ hps (cs.take i))) c.signs
          rw [List.length_map] at l2
          exact szM (by omega)) fun ws Mb Hb gb pdb => ?_
      rw [List.map_id] at pdb
      have h7H : H p7 = none := G5'.hh.free h07
      have m7b := gb.keep m07 hp7
      have Gb := ((Ga.trans gb).mut (o := .lst (w7 ++ ws)) h7H m7b).freeze h7H m7b upd_same
      have e7 := same_new (o := .lst (w7 ++ ws)) m7b
      have r7 : LiR Tx (badL c (cs.take i)) (upd Mb p7 (.lst (w7 ++ ws))) (.ref p7) := ⟨p7, _, rfl, upd_same, Pd.mono (R := Tx) e7 (pd_app (hpd7.mono (R := Tx) gb.mm) pdb)⟩
      have sb : Same M' (upd Mb p7 (.lst (w7 ++ ws))) := ga.mm.trans (gb.mm.trans e7)
      revert Gb r7 sb
      generalize upd Mb p7 (.lst (w7 ++ ws)) = Mc
      generalize upd Hb p7 (.lst (w7 ++ ws)) = Hc
      intro Gb r7 sb
      have rD : ∀ {xs : List Str} {M2 : Hp} {u : V}, LiR Tx xs M2 u → Dd K (.list (xs.map .str)) M2 u := fun h => py_lst py_str _ _ _ h.lst
      refine q_if0 (b := decide (badL c (cs.take i) ≠ [])) Gb.mh (gt_is (gt_nil (K := K) (ds := (badL c (cs.take i)).map .str) (gv_is (gv_var rfl r7) fun _ _ h => rD h) (by rw [depthS]; decide)) map_nil) (fun hbd Hd hhd => ?_) fun hbd Hd hhd => ?_
      · obtain ⟨x, r, ex⟩ : ∃ x r, badL c (cs.take i) = x :: r := by
          cases e : badL c (cs.take i) with
          | nil => rw [e] at hbd; simp at hbd
          | cons x r => exact ⟨x, r, rfl⟩
        refine answer (e := .clash x) (Gb.trans (.idle Gb.mh hhd)) (gv_tupF (gv_c rfl) (gv_is (gv_ix (K := K) (R := Tx) (xs := badL c (cs.take i)) (i := ((0 : Nat) : Int)) (x := x) (gv_is (gv_var rfl r7) fun _ _ h => LiR.sq h) (gv_c rfl) (atI_nat (j := 0) (by rw [ex]; rfl))) fun M v h => by rw [show v = _ from h]; exact .inl (.str _))) (by rw [we]; exact st1 _ (by rw [ex]; rfl))
      have ebd : badL c (cs.take i) = [] := by
        have := of_decide_eq_false hbd
        exact Classical.byContradiction this
      rw [ebd] at st1 st2
      obtain ⟨st3, st4⟩ := st2 rfl
      have Gd := Gb.trans (.idle Gb.mh hhd)
      have r3c : LiR (LiR Tx) ls Mc p3 := Mon.mono sb r3
      -- near
      refine q_asg (P := LiR (LiR Tx) (nearL c ls)) Gd.mh (gv_is (gl_c1 (S := LiR Tx) (R := LiR Tx) (xs := ls) (gi_sq (K := K) (gv_is (gv_var rfl r3c) fun _ _ h => h.sq)) (szK (by omega)) (touches c) id
        (fun l hl M2 u2 sm ru => gt_is (gt_nil (K := K) (ds := (c.signs.filter fun x => decide (x ∈ l)).map .str) (gv_is (gl_c1 (S := Tx) (R := Tx) (xs := c.signs) (gi_sq (K := K) (gv_is (gs rfl (sb.trans sm)) fun _ _ h => h.sq)) (szK (by omega)) (fun y => decide (y ∈ l)) id
          (fun y _ M8 u8 sm8 ry => gt_is (gt_test (gv_inA (K := K) (neg := false) (x := y) (xs := l) (gv_var rfl ry) (gv_is (gv_var rfl (Mon.mono sm8 ru)) fun _ _ h => .inl (LiR.sq h)))) (by simp)) fun y _ _ M8 u8 sm8 ry => gv_var rfl ry).li fun M v h => by rw [List.map_id] at h; exact rD h) (by rw [depthS]; decide)) (map_nil.trans touch_nil)) fun l hl _ M2 u2 sm ru => gv_var rfl ru).li fun M v h => by rw [List.map_id] at h; exact h) fun v8 Me He ge r8 => ?_
      have Ge := Gd.trans ge
      have nl : (nearL c ls).length ≤ ls.length := List.length_filter_le _ _
      -- tree
      refine q_if0 (b := (nearL c ls).any (twice c)) Ge.mh (gt_is (gt_nil (K := K) (ds := ((nearL c ls).filter (twice c)).map fun l => .list (l.map .str)) (gv_is (gl_c1 (S := LiR Tx) (R := LiR Tx) (xs := nearL c ls) (gi_sq (K := K) (gv_is (gv_var rfl r8) fun _ _ h => h.sq)) (szK (by omega)) (twice c) id
        (fun l hl M2 u2 sm ru => gt_is (gt_test (gv_gt (g := fun i j => .bl (decide (j < i))) (i := ((c.signs.filter fun y => decide (y ∈ l)).length : Int)) (j := 1) (gv_lenA (K := K) (R := Tx) (gv_is (gl_c1 (S := Tx) (R := Tx) (xs := c.signs) (gi_sq (K := K) (gv_is (gs rfl (sb.trans (ge.mm.trans sm))) fun _ _ h => h.sq)) (szK (by omega)) (fun y => decide (y ∈ l)) id
          (fun y _ M8 u8 sm8 ry => gt_is (gt_test (gv_inA (K := K) (neg := false) (x := y) (xs := l) (gv_var rfl ry) (gv_is (gv_var rfl (Mon.mono sm8 ru)) fun _ _ h => .inl (LiR.sq h)))) (by simp)) fun y _ _ M8 u8 sm8 ry => gv_var rfl ry).li fun M v h => by rw [List.map_id] at h; exact h.sq)) (gv_c rfl))) (by unfold twice; simp only [decide_eq_decide]; omega)) fun l hl _ M2 u2 sm ru => gv_var rfl ru).li fun M v h => by rw [List.map_id] at h; exact py_lst py_LT _ _ _ h.lst) (Nat.le_trans (depthLL _) (by decide))) (map_nil.trans tree_nil)) (fun hbf Hf hhf => ?_) fun hbf Hf hhf => ?_
      · exact answer (e := .tree i) (Ge.trans (.idle Ge.mh hhf)) (gv_tupF (gv_c rfl) (gv_is (gv_var (P := It' ((i : Nat) : Int)) rfl rfl) fun M v h => by rw [show v = _ from h]; exact .inl (.int _))) (by rw [we]; exact st3 hbf)
      have Gf := Ge.trans (.idle Ge.mh hhf)
      -- the lumps that are left, and the new one
      refine q_addK (R := LiR Tx) (xs := ls.filter fun l => decide (l ∉ nearL c ls)) Gf.mh (gv_is (gl_c1 (S := LiR Tx) (R := LiR Tx) (xs := ls) (gi_sq (K := K) (gv_is (gv_var rfl (Mon.mono ge.mm r3c)) fun _ _ h => LiR.sq h)) (szK (by omega)) (fun l => decide (l ∉ nearL c ls)) id
        (fun l hl M2 u2 sm ru => gt_is (gt_test (gv_inD (K := K) (R := LiR Tx) (neg := true) py_LT inj_LT (gv_var rfl ru) (gv_is (gv_var rfl (Mon.mono sm r8)) fun _ _ h => LiR.sq h) (by simp [PyData.depth, depthS]))) (by simp))
        fun l hl _ M2 u2 sm ru => gv_var rfl ru).li fun M v h => by rw [List.map_id] at h; exact h) fun a us Mg Hg gg ha pa => ?_
      have wl : us.length ≤ ls.length := by rw [← pa.length]; exact List.length_filter_le _ _
      refine a_L gg.mh (gl_lstOf (K := K) (R1 := Tx) (gv_is (gs rfl (sb.trans (ge.mm.trans gg.mm))) fun _ _ h => LiR.sq h)) fun pin ws2 Mh Hh gh2 h0 m0 hpin pd => a_nil ⟨by show 1 ≤ sizeLine; decide, fun pl npl => .inr (.inr (.inr ⟨a, pl, us, [.ref pin], rfl, rfl, by rw [upd_ne (ne_of_none (gh2.mh _ _ (gh2.mm _ _ ha)) npl)]; exact gh2.mh _ _ (gh2.mm _ _ ha), upd_same, szM (by show us.length + 1 ≤ _; omega), fun p np => ?_⟩))⟩
      have npin : pin ≠ pl := ne_of_none hpin npl
      have hpl : (upd Hh pl (.lst [.ref pin])) pin = some (.lst ws2) := by rw [upd_ne npin]; exact hpin
      have nep : pin ≠ p := ne_of_none hpl np
      have Gg := ((Gf.trans gg).trans gh2).trans (.own (o := .lst [.ref pin]) gh2.mh npl)
      have Gk := Gg.trans (.own (o := .lst (us ++ [.ref pin])) Gg.mh np)
      have hkpin : (upd (upd Hh pl (.lst [.ref pin])) p (.lst (us ++ [.ref pin]))) pin = some (.lst ws2) := by rw [upd_ne nep]; exact hpl
      have hkp : (upd (upd Hh pl (.lst [.ref pin])) p (.lst (us ++ [.ref pin]))) p = some (.lst (us ++ [.ref pin])) := upd_same
      have h0p : H p = none := Gg.hh.free np
      have h0pin : H pin = none := (Gf.trans gg).hh.free h0
      have mp : Mh p = none := Gg.mh.free np
      revert Gk hkpin hkp
      generalize upd (upd Hh pl (.lst [.ref pin])) p (.lst (us ++ [.ref pin])) = Hk
      intro Gk hkpin hkp
      have s8h : Same Me Mh := gg.mm.trans gh2.mm
      have pa' := pa.mono (R := LiR Tx) gh2.mm
      refine q_for (R1 := LiR Tx) (xs := nearL c ls) Gk.mh (gv_is (gv_var rfl (Mon.mono s8h r8)) fun _ _ h => LiR.sq h)
        (fun M1' j σ' M' H' => ∃ y9 wz, Gr M H M' H' ∧ Same M1' M' ∧ Same Mh M' ∧ M' p = none ∧ H' p = some (.lst (us ++ [.ref pin])) ∧ M' pin = none ∧ H' pin = some (.lst wz) ∧ Pd Tx M' (c.signs ++ ((nearL c ls).take j).flatten) wz ∧ σ' = [some v, some (.int (i : Nat)), y2, some (.ref p), some v4, some v5, some vc, some (.ref p7), some v8, y9])
        (fun M3 H3 g3 => ⟨_, ws2, Gk.trans g3, Same.refl _, g3.mm, g3.keep mp hkp, g3.hh _ _ hkp, g3.keep m0 hkpin, g3.hh _ _ hkpin, by rw [List.take_zero, List.flatten_nil, List.append_nil]; exact pd.mono (R := Tx) g3.mm, rfl⟩) (fun M3 i σ' M' H' ⟨_, _, g, s1, _⟩ => ⟨s1, g.mh⟩) ?_ ?_
      · rintro M3 j l u σ' M' H' sM hx ⟨y9, wz, gx, x1, x2, mpx, hpx, mpinx, hpinx, pz, rfl⟩ ru
        obtain ⟨b, zs, rfl, hbz, pzs⟩ := ru
        have lm := mem_flat (List.mem_filter.mp (List.mem_of_getElem? hx)).1
        have lz := pzs.length
        have nf : (nearL c ls).flatten.length ≤ ls.flatten.length := by
          have := part_len (touches c) ls
          unfold nearL
          omega
        have nt : ((nearL c ls).take j).flatten.length ≤ (nearL c ls).flatten.length := by
          conv => rhs; rw [← List.take_append_drop j (nearL c ls)]
          rw [List.flatten_append, List.length_append]
          omega
        have lw := pz.length
        rw [List.length_append] at lw
        refine s_extR (N := upd M' p (.lst (us ++ [.ref pin]))) (gv_ix (K := K) (R := EqV) (xs := us ++ [.ref pin]) (i := -1) (x := .ref pin) (gv_var rfl (.inl ⟨p, _, rfl, .inl (.inl upd_same), pd_eqv _⟩)) (gv_neg (i := 1) (gv_c rfl)) at_last) (same_lent gx.mh hpx) hpinx fun M2 H2 g2 => ⟨b, zs, ?_, g2.hh _ _ (gx.mh _ _ hbz), szM (by omega), ?_⟩
        · funext Q
          exact propext ⟨fun ⟨u, e, h⟩ => by cases (Option.some.inj (Option.some.inj e)); exact h, fun h => ⟨.ref b, rfl, h⟩⟩
        have gb2 := g2.back mpx
        have mpin2 := gb2.keep mpinx hpinx
        refine ⟨L3.del M2 p, _, wz ++ zs, (gx.trans gb2).mut h0pin mpin2, x1.trans gb2.mm, x2.trans gb2.mm, L3.del_at, by rw [upd_ne (Ne.symm nep)]; exact g2.hh _ _ hpx, mpin2, upd_same, ?_, rfl⟩
        rw [List.take_add_one, hx, List.flatten_append, ← List.append_assoc]
        exact pd_app (pz.mono (R := Tx) gb2.mm) (by
          show Pd Tx _ ([l].flatten) zs
          rw [List.flatten_singleton]
          exact pzs.mono (R := Tx) gb2.mm)
      rintro M3 σ9 M8 H8' sM9' ⟨y9, wz, gx, x1, x2, mpx, hpx, mpinx, hpinx, pz, rfl⟩
      rw [List.take_length] at pz
      have GF := (gx.freeze h0pin mpinx hpinx).freeze h0p (by rw [upd_ne (Ne.symm nep)]; exact mpx) hpx
      have eF1 : Same M8 (upd M8 pin (.lst wz)) := same_new mpinx
      have eF2 : Same (upd M8 pin (.lst wz)) (upd (upd M8 pin (.lst wz)) p (.lst (us ++ [.ref pin]))) := same_new (by rw [upd_ne (Ne.symm nep)]; exact mpx)
      have r3n : LiR (LiR Tx) (lawLumps c ls) (upd (upd M8 pin (.lst wz)) p (.lst (us ++ [.ref pin]))) (.ref p) := ⟨p, _, rfl, upd_same, pd_app (pa'.mono (R := LiR Tx) (x2.trans (eF1.trans eF2))) (.cons ⟨pin, wz, rfl, by rw [upd_ne nep, upd_same], pz.mono (R := Tx) (eF1.trans eF2)⟩ .nil)⟩
      have upF : Same M' (upd (upd M8 pin (.lst wz)) p (.lst (us ++ [.ref pin]))) := sb.trans (ge.mm.trans (s8h.trans (x2.trans (eF1.trans eF2))))
      revert GF r3n upF
      generalize upd (upd M8 pin (.lst wz)) p (.lst (us ++ [.ref pin])) = MF
      intro GF r3n upF
      have lp := lawLumps_len c ls
      refine s_asg2 (a_V (P := LiR Tx (sgs (cs.take i) ++ c.signs)) GF.mh (gl_addL (K := K) (R := Tx) (gv_var rfl (Mon.mono upF r4)) (gs rfl upF) (szM (by omega))).li fun v4' Mi Hi gi ri4 => a_V (P := LiR Tx (hps (cs.take i) ++ c.helpers)) gi.mh (gl_addL (K := K) (R := Tx) (gv_var rfl (Mon.mono (upF.trans gi.mm) r5)) (gh rfl (upF.trans gi.mm)) (szM (by omega))).li fun v5' Mj Hj gj rj5 => a_nil (fin2 fun t nt => ?_))
      have Gj := ((GF.trans gi).trans gj).trans (.own (o := .tup [v4', v5']) gj.mh nt)
      obtain ⟨es, eh⟩ := sgs_take hc
      refine ⟨Mj, _, _, _, _, _, _, .ref p, v4', v5', lawLumps c ls, Gj, s1.trans (upF.trans (gi.mm.trans gj.mm)), Mon.mono (gi.mm.trans gj.mm) r3n, by rw [es]; exact Mon.mono gj.mm ri4, by rw [eh]; exact rj5, by omega, by omega, by rw [es, List.length_append]; omega, by rw [eh, List.length_append]; omega, st4 hbf, rfl⟩
    · rintro M9 σ9 M8 H8' sM9 ⟨y1, y2, y6, y7, y8, y9, p3, v4, v5, ls, g, s1, r3, r4, r5, k1, k2, k3, k4, hgo, rfl⟩
      rw [List.drop_length] at hgo
      refine s_ret g.mh (gv_tupF (gv_c rfl) (gv_is (P' := DdF K (.int ((cs.length : Nat) : Int))) (gv_lenA (K := K) (R := CodeR C) (xs := cs) (gv_var rfl (Mon.mono g.mm rc).sq)) fun M v h => by rw [show v = _ from h]; exact .inl (.int _))) fun z M2 H2 g2 rz => q z M2 H2 (g.trans g2) ?_
      show TxF K (endW (.seq (cs.map .code))) M2 z
      unfold endW
      rw [we, ← hgo]
      show TxF K ("told", .int (((cs.map Th.code).length : Nat) : Int)) M2 z
      rw [List.length_map]
      exact rz
end
end My

set_option Elab.async false
set_option linter.all false
set_option maxRecDepth 100000
set_option maxHeartbeats 8000000
namespace My
open PySem PySem.Spec PyProof.Rows L2 L3
open L3.Strm
/-! codes that are drawn -/
theorem wc_made {ns : List Str} {m b : Nat} {cs : List (List Str)} (nm : NmL ns) (hl : ns.length = 14) (hm : m ≤ 3 ∨ m = 7) (hb : b ≤ 1) (l : ∀ x ∈ cs, Lits (ns.take m) x) (k : cs.length ≤ 3) : CodeOk (ns.take m) ((ns.drop m).take b) cs ∧ WC (mkCode (ns.take m) ((ns.drop m).take b) cs) := by
  have e1 : ns.take m ++ (ns.drop m).take b = ns.take (m + b) := by rw [List.take_add]
  have nm2 : NmL (ns.take m ++ (ns.drop m).take b) := by
    rw [e1]
    exact ⟨nm.nd.sublist (List.take_sublist _ _), fun x hx => nm.nm x (List.mem_of_mem_take hx), by rw [List.length_take]; omega⟩
  have ls : (ns.take m).length = m := by rw [List.length_take]; omega
  have lb : ((ns.drop m).take b).length ≤ 1 := by rw [List.length_take]; omega
  have ln : (ns.take m ++ (ns.drop m).take b).length ≤ 14 := by rw [List.length_append]; omega
  have l2 : ∀ x ∈ cs, Lits (ns.take m ++ (ns.drop m).take b) x := fun x hx => lits_wide (l x hx) fun n hn => List.mem_append_left _ hn
  obtain ⟨ok, cg⟩ := code_ok (ss := ns.take m) (hs := (ns.drop m).take b) nm2 (by omega) l2 (by omega)
  have kc : (mkCode (ns.take m) ((ns.drop m).take b) cs).clauses.length ≤ 3 := Nat.le_trans (once_len2 _) (by rw [List.length_map]; exact k)
  have ll : ∀ x ∈ (mkCode (ns.take m) ((ns.drop m).take b) cs).clauses, x.length ≤ 14 := fun x hx => Nat.le_trans (lits_len (cg.l x hx) cg.nm) ln
  refine ⟨ok, cg, fun h6 => ⟨cg.nm, cg.l, ⟨fun x hx => ⟨by have := ll x hx; omega, fun y hy => Nat.le_trans (lits_short (cg.l x hx) cg.nm y hy) (by decide)⟩, ?_, by omega, nm_shorts cg.nm⟩, h6, ln⟩, by omega, lb, ?_, ln⟩
  · rw [List.length_flatten]
    have : ∀ (xs : List (List Str)), (∀ x ∈ xs, x.length ≤ 14) → (xs.map List.length).sum ≤ 14 * xs.length := fun xs => by
      induction xs with
      | nil => intro _; exact Nat.le_refl _
      | cons x r ih =>
        intro h
        have h1 := h x (List.mem_cons_self ..)
        have h2 := ih fun y hy => h y (List.mem_cons_of_mem _ hy)
        rw [List.map_cons, List.sum_cons, List.length_cons]
        omega
    have := this _ ll
    omega
  · show (ns.take m).length ≤ 3 ∨ 6 < (ns.take m).length
    omega
theorem cut_mid {α : Type} (ys : List α) (m b : Nat) (h : m + b ≤ ys.length) : cutL ys (some (m : Int)) (some ((m + b : Nat) : Int)) = (ys.drop m).take b := by
  unfold cutL
  rw [HT.sIx_nat, HT.sIx_nat, Nat.min_eq_left h, Nat.min_eq_left (by omega), Nat.add_sub_cancel_left]
section
variable {K : PySem.W.Frag} {S : Strm} {σ : Sl} {M : Hp} {te tl th : TE} {α : Type} {R : Rl α} {c : Nat}
theorem gls_cutLo [Mon R] {tl : TO} {good : Int → Prop} {xs : List α} {lo : Int} (h : Gv te σ M (LiR R xs)) (hl : ∀ (H : Hp) (Q : Option Int → Hp → Prop), Q (some lo) H → tl σ H Q) (hh : GvS S c th σ M (Ex It' good)) :
    GvLS S c (tSl (rSlX K) te tl (tPart th)) σ M fun M ws => ∃ i, good i ∧ Pd R M (cutL xs (some lo) (some i)) ws := fun H k mh at_ Q q =>
  h.s H (k + c) mh at_ _ fun v M1 H1 g1 a1 ⟨a, vs, e, hs, hp⟩ => hl H1 _ (hh.le g1.mm H1 k g1.mh a1 _ fun w M2 H2 g2 a2 ⟨i, gi, ew⟩ => ⟨i, ew, .inr (.inl ⟨a, vs, e, .inl (.inl (cut_same _ _ (g2.mh _ _ (g2.mm _ _ hs)))), fun p np => by
    have np' := Strm.At.cutn a2 np
    exact q p _ M2 _ ((g1.trans g2).trans (by rw [cut_upd (Strm.At.fresh a2 np)]; exact .own g2.mh np')) (a2.upd (Strm.At.fresh a2 np)) ((g1.trans g2).hh.free np') (g2.mh.free np') (by rw [cut_upd (Strm.At.fresh a2 np), upd_same]) ⟨i, gi, (pd_cut hp).mono g2.mm⟩⟩)⟩)
end
section
variable {P : Program} {w : World} {K : PySem.W.Frag} {mg : Str → Option Value} {base : Heap}
abbrev s__law_drawn_codes : Stmt := topS 53
theorem sc__law_drawn_codes : FnScope ["_law_stream", "_law_k", "_law_pool", "_law_found", "_law_names_here", "_law_many", "_law_helpers", "_law_clauses", "_law_part"] ["_law_stream"] (defScope s__law_drawn_codes) := ⟨rfl, rfl, rfl, by decide +kernel, rfl, by decide +kernel, by decide +kernel⟩
def sp__law_drawn_codes (K : PySem.W.Frag) (C : Addr) : Sp := fun vs H Q _ => ∃ S M k, vs = [.ref (Strm.a S)] ∧ Same M (S.cut H) ∧ S.At (k + 700) H ∧
  ∀ p ws cs M' H', Gr M (S.cut H) M' (S.cut H') → S.At k H' → S.cut H p = none → M' p = none → S.cut H' p = some (.lst ws) → Pd (CodeR C) M' cs ws → (∀ c ∈ cs, WC c) → cs.length ≤ 6 → Q (.ref p) H'
theorem ok__law_drawn_codes {f C : Addr} {fd : FuncData} (F : Fun K "_law_drawn_codes" "_law_drawn_codes" s__law_drawn_codes f fd) (T : Gc mg) (c__law_draw : Cal P w K mg base 1 "_law_draw" ["_law_stream", "_law_many"] (sp__law_draw K)) (c__law_names : Cal P w K mg base 4 "_law_names" ["_law_stream", "_law_many"] (sp__law_names K)) (c__law_mixed : Cal P w K mg base 2 "_law_mixed" ["_law_stream", "_law_things"] (sp__law_mixed K))
    (c__law_clause : Cal P w K mg base 4 "_law_clause" ["_law_stream", "_law_names_here", "_law_most"] (sp__law_clause K)) (k_Code : Mak P w K mg base 5 "Code" C ["self", "signs", "clauses", "helpers"] (sp_Code_init K C)) : FnOk P w K mg base CX0 7 f fd ["_law_stream"] (sp__law_drawn_codes K C) := by
  refine F.ok sc__law_drawn_codes (fun vs H Q E h => ?_) (fun cdv A outer s H vs Q E hr h => ?_)
  · obtain ⟨S, M, k, rfl, _⟩ := h
    rfl
  · obtain ⟨S, M, k, rfl, mh, at_, q⟩ := h
    have hu := hr.units
    refine ⟨_, (pss_cons (ps_par (i := 2) (j := 3) (by rfl) sc__law_drawn_codes.nd rfl rfl (by decide) rfl rfl (pa_cons (pe_f c__law_names (hr.mono (by decide)) (pa_cons (pv 0) (pa_cons pe_int pa_nil))) (pa_cons (pe_lst pa_nil) pa_nil)) (by rfl))
      (pss_cons (ps_for PassesOwn.never (by rfl) (pi_range1 (by rfl) T.range (pa_cons (pe_f c__law_draw (hr.mono (by decide)) (pa_cons (pv 0) (pa_cons pe_int pa_nil))) pa_nil)) (pg_name (i := 1) sc__law_drawn_codes.nd rfl (by first | exact .inl rfl | exact .inr rfl)) (pss_cons (ps_set (i := 4) sc__law_drawn_codes.nd rfl (by first | exact .inl rfl | exact .inr rfl) (pe_f c__law_mixed (hr.mono (by decide)) (pa_cons (pv 0) (pa_cons (pv 2) pa_nil))))
      (pss_cons (ps_set (i := 5) sc__law_drawn_codes.nd rfl (by first | exact .inl rfl | exact .inr rfl) (pe_ifExp (pt_cmpR (op_eqP hu) (pe_f c__law_draw (hr.mono (by decide)) (pa_cons (pv 0) (pa_cons pe_int pa_nil))) pe_int (nomark _)) pe_int (pe_ix ix_X (pe_lst (pa_cons pe_int (pa_cons pe_int (pa_cons pe_int (pa_cons pe_int (pa_cons pe_int (pa_cons pe_int (pa_cons pe_int pa_nil)))))))) (pe_f c__law_draw (hr.mono (by decide)) (pa_cons (pv 0) (pa_cons pe_int pa_nil))) (fun _ _ => rfl))))
      (pss_cons (ps_set (i := 6) sc__law_drawn_codes.nd rfl (by first | exact .inl rfl | exact .inr rfl) (pe_slice sl_X (pv 4) (po_some (pv 5)) (po_some (pe_op op_addA (pv 5) (pe_callTy call_int1 (by rfl) T.int boot_int (pa_cons (pe_cmpR (op_eqP hu) (pe_f c__law_draw (hr.mono (by decide)) (pa_cons (pv 0) (pa_cons pe_int pa_nil))) pe_int (nomark _)) pa_nil))))))
      (pss_cons (ps_setLc (i := 7) (own := [("_law_part", 8)]) (g := (gName 8)) (tt := tYes) (te := (tCall (sp__law_clause K) [] E0 (tCons (tVar 0) (tCons (tSl (rSlX K) (tVar 4) tNoPart (tPart (tVar 5))) (tCons (tC (.int 3)) tNil))))) (by rfl) sc__law_drawn_codes.nd rfl rfl (sw_true rfl rfl rfl (by decide +kernel)) (pi_range1 (by rfl) T.range (pa_cons (pe_f c__law_draw (hr.mono (by decide)) (pa_cons (pv 0) (pa_cons pe_int pa_nil))) pa_nil)) (blkOk_by (by rfl)) (fun _ _ _ _ _ => (pg_name (i := 8) sc__law_drawn_codes.nd rfl (by first | exact .inl rfl | exact .inr rfl))) (fun _ _ _ _ _ => pts_nil) (fun _ _ _ _ _ => (pe_f c__law_clause (hr.mono (by decide)) (pa_cons (pv 0) (pa_cons (pe_slice sl_X (pv 4) po_none (po_some (pv 5))) (pa_cons pe_int pa_nil))))))
      (pss_one (ps_expr (pe_bm PySem.F.plainAttrs_list PySem.F.slot_list_append PySem.F.type_list_append mt_append (pv 3) (pa_cons (pe_mk k_Code (hr.mono (by decide)) (pa_cons (pe_slice sl_X (pv 4) po_none (po_some (pv 5))) (pa_cons (pv 7) (pa_cons (pv 6) pa_nil)))) pa_nil)))))))))
      (pss_one (ps_ret (pv 3))))), ?_⟩
    refine q_par2 (z_V (S := S) (k := k + 532) (c := 168) (P := Ex (LiR Tx) fun ns => NmL ns ∧ ns.length = 14) mh (at_.le (by omega)) ((gls_call1 (S := S) (R1 := It') (pre := fun n => 0 ≤ n ∧ n ≤ 500) (cs := fun n => 12 * n.toNat) (R := fun n M ws => ∃ ys : List Str, NmL ys ∧ ys.length = n.toNat ∧ Pd Tx M ys ws) (x := 14) rfl (gv_c rfl) ⟨by decide, by decide⟩).gv fun M' vs p ⟨ys, hp, hl, hpd⟩ m => ⟨ys, ⟨hp, by omega⟩, p, vs, rfl, upd_same, hpd.mono (same_new m)⟩) fun v2 M2 H2 g2 a2 ⟨ns, ⟨nm, nl⟩, r2⟩ =>
      gl_nil.s H2 (k + 532) g2.mh a2 _ fun p ws M3 H3 g3 a3 hp0 hpm hpw ev => ⟨v2, .ref p, rfl, ?_⟩)
    subst ev
    have G3 := g2.trans g3
    have r2 : LiR Tx ns M3 v2 := Mon.mono g3.mm r2
    have hp0' : S.cut H p = none := g2.hh.free hp0
    refine z_for (S := S) (k := k + 531) (c := 1) (G := fun xs => ∃ n, n ≤ 6 ∧ xs = List.range n) (R := fun i : Nat => It' (i : Nat)) g3.mh (a3.le (by omega)) (gis_rng1 (good := fun n => n ≤ 6) ((gs_draw (K := K) (n := 7) rfl (gv_c rfl) (by decide) (by decide)).is fun M v ⟨z, hz, r⟩ => ⟨z.toNat, by omega, ?_⟩) fun n hn => by omega) tg_1
      (fun _ M1' i σ' M' H' => ∃ cs ws y1 y4 y5 y6 y7 y8, Gr M (S.cut H) M' (S.cut H') ∧ S.At (k + (531 - 80 * i)) H' ∧ Same M1' M' ∧ Same M3 M' ∧ OwS S H M' H' p ws ∧ Pd (CodeR C) M' cs ws ∧ (∀ c ∈ cs, WC c) ∧ cs.length = i ∧ σ' = [some (.ref S.a), y1, some v2, some (.ref p), y4, y5, y6, y7, y8])
      (fun xs M4 H4 _ g4 a4 => ⟨[], [], _, _, _, _, _, _, G3.trans g4, a4.le (by omega), Same.refl _, g4.mm, OwS.step ⟨⟨hp0', hpm, hpw⟩⟩ g4, .nil, (fun _ h => nomatch h), rfl, rfl⟩)
      (fun xs M2 i σ' M' H' ⟨cs, ws, y1, y4, y5, y6, y7, y8, g, a, s1, _⟩ => ⟨s1, g.mh, a.le (Nat.zero_le _)⟩) ?_ ?_
    · show v = .int _
      rw [show v = _ from r]; congr 1; omega
    · rintro xs M4 i x σ' M' H' M5 H5 σ2 ⟨n, hn6, rfl⟩ sM hx ⟨cs, ws, y1, y4, y5, y6, y7, y8, g, a, s1, s3, ow, hpd, hwc, hl, rfl⟩ g5 ⟨vk, rk, rfl⟩
      have hi : i < n := by have := (List.getElem?_eq_some_iff.mp hx).1; rwa [List.length_range] at this
      have g5' := lift g.mh a g5
      have a5 := a.same g5.hh
      have ow5 := ow.step g5'
      have G5 := g.trans g5'
      have r25 : LiR Tx ns M5 v2 := Mon.mono (s3.trans g5.mm) r2
      -- names
      refine z_asg (S := S) (k := k + (531 - 80 * i - 14)) (c := ns.length) (P := Ex (LiR Tx) fun ys => ys.Perm ns) g5'.mh (a5.le (by omega)) ((gls_call1 (S := S) (R1 := SqR K Tx) (pre := fun xs => xs.length ≤ 1000000) (cs := fun xs => xs.length) (R := fun xs M ws => ∃ ys : List Str, ys.Perm xs ∧ Pd Tx M ys ws) (x := ns) rfl (gv_is (gv_var rfl r25) fun _ _ h => h.sq) (by omega)).gv fun M' vs p ⟨ys, hp, hpd⟩ m => ⟨ys, hp, p, vs, rfl, upd_same, hpd.mono (same_new m)⟩) fun v4 M6 H6 g6 a6 ⟨ys, py, r4⟩ => ?_
      have G6 := G5.trans g6
      have ow6 := ow5.step g6
      have nmy : NmL ys := ⟨py.nodup_iff.mpr nm.nd, fun x h => nm.nm x (py.mem_iff.mp h), by rw [py.length_eq]; exact nm.n⟩
      have nly : ys.length = 14 := by rw [py.length_eq]; exact nl
      -- how many signs
      refine z_asg (S := S) (k := k + (531 - 80 * i - 16)) (c := 1 + (0 + 1)) (P := Ex (fun n : Nat => It' (n : Nat)) fun m => m ≤ 3 ∨ m = 7) g6.mh (a6.le (by omega)) (gs_if (c1 := 1) (c2 := 0 + 1) (gts_zero (K := K) rfl (gv_c rfl) (by decide) (by decide)) (fun _ => ((gv_c rfl : Gv (tC (.int 7)) _ _ (It' ((7 : Nat) : Int))).s.is fun M v h => ⟨7, .inr rfl, h⟩).cost (by decide))
        fun _ => gs_op (c1 := 0) (c2 := 1) (P := SqR K It' [0, 1, 1, 2, 2, 3, 3]) (gv_is (gv_ints [0, 1, 1, 2, 2, 3, 3] (by decide)) fun _ _ h => h.sq).s (gs_draw (K := K) (n := 7) rfl (gv_c rfl) (by decide) (by decide)) fun M' u w pu ⟨z, hz, pw⟩ => ?_) fun v5 M7 H7 g7 a7 ⟨m, hm, r5⟩ => ?_
      · obtain ⟨x, hx, ha⟩ := atI_in (xs := ([0, 1, 1, 2, 2, 3, 3] : List Int)) hz.1 hz.2
        refine fun H mh Q q => rv_ix pu pw ha H mh Q fun v M' H' g r => q v M' H' g ⟨x.toNat, ?_, ?_⟩
        · simp only [List.mem_cons, List.not_mem_nil, or_false] at hx
          omega
        · show v = .int _
          rw [show v = _ from r]
          simp only [List.mem_cons, List.not_mem_nil, or_false] at hx
          congr 1
          omega
      cases r5
      have G7 := G6.trans g7
      have ow7 := ow6.step g7
      have r47 : LiR Tx ys M7 v4 := Mon.mono g7.mm r4
      -- helpers
      refine z_asg (S := S) (k := k + (531 - 80 * i - 17)) (c := 0 + (1 + 0)) (P := Ex (LiR Tx) fun hs => ∃ b, b ≤ 1 ∧ hs = (ys.drop m).take b) g7.mh (a7.le (by omega)) ((gls_cutLo (lo := (m : Int)) (good := fun z => z = (m : Int) ∨ z = (m : Int) + 1) (gv_var rfl r47) (fun _ _ h => ⟨_, rfl, _, rfl, h⟩) (gs_op (c1 := 0) (c2 := 1 + 0) (P := It' (m : Int)) (P1 := Ex It' fun z => z = 0 ∨ z = 1) (gv_var rfl rfl).s (gs_cb1 (P := fun _ v => ∃ b, v = .bl b) (gs_op (c1 := 1) (c2 := 0) (P1 := It' 0) (gs_draw (K := K) rfl (gv_c rfl) (by decide) (by decide)) (gv_c rfl).s fun M' x y ⟨z, _, rz⟩ py => fun H mh Q q =>
          gv_eqT (K := K) (neg := false) (σ := []) (M := M') (ta := tC x) (tb := tC y) py_int inj_int (gv_c rz) (gv_c py) (by simp [PyData.depth]) H mh Q fun v M' H' g r => q v M' H' g ⟨_, r⟩) fun M' v ⟨b, e⟩ => fun H mh Q q => .inr ⟨b, by rw [e], q _ M' H (.refl mh) ⟨if b then 1 else 0, by cases b <;> simp, rfl⟩⟩)
          fun M' u w pu ⟨z, hz, pw⟩ => fun H mh Q q => gv_addIn (K := K) (σ := []) (M := M') (ta := tC u) (tb := tC w) (gv_c pu) (gv_c pw) H mh Q fun v M' H' g r => q v M' H' g ⟨(m : Int) + z, by omega, r⟩)).gv fun M' vs p ⟨z, hz, hpd⟩ m' => ?_) fun v6 M8 H8 g8 a8 ⟨hs, ⟨b, hb, ehs⟩, r6⟩ => ?_
      · refine ⟨cutL ys (some (m : Int)) (some z), ?_, p, vs, rfl, upd_same, hpd.mono (same_new m')⟩
        rcases hz with rfl | rfl
        · exact ⟨0, by decide, cut_mid ys m 0 (by omega)⟩
        · exact ⟨1, Nat.le_refl _, cut_mid ys m 1 (by omega)⟩
      subst ehs
      have G8 := G7.trans g8
      have ow8 := ow7.step g8
      have r48 : LiR Tx ys M8 v4 := Mon.mono g8.mm r47
      have gcut : ∀ {σ' : Sl} {M' : Hp}, σ'[4]? = some (some v4) → σ'[5]? = some (some (.int (m : Nat))) → Same M8 M' → Gv (tSl (rSlX K) (tVar 4) tNoPart (tPart (tVar 5))) σ' M' (LiR Tx (ys.take m)) := fun h4 h5 sm => (gl_cut (K := K) (lo := none) (hi := some ((m : Nat) : Int)) (gv_var h4 (Mon.mono sm r48).lst) (fun _ _ h => h) (fun _ _ h => ⟨_, h5, _, rfl, h⟩)).gv fun M' vs p hp m' => by rw [cut_take] at hp; exact ⟨p, vs, rfl, upd_same, hp.mono (same_new m')⟩
      have nmt : NmL (ys.take m) := ⟨nmy.nd.sublist (List.take_sublist _ _), fun x hx => nmy.nm x (List.mem_of_mem_take hx), by rw [List.length_take]; omega⟩
      have lt : (ys.take m).length ≤ 7 := by rw [List.length_take]; omega
      -- clauses
      refine z_asg (S := S) (k := k + (531 - 80 * i - 66)) (c := 1 + 3 * 16) (P := Ex (LiR (LiR Tx)) fun cs => (∀ x ∈ cs, Lits (ys.take m) x) ∧ cs.length ≤ 3) g8.mh (a8.le (by omega)) ((gls_m1 (c1 := 1) (n := 3) (c2 := 16) (T := LiR Tx) (R := fun i : Nat => It' (i : Nat)) (G := fun xs => ∃ n, n ≤ 3 ∧ xs = List.range n) (good := fun _ y => Lits (ys.take m) y)
        (gis_rng1 (good := fun n => n ≤ 3) ((gs_draw (K := K) (n := 4) rfl (gv_c rfl) (by decide) (by decide)).is fun M v ⟨z, hz, r⟩ => ⟨z.toNat, by omega, ?_⟩) fun n hn => by omega)
        (fun xs ⟨n, hn, e⟩ => by rw [e, List.length_range]; exact hn) (by decide) ?_).gv fun M' vs p ⟨xs, cs, ⟨n, hn, e⟩, hp, hpd⟩ m => ?_) fun v7 M9 H9 g9 a9 ⟨ds, ⟨hcs, hcl⟩, r7⟩ => ?_
      · show v = .int _
        rw [show v = _ from r]; congr 1; omega
      · intro xs _ i _ M' v' sm _
        exact ((gls_call2 (S := S) (R1 := LstR K Tx) (R2 := It') (pre := fun ns m => NmL ns ∧ 0 < m ∧ m < 1000) (cs := fun ns _ => 2 + 2 * ns.length) (R := fun ns _ M ws => ∃ ys : List Str, Lits ns ys ∧ Pd Tx M ys ws) (x := ys.take m) (y := 3) rfl (gv_is (gcut rfl rfl sm) fun _ _ h => LiR.lst h) (gv_c rfl) ⟨nmt, by decide, by decide⟩).gv fun M' vs p ⟨ys, hp, hpd⟩ m => ⟨ys, hp, p, vs, rfl, upd_same, hpd.mono (same_new m)⟩).cost (by omega)
      · obtain ⟨e1, e2⟩ := paired_lits hp
        subst e
        rw [List.length_range] at e1
        exact ⟨cs, ⟨e2, by omega⟩, p, vs, rfl, upd_same, hpd.mono (same_new m)⟩
      have G9 := G8.trans g9
      have ow9 := ow8.step g9
      obtain ⟨ok, wcc⟩ := wc_made nmy nly hm hb hcs hcl
      have lw := hpd.length
      refine z_appE (S := S) (k := k + (531 - 80 * (i + 1))) (c := 0) (P := CodeR C (mkCode (ys.take m) ((ys.drop m).take b) ds)) g9.mh (a9.le (by omega)) rfl ow9.o.h (szL (by omega)) (gv_mkCode (K := K) (C := C) (gv_is (gcut rfl rfl g9.mm) fun _ _ h => LiR.sq h) (gv_is (gv_var rfl r7) fun M v ⟨a, vs, e, hs, hp⟩ => .inl ⟨a, vs, e, .inl (.inl hs), Paired.mapP hp fun _ _ q => LiR.sq q⟩) (gv_is (gv_var rfl (Mon.mono g9.mm r6)) fun _ _ h => LiR.sq h) ok).s fun v10 M10 H10 g10 a10 r10 => ?_
      have ow10 := ow9.step g10
      refine ⟨M10, cs ++ [mkCode (ys.take m) ((ys.drop m).take b) ds], ws ++ [v10], _, _, _, _, _, _, ow10.mut (G9.trans g10), a10.upd ow10.on, s1.trans (g5.mm.trans (g6.mm.trans (g7.mm.trans (g8.mm.trans (g9.mm.trans g10.mm))))), s3.trans (g5.mm.trans (g6.mm.trans (g7.mm.trans (g8.mm.trans (g9.mm.trans g10.mm))))), ow10.put, pd_app (hpd.mono (R := CodeR C) (g5.mm.trans (g6.mm.trans (g7.mm.trans (g8.mm.trans (g9.mm.trans g10.mm)))))) (.cons r10 .nil), ?_, by rw [List.length_append, hl]; rfl, rfl⟩
      intro c hc
      rcases List.mem_append.mp hc with hc | hc
      · exact hwc c hc
      · rw [List.mem_singleton.mp hc]; exact wcc
    · rintro xs M4 σ' M' H' ⟨n, hn6, rfl⟩ sM ⟨cs, ws, y1, y4, y5, y6, y7, y8, g, a, s1, s3, ow, hpd, hwc, hl, rfl⟩
      rw [List.length_range] at hl
      exact ⟨.ref p, rfl, q p ws cs M' H' g (a.le (by omega)) ow.o.h0 ow.o.m ow.o.h hpd hwc (by omega)⟩
end
end My

set_option Elab.async false
set_option linter.all false
set_option maxRecDepth 100000
set_option maxHeartbeats 8000000
namespace My
open PySem PySem.Spec PyProof.Rows L2 L3
open L3.Strm
/-! whether a web tells its codes -/
theorem Gr.thaw {M0 H0 M H : Hp} (g : Gr M0 H0 M H) : Gr M0 H0 (thaw M0 M) H := ⟨thaw_ge g.mm, g.hh, (thaw_le g.mm).trans g.mh, fun a o e => g.nw a o (thaw_le g.mm _ _ e), fun a ps e => g.nt a ps (thaw_le g.mm _ _ e)⟩
theorem CodeR.thaw' {C : Addr} {c : CodeD} {M0 M : Hp} {v : V} (h : CodeR C c M v) : CodeR C c (thaw M0 M) v := by
  obtain ⟨a, dx, va, vb, vn, vc, rfl, ha, h1, h2, h3, h4⟩ := h
  exact ⟨a, dx, va, vb, vn, vc, rfl, thaw_off ha (fun _ z => by cases z), TT.thaw h1, TT.thaw h2, TT.thaw h3, TuR.thaw h4⟩
theorem WebQ.thaw' {K : PySem.W.Frag} {C CW : Addr} {cs : List CodeD} {M0 M : Hp} {v : V} (h : WebQ K C CW cs M v) : WebQ K C CW cs (thaw M0 M) v := by
  obtain ⟨a, dx, vr, vt, vj, rfl, ha, ⟨b, vs, rfl, hs, hp⟩, h5⟩ := h
  refine ⟨a, dx, _, vt, vj, rfl, thaw_off ha (fun _ z => by cases z), ⟨b, vs, rfl, ?_, Paired.mapP hp fun _ _ q => CodeR.thaw' q⟩, CodeR.thaw' h5⟩
  rcases hs with (h | ⟨o, h⟩) | h
  · exact .inl (.inl (thaw_off h fun _ z => by cases z))
  · exact .inl (.inr ⟨o, thaw_off h fun _ z => by cases z⟩)
  · exact .inr h
section
variable {K : PySem.W.Frag} {S : Strm} {σ : Sl} {M H : Hp} {te : TE} {P : Pr} {D : Ends} {tz : TS} {k c i : Nat} {p : Addr} {vs : List V}
theorem z_appQ (mh : Same M (S.cut H)) (a : S.At (k + c) H) (hi : σ[i]? = some (some (.ref p))) (hp : S.cut H p = some (.lst vs)) (hz : vs.length < sizeLine) (h : GvS S c te σ M P)
    (q : ∀ v M' H', Gr M (S.cut H) M' (S.cut H') → S.At k H' → P M' v → tz D σ (upd H' p (.lst (vs ++ [v])))) : tSeq (tDrop (tBM K "list" rAppend (tVar i) (tCons te tNil))) tz D σ H := z_appE (D := { D with nx := tz D }) mh a hi hp hz h q
theorem z_setQ {j : Int} {jn : Nat} (mh : Same M (S.cut H)) (a : S.At (k + c) H) (hi : σ[i]? = some (some (.ref p))) (hp : S.cut H p = some (.lst vs)) (hj : ixN vs.length j = some jn) (h : GvS S c te σ M P)
    (q : ∀ v M' H', Gr M (S.cut H) M' (S.cut H') → S.At k H' → P M' v → tz D σ (upd H' p (.lst (vs.set jn v)))) : tSeq (tAsg te (gSub (tVar i) (tC (.int j)) rSetL)) tz D σ H := h H k mh a _ fun v M' H' g a' r => ⟨.ref p, hi, p, vs, j, jn, rfl, rfl, of_cut (g.hh _ _ hp), hj, q v M' H' g a' r⟩
/-- isinstance(xs, list) -/
theorem gv_isiL {α : Type} {R : Rl α} [Mon R] {xs : List α} (h : Gv te σ M (LiR R xs)) : Gv (tCB (rIsi K) (tCons te (tCons (tC (.ty "list")) tNil))) σ M (Bl true) := fun H mh Q q =>
  h H mh _ fun v M1 H1 g1 ⟨a, vs, e, ha, _⟩ => by
    subst e
    exact ⟨.ref a, .ty "list", _, _, true, rfl, .ty "list", .base (.lst (g1.mh _ _ ha)), kit_ty (by decide +kernel), q _ M1 H1 g1 rfl⟩
end
theorem gv_mkCodeD {K : PySem.W.Frag} {σ : Sl} {M : Hp} {t1 t2 : TE} {C : Addr} {dv : V} {ss : List Str} {cs : List (List Str)} (hd : ∀ M, SqR K Tx [] M dv) (h1 : Gv t1 σ M (SqR K Tx ss)) (h2 : Gv t2 σ M (SqR K (SqR K Tx) cs)) (ok : CodeOk ss [] cs) : Gv (tMake C (sp_Code_init K C) [dv] E0 (tCons t1 (tCons t2 tNil))) σ M (CodeR C (mkCode ss [] cs)) := fun H mh Q q =>
  h1 H mh _ fun v1 M1 H1 g1 q1 => h2.le g1.mm H1 g1.mh _ fun v2 M2 H2 g2 q2 x dx hx hdx hne => by
    have m3 := g2.mh
    have gN : Gr M2 H2 M2 (upd (upd H2 dx (.own x)) x (.ins C dx [])) := (Gr.own m3 hdx).trans (.own (m3.trans (same_new hdx)) (by rw [upd_ne (Ne.symm hne)]; exact hx))
    exact ⟨ss, [], cs, M2, H2, x, dx, v1, v2, dv, rfl, gN, hx, m3.free hx, upd_same, Mon.mono g2.mm q1, q2, hd M2, ok, fun M' H' g r => ⟨rfl, q _ M' H' ((g1.trans g2).trans g) r⟩⟩
theorem strsV_inj {xs ys : List Str} (h : xs.map V.str = ys.map V.str) : xs = ys := by
  induction xs generalizing ys with
  | nil => cases ys with
    | nil => rfl
    | cons y r => cases h
  | cons x r ih => cases ys with
    | nil => cases h
    | cons y s =>
      rw [List.map_cons, List.map_cons] at h
      injection h with h1 h2
      injection h1 with h1
      rw [h1, ih h2]
theorem tt_eq {M : Hp} {xs ys : List Str} {v : V} (h1 : TT xs M v) (h2 : TT ys M v) : xs = ys := by
  obtain ⟨a, rfl, e1⟩ := h1
  obtain ⟨b, e, e2⟩ := h2
  cases e
  rw [e1] at e2
  have := Option.some.inj e2
  injection this with this
  exact strsV_inj this
theorem pdtt_eq {M : Hp} : ∀ {xs ys : List (List Str)} {vs : List V}, Pd TT M xs vs → Pd TT M ys vs → xs = ys
  | [], ys, _, h1, h2 => by cases h1; cases h2; rfl
  | x :: xs, ys, _, h1, h2 => by
    cases h1 with
    | cons q t => cases h2 with
      | cons q2 t2 => rw [tt_eq q q2, pdtt_eq t t2]
theorem tu_eq {M : Hp} {xs ys : List (List Str)} {v : V} (h1 : TuR TT xs M v) (h2 : TuR TT ys M v) : xs = ys := by
  obtain ⟨a, vs, rfl, e1, p1⟩ := h1
  obtain ⟨b, ws, e, e2, p2⟩ := h2
  cases e
  rw [e1] at e2
  have := Option.some.inj e2
  injection this with this
  subst this
  exact pdtt_eq p1 p2
theorem code_same {C : Addr} {x y : CodeD} {M : Hp} {v : V} (h1 : CodeR C x M v) (h2 : CodeR C y M v) : x = y := by
  obtain ⟨a, dx, va, vb, vn, vc, rfl, ha, h11, h12, h13, h14⟩ := h1
  obtain ⟨b, dy, wa, wb, wn, wc, e, hb, h21, h22, h23, h24⟩ := h2
  cases e
  rw [ha] at hb
  have e := Option.some.inj hb
  injection e with _ _ e
  have e1 := congrArg (List.lookup ("sign_row" : Str)) e
  have e2 := congrArg (List.lookup ("helper_row" : Str)) e
  have e3 := congrArg (List.lookup ("clause_row" : Str)) e
  rw [codeF_sign, codeF_sign] at e1
  rw [codeF_helper, codeF_helper] at e2
  rw [codeF_clause, codeF_clause] at e3
  cases e1
  cases e2
  cases e3
  obtain ⟨s1, s2, s3⟩ := x
  obtain ⟨t1, t2, t3⟩ := y
  rw [show s1 = t1 from tt_eq h11 h21, show s2 = t2 from tt_eq h12 h22, show s3 = t3 from tu_eq h14 h24]
theorem code_nil : CodeOk [] [] [] := (code_ok (ss := []) (hs := []) (cs := []) ⟨List.nodup_nil, (fun _ h => nomatch h), by simp⟩ (by simp) (fun _ h => nomatch h) (by simp)).1
theorem cut_but {α : Type} (xs : List α) : cutL xs none (some (-1)) = xs.take (xs.length - 1) := by
  unfold cutL
  rw [HT.sIx_none]
  have : HT.sIx xs.length xs.length (some (-1)) = xs.length - 1 := by
    unfold HT.sIx
    dsimp only
    rw [if_pos (by decide)]
    omega
  rw [this, List.drop_zero, Nat.sub_zero]
theorem gs_mkCode {K : PySem.W.Frag} {S : Strm} {σ : Sl} {M : Hp} {t1 t2 t3 : TE} {C : Addr} {c1 c2 : Nat} {g1 g3 : List Str → Prop} {cs : List (List Str)} (h1 : GvS S c1 t1 σ M (Ex (LiR Tx) g1)) (h2 : Gv t2 σ M (SqR K (SqR K Tx) cs)) (h3 : GvS S c2 t3 σ M (Ex (LiR Tx) g3)) (ok : ∀ ss hs, g1 ss → g3 hs → CodeOk ss hs cs) :
    GvS S (c1 + c2) (tMake C (sp_Code_init K C) [] E0 (tCons t1 (tCons t2 (tCons t3 tNil)))) σ M (fun M v => ∃ ss hs, g1 ss ∧ g3 hs ∧ CodeR C (mkCode ss hs cs) M v) := fun H k mh a Q q =>
  h1 H (k + c2) mh (a.le (by omega)) _ fun v1 M1 H1 e1 a1 ⟨ss, gs, r1⟩ => (h2.le e1.mm) H1 (e1.mh.trans cut_same) _ fun v2 M2 H2 e2 r2 => (h3.le (e1.mm.trans e2.mm)) H2 k (lift e1.mh a1 e2).mh (a1.same e2.hh) _ fun v3 M3 H3 e3 a3 ⟨hs, gh, r3⟩ x dx hx hdx hne => by
    have m3 : Same M3 H3 := e3.mh.trans cut_same
    have gN : Gr M3 H3 M3 (upd (upd H3 dx (.own x)) x (.ins C dx [])) := (Gr.own m3 hdx).trans (.own (m3.trans (same_new hdx)) (by rw [upd_ne (Ne.symm hne)]; exact hx))
    exact ⟨ss, hs, cs, M3, H3, x, dx, v1, v2, v3, rfl, gN, hx, m3.free hx, upd_same, LiR.sq (Mon.mono (e2.mm.trans e3.mm) r1), Mon.mono e3.mm r2, LiR.sq r3, ok ss hs gs gh, fun M' H' g r => ⟨rfl, q _ M' H' (((e1.trans (lift e1.mh a1 e2)).trans e3).trans (lift e3.mh a3 g)) (a3.same g.hh) ⟨ss, hs, gs, gh, r⟩⟩⟩
theorem fit_bool (b : Bool) : FitD (.bool b) := by cases b <;> exact ⟨rfl, by simp [PyData.depth], by decide +kernel⟩
/-- a code made anew -/
structure Anew (c d : CodeD) : Prop where
  t : Twin c d
  g : CG d
  e : eqC c d = true
  k : d.clauses.length = c.clauses.length
theorem wc_anew {c d : CodeD} (w : WC c) (t : Anew c d) : WC d := by
  have ls := t.t.s.length_eq
  have lh := t.t.h.length_eq
  have ln := t.t.nm.length_eq
  have k := t.k
  have n := w.n
  have wk := w.k
  have ll : ∀ x ∈ d.clauses, x.length ≤ 14 := fun x hx => Nat.le_trans (lits_len (t.g.l x hx) t.g.nm) (by omega)
  refine ⟨t.g, fun h6 => ⟨t.g.nm, t.g.l, ⟨fun x hx => ⟨by have := ll x hx; omega, fun y hy => Nat.le_trans (lits_short (t.g.l x hx) t.g.nm y hy) (by decide)⟩, ?_, by omega, nm_shorts t.g.nm⟩, h6, by omega⟩, by omega, by have := w.h; omega, by have := w.s; omega, by omega⟩
  rw [List.length_flatten]
  have : ∀ (xs : List (List Str)), (∀ x ∈ xs, x.length ≤ 14) → (xs.map List.length).sum ≤ 14 * xs.length := fun xs => by
    induction xs with
    | nil => intro _; exact Nat.le_refl _
    | cons x r ih =>
      intro h
      have h1 := h x (List.mem_cons_self ..)
      have h2 := ih fun y hy => h y (List.mem_cons_of_mem _ hy)
      rw [List.map_cons, List.sum_cons, List.length_cons]
      omega
  have := this _ ll
  omega
theorem paired_imp {α β : Type} {F G : α → β → Prop} (h : ∀ x y, F x y → G x y) {xs : List α} {ys : List β} (p : Paired F xs ys) : Paired G xs ys := Paired.mapP p fun _ _ q => h _ _ q
theorem anew_right {cs ds : List CodeD} (p : Paired Anew cs ds) : ∀ d ∈ ds, ∃ c ∈ cs, Anew c d := by
  induction p with
  | nil => intro d hd; cases hd
  | cons q _ ih =>
    intro d hd
    rcases List.mem_cons.mp hd with rfl | hd
    · exact ⟨_, List.mem_cons_self .., q⟩
    · obtain ⟨c, hc, t⟩ := ih d hd
      exact ⟨c, List.mem_cons_of_mem _ hc, t⟩
theorem paired_snoc {α β : Type} {F : α → β → Prop} {xs : List α} {ys : List β} {x : α} {y : β} (p : Paired F xs ys) (q : F x y) : Paired F (xs ++ [x]) (ys ++ [y]) := by
  induction p with
  | nil => exact .cons q .nil
  | cons r _ ih => exact .cons r ih
theorem right_anew {cs ds : List CodeD} (R : WebPre cs) (p : Paired Anew cs ds) : WebPre ds := ⟨by rw [← p.length]; exact R.n, fun d hd => by
  obtain ⟨c, hc, t⟩ := anew_right p d hd
  exact wc_anew (R.c c hc) t⟩
section
variable {K : PySem.W.Frag} {σ : Sl} {M : Hp} {ta tb : TE} {tA : TA} {C CW : Addr}
theorem gv_tupR {α : Type} {R : Rl α} [Mon R] {xs : List α} (h : GvA tA σ M fun M vs => Pd R M xs vs) (hz : xs.length ≤ 1000) : Gv (tTup tA) σ M (SqR K R xs) := fun H mh Q q =>
  h H mh _ fun vs M1 H1 g1 p1 => ⟨by rw [← p1.length]; exact Nat.le_trans hz (by decide), fun p np => q (.ref p) _ _ (g1.trans (.new g1.mh np)) (.inr ⟨p, vs, rfl, .inl (.inl upd_same), p1.mono (R := R) (same_new (g1.mh.free np))⟩)⟩
theorem gv_eqY {cs : List CodeD} {x : Ot} (WO : WebO K C CW) (ha : Gv ta σ M (WebQ K C CW cs)) (hb : Gv tb σ M (OtR K C x)) : Gv (tOp (rEqY K CW (sp_Web_eqY K C CW)) ta tb) σ M (Bl false) := fun H mh Q q =>
  ha H mh _ fun v M1 H1 g1 p1 => hb.le g1.mm H1 g1.mh _ fun w M2 H2 g2 p2 => by
    have p12 : WebQ K C CW cs M2 v := Mon.mono g2.mm p1
    obtain ⟨a, dx, fs, rfl, h1⟩ := inst_web cs M2 v p12
    obtain ⟨t, ty, nf, _⟩ := ot_ty WO (Mon.mono g2.mh p2)
    exact ⟨a, dx, fs, t, rfl, g2.mh _ _ h1, ty, nf, cs, x, M2, _, w, rfl, g2.mh, p12, p2, trivial, fun u M' H' g r => ⟨false, r, q _ M' H' ((g1.trans g2).trans g) rfl⟩⟩
end
structure RightP (cs : List CodeD) : Prop where
  ne : cs ≠ []
  W : WebPre cs
  ok : webGo [] cs [] = none
theorem RightP.askp {cs : List CodeD} (R : RightP cs) : AskP cs := ⟨by have := R.W.n; omega, fun c hc => (R.W.c c hc).g.cp⟩
section
variable {P : Program} {w : World} {K : PySem.W.Frag} {mg : Str → Option Value} {base : Heap}
abbrev s__law_web_right : Stmt := topS 54
theorem sc__law_web_right : FnScope ["_law_stream", "_law_things", "_law_web", "_law_code", "_law_told", "_law_other", "_law_twins", "_law_given", "_law_joined", "_law_clauses", "_law_clause_here", "_law_one"] ["_law_stream", "_law_things"] (defScope s__law_web_right) := ⟨rfl, rfl, rfl, by decide +kernel, rfl, by decide +kernel, by decide +kernel⟩
def sp__law_web_right (K : PySem.W.Frag) (C : Addr) : Sp := spS1 (LiR (CodeR C)) RightP (fun _ => 2000) fun _ => Bl true
theorem ok__law_web_right {f C CW BC TM CL NT : Addr} {fd : FuncData} {dv : V} (F : Fun K "_law_web_right" "_law_web_right" s__law_web_right f fd) (T : Gc mg) (TC : CodeT K mg C) (sfC : PySem.W.selfFirst K C = true) (NEC : NeObj K C) (NEW : NeObj K CW) (WO : WebO K C CW) (hdv : ∀ M, SqR K Tx [] M dv)
    (kX_Web : MakX P w K mg base 22 "Web" CW ["self", "codes"] (sp_webX K C CW BC TM CL NT)) (d_Code : MakD P w K mg base 5 "Code" C ["self", "signs", "clauses", "helpers"] [dv] (sp_Code_init K C)) (k_Code : Mak P w K mg base 5 "Code" C ["self", "signs", "clauses", "helpers"] (sp_Code_init K C)) (o_add : OwnSp P w K mg base 7 C "__add__" ["self", "other"] (sp_addN K C)) (o_eq : OwnSp P w K mg base 5 C "__eq__" ["self", "other"] (sp_Code_eq K C)) (oW_eq : OwnSp P w K mg base 7 CW "__eq__" ["self", "other"] (sp_Web_eq K C CW)) (oW_eqY : OwnSp P w K mg base 7 CW "__eq__" ["self", "other"] (sp_Web_eqY K C CW)) (oW_len : OwnLen P w K mg base 1 CW (sp_Web_len K C CW))
    (mW_codes : Met P w K mg base 1 CW "codes" ["self"] (sp_Web_codes K C CW)) (mW_code : Met P w K mg base 1 CW "code" ["self"] (sp_Web_code K C CW)) (m_signs : Met P w K mg base 1 C "signs" ["self"] (sp_Code_signs K C)) (m_helpers : Met P w K mg base 1 C "helpers" ["self"] (sp_Code_helpers K C)) (m_clauses : Met P w K mg base 1 C "clauses" ["self"] (sp_Code_clauses K C))
    (c__law_mixed : Cal P w K mg base 2 "_law_mixed" ["_law_stream", "_law_things"] (sp__law_mixed K)) (cT__law_mixed : Cal P w K mg base 2 "_law_mixed" ["_law_stream", "_law_things"] (sp_mixG K TT)) (cC__law_mixed : Cal P w K mg base 2 "_law_mixed" ["_law_stream", "_law_things"] (sp_mixG K (CodeR C))) (c__law_same : CalG P w K mg base 1 "_law_same" ["_law_found", "_law_due_here"] (sp__law_same K)) :
    FnG P w K mg base CX0 25 f fd ["_law_stream", "_law_things"] (sp__law_web_right K C) := by
  refine fun_okG F sc__law_web_right (fun vs H Q E h => ?_) (fun cdv A outer s H vs Q E hgu hr h => ?_)
  · obtain ⟨S, x, M, v, k, rfl, _⟩ := h
    rfl
  · obtain ⟨S, cs, M, v, k, rfl, mh, at_, r1, RP, q⟩ := h
    have hu := hr.units
    have at_ : S.At (k + 2000) H := at_
    have hgu : (A.deeper (envOfC "_law_web_right" (defScope s__law_web_right) s.heap.objs.size f cdv)).guards = some [] := hgu
    refine ⟨_, (pss_cons (ps_par (i := 7) (j := 8) (by rfl) sc__law_web_right.nd rfl rfl (by decide) rfl rfl (pa_cons (pe_callTy call_lstA (by rfl) T.list boot_list (pa_cons (pv 1) pa_nil)) (pa_cons (pe_ix ix_X (pv 1) pe_int (fun _ _ => rfl)) pa_nil)) (by rfl))
      (pss_cons (ps_set (i := 2) sc__law_web_right.nd rfl (by first | exact .inl rfl | exact .inr rfl) (pe_mkX (E := fun _ _ _ => False) kX_Web (hr.mono (by decide)) LamX.takes0 (fun _ _ _ _ h => h) (pa_cons (pv 7) pa_nil)))
      (pss_cons (ps_expr (pe_bm PySem.F.plainAttrs_list PySem.F.slot_list_append PySem.F.type_list_append mt_append (pv 7) (pa_cons pe_int pa_nil)))
      (pss_cons (ps_asg (pe_mkD d_Code (hr.mono (by decide)) (pa_cons (pe_lst pa_nil) (pa_cons (pe_lst pa_nil) pa_nil))) (pg_sub (pv 7) pe_int set_list))
      (pss_cons (ps_for PassesOwn.never (by rfl) (pi_sq (pe_slice sl_X (pv 1) (po_some pe_int) po_none)) (pg_name (i := 3) sc__law_web_right.nd rfl (by first | exact .inl rfl | exact .inr rfl)) (pss_one (ps_set (i := 8) sc__law_web_right.nd rfl (by first | exact .inl rfl | exact .inr rfl) (pe_op (op_addO o_add sfC (hr.mono (by decide))) (pv 8) (pv 3)))))
      (pss_cons (ps_set (i := 4) sc__law_web_right.nd rfl (by first | exact .inl rfl | exact .inr rfl) (pe_m0 mW_codes (hr.mono (by decide)) (pv 2)))
      (pss_cons (ps_if (PW.pt (pw_or (pt_cmpR (op_neLs o_eq (hr.mono (by decide))) (pv 4) (pe_callTy call_lstA (by rfl) T.list boot_list (pa_cons (pv 1) pa_nil)) (nomark _)) (pw_or (pt_not (pt_val (pe_callB call_isi (by rfl) T.isinstance boot_isinstance (pa_cons (pv 4) (pa_cons (pe_bltn (v := .ty "list") (u := .type "list") (by rfl) T.list (by decide +kernel) rfl) pa_nil))))) (pw_or (pt_cmpR (op_neP hu) (pe_callB (call_lenO oW_len (hr.mono (by decide))) (by rfl) T.len boot_len (pa_cons (pv 2) pa_nil)) (pe_callB call_lenA (by rfl) T.len boot_len (pa_cons (pv 1) pa_nil)) (nomark _)) (pw_or1 (pt_cmpR (op_neO o_eq NEC (hr.mono (by decide))) (pe_m0 mW_code (hr.mono (by decide)) (pv 2)) (pv 8) (nomark _))))))) (pss_one (ps_ret pe_bl)) pss_nil)
      (pss_cons (ps_if (PW.pt (pw_or (pt_cmpR (op_neP hu) (pe_m0 m_signs (hr.mono (by decide)) (pe_m0 mW_code (hr.mono (by decide)) (pv 2))) (pe_m0 m_signs (hr.mono (by decide)) (pv 8)) (nomark _)) (pw_or1 (pt_cmpR (op_neP hu) (pe_m0 m_helpers (hr.mono (by decide)) (pe_m0 mW_code (hr.mono (by decide)) (pv 2))) (pe_m0 m_helpers (hr.mono (by decide)) (pv 8)) (nomark _))))) (pss_one (ps_ret pe_bl)) pss_nil)
      (pss_cons (ps_if (pt_cmpR (op_neP hu) (pe_m0 m_clauses (hr.mono (by decide)) (pe_m0 mW_code (hr.mono (by decide)) (pv 2))) (pe_m0 m_clauses (hr.mono (by decide)) (pv 8)) (nomark _)) (pss_one (ps_ret pe_bl)) pss_nil)
      (pss_cons (ps_expr (pe_bm PySem.F.plainAttrs_list PySem.F.slot_list_append PySem.F.type_list_append mt_append (pv 4) (pa_cons pe_int pa_nil)))
      (pss_cons (ps_set (i := 5) sc__law_web_right.nd rfl (by first | exact .inl rfl | exact .inr rfl) (pe_f cC__law_mixed (hr.mono (by decide)) (pa_cons (pv 0) (pa_cons (pv 1) pa_nil))))
      (pss_cons (ps_if (PW.pt (pw_or (pt_cmpR (op_neLs o_eq (hr.mono (by decide))) (pe_m0 mW_codes (hr.mono (by decide)) (pv 2)) (pe_callTy call_lstA (by rfl) T.list boot_list (pa_cons (pv 1) pa_nil)) (nomark _)) (pw_or1 (pt_not (pt_val (pe_fG c__law_same hgu (hr.mono (by decide)) (pa_cons (pe_cmpR (op_eqO oW_eq (hr.mono (by decide))) (pv 2) (pe_mkX (E := fun _ _ _ => False) kX_Web (hr.mono (by decide)) LamX.takes0 (fun _ _ _ _ h => h) (pa_cons (pv 5) pa_nil)) (nomark _)) (pa_cons (pe_cmpR (op_eqLs o_eq (hr.mono (by decide))) (pv 5) (pe_callTy call_lstA (by rfl) T.list boot_list (pa_cons (pv 1) pa_nil)) (nomark _)) pa_nil)))))))) (pss_one (ps_ret pe_bl)) pss_nil)
      (pss_cons (ps_set (i := 6) sc__law_web_right.nd rfl (by first | exact .inl rfl | exact .inr rfl) (pe_lst pa_nil))
      (pss_cons (ps_for PassesOwn.never (by rfl) (pi_sq (pv 1)) (pg_name (i := 3) sc__law_web_right.nd rfl (by first | exact .inl rfl | exact .inr rfl)) (pss_cons (ps_setLc (i := 9) (own := [("_law_clause_here", 10)]) (g := (gName 10)) (tt := tYes) (te := (tCall (sp__law_mixed K) [] E0 (tCons (tVar 0) (tCons (tVar 10) tNil)))) (by rfl) sc__law_web_right.nd rfl rfl (sw_true rfl rfl rfl (by decide +kernel)) (pi_sq (pe_f cT__law_mixed (hr.mono (by decide)) (pa_cons (pv 0) (pa_cons (pe_m0 m_clauses (hr.mono (by decide)) (pv 3)) pa_nil)))) (blkOk_by (by rfl)) (fun _ _ _ _ _ => (pg_name (i := 10) sc__law_web_right.nd rfl (by first | exact .inl rfl | exact .inr rfl))) (fun _ _ _ _ _ => pts_nil) (fun _ _ _ _ _ => (pe_f c__law_mixed (hr.mono (by decide)) (pa_cons (pv 0) (pa_cons (pv 10) pa_nil)))))
      (pss_one (ps_expr (pe_bm PySem.F.plainAttrs_list PySem.F.slot_list_append PySem.F.type_list_append mt_append (pv 6) (pa_cons (pe_mk k_Code (hr.mono (by decide)) (pa_cons (pe_f c__law_mixed (hr.mono (by decide)) (pa_cons (pv 0) (pa_cons (pe_m0 m_signs (hr.mono (by decide)) (pv 3)) pa_nil))) (pa_cons (pv 9) (pa_cons (pe_f c__law_mixed (hr.mono (by decide)) (pa_cons (pv 0) (pa_cons (pe_m0 m_helpers (hr.mono (by decide)) (pv 3)) pa_nil))) pa_nil)))) pa_nil))))))
      (pss_cons (ps_if (PW.pt (pw_or (pt_cmpR (op_neO oW_eq NEW (hr.mono (by decide))) (pv 2) (pe_mkX (E := fun _ _ _ => False) kX_Web (hr.mono (by decide)) LamX.takes0 (fun _ _ _ _ h => h) (pa_cons (pv 6) pa_nil)) (nomark _)) (pw_or1 (PW.pt (pw_and (pt_cmpR op_gt (pe_callB call_lenA (by rfl) T.len boot_len (pa_cons (pv 1) pa_nil)) pe_int (nomark _)) (pw_and1 (pt_cmpR (op_eqO oW_eq (hr.mono (by decide))) (pv 2) (pe_mkX (E := fun _ _ _ => False) kX_Web (hr.mono (by decide)) LamX.takes0 (fun _ _ _ _ h => h) (pa_cons (pe_slice sl_X (pv 1) po_none (po_some (pe_un un_neg pe_int))) pa_nil)) (nomark _)))))))) (pss_one (ps_ret pe_bl)) pss_nil)
      (pss_one (ps_ret (pe_not (pe_callB (cr_any rfl) (by rfl) T.any boot_any (pa_cons (pe_lc (own := [("_law_one", 11)]) (g := (gName 11)) (tt := tYes) (te := (tOp (rEqY K CW (sp_Web_eqY K C CW)) (tVar 2) (tVar 11))) (by rfl) sc__law_web_right.nd (pi_sq (pe_tup (pa_cons pe_non (pa_cons pe_int (pa_cons (pv 1) (pa_cons (pe_callTy call_tupA (by rfl) T.tuple boot_tuple (pa_cons (pv 1) pa_nil)) (pa_cons (pv 8) (pa_cons pe_str pa_nil)))))))) (blkOk_by (by rfl)) (fun _ _ _ _ _ => (pg_name (i := 11) sc__law_web_right.nd rfl (by first | exact .inl rfl | exact .inr rfl))) (fun _ _ _ _ _ => pts_nil) (fun _ _ _ _ _ => (pe_cmpR (op_eqY oW_eqY (hr.mono (by decide))) (pv 2) (pv 11) (nomark _)))) pa_nil)))))))))))))))))))), ?_⟩
    have n7 := RP.W.n
    obtain ⟨c0, rest, ecs⟩ : ∃ c r, cs = c :: r := by
      cases cs with
      | nil => exact absurd rfl RP.ne
      | cons c r => exact ⟨c, r, rfl⟩
    have ix0 : cs[0]? = some c0 := by rw [ecs]; rfl
    have gth : ∀ {σ' : Sl} {M' : Hp}, σ'[1]? = some (some v) → Same M M' → Gv (tVar 1) σ' M' (LiR (CodeR C) cs) := fun h1 sm => gv_var h1 (Mon.mono sm r1)
    -- given, joined
    refine q_par2 ((gl_lstOf (K := K) (R1 := CodeR C) (gv_is (gth rfl (Same.refl _)) fun _ _ h => LiR.sq h)).s H (k + 2000) mh at_ _ fun p7 w7 M2 H2 g2 a2 h07 m07 hp7 pd7 => ?_)
    have G2 := g2.freeze h07 m07 hp7
    have r7 : LiR (CodeR C) cs (upd M2 p7 (.lst w7)) (.ref p7) := ⟨p7, w7, rfl, upd_same, pd7.mono (R := CodeR C) (same_new m07)⟩
    refine z_V (S := S) (k := k + 2000) (c := 0) (P := CodeR C c0) G2.mh a2 (gv_ix (K := K) (R := CodeR C) (i := ((0 : Nat) : Int)) (gv_is (gth rfl G2.mm) fun _ _ h => LiR.sq h) (gv_c rfl) (atI_nat (j := 0) ix0)).s fun v8 M3 H3 g3 a3 r8 => ⟨_, _, rfl, ?_⟩
    have G3 := G2.trans g3
    -- the web
    refine z_asg (S := S) (k := k + 2000) (c := 0) (P := WebQ K C CW cs) g3.mh a3 (gv_mkWeb (gv_is (gv_var rfl (Mon.mono g3.mm r7)) fun _ _ h => LiR.sq h) RP.ne RP.W RP.ok).s fun v2 M4 H4 g4 a4 r2 => ?_
    have G4 := G3.trans g4
    have h7 : M4 p7 = some (.lst w7) := g4.mm _ _ (g3.mm _ _ upd_same)
    -- what was given is changed behind
    have GT := Gr.thaw G4
    have r2 : WebQ K C CW cs (thaw M M4) v2 := WebQ.thaw' r2
    have r8 : CodeR C c0 (thaw M M4) v8 := CodeR.thaw' (Mon.mono g4.mm r8)
    have t7 : thaw M M4 p7 = none := by rw [thaw_lst h7]; exact mh.free h07
    have c7 : S.cut H4 p7 = some (.lst w7) := g4.mh _ _ h7
    have lw7 := pd7.length
    revert GT r2 r8 t7
    generalize thaw M M4 = MT
    intro GT r2 r8 t7
    refine z_appQ (S := S) (k := k + 2000) (c := 0) (P := It' 5) GT.mh a4 rfl c7 (szL (by omega)) (gv_c rfl).s fun v5 M5 H5 g5 a5 r5 => ?_
    have c75 := g5.hh _ _ c7
    have m75 := g5.keep t7 c7
    have G5 : Gr M (S.cut H) M5 (S.cut (upd H5 p7 (.lst (w7 ++ [v5])))) := by rw [cut_put c75]; exact (GT.trans g5).mut h07 m75
    have c75' : S.cut (upd H5 p7 (.lst (w7 ++ [v5]))) p7 = some (.lst (w7 ++ [v5])) := by rw [cut_put c75]; exact upd_same
    have a5' := a5.upd (o := .lst (w7 ++ [v5])) (on_of c75)
    revert G5 c75' a5'
    generalize upd H5 p7 (.lst (w7 ++ [v5])) = H5'
    intro G5 c75' a5'
    refine z_setQ (S := S) (k := k + 2000) (c := 0) (jn := 0) (P := CodeR C (mkCode [] [] [])) G5.mh a5' rfl c75' (by rw [List.length_append, List.length_singleton]; unfold ixN; rw [if_pos (by decide), if_pos (by omega)]; rfl) (gv_mkCodeD (C := C) hdv (gv_is (gl_nil.gv (P := LiR Tx []) fun M' vs p h m => by subst h; exact ⟨p, [], rfl, upd_same, .nil⟩) fun _ _ h => LiR.sq h) (gl_nil.gv fun M' vs p h m => by subst h; exact .inl ⟨p, [], rfl, .inl (.inl upd_same), .nil⟩) code_nil).s fun v6 M6 H6 g6 a6 r6 => ?_
    have c76 := g6.hh _ _ c75'
    have m76 := g6.keep m75 c75'
    have G6 : Gr M (S.cut H) M6 (S.cut (upd H6 p7 (.lst ((w7 ++ [v5]).set 0 v6)))) := by rw [cut_put c76]; exact (G5.trans g6).mut h07 m76
    have a6' := a6.upd (o := .lst ((w7 ++ [v5]).set 0 v6)) (on_of c76)
    have r2 : WebQ K C CW cs M6 v2 := Mon.mono (g5.mm.trans g6.mm) r2
    have r8 : CodeR C c0 M6 v8 := Mon.mono (g5.mm.trans g6.mm) r8
    revert G6 a6'
    generalize upd H6 p7 (.lst ((w7 ++ [v5]).set 0 v6)) = H6'
    intro G6 a6'
    -- joined
    have JI := join_inv RP.W RP.ok
    have dl : (cs.drop 1).length + 1 = cs.length := by rw [ecs]; rfl
    refine z_for (S := S) (k := k + 2000) (c := 0) (G := (· = cs.drop 1)) (R := CodeR C) G6.mh a6' (gi_sq (K := K) (gv_is (gl_cut (K := K) (R := CodeR C) (lo := some ((1 : Nat) : Int)) (hi := none) (gv_is (gth rfl G6.mm) fun _ _ h => LiR.lst h) (fun _ _ h => ⟨_, rfl, h⟩) (fun _ _ h => h)).li fun M v h => by rw [cut_drop] at h; exact LiR.sq h)).s tg_1
      (fun _ M1' i σ' M' H' => ∃ y3 v8, Gr M (S.cut H) M' (S.cut H') ∧ S.At (k + 2000) H' ∧ Same M1' M' ∧ Same M6 M' ∧ CodeR C (joinAll (cs.take (i + 1))) M' v8 ∧ σ' = [some (.ref S.a), some v, some v2, y3, none, none, none, some (.ref p7), some v8, none, none, none])
      (fun xs M4 H4 _ g4 a4 => ⟨none, v8, G6.trans g4, a4, Same.refl _, g4.mm, by rw [show cs.take (0 + 1) = [c0] by rw [ecs]; rfl]; exact Mon.mono g4.mm r8, rfl⟩) (fun xs M2 i σ' M' H' ⟨_, _, g, a, s1, _⟩ => ⟨s1, g.mh, a.le (Nat.zero_le _)⟩) ?_ ?_
    · rintro xs M7 i c σ' M' H' M8 H8 σ2 rfl sM hc ⟨y3, v8, g, a, s1, s2, rj, rfl⟩ g8 ⟨vc, rc, rfl⟩
      have g8' := lift g.mh a g8
      have hc : cs[i + 1]? = some c := by rw [List.getElem?_drop, Nat.add_comm] at hc; exact hc
      have hil : i + 1 < cs.length := (List.getElem?_eq_some_iff.mp hc).1
      obtain ⟨ap, cl⟩ := (JI (i + 1) (Nat.succ_pos _) (by omega)).2 c hc
      refine gv_binO (R1 := CodeR C) (pre := fun c d => AddPre c d ∧ clash c d = none) (R := fun c d => CodeR C (addD c d)) (x := joinAll (cs.take (i + 1))) (y := c) (M := M8) (gv_var rfl (Mon.mono g8.mm rj)) (gv_var rfl rc) inst_code ⟨ap, cl⟩ (ref_code _) H8 (g8'.mh.trans cut_same) _ fun v8' M9 H9 g9 r9 => ?_
      exact ⟨M9, _, v8', (g.trans g8').trans (lift g8'.mh (a.same g8.hh) g9), (a.same g8.hh).same g9.hh, s1.trans (g8.mm.trans g9.mm), s2.trans (g8.mm.trans g9.mm), by rw [join_take (Nat.succ_pos i) hc]; exact r9, rfl⟩
    rintro xs M7 σ7 M8 H8 rfl sM7 ⟨y3, v8, G8, a8, _, s68, r8, rfl⟩
    rw [dl, List.take_length] at r8
    have r2 : WebQ K C CW cs M8 v2 := Mon.mono s68 r2
    have JA := (JI cs.length (by rw [ecs]; exact Nat.succ_pos _) (Nat.le_refl _)).1
    have jg : CG (joinAll cs) := by have := JA.g; rwa [List.take_length] at this
    have gc : ∀ c ∈ cs, CG c := fun c hc => (RP.W.c c hc).g
    have allS : L3.allB eqC cs cs = true := (eqW_all rfl).symm.trans (eqW_self gc)
    have hs : ∀ {ds es : List CodeD}, (∀ d ∈ ds, CG d) → ∀ (M : Hp) (v : V), ∀ x ∈ ds, ∀ y ∈ es, CodeR C x M v → CodeR C y M v → eqC x y = true := fun gd M v x hx y _ h1 h2 => by rw [← code_same h1 h2]; exact eqC_refl (gd x hx)
    have ii : ∀ (z : CodeD) (M : Hp) (v : V), CodeR C z M v → ∃ a dx fs, v = .ref a ∧ M a = some (.ins C dx fs) := fun z M v r => inst_code z M v r
    have glst : ∀ {σ' : Sl} {M' : Hp}, σ'[1]? = some (some v) → Same M M' → Gv (tCB (rLstOf K) (tCons (tVar 1) tNil)) σ' M' (LiR (CodeR C) cs) := fun h1 sm => (gl_lstOf (K := K) (R1 := CodeR C) (gv_is (gth h1 sm) fun _ _ h => LiR.sq h)).li
    -- told
    refine gl_met1 (R1 := WebQ K C CW) (pre := fun _ => True) (R := fun cs M ws => Pd (CodeR C) M cs ws) (x := cs) (σ := [some (.ref S.a), some v, some v2, y3, none, none, none, some (.ref p7), some v8, none, none, none]) (M := M8) (insR_web (by decide +kernel) (by decide +kernel) (by decide +kernel)) (gv_var rfl r2) trivial |>.s H8 (k + 2000) G8.mh a8 _ fun p4 w4 M9 H9 g9 a9 h04 m04 hp4 pd4 => ?_
    have g9f := g9.freeze h04 m04 hp4
    have r4 : LiR (CodeR C) cs (upd M9 p4 (.lst w4)) (.ref p4) := ⟨p4, w4, rfl, upd_same, pd4.mono (R := CodeR C) (same_new m04)⟩
    have G9 := G8.trans g9f
    have h4H : S.cut H p4 = none := G8.hh.free h04
    have at4 : (upd M9 p4 (.lst w4)) p4 = some (.lst w4) := upd_same
    have c4 := hp4
    revert G9 r4 g9f at4
    generalize upd M9 p4 (.lst w4) = M10
    intro g9f r4 G9 at4
    have gj : ∀ {σ' : Sl} {M' : Hp}, σ'[8]? = some (some v8) → Same M10 M' → Gv (tVar 8) σ' M' (CodeR C (joinAll cs)) := fun h8 sm => gv_var h8 (Mon.mono (g9f.mm.trans sm) r8)
    have gw : ∀ {σ' : Sl} {M' : Hp}, σ'[2]? = some (some v2) → Same M10 M' → Gv (tVar 2) σ' M' (WebQ K C CW cs) := fun h2 sm => gv_var h2 (Mon.mono (g9f.mm.trans sm) r2)
    have gwc : ∀ {σ' : Sl} {M' : Hp}, σ'[2]? = some (some v2) → Same M10 M' → Gv (tMeth CW "code" (sp_Web_code K C CW) [] E0 (tVar 2) tNil) σ' M' (CodeR C (joinAll cs)) := fun h2 sm => gv_met1 (R1 := WebQ K C CW) (pre := fun _ => True) (R := fun cs => CodeR C (joinAll cs)) (x := cs) (insR_web (by decide +kernel) (by decide +kernel) (by decide +kernel)) (gw h2 sm) trivial
    have n1000 : cs.length ≤ 1000 := by omega
    refine z_if (S := S) (k := k + 2000) (c := 0) (B := (· = false)) G9.mh a9 (gt_or (b := false) (c := false) (gt_test (gv_is (gv_eqLs (R1 := CodeR C) (pre := fun a b => CodeP a ∧ CodeP b) (B := eqC) (neg := true) (gv_var rfl r4) (glst rfl G9.mm) rfl ii (hs gc) fun x hx y hy => ⟨(gc x hx).cp, (gc y hy).cp⟩) fun M v h => by rw [show v = _ from h, allS]; rfl)) fun _ => gt_or (b := false) (c := false) (gt_is (gt_not (gt_B (gv_isiL (K := K) (gv_var rfl r4)))) rfl) fun _ => gt_or (b := false) (c := false) (gt_test (gv_is (gv_eqT (K := K) (neg := true) (x := (cs.length : Int)) (y := (cs.length : Int)) py_int inj_int (gv_lenO (R1 := WebQ K C CW) (pre := fun _ => True) (R := fun c => It' (c.length : Nat)) (gw rfl (Same.refl _)) (fun M v r => inst_web _ M v r) trivial (by omega) fun _ _ r => r) (gv_lenA (K := K) (R := CodeR C) (gv_is (gth rfl G9.mm) fun _ _ h => LiR.sq h)) (by simp [PyData.depth])) fun M v h => by rw [show v = _ from h]; simp)) fun _ =>
        gt_test (gv_is (gv_eqO (R1 := CodeR C) (pre := fun a b => CodeP a ∧ CodeP b) (B := eqC) (neg := true) (x := joinAll cs) (y := joinAll cs) (gwc rfl (Same.refl _)) (gj rfl (Same.refl _)) ii ⟨jg.cp, jg.cp⟩) fun M v h => by rw [show v = _ from h, eqC_refl jg]; rfl)).s (fun h => nomatch h) fun _ M11 H11 g11 a11 => ?_
    have G11 := G9.trans g11
    -- signs, helpers, clauses
    refine z_if (S := S) (k := k + 2000) (c := 0) (B := (· = false)) G11.mh a11 (gt_or (b := false) (c := false) (gt_test (gv_is (gv_eqT (K := K) (neg := true) (x := (joinAll cs).signs) (y := (joinAll cs).signs) py_LT inj_LT (gv_signsM (gwc rfl g11.mm)) (gv_signsM (gj rfl g11.mm)) (by simp [PyData.depth, depthS])) fun M v h => by rw [show v = _ from h]; simp)) fun _ => gt_test (gv_is (gv_eqT (K := K) (neg := true) (x := (joinAll cs).helpers) (y := (joinAll cs).helpers) py_LT inj_LT (gv_helpersM (gwc rfl g11.mm)) (gv_helpersM (gj rfl g11.mm)) (by simp [PyData.depth, depthS])) fun M v h => by rw [show v = _ from h]; simp)).s (fun h => nomatch h) fun _ M12 H12 g12 a12 => ?_
    have G12 := G11.trans g12
    have s12 := g11.mm.trans g12.mm
    refine z_if (S := S) (k := k + 2000) (c := 0) (B := (· = false)) G12.mh a12 (gt_test (gv_is (gv_eqT (K := K) (neg := true) (x := (joinAll cs).clauses) (y := (joinAll cs).clauses) py_LTT inj_LTT (gv_clauses (gwc rfl s12)) (gv_clauses (gj rfl s12)) ?_) fun M v h => by rw [show v = _ from h]; simp)).s (fun h => nomatch h) fun _ M13 H13 g13 a13 => ?_
    · have : PyData.depthAll ((joinAll cs).clauses.map fun c => .tuple (c.map .str)) ≤ 1 := by
        have key : ∀ xs : List (List Str), PyData.depthAll (xs.map fun c => .tuple (c.map .str)) ≤ 1 := fun xs => by
          induction xs with
          | nil => simp [PyData.depthAll]
          | cons x r ih => simp [PyData.depthAll, PyData.depth, depthS]; omega
        exact key _
      simp only [PyData.depth]
      omega
    have G13 := G12.trans g13
    have s13 := s12.trans g13.mm
    -- what was told is changed
    have h4m : M13 p4 = some (.lst w4) := s13 _ _ at4
    have GT2 := Gr.thaw G13
    have r2 : WebQ K C CW cs (thaw M M13) v2 := WebQ.thaw' (Mon.mono (g9f.mm.trans s13) r2)
    have r8 : CodeR C (joinAll cs) (thaw M M13) v8 := CodeR.thaw' (Mon.mono (g9f.mm.trans s13) r8)
    have t4 : thaw M M13 p4 = none := by rw [thaw_lst h4m]; exact mh.free h4H
    have c4 : S.cut H13 p4 = some (.lst w4) := G13.mh _ _ h4m
    have lw4 := pd4.length
    revert GT2 r2 r8 t4
    generalize thaw M M13 = MU
    intro GT2 r2 r8 t4
    refine z_appQ (S := S) (k := k + 2000) (c := 0) (P := It' 5) GT2.mh a13 rfl c4 (szL (by omega)) (gv_c rfl).s fun u5 M14 H14 g14 a14 r14 => ?_
    have c414 := g14.hh _ _ c4
    have m414 := g14.keep t4 c4
    have G14 : Gr M (S.cut H) M14 (S.cut (upd H14 p4 (.lst (w4 ++ [u5])))) := by rw [cut_put c414]; exact (GT2.trans g14).mut h4H m414
    have a14' := a14.upd (o := .lst (w4 ++ [u5])) (on_of c414)
    have r2 : WebQ K C CW cs M14 v2 := Mon.mono g14.mm r2
    have r8 : CodeR C (joinAll cs) M14 v8 := Mon.mono g14.mm r8
    revert G14 a14'
    generalize upd H14 p4 (.lst (w4 ++ [u5])) = H15
    intro G14 a14'
    have nd : ∀ c ∈ cs, c.signs.Nodup := fun c hc => (gc c hc).sn.1
    -- another order
    refine z_asg (S := S) (k := k + 1990) (c := cs.length) (P := Ex (LiR (CodeR C)) fun ds => ds.Perm cs) G14.mh (a14'.le (by omega)) ((gls_call1 (S := S) (R1 := SqR K (CodeR C)) (pre := fun xs => xs.length ≤ 1000000) (cs := fun xs => xs.length) (R := fun xs M ws => ∃ ys : List CodeD, ys.Perm xs ∧ Pd (CodeR C) M ys ws) (x := cs) rfl (gv_is (gth rfl G14.mm) fun _ _ h => LiR.sq h) (by omega)).gv fun M' vs p ⟨ys, hp, hpd⟩ m => ⟨ys, hp, p, vs, rfl, upd_same, hpd.mono (same_new m)⟩) fun v15 M15 H16 g15 a15 ⟨ds, pds, r15⟩ => ?_
    have G15 := G14.trans g15
    have gd : ∀ d ∈ ds, CG d := fun d hd => gc d (pds.mem_iff.mp hd)
    have ld : ds.length = cs.length := pds.length_eq
    have WD : WebPre ds := ⟨by omega, fun d hd => RP.W.c d (pds.mem_iff.mp hd)⟩
    have dne : ds ≠ [] := fun e => by rw [e, ecs] at ld; cases ld
    have AD : AskP ds := ⟨by omega, fun d hd => (gd d hd).cp⟩
    have okD := go_perm nd pds.symm RP.ok
    have gw2 : ∀ {σ' : Sl} {M' : Hp}, σ'[2]? = some (some v2) → Same M15 M' → Gv (tVar 2) σ' M' (WebQ K C CW cs) := fun h2 sm => gv_var h2 (Mon.mono (g15.mm.trans sm) r2)
    refine z_if (S := S) (k := k + 1990) (c := 0) (B := (· = false)) G15.mh a15 (gt_or (b := false) (c := false) (gt_test (gv_is (gv_eqLs (R1 := CodeR C) (pre := fun a b => CodeP a ∧ CodeP b) (B := eqC) (neg := true) (gl_met1 (R1 := WebQ K C CW) (pre := fun _ => True) (R := fun cs M ws => Pd (CodeR C) M cs ws) (x := cs) (insR_web (by decide +kernel) (by decide +kernel) (by decide +kernel)) (gw2 rfl (Same.refl _)) trivial).li (glst rfl G15.mm) rfl ii (hs gc) fun x hx y hy => ⟨(gc x hx).cp, (gc y hy).cp⟩) fun M v h => by rw [show v = _ from h, allS]; rfl)) fun _ =>
      gt_is (gt_not (gt_B (gv_call2 (R1 := Dd K) (R2 := Dd K) (pre := fun d e => FitD d ∧ FitD e) (R := fun d e => Bl (decide (d.shown = e.shown))) (x := .bool (eqW cs ds)) (y := .bool (eqW cs ds)) (gv_is (P' := Dd K (.bool (eqW cs ds))) (gv_eqO (R1 := WebQ K C CW) (pre := fun a b => AskP a ∧ AskP b) (B := eqW) (neg := false) (x := cs) (y := ds) (gw2 rfl (Same.refl _)) (gv_mkWeb (gv_is (gv_var rfl r15) fun _ _ h => LiR.sq h) dne WD okD) (fun z M v r => inst_web z M v r) ⟨RP.askp, AD⟩) fun M v h => by rw [show v = _ from h, Bool.false_xor]; exact .bl _)
        (gv_is (P' := Dd K (.bool (eqW cs ds))) (gv_eqLs (R1 := CodeR C) (pre := fun a b => CodeP a ∧ CodeP b) (B := eqC) (neg := false) (gv_var rfl r15) (glst rfl G15.mm) ld ii (hs gd) fun x hx y hy => ⟨(gd x hx).cp, (gc y hy).cp⟩) fun M v h => by rw [show v = _ from h, Bool.false_xor, ← eqW_all ld, eqW_symm gd gc]; exact .bl _) ⟨fit_bool _, fit_bool _⟩))) (by simp)).s (fun h => nomatch h) fun _ M16 H17 g16 a16 => ?_
    have G16 := G15.trans g16
    -- twins
    refine z_asgL (S := S) (k := k + 1990) (c := 0) G16.mh a16 gl_nil.s fun p6 w6 M17 H18 g17 a17 h06 m06 hp6 ev => ?_
    subst ev
    have G17 := G16.trans g17
    have h6H : S.cut H p6 = none := G16.hh.free h06
    have r2 : WebQ K C CW cs M17 v2 := Mon.mono (g15.mm.trans (g16.mm.trans g17.mm)) r2
    have r8 : CodeR C (joinAll cs) M17 v8 := Mon.mono (g15.mm.trans (g16.mm.trans g17.mm)) r8
    refine z_for (S := S) (k := k + 1990) (c := 0) (G := (· = cs)) (R := CodeR C) G17.mh a17 (gi_sq (K := K) (gv_is (gth rfl G17.mm) fun _ _ h => LiR.sq h)).s tg_1
      (fun _ M1' i σ' M' H' => ∃ y3 y9 y10 ts ws, Gr M (S.cut H) M' (S.cut H') ∧ S.At (k + (1990 - 200 * i)) H' ∧ Same M1' M' ∧ Same M17 M' ∧ OwS S H M' H' p6 ws ∧ Pd (CodeR C) M' ts ws ∧ Paired Anew (cs.take i) ts ∧ σ' = [some (.ref S.a), some v, some v2, y3, some (.ref p4), some v15, some (.ref p6), some (.ref p7), some v8, y9, y10, none])
      (fun xs M4 H4 _ g4 a4 => ⟨_, _, _, [], [], G17.trans g4, a4, Same.refl _, g4.mm, OwS.step ⟨⟨h6H, m06, hp6⟩⟩ g4, .nil, .nil, rfl⟩) (fun xs M2 i σ' M' H' ⟨_, _, _, _, _, g, a, s1, _⟩ => ⟨s1, g.mh, a.le (Nat.zero_le _)⟩) ?_ ?_
    · rintro xs M18 i c σ' M' H' M19 H19 σ2 exs sM hc ⟨y3, y9, y10, ts, ws, g, a, s1, s2, ow, hpd, han, rfl⟩ g19 ⟨vc, rc, rfl⟩
      rw [show xs = cs from exs] at hc
      have hil : i < cs.length := (List.getElem?_eq_some_iff.mp hc).1
      have wc := RP.W.c c (List.mem_of_getElem? hc)
      have gg := wc.g
      have wk := wc.k
      have wn := wc.n
      have cn : c.names.length = c.signs.length + c.helpers.length := List.length_append
      have g19' := lift g.mh a g19
      have a19 := a.same g19.hh
      have ow19 := ow.step g19'
      have G19 := g.trans g19'
      have gcl : ∀ {σ' : Sl} {M' : Hp}, σ'[3]? = some (some vc) → Same M19 M' → Gv (tVar 3) σ' M' (CodeR C c) := fun h3 sm => gv_var h3 (Mon.mono sm rc)
      -- clauses
      refine z_asg (S := S) (k := k + (1990 - 200 * i - 150)) (c := 10 + 10 * 14) (P := Ex (LiR (LiR Tx)) (Turned c)) g19'.mh (a19.le (by omega)) ((gls_m1 (c1 := 10) (n := 10) (c2 := 14) (T := LiR Tx) (R := TT) (G := fun xs => xs.Perm c.clauses) (good := fun x y => List.Perm y x)
        (gis_sq (K := K) (((gls_call1 (S := S) (R1 := SqR K TT) (pre := fun xs => xs.length ≤ 1000000) (cs := fun xs => xs.length) (R := fun xs M ws => ∃ ys : List (List Str), ys.Perm xs ∧ Pd TT M ys ws) (x := c.clauses) rfl (gv_is (gv_clauses (gcl rfl (Same.refl _))) fun _ _ h => LiR.sq h) (by omega)).gv fun M' vs p ⟨ys, hp, hpd⟩ m => ⟨ys, hp, LiR.sq ⟨p, vs, rfl, upd_same, hpd.mono (same_new m)⟩⟩).cost wk)) (fun xs hp => by rw [hp.length_eq]; exact wk) (by decide) ?_).gv fun M' vs p ⟨xs, cs', hxs, hp, hpd⟩ m => ⟨cs', ⟨xs, hxs, hp⟩, p, vs, rfl, upd_same, hpd.mono (same_new m)⟩) fun v9 M20 H20 g20 a20 ⟨es, te, r9⟩ => ?_
      · intro xs hxs x hx M' v' sm rx
        have Lx := gg.l x (hxs.mem_iff.mp hx)
        exact ((gls_call1 (S := S) (R1 := SqR K Tx) (pre := fun xs => xs.length ≤ 1000000) (cs := fun xs => xs.length) (R := fun xs M ws => ∃ ys : List Str, ys.Perm xs ∧ Pd Tx M ys ws) (x := x) rfl (gv_is (gv_var rfl rx) fun _ _ h => TT.sq h) (by have := lits_len Lx gg.nm; omega)).gv fun M' vs p ⟨ys, hp, hpd⟩ m => ⟨ys, hp, p, vs, rfl, upd_same, hpd.mono (same_new m)⟩).cost (Nat.le_trans (lits_len Lx gg.nm) wn)
      have ow20 := ow19.step g20
      have G20 := G19.trans g20
      have lw := hpd.length
      have lt := han.length
      rw [List.length_take] at lt
      refine z_appE (S := S) (k := k + (1990 - 200 * (i + 1))) (c := c.signs.length + c.helpers.length) (P := fun M v => ∃ ss hs, ss.Perm c.signs ∧ hs.Perm c.helpers ∧ CodeR C (mkCode ss hs es) M v) g20.mh (a20.le (by omega)) rfl ow20.o.h (szL (by omega)) (gs_mkCode (g1 := fun ss => ss.Perm c.signs) (g3 := fun hs => hs.Perm c.helpers)
        ((gls_call1 (S := S) (R1 := SqR K Tx) (pre := fun xs => xs.length ≤ 1000000) (cs := fun xs => xs.length) (R := fun xs M ws => ∃ ys : List Str, ys.Perm xs ∧ Pd Tx M ys ws) (x := c.signs) rfl (gv_is (gv_signsM (gcl rfl g20.mm)) fun _ _ h => LiR.sq h) (by omega)).gv fun M' vs p ⟨ys, hp, hpd⟩ m => ⟨ys, hp, p, vs, rfl, upd_same, hpd.mono (same_new m)⟩)
        (gv_is (gv_var rfl r9) fun _ _ h => li_sqq h)
        ((gls_call1 (S := S) (R1 := SqR K Tx) (pre := fun xs => xs.length ≤ 1000000) (cs := fun xs => xs.length) (R := fun xs M ws => ∃ ys : List Str, ys.Perm xs ∧ Pd Tx M ys ws) (x := c.helpers) rfl (gv_is (gv_helpersM (gcl rfl g20.mm)) fun _ _ h => LiR.sq h) (by omega)).gv fun M' vs p ⟨ys, hp, hpd⟩ m => ⟨ys, hp, p, vs, rfl, upd_same, hpd.mono (same_new m)⟩)
        fun ss hs p1 p2 => (w_twin gg p1 p2 te).1) fun v21 M21 H21 g21 a21 ⟨ss, hs', p1, p2, r21⟩ => ?_
      have ow21 := ow20.step g21
      obtain ⟨_, tg, tq, tk⟩ := w_twin gg p1 p2 te
      have up : Same M' M21 := g19.mm.trans (g20.mm.trans g21.mm)
      refine ⟨M21, _, _, _, ts ++ [mkCode ss hs' es], ws ++ [v21], ow21.mut (G20.trans g21), a21.upd ow21.on, s1.trans up, s2.trans up, ow21.put, pd_app (hpd.mono (R := CodeR C) up) (.cons r21 .nil), ?_, rfl⟩
      rw [List.take_add_one, hc]
      exact paired_snoc han ⟨⟨p1.symm, p2.symm⟩, tg, tq, tk⟩
    rintro xs M18 σ' M19 H19 exs sM ⟨y3, y9, y10, ts, ws, G19, a19, s1, s17, ow, hpd, han, rfl⟩
    rw [show xs = cs from exs] at han a19
    rw [List.take_length] at han
    have hcs : cs.length ≤ 7 := n7
    have WTw : WebPre ts := right_anew RP.W han
    have lts : cs.length = ts.length := han.length
    have tne : ts ≠ [] := fun e => by rw [e, ecs] at lts; cases lts
    have gt' : ∀ d ∈ ts, CG d := fun d hd => let ⟨c, _, t⟩ := anew_right han d hd; t.g
    have AT : AskP ts := ⟨by omega, fun d hd => (gt' d hd).cp⟩
    have okT := go_twin nd (paired_imp (fun _ _ h => h.t) han) RP.ok
    have eT : eqW cs ts = true := eqW_pair (paired_imp (fun _ _ h => h.e) han)
    have GF := G19.freeze ow.o.h0 ow.o.m ow.o.h
    have eF := same_new (o := .lst ws) ow.o.m
    have r6 : LiR (CodeR C) ts (upd M19 p6 (.lst ws)) (.ref p6) := ⟨p6, ws, rfl, upd_same, hpd.mono (R := CodeR C) eF⟩
    have r2 : WebQ K C CW cs (upd M19 p6 (.lst ws)) v2 := Mon.mono (s17.trans eF) r2
    have r8 : CodeR C (joinAll cs) (upd M19 p6 (.lst ws)) v8 := Mon.mono (s17.trans eF) r8
    revert GF r6 r2 r8
    generalize upd M19 p6 (.lst ws) = MF
    intro GF r6 r2 r8
    have gw3 : ∀ {σ' : Sl} {M' : Hp}, σ'[2]? = some (some v2) → Same MF M' → Gv (tVar 2) σ' M' (WebQ K C CW cs) := fun h2 sm => gv_var h2 (Mon.mono sm r2)
    have lk : cs.length - 1 < cs.length := by rw [ecs]; show (rest.length + 1) - 1 < rest.length + 1; omega
    have WB : 1 < cs.length → WebPre (cs.take (cs.length - 1)) := fun _ => ⟨by rw [List.length_take]; omega, fun c hc => RP.W.c c (List.mem_of_mem_take hc)⟩
    refine z_if (S := S) (k := k + (1990 - 200 * cs.length)) (c := 0) (B := (· = false)) GF.mh a19 (gt_or (b := false) (c := false) (gt_test (gv_is (gv_eqO (R1 := WebQ K C CW) (pre := fun a b => AskP a ∧ AskP b) (B := eqW) (neg := true) (x := cs) (y := ts) (gw3 rfl (Same.refl _)) (gv_mkWeb (gv_is (gv_var rfl r6) fun _ _ h => LiR.sq h) tne WTw okT) (fun z M v r => inst_web z M v r) ⟨RP.askp, AT⟩) fun M v h => by rw [show v = _ from h, eT]; rfl)) fun _ =>
      gt_is (gt_and (b := decide (1 < cs.length)) (c := false) (gt_test (gv_is (gv_gt (g := fun i j => .bl (decide (j < i))) (i := (cs.length : Int)) (j := 1) (gv_lenA (K := K) (R := CodeR C) (gv_is (gth rfl GF.mm) fun _ _ h => LiR.sq h)) (gv_c rfl)) fun M v h => by rw [show v = _ from h]; show V.bl _ = V.bl _; congr 1; simp only [decide_eq_decide]; omega)) fun hb => by
        have h1 : 1 < cs.length := of_decide_eq_true hb
        exact gt_test (gv_is (gv_eqO (R1 := WebQ K C CW) (pre := fun a b => AskP a ∧ AskP b) (B := eqW) (neg := false) (x := cs) (y := cs.take (cs.length - 1)) (gw3 rfl (Same.refl _)) (gv_mkWeb (gv_is (gl_cut (K := K) (R := CodeR C) (lo := none) (hi := some (-1)) (gv_is (gth rfl GF.mm) fun _ _ h => LiR.lst h) (fun _ _ q => q) (fun H Q q => ⟨1, rfl, _, rfl, q⟩)).li fun M v r => by rw [cut_but] at r; exact LiR.sq r) (fun e => by
          have := congrArg List.length e
          rw [List.length_take] at this
          simp only [List.length_nil] at this
          omega) (WB h1) (go_take nd _ RP.ok)) (fun z M v r => inst_web z M v r) ⟨RP.askp, ⟨by rw [List.length_take]; omega, fun c hc => (gc c (List.mem_of_mem_take hc)).cp⟩⟩) fun M v h => by rw [show v = _ from h, eqW_len (by rw [List.length_take]; omega)]; rfl)) (by simp)).s (fun h => nomatch h) fun _ M20 H20 g20 a20 => ?_
    have G20 := GF.trans g20
    have r2 : WebQ K C CW cs M20 v2 := Mon.mono g20.mm r2
    have r8 : CodeR C (joinAll cs) M20 v8 := Mon.mono g20.mm r8
    -- other things
    refine z_ret (S := S) (k := k) (c := 0) (P := Bl true) G20.mh (a20.le (by omega)) (gv_is (gv_notV (b := false) (gv_is (P' := Bl false) (gv_any (K := K) (gl_m1 (S := Bl) (R := OtR K C) (xs := [.data .none, .data (.int 5), .seq cs, .seq cs, .code (joinAll cs), .data (.str "web")]) (gi_sq (K := K) (gv_tupR (R := OtR K C) (xs := [.data .none, .data (.int 5), .seq cs, .seq cs, .code (joinAll cs), .data (.str "web")]) (ga_rl (R := OtR K C) (x := .data .none) (gv_c (.inl .non)) fun _ e1 => ga_rl (R := OtR K C) (x := .data (.int 5)) (gv_c (.inl (.int 5))) fun _ e2 => ga_rl (R := OtR K C) (x := .seq cs) (gv_is (P' := OtR K C (.seq cs)) (gth rfl (G20.mm.trans (e1.trans e2))) fun _ _ h => LiR.sq h) fun _ e3 => ga_rl (R := OtR K C) (x := .seq cs) (gv_is (P' := OtR K C (.seq cs)) (gv_tupOf (K := K) (R1 := CodeR C) (gv_is (gth rfl (G20.mm.trans (e1.trans (e2.trans e3)))) fun _ _ h => LiR.sq h)) fun _ _ h => .inr h) fun _ e4 => ga_rl (R := OtR K C) (x := .code (joinAll cs)) (gv_is (P' := OtR K C (.code (joinAll cs))) (gv_var rfl (Mon.mono (e1.trans (e2.trans (e3.trans e4))) r8)) fun _ _ h => h) fun _ e5 => ga_rl (R := OtR K C) (x := .data (.str "web")) (gv_c (.inl (.str "web"))) fun _ _ => ga_rl0) (by show 6 ≤ 1000; decide))) (by show 6 ≤ sizeLine; decide) (fun _ => false)
      fun x _ M21 u21 sm ru => gv_eqY WO (gv_var rfl (Mon.mono sm r2)) (gv_var rfl ru)) ) fun M v h => h)) fun M v h => h).s fun z M' H' g a r => q z M' H' (G20.trans g) a r
end
end My

set_option Elab.async false
set_option linter.all false
set_option maxRecDepth 100000
set_option maxHeartbeats 8000000
namespace My
open PySem PySem.Spec PyProof.Rows L2 L3 LamX
open L3.Strm
def sp__law_sameF (K : PySem.W.Frag) : Sp := sp2 (TxF K) (TxF K) (fun d e => FitD (txD d) ∧ FitD (txD e)) fun d e => Bl (decide ((txD d).shown = (txD e).shown))
/-- after an insert, or none -/
theorem ins_pd {α : Type} {R : Rl α} [Mon R] {M M' : Hp} {xs : List α} {us us' : List V} {good : α → Prop} (sm : Same M M') (h : Pd R M xs us) (e : us' = us ∨ ∃ n v, n ≤ us.length ∧ us' = us.take n ++ [v] ++ us.drop n ∧ Ex R good M' v) : ∃ ys, Pd R M' ys us' ∧ ys.length ≤ xs.length + 1 ∧ ∀ y ∈ ys, y ∈ xs ∨ good y := by
  have h' : Pd R M' xs us := h.mono sm
  rcases e with rfl | ⟨n, v, hn, rfl, x, gx, r⟩
  · exact ⟨xs, h', Nat.le_succ _, fun y hy => .inl hy⟩
  · refine ⟨xs.take n ++ [x] ++ xs.drop n, pd_app (pd_app (pd_take n h') (.cons r .nil)) (pd_drop n h'), ?_, fun y hy => ?_⟩
    · simp only [List.length_append, List.length_take, List.length_drop, List.length_cons, List.length_nil]
      omega
    · rcases List.mem_append.mp hy with hy | hy
      · rcases List.mem_append.mp hy with hy | hy
        · exact .inl (List.mem_of_mem_take hy)
        · rw [List.mem_singleton.mp hy]; exact .inr gx
      · exact .inl (List.mem_of_mem_drop hy)
theorem fit_tx {a : Str} {d : PyData} (ha : (PyData.str a).leavesShort 13 = true) (wa : (PyData.str a).weight ≤ 10) (h1 : d.leavesShort 13 = true) (h2 : d.showable = true) (h3 : d.weight ≤ 2000) (h4 : d.depth ≤ 60) : FitD (txD (a, d)) := by
  refine ⟨?_, ?_, PyData.shown_fits (B := 13) (by decide) (by decide) ?_ ?_⟩
  · simp only [txD, PyData.showable, PyData.showableAll, h2]; rfl
  · simp [txD, PyData.depth, PyData.depthAll]; omega
  · simp only [txD, PyData.leavesShort, PyData.leavesShortAll] at h1 ha ⊢
    rw [h1, ha]; rfl
  · simp only [txD, PyData.weight, PyData.weightAll] at h3 wa ⊢
    omega
theorem int_fit : ∀ i : Nat, i < 2000 → (PyData.int (i : Int)).leavesShort 13 = true ∧ (PyData.int (i : Int)).showable = true ∧ (PyData.int (i : Int)).weight ≤ 2000 := by decide +kernel
theorem fit_txi {a : Str} {i : Nat} (ha : (PyData.str a).leavesShort 13 = true) (wa : (PyData.str a).weight ≤ 10) (hi : i < 2000) : FitD (txD (a, .int (i : Nat))) := by
  obtain ⟨h1, h2, h3⟩ := int_fit i hi
  exact fit_tx ha wa h1 h2 h3 (by simp [PyData.depth])
/-- whose ends can be shown -/
theorem fit_clash {n : Str} (h : isNm n = true) : FitD (txD ("clash", .str n)) := by
  have nm : NmL [n] := ⟨List.nodup_cons.mpr ⟨(fun h => nomatch h), List.nodup_nil⟩, fun x hx => by rw [List.mem_singleton.mp hx]; exact h, by show 1 ≤ 500; decide⟩
  obtain ⟨h1, h2⟩ := lit_signs nm (l := n) ⟨n, List.mem_singleton_self _, .inl rfl⟩
  have h1' : n.cps.size ≤ 9 := h1
  exact fit_tx (by decide +kernel) (by decide +kernel) (by simp only [PyData.leavesShort, List.all_eq_true, decide_eq_true_eq]; exact h2) rfl (by simp only [PyData.weight]; omega) (by simp [PyData.depth])
theorem thBad_lt : ∀ {ts : List Th} {i j : Nat}, thBad ts i = some j → j < i + ts.length
  | [], _, _, h => by cases h
  | .code _ :: r, i, j, h => by
    have := thBad_lt (ts := r) (i := i + 1) (j := j) h
    rw [List.length_cons]
    omega
  | .odd _ :: r, i, j, h => by
    cases (show i = j from Option.some.inj h)
    rw [List.length_cons]
    omega
theorem check_small {c : CodeD} {cs : List CodeD} {e : WErr} (w : WC c) (h : checkC c cs = some e) : (∃ n, n ≤ 14 ∧ e = .many n) ∨ ∃ x, x ∈ c.names ∧ e = .clash x := by
  have cn : c.names.length = c.signs.length + c.helpers.length := List.length_append
  have wn := w.n
  unfold checkC at h
  by_cases h6 : 6 < c.signs.length
  · rw [if_pos h6] at h
    exact .inl ⟨_, by omega, (Option.some.inj h).symm⟩
  · rw [if_neg h6] at h
    cases e2 : ((c.helpers.filter fun x => inAny x CodeD.names cs) ++ c.signs.filter fun x => inAny x CodeD.helpers cs).head? with
    | none => rw [e2] at h; cases h
    | some x =>
      rw [e2] at h
      refine .inr ⟨x, ?_, (Option.some.inj h).symm⟩
      have := List.mem_of_mem_head? (Option.mem_def.mpr e2)
      rcases List.mem_append.mp this with q | q
      · exact List.mem_append_right _ ((List.mem_filter.mp q).1)
      · exact List.mem_append_left _ ((List.mem_filter.mp q).1)
theorem go_small : ∀ {r ahead : List CodeD} {ls : List (List Str)} {e : WErr}, (∀ c ∈ r, WC c) → webGo ahead r ls = some e → (∃ n, n ≤ 14 ∧ e = .many n) ∨ (∃ c ∈ r, ∃ x, x ∈ c.names ∧ e = .clash x) ∨ ∃ i, i < ahead.length + r.length ∧ e = .tree i
  | [], _, _, _, _, h => by cases h
  | d :: r, ahead, ls, e, hw, h => by
    have h : (match checkC d ahead with | some e => some e | none => if (nearL d ls).any (twice d) = true then some (.tree ahead.length) else webGo (ahead ++ [d]) r (lumpsN d ls)) = some e := h
    cases e2 : checkC d ahead with
    | some z =>
      rw [e2] at h
      cases (show z = e from Option.some.inj h)
      rcases check_small (hw d (List.mem_cons_self ..)) e2 with q | ⟨x, hx, q⟩
      · exact .inl q
      · exact .inr (.inl ⟨d, List.mem_cons_self .., x, hx, q⟩)
    | none =>
      rw [e2] at h
      have h : (if (nearL d ls).any (twice d) = true then some (.tree ahead.length) else webGo (ahead ++ [d]) r (lumpsN d ls)) = some e := h
      split at h
      · exact .inr (.inr ⟨ahead.length, by rw [List.length_cons]; omega, (Option.some.inj h).symm⟩)
      · rcases go_small (fun c hc => hw c (List.mem_cons_of_mem _ hc)) h with q | ⟨c, hc, x, hx, q⟩ | ⟨i, hi, q⟩
        · exact .inl q
        · exact .inr (.inl ⟨c, List.mem_cons_of_mem _ hc, x, hx, q⟩)
        · exact .inr (.inr ⟨i, by rw [List.length_append, List.length_singleton] at hi; rw [List.length_cons]; omega, q⟩)
theorem fit_endW {ts : List Th} (hl : ts.length ≤ 1000) (hw : thBad ts 0 = none → WebPre (codesOf ts)) : FitD (txD (endW (.seq ts))) := by
  unfold endW
  cases e : webEnd (.seq ts) with
  | none => exact fit_txi (by decide +kernel) (by decide +kernel) (by show ts.length < 2000; omega)
  | some e1 =>
    show FitD (txD (errS e1, errD e1))
    unfold webEnd at e
    cases e2 : whBad (.seq ts) with
    | some i =>
      rw [e2] at e
      cases (show WErr.code i = e1 from Option.some.inj e)
      have hi : i < 2000 := by
        cases ts with
        | nil => cases (show 0 = i from Option.some.inj e2); decide
        | cons t r => have := thBad_lt (i := 0) (j := i) e2; omega
      exact fit_txi (a := "code") (by decide +kernel) (by decide +kernel) hi
    | none =>
      rw [e2] at e
      have tb : thBad ts 0 = none := by
        cases ts with
        | nil => rfl
        | cons t r => exact e2
      have W := hw tb
      have n7 := W.n
      rcases go_small W.c e with ⟨n, hn, rfl⟩ | ⟨c, hc, x, hx, rfl⟩ | ⟨i, hi, rfl⟩
      · exact fit_txi (a := "many") (by decide +kernel) (by decide +kernel) (by omega)
      · exact fit_clash ((W.c c hc).g.nm.nm x hx)
      · exact fit_txi (a := "tree") (by decide +kernel) (by decide +kernel) (by simp only [List.length_nil] at hi; omega)
section
variable {P : Program} {w : World} {K : PySem.W.Frag} {mg : Str → Option Value} {base : Heap}
theorem ok__law_sameF {f : Addr} {fd : FuncData} (F : Fun K "_law_same" "_law_same" s__law_same f fd) (T : Gc mg) : FnG P w K mg base CX0 1 f fd ["_law_found", "_law_due_here"] (sp__law_sameF K) := by
  refine fun_okG F sc__law_same (fun vs H Q E h => ?_) (fun cdv A outer s H vs Q E hgu hr h => ?_)
  · obtain ⟨x, y, M, v, w, rfl, _⟩ := h
    rfl
  · obtain ⟨d, e, M, v, w, rfl, mh, r1, r2, ⟨⟨h1, h2, h3⟩, h4, h5, h6⟩, q⟩ := h
    have hu := hr.units
    have hgu : (A.deeper (envOfC "_law_same" (defScope s__law_same) s.heap.objs.size f cdv)).guards = some [] := hgu
    have hu7 : (A.deeper (envOfC "_law_same" (defScope s__law_same) s.heap.objs.size f cdv)).units + 70 < cLine := by have := hr.un; omega
    refine ⟨_, (pss_one (ps_ret (pe_cmpR (op_eqP hu) (pe_callB (call_reprF hgu hu7) (by rfl) T.repr boot_repr (pa_cons (pv 0) pa_nil)) (pe_callB (call_reprF hgu hu7) (by rfl) T.repr boot_repr (pa_cons (pv 1) pa_nil)) (nomark _)))), ?_⟩
    exact s_ret mh (gv_is (gv_eqT (K := K) (neg := false) py_str inj_str (gv_reprF (K := K) (gv_var rfl r1) h1 h2 h3) (gv_reprF (K := K) (gv_var rfl r2) h4 h5 h6) (by simp [PyData.depth])) fun M v h => by simpa using h) q
def sp_pickG (K : PySem.W.Frag) {α : Type} (R : Rl α) : Sp := spS1 (SqR K R) (fun xs => 0 < xs.length ∧ xs.length ≤ 1000000) (fun _ => 1) fun xs => Ex R fun x => x ∈ xs
theorem ok_pickG {α : Type} {R : Rl α} [Mon R] {f : Addr} {fd : FuncData} (F : Fun K "_law_pick" "_law_pick" s__law_pick f fd) (T : Gc mg) (c__law_draw : Cal P w K mg base 1 "_law_draw" ["_law_stream", "_law_many"] (sp__law_draw K)) : FnOk P w K mg base CX0 2 f fd ["_law_stream", "_law_things"] (sp_pickG K R) := by
  refine F.ok sc__law_pick (fun vs H Q E h => ?_) (fun cdv A outer s H vs Q E hr h => ?_)
  · obtain ⟨S, x, M, v, k, rfl, _⟩ := h
    rfl
  · obtain ⟨S, xs, M, v, k, rfl, mh, at_, r1, ⟨h1, h2⟩, q⟩ := h
    have hu := hr.units
    refine ⟨_, (pss_one (ps_ret (pe_ix ix_X (pv 1) (pe_f c__law_draw (hr.mono (by decide)) (pa_cons (pv 0) (pa_cons (pe_callB call_lenA (by rfl) T.len boot_len (pa_cons (pv 1) pa_nil)) pa_nil))) (fun _ _ => rfl)))), ?_⟩
    refine z_ret (S := S) (c := 0 + 1) mh at_ (gs_op (P := SqR K R xs) (P1 := Ex It' fun i => 0 ≤ i ∧ i < (xs.length : Int)) (gv_var rfl r1).s (gs_draw (K := K) rfl (gv_lenA (K := K) (R := R) (gv_var rfl r1)) (by omega) (by omega)) fun M' u w pu ⟨i, hi, pw⟩ => ?_) q
    obtain ⟨x, hx, ha⟩ := atI_in hi.1 hi.2
    exact fun H mh Q q => rv_ix pu pw ha H mh Q fun v M' H' g r => q v M' H' g ⟨x, hx, r⟩
end
section
variable {K : PySem.W.Frag} {S : Strm} {Pt : Addr} {q : Str} {M H : Hp} {k : Nat} {σ : Sl} {t2 : TE} {D : Ends} {tz tb : TS}
theorem s_lamSame {TT : (XK → Hp → VK → Prop) → Hp → VK → Prop} {t : XK → TE} {a : Str × PyData} (L : LS S Pt q M H k) (h : Gv (fun σ H Q => TT (fun E H' Q' => t E σ H' Q') H Q) σ M (TxF K a)) (h2 : ∀ M', Same M M' → Gv t2 σ M' (TxF K a)) (fit : FitD (txD a)) (go : ∀ M' H', Same M M' → LS S Pt q M' H' k → D.nx σ H') :
    tIfS (tNot (tB (tCall (sp__law_sameF K) [] E0 (tCons (tLam [(Pt, q)] TT t) (tCons t2 tNil))))) tb tNext D σ H :=
  lam_step L h fun v M' H' sm L' _ r => h2 M' sm H' (L'.mh.trans cut_same) _ fun w M2 H2 g2 r2 => ⟨a, a, M2, v, w, rfl, g2.mh, Mon.mono g2.mm r, r2, ⟨fit, fit⟩, fun u M3 H3 g3 ru => ⟨true, by simpa using ru, by
    show (if (!true) = true then _ else _)
    rw [if_neg (by decide)]
    exact go M3 H3 (sm.trans (g2.mm.trans g3.mm)) ((L'.plain g2).plain g3)⟩⟩

/-- if not (..) is not met: go on -/
theorem l_ifS {c : Nat} {tt : L2.TT} (L : LS S Pt q M H (k + c)) (h : GvTS S c tt σ M (· = false)) (go : ∀ M' H', Same M M' → LS S Pt q M' H' k → tz D σ H') : tSeq (tIfS tt tb tNext) tz D σ H := h H k L.mh L.at_ _ fun b M' H' g a e => by
  subst e
  show (if false = true then _ else _)
  rw [if_neg (by decide)]
  exact go M' H' g.mm (L.step g a)
theorem gts_and {c : Nat} {tt tu : L2.TT} {b : Bool} (h : GvT tt σ M b) (h2 : b = true → GvTS S c tu σ M (· = false)) : GvTS S c (tAnd tt tu) σ M (· = false) := fun H k mh at_ Q q => h H (mh.trans cut_same) _ fun M1 H1 g1 => by
  have g := lift mh at_ g1
  have a := at_.same g1.hh
  cases b with
  | false => exact q false M1 H1 g (a.le (by omega)) rfl
  | true => exact (h2 rfl).le g1.mm H1 k g.mh a _ fun b M2 H2 g2 a2 e => q b M2 H2 (g.trans g2) a2 e
/-- if ..: odd = ..; xs.insert(.., odd) -/
theorem l_odd {K : PySem.W.Frag} {i j : Nat} {p : Addr} {us : List V} {P : Pr} [Mono P] {to tbd : TE} {tt : L2.TT} (L : LS S Pt q M H (k + 3)) (hσ : ∀ v, (σ.set i (some v))[j]? = some (some (.ref p))) (hi : ∀ v, (σ.set i (some v))[i]? = some (some v)) (hm : M p = none) (hp : S.cut H p = some (.lst us)) (hz : us.length < 1000)
    (ht : GvTS S 1 tt σ M fun _ => True) (ho : ∀ M', Same M M' → GvS S 1 to σ M' P) (hb : ∀ v M', Same M M' → GvS S 1 tbd (σ.set i (some v)) (upd M' p (.lst us)) (Ex It' fun i => 0 ≤ i ∧ i < (us.length : Int) + 1))
    (go : ∀ us' M' H' σ', Same M M' → LS S Pt q M' H' k → M' p = none → S.cut H' p = some (.lst us') → (us' = us ∨ ∃ n v, n ≤ us.length ∧ us' = us.take n ++ [v] ++ us.drop n ∧ P M' v) → (σ' = σ ∨ ∃ v, σ' = σ.set i (some v)) → tz D σ' H') :
    tSeq (tIfS tt (tSeq (tAsg to (gName i)) (tDrop (tBM K "list" rIns (tVar j) (tCons tbd (tCons (tVar i) tNil))))) tNext) tz D σ H := by
  have L0 : LS S Pt q M H (k + 2 + 1) := L
  refine z_if L0.mh L0.at_ ht (fun _ M1 H1 g1 a1 => ?_) fun _ M1 H1 g1 a1 => ?_
  · have L1 : LS S Pt q M1 H1 (k + 1 + 1) := L0.step g1 a1
    have m1 := g1.keep hm hp (fun xs z => by cases z)
    have p1 := g1.hh _ _ hp
    refine z_asg L1.mh L1.at_ (ho M1 g1.mm) fun v M2 H2 g2 a2 r2 => ?_
    have L2 : LS S Pt q M2 H2 (k + 1) := L1.step g2 a2
    have m2 := g2.keep m1 p1 (fun xs z => by cases z)
    have p2 := g2.hh _ _ p1
    refine ⟨.ref p, hσ v, .inl ⟨rfl, _, .inl (.inl (of_cut p2))⟩, ?_⟩
    refine GvS.lend (S := S) (k := k) (c := 1) (hb v M2 (g1.mm.trans g2.mm)) m2 L2.mh L2.at_ p2 (fun xs z => by cases z) fun u M3 H3 g3 a3 ⟨n, hn, e2⟩ => ?_
    have L3 := L2.step g3 a3
    have m3 := g3.keep m2 p2 (fun xs z => by cases z)
    have p3 := g3.hh _ _ p2
    cases (show u = _ from e2)
    have sz : us.length < sizeLine := Nat.lt_of_lt_of_le hz (by decide)
    have hn1 := hn.1
    have hn2 := hn.2
    exact ⟨v, hi v, p, us, n, v, rfl, rfl, of_cut p3, sz, hn.1, by omega, go _ M3 _ _ ((g1.mm.trans g2.mm).trans g3.mm) (L3.put p3 m3) m3 (by rw [cut_put p3, upd_same]) (.inr ⟨n.toNat, v, by omega, rfl, Mono.mono g3.mm r2⟩) (.inr ⟨v, rfl⟩)⟩
  · exact go us M1 H1 σ g1.mm ((L0.step g1 a1).le (by omega)) (g1.keep hm hp (fun xs z => by cases z)) (g1.hh _ _ hp) (.inl rfl) (.inl rfl)
end
/-! what is handed in -/
def headR : Rl (Option Str) := fun o _ v => match o with
  | some x => v = .str x
  | none => True
instance : Mon headR := ⟨fun {t M M' v} e h => by cases t <;> exact h⟩
section
variable {K : PySem.W.Frag} {σ : Sl} {M : Hp} {C : Addr} {te ti : TE}
theorem gv_head {a : Str × PyData} (h : Gv te σ M (TxF K a)) : Gv (tOp (rIxX K) te (tC (.int 0))) σ M (Tx a.1) := gv_is (gv_ix (K := K) (R := headR) (xs := [some a.1, none]) (i := ((0 : Nat) : Int)) (x := some a.1) (gv_is h fun M v ⟨p, w, e, hp, _⟩ => .inr ⟨p, [.str a.1, w], e, .inl (.inl hp), .cons rfl (.cons trivial .nil)⟩) (gv_c rfl) (atI_nat (j := 0) rfl)) fun M v h => h
theorem gt_odd {d : PyData} (h : Gv te σ M (DdF K d)) : Gv te σ M (ThR K C (.odd d)) := gv_is h fun M v r => .inl r
theorem gw_odd {d : PyData} (h : Gv te σ M (DdF K d)) (e : seqB d = false) : Gv te σ M (WhR K C (.odd d)) := gv_is h fun M v r => ⟨r, e⟩
end
abbrev oddT : List Th := [.odd .none, .odd (.int 5), .odd (.str "ab"), .odd (.list []), .odd (.tuple []), .odd (.dict []), .odd (.bool true), .odd (.list [])]
abbrev oddW : List Wh := [.odd .none, .odd (.int 5), .odd (.str "ab"), .seq [], .seq [], .odd (.dict []), .odd (.bool true), .odd (.str "")]
theorem oddT_no : ∀ t ∈ oddT, t.isC = false := by
  intro t ht
  simp only [List.mem_cons, List.not_mem_nil, or_false] at ht
  rcases ht with rfl | rfl | rfl | rfl | rfl | rfl | rfl | rfl <;> rfl
theorem oddW_no : ∀ t ∈ oddW, webEnd t = some (.code 0) ∧ ∀ ts, t = .seq ts → ts = [] := by
  intro t ht
  simp only [List.mem_cons, List.not_mem_nil, or_false] at ht
  rcases ht with rfl | rfl | rfl | rfl | rfl | rfl | rfl | rfl
  all_goals refine ⟨rfl, fun ts e => ?_⟩
  all_goals first | (cases e; rfl) | (cases e)
theorem told_none {u : Wh} (h : (endW u).1 = ("told" : Str)) : webEnd u = none := by
  unfold endW at h
  cases e : webEnd u with
  | none => rfl
  | some z =>
    rw [e] at h
    have h : errS z = ("told" : Str) := h
    cases z with
    | code i => exact absurd (show ("code" : Str) = "told" from h) (by decide +kernel)
    | many i => exact absurd (show ("many" : Str) = "told" from h) (by decide +kernel)
    | clash i => exact absurd (show ("clash" : Str) = "told" from h) (by decide +kernel)
    | tree i => exact absurd (show ("tree" : Str) = "told" from h) (by decide +kernel)
theorem pre_mixed {cs : List CodeD} {ts : List Th} (hw : ∀ c ∈ cs, WC c) (hl : ts.length ≤ 7) (h : ∀ y ∈ ts, y ∈ cs.map Th.code ∨ y.isC = false) (tb : thBad ts 0 = none) : WebPre (codesOf ts) := by
  have e := thBad_none tb
  have el : ts.length = ((codesOf ts).map Th.code).length := by rw [← e]
  rw [List.length_map] at el
  refine ⟨by omega, fun c hc => ?_⟩
  have hm : Th.code c ∈ ts := by rw [e]; exact List.mem_map_of_mem hc
  rcases h _ hm with q | q
  · obtain ⟨d, hd, z⟩ := List.mem_map.mp q
    injection z with z
    rw [← z]
    exact hw d hd
  · cases q
theorem right_told {ts : List Th} (hw : thBad ts 0 = none → WebPre (codesOf ts)) (h : webEnd (.seq ts) = none) : ts = (codesOf ts).map .code ∧ RightP (codesOf ts) := by
  have wb : whBad (.seq ts) = none := by
    unfold webEnd at h
    cases z : whBad (.seq ts) with
    | none => rfl
    | some i => rw [z] at h; cases h
  have hne : ts ≠ [] := fun e => by subst e; cases wb
  have tb : thBad ts 0 = none := by
    cases ts with
    | nil => rfl
    | cons t r => exact wb
  have e := thBad_none tb
  have hc : codesOf ts ≠ [] := fun z => by rw [z] at e; exact hne e
  refine ⟨e, hc, hw tb, ?_⟩
  rw [e, end_seq hc] at h
  exact h
end My

set_option Elab.async false
set_option linter.all false
set_option maxRecDepth 100000
set_option maxHeartbeats 8000000
namespace My
open PySem PySem.Spec PyProof.Rows L2 L3 LamX
open L3.Strm
def AnyL : Pr := fun M v => ∃ a vs, v = .ref a ∧ M a = some (.lst vs)
theorem gt_lst {K : PySem.W.Frag} {σ : Sl} {M : Hp} {C : Addr} {te : TE} (h : Gv te σ M AnyL) : Gv te σ M (ThR K C (.odd (.list []))) := gv_is h fun M v ⟨a, vs, h1, h2⟩ => Or.inr ⟨a, vs, rfl, h1, h2⟩
theorem gw_nil {K : PySem.W.Frag} {σ : Sl} {M : Hp} {C : Addr} : Gv (tLst tNil) σ M (WhR K C (.seq [])) := gv_is (gl_nil.gv (P := LiR (ThR K C) []) fun M' vs p h m => by subst h; exact ⟨p, [], rfl, upd_same, .nil⟩) fun M v h => (h.sq : SqR K (ThR K C) [] M v)
theorem gw_nilT {K : PySem.W.Frag} {σ : Sl} {M : Hp} {C : Addr} : Gv (tTup tNil) σ M (WhR K C (.seq [])) := gv_is (gv_tupR (K := K) (R := ThR K C) (xs := []) ga_rl0 (by decide)) fun M v h => (h : SqR K (ThR K C) [] M v)
section
variable {P : Program} {w : World} {K : PySem.W.Frag} {mg : Str → Option Value} {base : Heap}
abbrev s_law : Stmt := topS 55
theorem sc_law : FnScope ["_law_script", "_law_stream", "_law_turn", "_law_things", "_law_due_here", "_law_given", "_law_thing", "_law_odd"] ["_law_script"] (defScope s_law) := ⟨rfl, rfl, rfl, by decide +kernel, rfl, by decide +kernel, by decide +kernel⟩
def sp_law (K : PySem.W.Frag) (Pt : Addr) : Sp := fun vs H Q _ => ∃ (ns : List Int) (M : Hp) (v : V), vs = [v] ∧ Same M H ∧ SqR K It' ns M v ∧ M Pt = none ∧ (∀ a ps, M a ≠ some (.tbl ps)) ∧ H Pt = some (.tbl #[]) ∧ ∀ H', Q (.bl true) H'
theorem ok_law {f cd Pt C CW BC TM CL NT : Addr} {fd : FuncData} (F : FunC K "law" "law" s_law fd f cd) (T : Gc mg) (TB : TabB base mg cd Pt) (RX : RefX P w K mg base C CW BC TM CL NT) (g_Web : mg "Web" = some (.ref CW))
    (c__law_drawn_codes : Cal P w K mg base 7 "_law_drawn_codes" ["_law_stream"] (sp__law_drawn_codes K C)) (c__law_draw : Cal P w K mg base 1 "_law_draw" ["_law_stream", "_law_many"] (sp__law_draw K)) (c__law_pick : Cal P w K mg base 2 "_law_pick" ["_law_stream", "_law_things"] (sp_pickG K (ThR K C))) (cW__law_pick : Cal P w K mg base 2 "_law_pick" ["_law_stream", "_law_things"] (sp_pickG K (WhR K C)))
    (c__law_due : Cal P w K mg base 3 "_law_due" ["_law_things"] (sp__law_due K C)) (c__law_same : CalG P w K mg base 1 "_law_same" ["_law_found", "_law_due_here"] (sp__law_sameF K)) (c__law_web_right : CalG P w K mg base 25 "_law_web_right" ["_law_stream", "_law_things"] (sp__law_web_right K C)) (kX_Web : MakX P w K mg base 22 "Web" CW ["self", "codes"] (sp_webX K C CW BC TM CL NT)) :
    FnG P w K mg base CX0 27 f fd ["_law_script"] (sp_law K Pt) := by
  obtain ⟨gR, fdR, FR, mR, bR⟩ := RX.ex
  refine fun_okGC F sc_law (fun vs H Q E h => ?_) (fun A outer s H vs Q E hgu hr h => ?_)
  · obtain ⟨ns, M, v, rfl, _⟩ := h
    rfl
  · obtain ⟨cells, M, v, rfl, mh, r1, mp, nt, hPt, q⟩ := h
    have hu := hr.units
    have hgu : (A.deeper (envOfC "law" (defScope s_law) s.heap.objs.size f (.ref cd))).guards = some [] := hgu
    refine ⟨_, (pss_cons (ps_set (i := 1) sc_law.nd rfl (by first | exact .inl rfl | exact .inr rfl) (pe_lst (pa_cons (pe_callTy call_lstA (by rfl) T.list boot_list (pa_cons (pv 0) pa_nil)) (pa_cons pe_int (pa_cons pe_int (pa_cons pe_int pa_nil))))))
      (pss_cons (ps_for PassesOwn.never (by rfl) (pi_range1 (by rfl) T.range (pa_cons pe_int pa_nil)) (pg_name (i := 2) sc_law.nd rfl (by first | exact .inl rfl | exact .inr rfl)) (pss_cons (ps_set (i := 3) sc_law.nd rfl (by first | exact .inl rfl | exact .inr rfl) (pe_f c__law_drawn_codes (hr.mono (by decide)) (pa_cons (pv 1) pa_nil)))
      (pss_cons (ps_if (pt_cmpR (op_eqP hu) (pe_f c__law_draw (hr.mono (by decide)) (pa_cons (pv 1) (pa_cons pe_int pa_nil))) pe_int (nomark _)) (pss_cons (ps_set (i := 7) sc_law.nd rfl (by first | exact .inl rfl | exact .inr rfl) (pe_f c__law_pick (hr.mono (by decide)) (pa_cons (pv 1) (pa_cons (pe_lst (pa_cons pe_non (pa_cons pe_int (pa_cons pe_str (pa_cons (pe_lst pa_nil) (pa_cons (pe_tup pa_nil) (pa_cons pe_dnewK (pa_cons pe_bl (pa_cons (pe_lst (pa_cons (pv 3) pa_nil)) pa_nil))))))))) pa_nil))))
      (pss_one (ps_expr (pe_bm PySem.F.plainAttrs_list PySem.F.slot_list_insert PySem.F.type_list_insert mt_ins (pv 3) (pa_cons (pe_f c__law_draw (hr.mono (by decide)) (pa_cons (pv 1) (pa_cons (pe_op op_addA (pe_callB call_lenA (by rfl) T.len boot_len (pa_cons (pv 3) pa_nil)) pe_int) pa_nil))) (pa_cons (pv 7) pa_nil)))))) pss_nil)
      (pss_cons (ps_set (i := 4) sc_law.nd rfl (by first | exact .inl rfl | exact .inr rfl) (pe_f c__law_due (hr.mono (by decide)) (pa_cons (pv 3) pa_nil)))
      (pss_cons (ps_for PassesOwn.never (by rfl) (pi_sq (pe_tup (pa_cons (pv 3) (pa_cons (pe_callTy call_tupA (by rfl) T.tuple boot_tuple (pa_cons (pv 3) pa_nil)) pa_nil)))) (pg_name (i := 5) sc_law.nd rfl (by first | exact .inl rfl | exact .inr rfl)) (pss_one (ps_if (pt_not (pt_val (pe_fG c__law_same hgu (hr.mono (by decide)) (pa_cons (pe_lamR (k := 23) (t := fun E => tMake CW (sp_webX K C CW BC TM CL NT) [] E (tCons (tVar 5) tNil)) FR mR bR sc__law_end rfl (.inl rfl) (fun cdv => gives_end RX (hr.mono (by decide))) TB rfl rfl (hr.mono (by decide)) (lamS_by (by rfl)) (fun A outer s H E f c' hr2 => pe_mkX kX_Web (hr2.mono (by decide)) (takes_of rfl rfl rfl rfl) (fun _ _ _ _ h => h) (pa_cons (pv 5) pa_nil))) (pa_cons (pv 4) pa_nil))))) (pss_one (ps_ret pe_bl)) pss_nil)))
      (pss_cons (ps_if (PW.pt (pw_and (pt_cmpR (op_eqP hu) (pe_ix ix_X (pv 4) pe_int (fun _ _ => rfl)) pe_str (nomark _)) (pw_and1 (pt_not (pt_val (pe_fG c__law_web_right hgu (hr.mono (by decide)) (pa_cons (pv 1) (pa_cons (pv 3) pa_nil)))))))) (pss_one (ps_ret pe_bl)) pss_nil)
      (pss_cons (ps_set (i := 6) sc_law.nd rfl (by first | exact .inl rfl | exact .inr rfl) (pe_f cW__law_pick (hr.mono (by decide)) (pa_cons (pv 1) (pa_cons (pe_lst (pa_cons pe_non (pa_cons pe_int (pa_cons pe_str (pa_cons (pe_lst pa_nil) (pa_cons (pe_tup pa_nil) (pa_cons pe_dnewK (pa_cons pe_bl (pa_cons pe_str pa_nil))))))))) pa_nil))))
      (pss_one (ps_if (pt_not (pt_val (pe_fG c__law_same hgu (hr.mono (by decide)) (pa_cons (pe_lamR (k := 23) (t := fun E => tMake CW (sp_webX K C CW BC TM CL NT) [] E (tCons (tVar 6) tNil)) FR mR bR sc__law_end rfl (.inl rfl) (fun cdv => gives_end RX (hr.mono (by decide))) TB rfl rfl (hr.mono (by decide)) (lamS_by (by rfl)) (fun A outer s H E f c' hr2 => pe_mkX kX_Web (hr2.mono (by decide)) (takes_of rfl rfl rfl rfl) (fun _ _ _ _ h => h) (pa_cons (pv 6) pa_nil))) (pa_cons (pe_tup (pa_cons pe_str (pa_cons pe_int pa_nil))) pa_nil))))) (pss_one (ps_ret pe_bl)) pss_nil)))))))))
      (pss_one (ps_ret pe_bl)))), ?_⟩
    -- the stream
    refine q_asgS (lst_in (a_L mh (gl_lstOf (K := K) (R1 := It') (gv_var rfl r1)) fun b vs M1 H1 g1 hb0 hbm hbw hpd => ⟨by show 4 ≤ sizeLine; decide, fun a na => ?_⟩))
    obtain ⟨S, rfl, rfl⟩ : ∃ S : Strm, S.a = a ∧ S.b = b := ⟨⟨a, b⟩, rfl, rfl⟩
    have hne : S.a ≠ S.b := fun e => by rw [e] at na; rw [hbw] at na; cases na
    have evs := pd_itv hpd
    have a0 : S.At 10000000 (upd H1 S.a (.lst [.ref S.b, .int 0, .int 0, .int 0])) := ⟨hne, cells, 0, 0, 0, upd_same, by rw [upd_ne (Ne.symm hne), hbw, evs], by decide, by decide, by decide, by decide, by decide⟩
    have m0 : Same M (S.cut (upd H1 S.a (.lst [.ref S.b, .int 0, .int 0, .int 0]))) := fun x o e => by
      have h1 := g1.hh _ _ (mh x o e)
      have n1 : x ≠ S.a := ne_of_none h1 na
      have n2 : x ≠ S.b := ne_of_none (mh x o e) hb0
      rw [cut_on (fun z => z.elim n1 n2), upd_ne n1]
      exact h1
    obtain ⟨qn, hqn⟩ : ∃ qn, qn = ((cxOf CX0 P w K mg base ["_law_script", "_law_stream", "_law_turn", "_law_things", "_law_due_here", "_law_given", "_law_thing", "_law_odd"] "law" (defScope s_law) f (.ref cd) A outer s H E).env.qual ++ "<lambda>") := ⟨_, rfl⟩
    have tb0 : TabS (upd H1 S.a (.lst [.ref S.b, .int 0, .int 0, .int 0])) Pt qn := TabS.nil (by
      have h1 := g1.hh _ _ hPt
      rw [upd_ne (ne_of_none h1 na)]
      exact h1)
    have L0 : LS S Pt qn M (upd H1 S.a (.lst [.ref S.b, .int 0, .int 0, .int 0])) 10000000 := ⟨m0, a0, tb0, mp, nt⟩
    clear a0 m0 tb0
    have L0 := L0.le (show (8 - 0) * 3000 ≤ 10000000 by decide)
    clear TB
    subst hqn
    -- eight turns
    refine l_for (S := S) (xs := List.range 8) (R := fun i : Nat => It' (i : Nat)) (fun i => (8 - i) * 3000) (fun _ _ σ' => ∃ y2 y3 y4 y5 y6 y7, σ' = [some v, some (.ref S.a), y2, y3, y4, y5, y6, y7]) L0 (gi_rng1 (n := 8) (gv_c rfl) (by decide)) tg_1 (fun _ _ _ _ _ h => h) ⟨_, _, _, _, _, _, rfl⟩ ?_ ?_
    rotate_left
    · rintro σ' M' H' sM ⟨y2, y3, y4, y5, y6, y7, rfl⟩ L'
      exact q _
    rintro i x σ' M3 H3 σ2 nx hnx hx sM ⟨y2, y3, y4, y5, y6, y7, rfl⟩ L3 ⟨v2, r2, rfl⟩
    have hi : i < 8 := by have := (List.getElem?_eq_some_iff.mp hx).1; rwa [List.length_range] at this
    have e4 : (8 - i) * 3000 = (8 - (i + 1)) * 3000 + 3000 := by omega
    rw [e4] at L3
    have hnx : ∀ M2 H2 σ3, Same M3 M2 → (∃ y2 y3 y4 y5 y6 y7, σ3 = [some v, some (.ref S.a), y2, y3, y4, y5, y6, y7]) → LS S Pt _ M2 H2 ((8 - (i + 1)) * 3000) → nx σ3 H2 := hnx
    revert L3 hnx
    generalize (8 - (i + 1)) * 3000 = kb
    intro L3 hnx
    -- the codes
    refine q_asgS ⟨.ref S.a, rfl, S, M3, kb + 2010, rfl, L3.mh, L3.at_.le (by omega), fun p ws cs M4 H4 g4 a4 hp0 hpm hpw hpd hwc hcl => ?_⟩
    have L4 := L3.step g4 a4
    have lw := hpd.length
    refine l_odd (K := K) (k := kb + 2007) (P := Ex (ThR K C) fun t => t.isC = false) L4 (fun _ => rfl) (fun _ => rfl) hpm hpw (by omega) (gts_zero (K := K) rfl (gv_c rfl) (by decide) (by decide)) (fun M' sm => ?_) (fun u M' sm => ?_) fun us M5 H5 σ5 s45 L5 m5 p5 hus hσ => ?_
    · exact (gs_call1 (S := S) (R1 := SqR K (ThR K C)) (pre := fun xs => 0 < xs.length ∧ xs.length ≤ 1000000) (cs := fun _ => 1) (R := fun xs => Ex (ThR K C) fun x => x ∈ xs) (x := oddT) rfl (gv_is (gv_lstG (R := ThR K C) (ga_rl (gt_odd (gv_c (.inl .non))) fun _ _ => ga_rl (gt_odd (gv_c (.inl (.int 5)))) fun _ _ => ga_rl (gt_odd (gf_str (gv_c rfl))) fun _ _ => ga_rl (gt_lst (gl_nil.gv (P := AnyL) fun M' vs p h m => ⟨p, vs, rfl, upd_same⟩)) fun _ _ => ga_rl (gt_odd (gv_is gv_nilT fun M v r => .inl (py_TT [] _ _ r))) fun _ _ => ga_rl (gt_odd gf_dnew) fun _ _ => ga_rl (gt_odd (gv_c (.inl (.bl true)))) fun _ _ =>
        ga_rl (gt_lst (gv_is (gl_one (R := EqV) (x := V.ref p) (gv_var rfl rfl)).li fun M v ⟨a, vs, h1, h2, _⟩ => ⟨a, vs, h1, h2⟩)) fun _ _ => ga_rl0) (by show 8 ≤ 1000; decide)) fun _ _ h => h.sq) ⟨by decide, by decide⟩).is fun M v ⟨x, hx, r⟩ => ⟨x, oddT_no x hx, r⟩
    · exact gs_draw (K := K) (n := (ws.length : Int) + 1) rfl (gv_addIn (K := K) (gv_lenA (K := K) (R := EqV) (xs := ws) (gv_var rfl (.inl ⟨p, _, rfl, .inl (.inl upd_same), pd_eqv ws⟩)) ) (gv_c rfl)) (by omega) (by omega)
    obtain ⟨z7, rfl⟩ : ∃ z7, σ5 = [some v, some (.ref S.a), some v2, some (.ref p), y4, y5, y6, z7] := by
      rcases hσ with rfl | ⟨u, rfl⟩
      · exact ⟨_, rfl⟩
      · exact ⟨_, rfl⟩
    obtain ⟨ts, pts, lts, hts⟩ := ins_pd (R := ThR K C) (xs := cs.map Th.code) s45 (pd_to (T := ThR K C) (f := Th.code) (fun x v r => r) hpd) hus
    rw [List.length_map] at lts
    have PRE : ts.length ≤ 1000 ∧ (thBad ts 0 = none → WebPre (codesOf ts)) := ⟨by omega, pre_mixed hwc (by omega) hts⟩
    have LF := L5.freeze p5
    have sF : Same M5 (upd M5 p (.lst us)) := same_new m5
    have r3 : LiR (ThR K C) ts (upd M5 p (.lst us)) (.ref p) := ⟨p, us, rfl, upd_same, Pd.mono (R := ThR K C) sF pts⟩
    have s3F : Same M3 (upd M5 p (.lst us)) := (g4.mm.trans s45).trans sF
    clear hus hσ pts L5 L4 hts
    revert LF r3 s3F
    generalize upd M5 p (.lst us) = M6
    intro LF r3 s3F
    -- what is due
    refine l_asg (S := S) (k := kb + 2007) (c := 0) (P := TxF K (endW (.seq ts))) LF (gv_call1 (R1 := LiR (ThR K C)) (pre := fun ts => ts.length ≤ 1000 ∧ (thBad ts 0 = none → WebPre (codesOf ts))) (R := fun ts => TxF K (endW (.seq ts))) (x := ts) (gv_var rfl r3) PRE).s fun v4 M7 H7 s67 L7 r4 => ?_
    have r37 : LiR (ThR K C) ts M7 (.ref p) := Mon.mono s67 r3
    -- as a list, as a tuple
    refine l_for (S := S) (xs := [Wh.seq ts, Wh.seq ts]) (R := WhR K C) (fun _ => kb + 2007) (fun _ _ σ' => ∃ y5, σ' = [some v, some (.ref S.a), some v2, some (.ref p), some v4, y5, y6, z7]) L7 (gi_sq (K := K) (gv_tupR (R := WhR K C) (ga_rl (gv_is (gv_var rfl r37) fun _ _ h => h.sq) fun _ e => ga_rl (gv_is (gv_tupOf (K := K) (R1 := ThR K C) (gv_is (gv_var rfl (Mon.mono e r37)) fun _ _ h => h.sq)) fun _ _ h => h.sq) fun _ _ => ga_rl0) (by show 2 ≤ 1000; decide))) tg_1 (fun _ _ _ _ _ h => h) ⟨_, rfl⟩ ?_ ?_
    · rintro j u σ' M8 H8 σ2 nx2 hnx2 hxj s78 ⟨y5', rfl⟩ L8 ⟨v5, r5, rfl⟩
      have eu : u = .seq ts := by
        have := List.mem_of_getElem? hxj
        simp only [List.mem_cons, List.not_mem_nil, or_false, or_self] at this
        exact this
      subst eu
      exact s_lamSame (S := S) (Pt := Pt) (K := K) (a := endW (.seq ts)) (t2 := tVar 4) L8 (gv_lamW (u := .seq ts) (t1 := tVar 5) (gv_var rfl r5) fun ts' e => by injection e with e; subst e; exact PRE) (fun M' sm => gv_var rfl (Mon.mono (s78.trans sm) r4)) (fit_endW PRE.1 PRE.2) fun M' H' sm L' => hnx2 M' H' _ sm ⟨_, rfl⟩ L'
    rintro σ' M8 H8 s78 ⟨y5', rfl⟩ L8
    -- the web tells its codes
    refine l_ifS (S := S) (k := kb + 7) (c := 2000) (L8.le (by omega)) (gts_and (b := decide ((endW (.seq ts)).1 = ("told" : Str))) (gt_is (gt_test (gv_eqT (K := K) (neg := false) py_str inj_str (gv_head (gv_var rfl (Mon.mono s78 r4))) (gv_c rfl) (by simp [PyData.depth]))) (by simp)) fun hb => ?_) fun M9 H9 s89 L9 => ?_
    · obtain ⟨e, RP⟩ := right_told PRE.2 (told_none (of_decide_eq_true hb))
      have rc : LiR (CodeR C) (codesOf ts) M8 (.ref p) := by
        obtain ⟨a, vs, ea, h1, h2⟩ := (Mon.mono s78 r37 : LiR (ThR K C) ts M8 (.ref p))
        rw [e] at h2
        exact ⟨a, vs, ea, h1, pd_codes h2⟩
      exact (gts_not (gts_B (B := fun b => b = true) (gs_call1 (S := S) (R1 := LiR (CodeR C)) (pre := RightP) (cs := fun _ => 2000) (R := fun _ => Bl true) (x := codesOf ts) rfl (gv_var rfl rc) RP) fun M v r => ⟨true, r, rfl⟩)).is fun b h => by simpa using h
    -- no list of codes
    refine l_asg (S := S) (k := kb) (c := 1) (P := Ex (WhR K C) fun u => u ∈ oddW) (L9.le (by omega)) (gs_call1 (S := S) (R1 := SqR K (WhR K C)) (pre := fun xs => 0 < xs.length ∧ xs.length ≤ 1000000) (cs := fun _ => 1) (R := fun xs => Ex (WhR K C) fun x => x ∈ xs) (x := oddW) rfl (gv_is (gv_lstG (R := WhR K C) (ga_rl (gw_odd (gv_c (.inl .non)) rfl) fun _ _ => ga_rl (gw_odd (gv_c (.inl (.int 5))) rfl) fun _ _ => ga_rl (gw_odd (gf_str (gv_c rfl)) rfl) fun _ _ => ga_rl gw_nil fun _ _ => ga_rl gw_nilT fun _ _ => ga_rl (gw_odd gf_dnew rfl) fun _ _ => ga_rl (gw_odd (gv_c (.inl (.bl true))) rfl) fun _ _ =>
        ga_rl (gw_odd (gf_str (gv_c rfl)) rfl) fun _ _ => ga_rl0) (by show 8 ≤ 1000; decide)) fun _ _ h => h.sq) ⟨by decide, by decide⟩) fun v6 M10 H10 s910 L10 ⟨u, hu6, r6⟩ => ?_
    obtain ⟨eu, enil⟩ := oddW_no u hu6
    have ew : endW u = (("code" : Str), PyData.int ((0 : Nat) : Int)) := by unfold endW; rw [eu]; rfl
    refine s_lamSame (S := S) (Pt := Pt) (K := K) (a := endW u) (t2 := tTup (tCons (tC (.str "code")) (tCons (tC (.int 0)) tNil))) L10 (gv_lamW (u := u) (t1 := tVar 6) (gv_var rfl r6) fun ts' e => by rw [enil ts' e]; exact ⟨by decide, fun _ => ⟨by decide, fun c hc => nomatch hc⟩⟩) (fun M' sm => by rw [ew]; exact gv_tupF (gv_c rfl) (gv_c (.inl (.int 0)))) (by rw [ew]; exact fit_txi (by decide +kernel) (by decide +kernel) (by decide)) fun M' H' sm L' => hnx _ _ _ ?_ ⟨_, _, _, _, _, _, rfl⟩ L'
    exact s3F.trans (s67.trans (s78.trans (s89.trans (s910.trans sm))))
end
end My

set_option Elab.async false
set_option linter.all false
set_option maxRecDepth 100000
set_option maxHeartbeats 4000000
namespace My
open PySem PySem.Spec PyProof.Rows L2 L3
/-- a def of the text behind the top -/
structure At1 (K : PySem.W.Frag) (x : Str) (st : Stmt) (f : Addr) : Prop where
  ns : PySem.W.nsIn K mainGlobals x = some (some (.ref f))
  fn : ∃ fd, Fun K x x st f fd
theorem at1 {K : PySem.W.Frag} {x : Str} {st : Stmt} {f : Addr} {oc : Value} {od an : Option Addr} {osl : Array (Option Value)} {kV doc pm cdv ct : Value} (a : PySem.W.nsIn K mainGlobals x = some (some (.ref f)))
    (l : K.lookup f = some ⟨oc, od, .func (PySem.W.fnOf x x (defArgs st) (defBody st) (defScope st) .none kV doc pm an cdv ct), osl⟩) (c : PySem.W.codeIn K cdv x = true) (k : PySem.W.keepIn K (.ref f) = true) : At1 K x st f := ⟨a, _, fun_mk (st := st) l c k⟩
/-- one that has a text for its default -/
structure AtD (K : PySem.W.Frag) (x : Str) (st : Stmt) (z : Str) (f : Addr) : Prop where
  ns : PySem.W.nsIn K mainGlobals x = some (some (.ref f))
  fn : ∃ fd, FunD K x x (defArgs st) (defBody st) (defScope st) [.str z] [] f fd
/-- a method of a class of the text -/
structure AtM (K : PySem.W.Frag) (C : Addr) (m q : Str) (st : Stmt) (f : Addr) : Prop where
  me : Meth K C m f
  fn : ∃ fd, Fun K m q st f fd
/-- a method with the default () -/
structure AtE (K : PySem.W.Frag) (C : Addr) (m q : Str) (st : Stmt) (e : Addr) (f : Addr) : Prop where
  me : Meth K C m f
  fn : ∃ fd, FunD K m q (defArgs st) (defBody st) (defScope st) [.ref e] [] f fd
/-- a class of the text -/
structure AtC (K : PySem.W.Frag) (x : Str) (C : Addr) : Prop where
  ns : PySem.W.nsIn K mainGlobals x = some (some (.ref C))
  cl : Cls K C
  mks : PySem.W.makesIn K C = true
  kc : PySem.W.keepIn K (.ref C) = true
abbrev s_BadCode_init : Stmt := inClass (topS 9) 0
theorem rai_BadCode {P : Program} {w : World} {K : PySem.W.Frag} {mg : Str → Option Value} {base : Heap} (gl : mg "BadCode" = some (.ref (He.ga K "BadCode"))) (F : SupF P K "BadCode" "BadCode.__init__" "index" s_BadCode_init) : Rai P w K mg base 1 "BadCode" (He.ga K "BadCode") "index" := by
  obtain ⟨fd, b, f⟩ := sup_ok (CX := CX0) (k := 0) (x := "index") (sc := defScope s_BadCode_init) (args := defArgs s_BadCode_init) (w := w) (mg := mg) (base := base) F.S F.no (by decide) (by decide) (NdefX.nscope_by (by decide +kernel)) (by decide +kernel) ⟨_, rfl, rfl⟩ (fun env => ⟨_, rfl⟩) (fun kV doc pm an cdv ct cl us hl => match us, hl with | [_, _], _ => rfl)
  exact ⟨F.S.T, gl, _, fd, "index", F.ini, F.ty, f, b⟩
abbrev s_TooMany_init : Stmt := inClass (topS 4) 0
theorem rai_TooMany {P : Program} {w : World} {K : PySem.W.Frag} {mg : Str → Option Value} {base : Heap} (gl : mg "TooMany" = some (.ref (He.ga K "TooMany"))) (F : SupF P K "TooMany" "TooMany.__init__" "n" s_TooMany_init) : Rai P w K mg base 1 "TooMany" (He.ga K "TooMany") "n" := by
  obtain ⟨fd, b, f⟩ := sup_ok (CX := CX0) (k := 0) (x := "n") (sc := defScope s_TooMany_init) (args := defArgs s_TooMany_init) (w := w) (mg := mg) (base := base) F.S F.no (by decide) (by decide) (NdefX.nscope_by (by decide +kernel)) (by decide +kernel) ⟨_, rfl, rfl⟩ (fun env => ⟨_, rfl⟩) (fun kV doc pm an cdv ct cl us hl => match us, hl with | [_, _], _ => rfl)
  exact ⟨F.S.T, gl, _, fd, "n", F.ini, F.ty, f, b⟩
abbrev s_Clash_init : Stmt := inClass (topS 8) 0
theorem rai_Clash {P : Program} {w : World} {K : PySem.W.Frag} {mg : Str → Option Value} {base : Heap} (gl : mg "Clash" = some (.ref (He.ga K "Clash"))) (F : SupF P K "Clash" "Clash.__init__" "name" s_Clash_init) : Rai P w K mg base 1 "Clash" (He.ga K "Clash") "name" := by
  obtain ⟨fd, b, f⟩ := sup_ok (CX := CX0) (k := 0) (x := "name") (sc := defScope s_Clash_init) (args := defArgs s_Clash_init) (w := w) (mg := mg) (base := base) F.S F.no (by decide) (by decide) (NdefX.nscope_by (by decide +kernel)) (by decide +kernel) ⟨_, rfl, rfl⟩ (fun env => ⟨_, rfl⟩) (fun kV doc pm an cdv ct cl us hl => match us, hl with | [_, _], _ => rfl)
  exact ⟨F.S.T, gl, _, fd, "name", F.ini, F.ty, f, b⟩
abbrev s_NotTree_init : Stmt := inClass (topS 10) 0
theorem rai_NotTree {P : Program} {w : World} {K : PySem.W.Frag} {mg : Str → Option Value} {base : Heap} (gl : mg "NotTree" = some (.ref (He.ga K "NotTree"))) (F : SupF P K "NotTree" "NotTree.__init__" "index" s_NotTree_init) : Rai P w K mg base 1 "NotTree" (He.ga K "NotTree") "index" := by
  obtain ⟨fd, b, f⟩ := sup_ok (CX := CX0) (k := 0) (x := "index") (sc := defScope s_NotTree_init) (args := defArgs s_NotTree_init) (w := w) (mg := mg) (base := base) F.S F.no (by decide) (by decide) (NdefX.nscope_by (by decide +kernel)) (by decide +kernel) ⟨_, rfl, rfl⟩ (fun env => ⟨_, rfl⟩) (fun kV doc pm an cdv ct cl us hl => match us, hl with | [_, _], _ => rfl)
  exact ⟨F.S.T, gl, _, fd, "index", F.ini, F.ty, f, b⟩
theorem all_mk {l : PySem.W.OpenLaw} {w : World} {K : PySem.W.Frag} {h : Heap} {mg : Str → Option Value} {fa C CR CW f0 f1 f2 f3 f4 f5 f6 f7 f8 f9 f10 f11 f12 f13 f14 f15 f16 f17 f18 f19 f20 f21 f22 f23 f24 f25 f26 f27 f28 f29 g0 g1 g2 g3 g4 g5 g6 g7 g8 g9 g10 g11 g12 g13 g14 g15 g16 e0 : Addr} {lt : Tok} {lm : Tok} {ed : Option Addr} {esl : Array (Option Value)} {en : Nat} (X : K.In h) (G : h.Ns mainGlobals mg) (hfa : mg "law" = some (.ref fa))
    (clCode : AtC K "Code" C)
    (clRule : AtC K "Rule" CR)
    (clWeb : AtC K "Web" CW)
    (d0 : At1 K "name_of" s_name_of f0)
    (d1 : At1 K "opposite" s_opposite f1)
    (d2 : At1 K "is_list" s_is_list f2)
    (d3 : At1 K "is_literal" s_is_literal f3)
    (d4 : At1 K "first_wrong" s_first_wrong f4)
    (d5 : At1 K "ascending" s_ascending f5)
    (d6 : At1 K "is_name" s_is_name f6)
    (d7 : At1 K "checked_names" s_checked_names f7)
    (d8 : At1 K "checked_clauses" s_checked_clauses f8)
    (d9 : At1 K "open_ones" s_open_ones f9)
    (d10 : At1 K "chase" s_chase f10)
    (d11 : At1 K "are_same" s_are_same f11)
    (d12 : At1 K "full_settings" s_full_settings f12)
    (d13 : At1 K "checked_settings" s_checked_settings f13)
    (d14 : At1 K "filled" s_filled f14)
    (d15 : At1 K "check_codes" s_check_codes f15)
    (d16 : At1 K "check_code" s_check_code f16)
    (d17 : At1 K "_law_draw" s__law_draw f17)
    (d18 : At1 K "_law_pick" s__law_pick f18)
    (d19 : At1 K "_law_mixed" s__law_mixed f19)
    (d20 : At1 K "_law_fresh" s__law_fresh f20)
    (d21 : At1 K "_law_names" s__law_names f21)
    (d22 : At1 K "_law_sided" s__law_sided f22)
    (d23 : At1 K "_law_clause" s__law_clause f23)
    (d24 : At1 K "_law_same" s__law_same f24)
    (d25 : At1 K "_law_due" s__law_due f25)
    (d26 : At1 K "_law_drawn_codes" s__law_drawn_codes f26)
    (d27 : At1 K "_law_web_right" s__law_web_right f27)
    (d28 : At1 K "_law_end" s__law_end f28)
    (d29 : At1 K "law" s_law f29)
    (e1 : AtE K C "__init__" "Code.__init__" s_Code_init e0 g0)
    (e2 : AtM K C "__len__" "Code.__len__" s_Code_len g1)
    (e3 : AtM K C "signs" "Code.signs" s_Code_signs g2)
    (e4 : AtM K C "helpers" "Code.helpers" s_Code_helpers g3)
    (e5 : AtM K C "clauses" "Code.clauses" s_Code_clauses g4)
    (e6 : AtM K C "__contains__" "Code.__contains__" s_Code_contains g5)
    (e7 : AtM K C "__eq__" "Code.__eq__" s_Code_eq g6)
    (e8 : AtM K C "fill" "Code.fill" s_Code_fill g7)
    (e9 : AtM K C "rule" "Code.rule" s_Code_rule g8)
    (e10 : AtM K C "__add__" "Code.__add__" s_Code_add g9)
    (e11 : AtM K CR "__init__" "Rule.__init__" s_Rule_init g10)
    (e12 : AtM K CR "settings" "Rule.settings" s_Rule_settings g11)
    (e13 : AtM K CW "__init__" "Web.__init__" s_Web_init g12)
    (e14 : AtM K CW "codes" "Web.codes" s_Web_codes g13)
    (e15 : AtM K CW "__len__" "Web.__len__" s_Web_len g14)
    (e16 : AtM K CW "code" "Web.code" s_Web_code g15)
    (e17 : AtM K CW "__eq__" "Web.__eq__" s_Web_eq g16)
    (qCode0 : PySem.W.findIn K (.ref C) "sign_row" = some none)
    (qCode1 : PySem.W.findIn K (.ref C) "helper_row" = some none)
    (qCode2 : PySem.W.findIn K (.ref C) "names" = some none)
    (qCode3 : PySem.W.findIn K (.ref C) "clause_row" = some none)
    (qRule0 : PySem.W.findIn K (.ref CR) "names" = some none)
    (qRule1 : PySem.W.findIn K (.ref CR) "allowed" = some none)
    (qWeb0 : PySem.W.findIn K (.ref CW) "row" = some none)
    (qWeb1 : PySem.W.findIn K (.ref CW) "tables" = some none)
    (qWeb2 : PySem.W.findIn K (.ref CW) "joined" = some none)
    (neCode : PySem.W.findIn K (.ref C) "__ne__" = some (some (.builtin "object.__ne__")))
    (obCode : PySem.W.subIn K (.ref C) (.type "object") = some true)
    (gcCode : PySem.W.findIn K (.ref C) "__class__" = some (some (.builtin "object.__class__")))
    (spCode : PySem.W.specialIn K (.builtin "object.__class__") "__get__" = some (some (.builtin "getset_descriptor.__get__")))
    (tkCode : PySem.W.takesIn K (.builtin "object.__class__") = some true)
    (mrCode : PySem.W.mroIn K C (.type "object") = some true)
    (neWeb : PySem.W.findIn K (.ref CW) "__ne__" = some (some (.builtin "object.__ne__")))
    (obWeb : PySem.W.subIn K (.ref CW) (.type "object") = some true)
    (gcWeb : PySem.W.findIn K (.ref CW) "__class__" = some (some (.builtin "object.__class__")))
    (spWeb : PySem.W.specialIn K (.builtin "object.__class__") "__get__" = some (some (.builtin "getset_descriptor.__get__")))
    (tkWeb : PySem.W.takesIn K (.builtin "object.__class__") = some true)
    (mrWeb : PySem.W.mroIn K CW (.type "object") = some true)
    (sfCode : PySem.W.selfFirst K C = true)
    (oflCode : PySem.W.subIn K (.ref C) (.type "list") = some false)
    (oftCode : PySem.W.subIn K (.ref C) (.type "tuple") = some false)
    (ofdCode : PySem.W.subIn K (.ref C) (.type "dict") = some false)
    (ofsCode : PySem.W.subIn K (.ref C) (.type "str") = some false)
    (ofiCode : PySem.W.subIn K (.ref C) (.type "int") = some false)
    (ofbCode : PySem.W.subIn K (.ref C) (.type "bool") = some false)
    (ofnCode : PySem.W.subIn K (.ref C) (.type "NoneType") = some false)
    (ofcCode : (PySem.W.clsIn K C).isSome = true)
    (ofyCode : PySem.W.typeIn K (.ref C) = some (.type "type"))
    (oflWeb : PySem.W.subIn K (.ref CW) (.type "list") = some false)
    (oftWeb : PySem.W.subIn K (.ref CW) (.type "tuple") = some false)
    (ofdWeb : PySem.W.subIn K (.ref CW) (.type "dict") = some false)
    (ofsWeb : PySem.W.subIn K (.ref CW) (.type "str") = some false)
    (ofiWeb : PySem.W.subIn K (.ref CW) (.type "int") = some false)
    (ofbWeb : PySem.W.subIn K (.ref CW) (.type "bool") = some false)
    (ofnWeb : PySem.W.subIn K (.ref CW) (.type "NoneType") = some false)
    (ofcWeb : (PySem.W.clsIn K CW).isSome = true)
    (ofyWeb : PySem.W.typeIn K (.ref CW) = some (.type "type"))
    (lE : K.lookup e0 = some ⟨.type "tuple", ed, .seq #[] en, esl⟩)
    (gL : PySem.W.nsIn K mainGlobals "LETTERS" = some (some (.str g_LETTERS lt)))
    (gM : PySem.W.nsIn K mainGlobals "MOST_SIGNS" = some (some (.int 6 lm)))
    (nfW : PySem.W.notFirst K CW (.ref C) = true)
    (kcW : PySem.W.kitOne K (.ref C) (.ref CW) = some false)
    (gx_BadCode : (He.Fa.glo "BadCode").ok K = true)
    (sx_BadCode : SupF l.prog K "BadCode" "BadCode.__init__" "index" s_BadCode_init)
    (gx_TooMany : (He.Fa.glo "TooMany").ok K = true)
    (sx_TooMany : SupF l.prog K "TooMany" "TooMany.__init__" "n" s_TooMany_init)
    (gx_Clash : (He.Fa.glo "Clash").ok K = true)
    (sx_Clash : SupF l.prog K "Clash" "Clash.__init__" "name" s_Clash_init)
    (gx_NotTree : (He.Fa.glo "NotTree").ok K = true)
    (sx_NotTree : SupF l.prog K "NotTree" "NotTree.__init__" "index" s_NotTree_init)
    (ex_BadCode_BadCode : PySem.W.exmOne K (.ref (He.ga K "BadCode")) (.ref (He.ga K "BadCode")) = some true)
    (ex_TooMany_BadCode : PySem.W.exmOne K (.ref (He.ga K "TooMany")) (.ref (He.ga K "BadCode")) = some false)
    (ex_TooMany_TooMany : PySem.W.exmOne K (.ref (He.ga K "TooMany")) (.ref (He.ga K "TooMany")) = some true)
    (ex_Clash_BadCode : PySem.W.exmOne K (.ref (He.ga K "Clash")) (.ref (He.ga K "BadCode")) = some false)
    (ex_Clash_TooMany : PySem.W.exmOne K (.ref (He.ga K "Clash")) (.ref (He.ga K "TooMany")) = some false)
    (ex_Clash_Clash : PySem.W.exmOne K (.ref (He.ga K "Clash")) (.ref (He.ga K "Clash")) = some true)
    (ex_NotTree_BadCode : PySem.W.exmOne K (.ref (He.ga K "NotTree")) (.ref (He.ga K "BadCode")) = some false)
    (ex_NotTree_TooMany : PySem.W.exmOne K (.ref (He.ga K "NotTree")) (.ref (He.ga K "TooMany")) = some false)
    (ex_NotTree_Clash : PySem.W.exmOne K (.ref (He.ga K "NotTree")) (.ref (He.ga K "Clash")) = some false)
    (ex_NotTree_NotTree : PySem.W.exmOne K (.ref (He.ga K "NotTree")) (.ref (He.ga K "NotTree")) = some true)
    (z_len : PySem.W.nsIn K mainGlobals "len" = some none)
    (z_tuple : PySem.W.nsIn K mainGlobals "tuple" = some none)
    (z_list : PySem.W.nsIn K mainGlobals "list" = some none)
    (z_str : PySem.W.nsIn K mainGlobals "str" = some none)
    (z_int : PySem.W.nsIn K mainGlobals "int" = some none)
    (z_all : PySem.W.nsIn K mainGlobals "all" = some none)
    (z_any : PySem.W.nsIn K mainGlobals "any" = some none)
    (z_isinstance : PySem.W.nsIn K mainGlobals "isinstance" = some none)
    (z_enumerate : PySem.W.nsIn K mainGlobals "enumerate" = some none)
    (z_range : PySem.W.nsIn K mainGlobals "range" = some none)
    (z_repr : PySem.W.nsIn K mainGlobals "repr" = some none)
    (z_bool : PySem.W.nsIn K mainGlobals "bool" = some none)
    (z_zip : PySem.W.nsIn K mainGlobals "zip" = some none)
    : ∃ (fd : FuncData) (c : Addr), (∀ (s : Shared) (v : Value), BindsTo s fd ⟨[v], []⟩ [("_law_script", v)]) ∧ (∃ (oc : Value) (od : Option Addr) (kV doc pm : Value) (an : Option Addr) (ct : Value) (osl : Array (Option Value)), K.lookup f29 = some ⟨oc, od, .func (PySem.W.fnOf "law" "law" (defArgs s_law) (defBody s_law) (defScope s_law) .none kV doc pm an (.ref c) ct), osl⟩) ∧ ∀ (base : Heap) (Pt : Addr), K.In base → base.Ns mainGlobals mg → LamX.TabB base mg c Pt → FnG l.prog w K mg base CX0 27 fa fd ["_law_script"] (sp_law K Pt) := by
  have T0 : Ge mg := { len := PySem.W.mg_none_of X G z_len, tuple := PySem.W.mg_none_of X G z_tuple, list := PySem.W.mg_none_of X G z_list, str := PySem.W.mg_none_of X G z_str, int := PySem.W.mg_none_of X G z_int, all := PySem.W.mg_none_of X G z_all, any := PySem.W.mg_none_of X G z_any, isinstance := PySem.W.mg_none_of X G z_isinstance, enumerate := PySem.W.mg_none_of X G z_enumerate, range := PySem.W.mg_none_of X G z_range, repr := PySem.W.mg_none_of X G z_repr, bool := PySem.W.mg_none_of X G z_bool, g_LETTERS := ⟨_, PySem.W.mg_of X G gL⟩, g_MOST_SIGNS := ⟨_, PySem.W.mg_of X G gM⟩ }
  have TC : CodeT K mg C := ⟨clCode.cl, qCode0, qCode1, qCode2, qCode3⟩
  have TR : RuleT K mg CR := ⟨clRule.cl, qRule0, qRule1⟩
  have TW : WebT K CW := ⟨clWeb.cl, qWeb0, qWeb1, qWeb2⟩
  have NECode : NeObj K C := ⟨neCode, obCode⟩
  have ISCode : InsF K C := ⟨clCode.cl, gcCode, spCode, tkCode, mrCode⟩
  have g_Code : mg "Code" = some (.ref C) := PySem.W.mg_of X G clCode.ns
  have NEWeb : NeObj K CW := ⟨neWeb, obWeb⟩
  have ISWeb : InsF K CW := ⟨clWeb.cl, gcWeb, spWeb, tkWeb, mrWeb⟩
  have g_Web : mg "Web" = some (.ref CW) := PySem.W.mg_of X G clWeb.ns
  have SFCode := sfCode
  have OFCode : OffC K C := ⟨oflCode, oftCode, ofdCode, ofsCode, ofiCode, ofbCode, ofnCode, ofcCode, ofyCode⟩
  have OFWeb : OffC K CW := ⟨oflWeb, oftWeb, ofdWeb, ofsWeb, ofiWeb, ofbWeb, ofnWeb, ofcWeb, ofyWeb⟩
  have g_BadCode : mg "BadCode" = some (.ref (He.ga K "BadCode")) := He.glo_ok X G gx_BadCode
  have g_TooMany : mg "TooMany" = some (.ref (He.ga K "TooMany")) := He.glo_ok X G gx_TooMany
  have g_Clash : mg "Clash" = some (.ref (He.ga K "Clash")) := He.glo_ok X G gx_Clash
  have g_NotTree : mg "NotTree" = some (.ref (He.ga K "NotTree")) := He.glo_ok X G gx_NotTree
  obtain ⟨n0, fd0, F0⟩ := d0
  have b0 := F0.binds (ps := ["literal"]) fun _ _ _ _ _ _ us hl => match us, hl with | [_], _ => rfl
  obtain ⟨n1, fd1, F1⟩ := d1
  have b1 := F1.binds (ps := ["literal"]) fun _ _ _ _ _ _ us hl => match us, hl with | [_], _ => rfl
  obtain ⟨n2, fd2, F2⟩ := d2
  have b2 := F2.binds (ps := ["thing"]) fun _ _ _ _ _ _ us hl => match us, hl with | [_], _ => rfl
  obtain ⟨n3, fd3, F3⟩ := d3
  have b3 := F3.binds (ps := ["thing", "names"]) fun _ _ _ _ _ _ us hl => match us, hl with | [_, _], _ => rfl
  obtain ⟨n4, fd4, F4⟩ := d4
  have b4 := F4.binds (ps := ["things", "names"]) fun _ _ _ _ _ _ us hl => match us, hl with | [_, _], _ => rfl
  obtain ⟨n5, fd5, F5⟩ := d5
  have b5 := F5.binds (ps := ["literals", "names"]) fun _ _ _ _ _ _ us hl => match us, hl with | [_, _], _ => rfl
  obtain ⟨n6, fd6, F6⟩ := d6
  have b6 := F6.binds (ps := ["thing"]) fun _ _ _ _ _ _ us hl => match us, hl with | [_], _ => rfl
  obtain ⟨n7, fd7, F7⟩ := d7
  have b7 := F7.binds (ps := ["things", "known"]) fun _ _ _ _ _ _ us hl => match us, hl with | [_, _], _ => rfl
  obtain ⟨n8, fd8, F8⟩ := d8
  have b8 := F8.binds (ps := ["clauses", "names"]) fun _ _ _ _ _ _ us hl => match us, hl with | [_, _], _ => rfl
  obtain ⟨n9, fd9, F9⟩ := d9
  have b9 := F9.binds (ps := ["clause", "so"]) fun _ _ _ _ _ _ us hl => match us, hl with | [_, _], _ => rfl
  obtain ⟨n10, fd10, F10⟩ := d10
  have b10 := F10.binds (ps := ["clauses", "setting"]) fun _ _ _ _ _ _ us hl => match us, hl with | [_, _], _ => rfl
  obtain ⟨n11, fd11, F11⟩ := d11
  have b11 := F11.binds (ps := ["names", "others"]) fun _ _ _ _ _ _ us hl => match us, hl with | [_, _], _ => rfl
  obtain ⟨n12, fd12, F12⟩ := d12
  have b12 := F12.binds (ps := ["names"]) fun _ _ _ _ _ _ us hl => match us, hl with | [_], _ => rfl
  obtain ⟨n13, fd13, F13⟩ := d13
  have b13 := F13.binds (ps := ["settings", "names"]) fun _ _ _ _ _ _ us hl => match us, hl with | [_, _], _ => rfl
  obtain ⟨n14, fd14, F14⟩ := d14
  have b14 := F14.binds (ps := ["clauses", "names", "setting"]) fun _ _ _ _ _ _ us hl => match us, hl with | [_, _, _], _ => rfl
  obtain ⟨n15, fd15, F15⟩ := d15
  have b15 := F15.binds (ps := ["codes"]) fun _ _ _ _ _ _ us hl => match us, hl with | [_], _ => rfl
  obtain ⟨n16, fd16, F16⟩ := d16
  have b16 := F16.binds (ps := ["code", "ahead"]) fun _ _ _ _ _ _ us hl => match us, hl with | [_, _], _ => rfl
  obtain ⟨n17, fd17, F17⟩ := d17
  have b17 := F17.binds (ps := ["_law_stream", "_law_many"]) fun _ _ _ _ _ _ us hl => match us, hl with | [_, _], _ => rfl
  obtain ⟨n18, fd18, F18⟩ := d18
  have b18 := F18.binds (ps := ["_law_stream", "_law_things"]) fun _ _ _ _ _ _ us hl => match us, hl with | [_, _], _ => rfl
  obtain ⟨n19, fd19, F19⟩ := d19
  have b19 := F19.binds (ps := ["_law_stream", "_law_things"]) fun _ _ _ _ _ _ us hl => match us, hl with | [_, _], _ => rfl
  obtain ⟨n20, fd20, F20⟩ := d20
  have b20 := F20.binds (ps := ["_law_stream", "_law_taken"]) fun _ _ _ _ _ _ us hl => match us, hl with | [_, _], _ => rfl
  obtain ⟨n21, fd21, F21⟩ := d21
  have b21 := F21.binds (ps := ["_law_stream", "_law_many"]) fun _ _ _ _ _ _ us hl => match us, hl with | [_, _], _ => rfl
  obtain ⟨n22, fd22, F22⟩ := d22
  have b22 := F22.binds (ps := ["_law_stream", "_law_names_here"]) fun _ _ _ _ _ _ us hl => match us, hl with | [_, _], _ => rfl
  obtain ⟨n23, fd23, F23⟩ := d23
  have b23 := F23.binds (ps := ["_law_stream", "_law_names_here", "_law_most"]) fun _ _ _ _ _ _ us hl => match us, hl with | [_, _, _], _ => rfl
  obtain ⟨n24, fd24, F24⟩ := d24
  have b24 := F24.binds (ps := ["_law_found", "_law_due_here"]) fun _ _ _ _ _ _ us hl => match us, hl with | [_, _], _ => rfl
  obtain ⟨n25, fd25, F25⟩ := d25
  have b25 := F25.binds (ps := ["_law_things"]) fun _ _ _ _ _ _ us hl => match us, hl with | [_], _ => rfl
  obtain ⟨n26, fd26, F26⟩ := d26
  have b26 := F26.binds (ps := ["_law_stream"]) fun _ _ _ _ _ _ us hl => match us, hl with | [_], _ => rfl
  obtain ⟨n27, fd27, F27⟩ := d27
  have b27 := F27.binds (ps := ["_law_stream", "_law_things"]) fun _ _ _ _ _ _ us hl => match us, hl with | [_, _], _ => rfl
  obtain ⟨n28, fd28, F28⟩ := d28
  have b28 := F28.binds (ps := ["_law_ask"]) fun _ _ _ _ _ _ us hl => match us, hl with | [_], _ => rfl
  obtain ⟨n29, fd29, F29⟩ := d29
  have b29 := F29.binds (ps := ["_law_script"]) fun _ _ _ _ _ _ us hl => match us, hl with | [_], _ => rfl
  obtain ⟨me0, gd0, E0⟩ := e1
  obtain ⟨es0, ev0, u0⟩ := E0.binds1 (ps := ["self", "signs", "clauses", "helpers"]) 4 1 (by simp) rfl fun _ _ _ _ _ _ _ us its hl hi => match us, its, hl, hi with | [_, _, _, _], [_], _, _ => ⟨_, rfl, rfl⟩
  cases ev0
  obtain ⟨et0, ew0, uu0⟩ := E0.binds1 (ps := ["self", "signs", "clauses", "helpers"]) 3 0 (by simp) rfl fun _ _ _ _ _ _ _ us its hl hi => match us, its, hl, hi with | [_, _, _], [_], _, _ => ⟨_, rfl, rfl⟩
  have hdv : ∀ M, SqR K Tx [] M (.ref e0) := fun M => .inr ⟨e0, [], rfl, .inr ⟨_, _, en, lE, rfl, rfl, Nat.zero_le _, .nil⟩, .nil⟩
  obtain ⟨me1, gd1, E1⟩ := e2
  have u1 := E1.binds (ps := ["self"]) fun _ _ _ _ _ _ us hl => match us, hl with | [_], _ => rfl
  obtain ⟨me2, gd2, E2⟩ := e3
  have u2 := E2.binds (ps := ["self"]) fun _ _ _ _ _ _ us hl => match us, hl with | [_], _ => rfl
  obtain ⟨me3, gd3, E3⟩ := e4
  have u3 := E3.binds (ps := ["self"]) fun _ _ _ _ _ _ us hl => match us, hl with | [_], _ => rfl
  obtain ⟨me4, gd4, E4⟩ := e5
  have u4 := E4.binds (ps := ["self"]) fun _ _ _ _ _ _ us hl => match us, hl with | [_], _ => rfl
  obtain ⟨me5, gd5, E5⟩ := e6
  have u5 := E5.binds (ps := ["self", "thing"]) fun _ _ _ _ _ _ us hl => match us, hl with | [_, _], _ => rfl
  obtain ⟨me6, gd6, E6⟩ := e7
  have u6 := E6.binds (ps := ["self", "other"]) fun _ _ _ _ _ _ us hl => match us, hl with | [_, _], _ => rfl
  obtain ⟨me7, gd7, E7⟩ := e8
  have u7 := E7.binds (ps := ["self", "setting"]) fun _ _ _ _ _ _ us hl => match us, hl with | [_, _], _ => rfl
  obtain ⟨me8, gd8, E8⟩ := e9
  have u8 := E8.binds (ps := ["self"]) fun _ _ _ _ _ _ us hl => match us, hl with | [_], _ => rfl
  obtain ⟨me9, gd9, E9⟩ := e10
  have u9 := E9.binds (ps := ["self", "other"]) fun _ _ _ _ _ _ us hl => match us, hl with | [_, _], _ => rfl
  obtain ⟨me10, gd10, E10⟩ := e11
  have u10 := E10.binds (ps := ["self", "signs", "settings"]) fun _ _ _ _ _ _ us hl => match us, hl with | [_, _, _], _ => rfl
  obtain ⟨me11, gd11, E11⟩ := e12
  have u11 := E11.binds (ps := ["self"]) fun _ _ _ _ _ _ us hl => match us, hl with | [_], _ => rfl
  obtain ⟨me12, gd12, E12⟩ := e13
  have u12 := E12.binds (ps := ["self", "codes"]) fun _ _ _ _ _ _ us hl => match us, hl with | [_, _], _ => rfl
  obtain ⟨me13, gd13, E13⟩ := e14
  have u13 := E13.binds (ps := ["self"]) fun _ _ _ _ _ _ us hl => match us, hl with | [_], _ => rfl
  obtain ⟨me14, gd14, E14⟩ := e15
  have u14 := E14.binds (ps := ["self"]) fun _ _ _ _ _ _ us hl => match us, hl with | [_], _ => rfl
  obtain ⟨me15, gd15, E15⟩ := e16
  have u15 := E15.binds (ps := ["self"]) fun _ _ _ _ _ _ us hl => match us, hl with | [_], _ => rfl
  obtain ⟨me16, gd16, E16⟩ := e17
  have u16 := E16.binds (ps := ["self", "other"]) fun _ _ _ _ _ _ us hl => match us, hl with | [_, _], _ => rfl
  have e := hfa.symm.trans (PySem.W.mg_of X G n29)
  cases e
  obtain ⟨oc, od, kV, doc, pm, an, cdv, ct, osl, efd, lk, hcc⟩ := F29.ex
  obtain ⟨cd, rfl⟩ : ∃ cd, cdv = Value.ref cd := by cases cdv with | ref cd => exact ⟨cd, rfl⟩ | _ => cases hcc
  subst efd
  have FC : FunC K "law" "law" s_law _ fa cd := ⟨oc, od, kV, doc, pm, an, ct, osl, rfl, lk, hcc⟩
  refine ⟨PySem.W.fnOf "law" "law" (defArgs s_law) (defBody s_law) (defScope s_law) .none kV doc pm an (.ref cd) ct, cd, fun s v => ?_, ⟨oc, od, kV, doc, pm, an, ct, osl, lk⟩, fun base Pt _ _ TB => ?_⟩
  · exact .of_eq rfl
  have R_BadCode : Rai l.prog w K mg base 1 "BadCode" (He.ga K "BadCode") "index" := rai_BadCode g_BadCode sx_BadCode
  have R_TooMany : Rai l.prog w K mg base 1 "TooMany" (He.ga K "TooMany") "n" := rai_TooMany g_TooMany sx_TooMany
  have R_Clash : Rai l.prog w K mg base 1 "Clash" (He.ga K "Clash") "name" := rai_Clash g_Clash sx_Clash
  have R_NotTree : Rai l.prog w K mg base 1 "NotTree" (He.ga K "NotTree") "index" := rai_NotTree g_NotTree sx_NotTree
  have c_name_of : Cal l.prog w K mg base 1 "name_of" ["literal"] (sp_name_of K) := ⟨f0, fd0, ok_name_of F0, PySem.W.mg_of X G n0, F0.kp, b0⟩
  have c_opposite : Cal l.prog w K mg base 1 "opposite" ["literal"] (sp_opposite K) := ⟨f1, fd1, ok_opposite F1, PySem.W.mg_of X G n1, F1.kp, b1⟩
  have c_is_list : Cal l.prog w K mg base 1 "is_list" ["thing"] (sp_is_list K) := ⟨f2, fd2, ok_is_list F2 T0.toBi, PySem.W.mg_of X G n2, F2.kp, b2⟩
  have c_is_literal : Cal l.prog w K mg base 2 "is_literal" ["thing", "names"] (sp_is_literal K) := ⟨f3, fd3, ok_is_literal F3 T0.toBi c_name_of, PySem.W.mg_of X G n3, F3.kp, b3⟩
  have c_first_wrong : Cal l.prog w K mg base 3 "first_wrong" ["things", "names"] (sp_first_wrong K) := ⟨f4, fd4, ok_first_wrong F4 T0.toBi c_is_list c_name_of c_is_literal, PySem.W.mg_of X G n4, F4.kp, b4⟩
  have c_ascending : Cal l.prog w K mg base 1 "ascending" ["literals", "names"] (sp_ascending K) := ⟨f5, fd5, ok_ascending F5 T0.toBi, PySem.W.mg_of X G n5, F5.kp, b5⟩
  have c_is_name : Cal l.prog w K mg base 1 "is_name" ["thing"] (sp_is_name K) := ⟨f6, fd6, ok_is_name F6 T0.toGb, PySem.W.mg_of X G n6, F6.kp, b6⟩
  have c_checked_names : Cal l.prog w K mg base 2 "checked_names" ["things", "known"] (sp_checked_names K) := ⟨f7, fd7, ok_checked_names F7 T0.toGb c_is_name, PySem.W.mg_of X G n7, F7.kp, b7⟩
  have cE_is_list : Cal l.prog w K mg base 1 "is_list" ["thing"] (sp_is_listE K) := ⟨f2, fd2, ok_is_listE F2 T0.toBi, PySem.W.mg_of X G n2, F2.kp, b2⟩
  have cE_is_literal : Cal l.prog w K mg base 2 "is_literal" ["thing", "names"] (sp_is_literalE K) := ⟨f3, fd3, ok_is_literalE F3 T0.toBi c_name_of, PySem.W.mg_of X G n3, F3.kp, b3⟩
  have cE_first_wrong : Cal l.prog w K mg base 3 "first_wrong" ["things", "names"] (sp_first_wrongE K) := ⟨f4, fd4, ok_first_wrongE F4 T0.toBi cE_is_list c_name_of cE_is_literal, PySem.W.mg_of X G n4, F4.kp, b4⟩
  have cW_is_list : Cal l.prog w K mg base 1 "is_list" ["thing"] (sp_is_listW K C) := ⟨f2, fd2, ok_is_listW F2 T0.toBi, PySem.W.mg_of X G n2, F2.kp, b2⟩
  have c_checked_clauses : Cal l.prog w K mg base 4 "checked_clauses" ["clauses", "names"] (sp_checked_clauses K) := ⟨f8, fd8, ok_checked_clauses F8 T0.toGb c_first_wrong c_ascending, PySem.W.mg_of X G n8, F8.kp, b8⟩
  have c_open_ones : Cal l.prog w K mg base 2 "open_ones" ["clause", "so"] (sp_open_ones K) := ⟨f9, fd9, ok_open_ones F9 c_opposite, PySem.W.mg_of X G n9, F9.kp, b9⟩
  have c_chase : Cal l.prog w K mg base 3 "chase" ["clauses", "setting"] (sp_chase K) := ⟨f10, fd10, ok_chase F10 T0.toGb c_open_ones, PySem.W.mg_of X G n10, F10.kp, b10⟩
  have c_are_same : Cal l.prog w K mg base 1 "are_same" ["names", "others"] (sp_are_same K) := ⟨f11, fd11, ok_are_same F11 T0.toGc, PySem.W.mg_of X G n11, F11.kp, b11⟩
  have c_full_settings : Cal l.prog w K mg base 1 "full_settings" ["names"] (sp_full_settings K) := ⟨f12, fd12, ok_full_settings F12 T0.toGc, PySem.W.mg_of X G n12, F12.kp, b12⟩
  have c_checked_settings : Cal l.prog w K mg base 4 "checked_settings" ["settings", "names"] (sp_checked_settings K) := ⟨f13, fd13, ok_checked_settings F13 T0.toGc c_first_wrong c_ascending, PySem.W.mg_of X G n13, F13.kp, b13⟩
  have c_filled0 : Cal l.prog w K mg base 3 "filled" ["clauses", "names", "setting"] (sp_filled K 0) := ⟨f14, fd14, ok_filled0, PySem.W.mg_of X G n14, F14.kp, b14⟩
  have c_filled1 : Cal l.prog w K mg base 4 "filled" ["clauses", "names", "setting"] (sp_filled K 1) := ⟨f14, fd14, ok_filled F14 T0.toGc c_chase c_ascending c_filled0, PySem.W.mg_of X G n14, F14.kp, b14⟩
  have c_filled2 : Cal l.prog w K mg base 5 "filled" ["clauses", "names", "setting"] (sp_filled K 2) := ⟨f14, fd14, ok_filled F14 T0.toGc c_chase c_ascending c_filled1, PySem.W.mg_of X G n14, F14.kp, b14⟩
  have c_filled3 : Cal l.prog w K mg base 6 "filled" ["clauses", "names", "setting"] (sp_filled K 3) := ⟨f14, fd14, ok_filled F14 T0.toGc c_chase c_ascending c_filled2, PySem.W.mg_of X G n14, F14.kp, b14⟩
  have c_filled4 : Cal l.prog w K mg base 7 "filled" ["clauses", "names", "setting"] (sp_filled K 4) := ⟨f14, fd14, ok_filled F14 T0.toGc c_chase c_ascending c_filled3, PySem.W.mg_of X G n14, F14.kp, b14⟩
  have c_filled5 : Cal l.prog w K mg base 8 "filled" ["clauses", "names", "setting"] (sp_filled K 5) := ⟨f14, fd14, ok_filled F14 T0.toGc c_chase c_ascending c_filled4, PySem.W.mg_of X G n14, F14.kp, b14⟩
  have c_filled6 : Cal l.prog w K mg base 9 "filled" ["clauses", "names", "setting"] (sp_filled K 6) := ⟨f14, fd14, ok_filled F14 T0.toGc c_chase c_ascending c_filled5, PySem.W.mg_of X G n14, F14.kp, b14⟩
  have c_filled7 : Cal l.prog w K mg base 10 "filled" ["clauses", "names", "setting"] (sp_filled K 7) := ⟨f14, fd14, ok_filled F14 T0.toGc c_chase c_ascending c_filled6, PySem.W.mg_of X G n14, F14.kp, b14⟩
  have c_filled8 : Cal l.prog w K mg base 11 "filled" ["clauses", "names", "setting"] (sp_filled K 8) := ⟨f14, fd14, ok_filled F14 T0.toGc c_chase c_ascending c_filled7, PySem.W.mg_of X G n14, F14.kp, b14⟩
  have c_filled9 : Cal l.prog w K mg base 12 "filled" ["clauses", "names", "setting"] (sp_filled K 9) := ⟨f14, fd14, ok_filled F14 T0.toGc c_chase c_ascending c_filled8, PySem.W.mg_of X G n14, F14.kp, b14⟩
  have c_filled10 : Cal l.prog w K mg base 13 "filled" ["clauses", "names", "setting"] (sp_filled K 10) := ⟨f14, fd14, ok_filled F14 T0.toGc c_chase c_ascending c_filled9, PySem.W.mg_of X G n14, F14.kp, b14⟩
  have c_filled11 : Cal l.prog w K mg base 14 "filled" ["clauses", "names", "setting"] (sp_filled K 11) := ⟨f14, fd14, ok_filled F14 T0.toGc c_chase c_ascending c_filled10, PySem.W.mg_of X G n14, F14.kp, b14⟩
  have c_filled12 : Cal l.prog w K mg base 15 "filled" ["clauses", "names", "setting"] (sp_filled K 12) := ⟨f14, fd14, ok_filled F14 T0.toGc c_chase c_ascending c_filled11, PySem.W.mg_of X G n14, F14.kp, b14⟩
  have c_filled13 : Cal l.prog w K mg base 16 "filled" ["clauses", "names", "setting"] (sp_filled K 13) := ⟨f14, fd14, ok_filled F14 T0.toGc c_chase c_ascending c_filled12, PySem.W.mg_of X G n14, F14.kp, b14⟩
  have c_filled14 : Cal l.prog w K mg base 17 "filled" ["clauses", "names", "setting"] (sp_filled K 14) := ⟨f14, fd14, ok_filled F14 T0.toGc c_chase c_ascending c_filled13, PySem.W.mg_of X G n14, F14.kp, b14⟩
  have c_filled15 : Cal l.prog w K mg base 18 "filled" ["clauses", "names", "setting"] (sp_filled K 15) := ⟨f14, fd14, ok_filled F14 T0.toGc c_chase c_ascending c_filled14, PySem.W.mg_of X G n14, F14.kp, b14⟩
  have k_Code : Mak l.prog w K mg base 5 "Code" C ["self", "signs", "clauses", "helpers"] (sp_Code_init K C) := ⟨g0, gd0, ⟨clCode.mks, me0.at_, me0.fn, clCode.kc⟩, ok_Code_init E0 T0.toGb TC c_checked_names c_checked_clauses, PySem.W.mg_of X G clCode.ns, u0⟩
  have d_Code : MakD l.prog w K mg base 5 "Code" C ["self", "signs", "clauses", "helpers"] [.ref e0] (sp_Code_init K C) := ⟨g0, gd0, et0, ⟨clCode.mks, me0.at_, me0.fn, clCode.kc⟩, ok_Code_init E0 T0.toGb TC c_checked_names c_checked_clauses, PySem.W.mg_of X G clCode.ns, uu0, ew0⟩
  have k_Rule : Mak l.prog w K mg base 5 "Rule" CR ["self", "signs", "settings"] (sp_Rule_init K CR) := ⟨g10, gd10, ⟨clRule.mks, me10.at_, me10.fn, clRule.kc⟩, ok_Rule_init E10 T0 TR c_checked_names c_checked_settings, PySem.W.mg_of X G clRule.ns, u10⟩
  have o_len : OwnLen l.prog w K mg base 1 C (sp_Code_len K C) := ⟨g1, gd1, ok_Code_len E1 T0.toGb TC, me1.at_, me1.fn, u1⟩
  have m_settings : Met l.prog w K mg base 2 CR "settings" ["self"] (sp_Rule_settings K CR) := ⟨g11, gd11, clRule.cl, me11, ok_Rule_settings E11 T0 TR c_full_settings, u11⟩
  have m_signs : Met l.prog w K mg base 1 C "signs" ["self"] (sp_Code_signs K C) := ⟨g2, gd2, clCode.cl, me2, ok_Code_signs E2 T0.toGc TC, u2⟩
  have m_helpers : Met l.prog w K mg base 1 C "helpers" ["self"] (sp_Code_helpers K C) := ⟨g3, gd3, clCode.cl, me3, ok_Code_helpers E3 T0.toGc TC, u3⟩
  have m_clauses : Met l.prog w K mg base 1 C "clauses" ["self"] (sp_Code_clauses K C) := ⟨g4, gd4, clCode.cl, me4, ok_Code_clauses E4 T0.toGc TC, u4⟩
  have o_in : OwnSp l.prog w K mg base 4 C "__contains__" ["self", "thing"] (sp_Code_containsE K C) := ⟨g5, gd5, ok_Code_containsE E5 TC cE_first_wrong c_ascending, me5.at_, me5.fn, u5⟩
  have o_eq : OwnSp l.prog w K mg base 5 C "__eq__" ["self", "other"] (sp_Code_eq K C) := ⟨g6, gd6, ok_Code_eq E6 T0.toGc TC ISCode g_Code o_len o_in c_are_same, me6.at_, me6.fn, u6⟩
  have m_fill : Met l.prog w K mg base 19 C "fill" ["self", "setting"] (sp_Code_fill K C) := ⟨g7, gd7, clCode.cl, me7, ok_Code_fill E7 TC c_filled15, u7⟩
  have m_rule : Met l.prog w K mg base 20 C "rule" ["self"] (sp_Code_rule K C CR) := ⟨g8, gd8, clCode.cl, me8, ok_Code_rule E8 T0 TC c_full_settings m_fill k_Rule, u8⟩
  have o_add : OwnSp l.prog w K mg base 7 C "__add__" ["self", "other"] (sp_addN K C) := ⟨g9, gd9, ok_addN E9 T0.toGb TC k_Code, me9.at_, me9.fn, u9⟩
  have cX_check_codes : CalX l.prog w K mg base 3 "check_codes" ["codes"] (sp_check_codes K C (He.ga K "BadCode")) := ⟨f15, fd15, ok_check_codes F15 T0.toGb OFCode ISCode g_Code R_BadCode cW_is_list, PySem.W.mg_of X G n15, F15.kp, b15⟩
  have cX_check_code : CalX l.prog w K mg base 3 "check_code" ["code", "ahead"] (sp_check_code K C (He.ga K "TooMany") (He.ga K "Clash")) := ⟨f16, fd16, ok_check_code F16 T0 TC R_TooMany R_Clash, PySem.W.mg_of X G n16, F16.kp, b16⟩
  have kX_Web : MakX l.prog w K mg base 22 "Web" CW ["self", "codes"] (sp_webX K C CW (He.ga K "BadCode") (He.ga K "TooMany") (He.ga K "Clash") (He.ga K "NotTree")) := ⟨g12, gd12, ⟨clWeb.mks, me12.at_, me12.fn, clWeb.kc⟩, ok_webX E12 T0 TC TW sfCode R_NotTree cX_check_codes cX_check_code m_rule m_settings o_add, PySem.W.mg_of X G clWeb.ns, u12⟩
  have oW_len : OwnLen l.prog w K mg base 1 CW (sp_Web_len K C CW) := ⟨g14, gd14, ok_Web_len E14 T0.toGc TW, me14.at_, me14.fn, u14⟩
  have mW_codes : Met l.prog w K mg base 1 CW "codes" ["self"] (sp_Web_codes K C CW) := ⟨g13, gd13, clWeb.cl, me13, ok_Web_codes E13 T0.toGc TW, u13⟩
  have mW_code : Met l.prog w K mg base 1 CW "code" ["self"] (sp_Web_code K C CW) := ⟨g15, gd15, clWeb.cl, me15, ok_Web_code E15 TW, u15⟩
  have WO : WebO K C CW := ⟨OFWeb, ISCode, nfW, kcW⟩
  have oW_eq : OwnSp l.prog w K mg base 7 CW "__eq__" ["self", "other"] (sp_Web_eq K C CW) := ⟨g16, gd16, ok_Web_eq E16 T0.toGc (PySem.W.mg_none_of X G z_zip) TW ISWeb g_Web oW_len o_eq, me16.at_, me16.fn, u16⟩
  have oW_eqY : OwnSp l.prog w K mg base 7 CW "__eq__" ["self", "other"] (sp_Web_eqY K C CW) := ⟨g16, gd16, ok_Web_eqY E16 T0.toGc (PySem.W.mg_none_of X G z_zip) TW WO g_Web oW_len o_eq, me16.at_, me16.fn, u16⟩
  have c__law_draw : Cal l.prog w K mg base 1 "_law_draw" ["_law_stream", "_law_many"] (sp__law_draw K) := ⟨f17, fd17, ok__law_draw F17 T0.toGc, PySem.W.mg_of X G n17, F17.kp, b17⟩
  have c__law_pick : Cal l.prog w K mg base 2 "_law_pick" ["_law_stream", "_law_things"] (sp__law_pick K) := ⟨f18, fd18, ok__law_pick F18 T0.toGc c__law_draw, PySem.W.mg_of X G n18, F18.kp, b18⟩
  have cT__law_pick : Cal l.prog w K mg base 2 "_law_pick" ["_law_stream", "_law_things"] (sp_pickG K (ThR K C)) := ⟨f18, fd18, ok_pickG F18 T0.toGc c__law_draw, PySem.W.mg_of X G n18, F18.kp, b18⟩
  have cW__law_pick : Cal l.prog w K mg base 2 "_law_pick" ["_law_stream", "_law_things"] (sp_pickG K (WhR K C)) := ⟨f18, fd18, ok_pickG F18 T0.toGc c__law_draw, PySem.W.mg_of X G n18, F18.kp, b18⟩
  have c__law_mixed : Cal l.prog w K mg base 2 "_law_mixed" ["_law_stream", "_law_things"] (sp__law_mixed K) := ⟨f19, fd19, ok__law_mixed F19 T0.toGc c__law_draw, PySem.W.mg_of X G n19, F19.kp, b19⟩
  have cT__law_mixed : Cal l.prog w K mg base 2 "_law_mixed" ["_law_stream", "_law_things"] (sp_mixG K TT) := ⟨f19, fd19, ok_mixG F19 T0.toGc c__law_draw, PySem.W.mg_of X G n19, F19.kp, b19⟩
  have cC__law_mixed : Cal l.prog w K mg base 2 "_law_mixed" ["_law_stream", "_law_things"] (sp_mixG K (CodeR C)) := ⟨f19, fd19, ok_mixG F19 T0.toGc c__law_draw, PySem.W.mg_of X G n19, F19.kp, b19⟩
  have c__law_fresh : Cal l.prog w K mg base 3 "_law_fresh" ["_law_stream", "_law_taken"] (sp__law_fresh K) := ⟨f20, fd20, ok__law_fresh F20 T0.toGc c__law_draw c__law_pick, PySem.W.mg_of X G n20, F20.kp, b20⟩
  have c__law_names : Cal l.prog w K mg base 4 "_law_names" ["_law_stream", "_law_many"] (sp__law_names K) := ⟨f21, fd21, ok__law_names F21 T0.toGc c__law_fresh, PySem.W.mg_of X G n21, F21.kp, b21⟩
  have c__law_sided : Cal l.prog w K mg base 3 "_law_sided" ["_law_stream", "_law_names_here"] (sp__law_sided K) := ⟨f22, fd22, ok__law_sided F22 T0.toGc c__law_draw c__law_mixed, PySem.W.mg_of X G n22, F22.kp, b22⟩
  have c__law_clause : Cal l.prog w K mg base 4 "_law_clause" ["_law_stream", "_law_names_here", "_law_most"] (sp__law_clause K) := ⟨f23, fd23, ok__law_clause F23 T0.toGc c__law_draw c__law_sided, PySem.W.mg_of X G n23, F23.kp, b23⟩
  have c__law_same : CalG l.prog w K mg base 1 "_law_same" ["_law_found", "_law_due_here"] (sp__law_same K) := ⟨f24, fd24, ok__law_same F24 T0.toGc, PySem.W.mg_of X G n24, F24.kp, b24⟩
  have cF__law_same : CalG l.prog w K mg base 1 "_law_same" ["_law_found", "_law_due_here"] (sp__law_sameF K) := ⟨f24, fd24, ok__law_sameF F24 T0.toGc, PySem.W.mg_of X G n24, F24.kp, b24⟩
  have c__law_due : Cal l.prog w K mg base 3 "_law_due" ["_law_things"] (sp__law_due K C) := ⟨f25, fd25, ok__law_due F25 T0.toGc OFCode ISCode g_Code m_signs m_helpers, PySem.W.mg_of X G n25, F25.kp, b25⟩
  have c__law_drawn_codes : Cal l.prog w K mg base 7 "_law_drawn_codes" ["_law_stream"] (sp__law_drawn_codes K C) := ⟨f26, fd26, ok__law_drawn_codes F26 T0.toGc c__law_draw c__law_names c__law_mixed c__law_clause k_Code, PySem.W.mg_of X G n26, F26.kp, b26⟩
  have c__law_web_right : CalG l.prog w K mg base 25 "_law_web_right" ["_law_stream", "_law_things"] (sp__law_web_right K C) := ⟨f27, fd27, ok__law_web_right F27 T0.toGc TC sfCode NECode NEWeb WO hdv kX_Web d_Code k_Code o_add o_eq oW_eq oW_eqY oW_len mW_codes mW_code m_signs m_helpers m_clauses c__law_mixed cT__law_mixed cC__law_mixed c__law_same, PySem.W.mg_of X G n27, F27.kp, b27⟩
  have RX : RefX l.prog w K mg base C CW (He.ga K "BadCode") (He.ga K "TooMany") (He.ga K "Clash") (He.ga K "NotTree") := ⟨⟨f28, fd28, F28, PySem.W.mg_of X G n28, b28⟩, g_BadCode, g_TooMany, g_Clash, g_NotTree, sx_BadCode.xf, sx_TooMany.xf, sx_Clash.xf, sx_NotTree.xf, sx_BadCode.no, sx_TooMany.no, sx_Clash.no, sx_NotTree.no, ex_BadCode_BadCode, ex_TooMany_BadCode, ex_TooMany_TooMany, ex_Clash_BadCode, ex_Clash_TooMany, ex_Clash_Clash, ex_NotTree_BadCode, ex_NotTree_TooMany, ex_NotTree_Clash, ex_NotTree_NotTree, T0.toGc, oW_len⟩
  exact ok_law FC T0.toGc TB RX g_Web c__law_drawn_codes c__law_draw cT__law_pick cW__law_pick c__law_due cF__law_same c__law_web_right kX_Web
end My

set_option Elab.async false
set_option linter.all false
set_option maxRecDepth 100000
set_option maxHeartbeats 0
namespace Hq
open PySem PySem.Spec PyProof.Rows L2 L3
section
variable {K : PySem.W.Frag}
theorem ns_of {x : Str} (c : (He.Fa.glo x).ok K = true) : PySem.W.nsIn K mainGlobals x = some (some (.ref (He.ga K x))) := He.eqO_ok c
theorem ns_none {x : Str} (c : (He.Fa.free x).ok K = true) : PySem.W.nsIn K mainGlobals x = some none := He.eqO_ok c
theorem ns_str {x z : Str} (c : (He.Fa.str x z).ok K = true) : ∃ t, PySem.W.nsIn K mainGlobals x = some (some (.str z t)) := by
  have c2 : (match PySem.W.nsIn K mainGlobals x with
    | some (some (.str y _)) => decide (y = z)
    | _ => false) = true := c
  cases e : PySem.W.nsIn K mainGlobals x with
  | none => rw [e] at c2; cases c2
  | some o =>
    rw [e] at c2
    cases o with
    | none => cases c2
    | some v =>
      cases v with
      | str y t =>
        have ej : y = z := of_decide_eq_true c2
        rw [ej]
        exact ⟨t, rfl⟩
      | _ => cases c2
theorem ns_int {x : Str} {i : Int} (c : (He.Fa.int x i).ok K = true) : ∃ t, PySem.W.nsIn K mainGlobals x = some (some (.int i t)) := by
  have c2 : (match PySem.W.nsIn K mainGlobals x with
    | some (some (.int j _)) => decide (j = i)
    | _ => false) = true := c
  cases e : PySem.W.nsIn K mainGlobals x with
  | none => rw [e] at c2; cases c2
  | some o =>
    rw [e] at c2
    cases o with
    | none => cases c2
    | some v =>
      cases v with
      | int j t =>
        have ej : j = i := of_decide_eq_true c2
        rw [ej]
        exact ⟨t, rfl⟩
      | _ => cases c2
theorem fun_of {x qn : Str} {st : Stmt} {f : Addr} (h : ∃ fd, FunD K x qn (defArgs st) (defBody st) (defScope st) [] [] f fd) : ∃ fd, Fun K x qn st f fd := by
  obtain ⟨fd, ⟨oc, od, dV, kV, doc, pm, an, cdv, ct, osl, e, l, c, d, _⟩, kp⟩ := h
  rcases d with ⟨_, rfl⟩ | ⟨h, _⟩
  · exact ⟨fd, ⟨oc, od, kV, doc, pm, an, cdv, ct, osl, e, l, c⟩, kp⟩
  · exact absurd rfl h
theorem at1_of {x : Str} {st : Stmt} (g : (He.Fa.glo x).ok K = true) (h : ∃ fd, FunD K x x (defArgs st) (defBody st) (defScope st) [] [] (He.ga K x) fd) : My.At1 K x st (He.ga K x) := ⟨ns_of g, fun_of h⟩
theorem atm_of {x m qn : Str} {st : Stmt} (g : (He.Fa.meth x m).ok K = true) (h : ∃ fd, FunD K m qn (defArgs st) (defBody st) (defScope st) [] [] (He.ma K (He.ga K x) m) fd) : My.AtM K (He.ga K x) m qn st (He.ma K (He.ga K x) m) := ⟨He.meth_ok g, fun_of h⟩
theorem ate_of {x m qn : Str} {st : Stmt} {e : Addr} (g : (He.Fa.meth x m).ok K = true) (h : ∃ fd, FunD K m qn (defArgs st) (defBody st) (defScope st) [.ref e] [] (He.ma K (He.ga K x) m) fd) : My.AtE K (He.ga K x) m qn st e (He.ma K (He.ga K x) m) := ⟨He.meth_ok g, h⟩
theorem atc_of {x : Str} (g : (He.Fa.glo x).ok K = true) (c : (He.Fa.cls x).ok K = true) (m : (He.Fa.mkr x).ok K = true) : My.AtC K x (He.ga K x) := by
  obtain ⟨c1, m2⟩ := He.ba m
  obtain ⟨c2, m3⟩ := He.ba m2
  obtain ⟨c3, c4⟩ := He.ba m3
  exact ⟨ns_of g, He.cls_ok c, c1, c4⟩
/-- the default of Code -/
def e0 (K : PySem.W.Frag) : Addr := He.dflAt ("Code", some "__init__") 0 K
/-- an empty tuple -/
def emB (K : PySem.W.Frag) (a : Addr) : Bool := match K.lookup a with
  | some ⟨.type c, _, .seq its _, _⟩ => decide (c = "tuple") && decide (its.size = 0)
  | _ => false
theorem emB_ok {a : Addr} (h : emB K a = true) : ∃ (ed : Option Addr) (en : Nat) (esl : Array (Option Value)), K.lookup a = some ⟨.type "tuple", ed, .seq #[] en, esl⟩ := by
  unfold emB at h
  cases q : K.lookup a with
  | none => rw [q] at h; cases h
  | some o =>
    obtain ⟨oc, od, dt, osl⟩ := o
    rw [q] at h
    cases oc with
    | type c =>
      cases dt with
      | seq its n =>
        obtain ⟨h1, h2⟩ := He.ba (show (decide (c = "tuple") && decide (its.size = 0)) = true from h)
        cases of_decide_eq_true h1
        cases Array.eq_empty_of_size_eq_zero (of_decide_eq_true h2)
        exact ⟨od, n, osl, rfl⟩
      | _ => cases h
    | _ => cases dt <;> cases h
end
/-! ### facts -/
def ns0 : List PySem.Str := ["_wall", "__name__", "OpenError", "BadNames", "TooMany", "BadSetting", "NoSign", "BadClause", "Clash", "BadCode", "NotTree", "LETTERS", "is_list", "is_name", "checked_names", "name_of", "opposite", "is_literal", "first_wrong", "ascending"]
def ns1 : List PySem.Str := ["full_settings", "literals_of", "MOST_SIGNS", "Rule", "checked_settings", "forced_literals", "open_ones", "chase", "filled", "checked_clauses", "Code", "are_same", "check_setting", "Web", "check_codes", "check_code", "_law_draw", "_law_pick", "_law_mixed", "_law_same"]
def ns2 : List PySem.Str := ["_law_fresh", "_law_names", "_law_sided", "_law_clause", "_law_end", "_law_due", "_law_drawn_codes", "_law_web_right"]
def ns : List PySem.Str := ns0 ++ ns1 ++ ns2
def fa0 : List He.Fa := [.glo "Code", .cls "Code", .mkr "Code", .glo "Rule", .cls "Rule", .mkr "Rule", .glo "Web", .cls "Web", .mkr "Web", .glo "name_of", .glo "opposite", .glo "is_list", .glo "is_literal", .glo "first_wrong", .glo "ascending", .glo "is_name", .glo "checked_names", .glo "checked_clauses", .glo "open_ones", .glo "chase"]
def fa1 : List He.Fa := [.glo "are_same", .glo "full_settings", .glo "checked_settings", .glo "filled", .glo "check_codes", .glo "check_code", .glo "_law_draw", .glo "_law_pick", .glo "_law_mixed", .glo "_law_fresh", .glo "_law_names", .glo "_law_sided", .glo "_law_clause", .glo "_law_same", .glo "_law_due", .glo "_law_drawn_codes", .glo "_law_web_right", .glo "_law_end", .glo "law", .meth "Code" "__init__"]
def fa2 : List He.Fa := [.meth "Code" "__len__", .meth "Code" "signs", .meth "Code" "helpers", .meth "Code" "clauses", .meth "Code" "__contains__", .meth "Code" "__eq__", .meth "Code" "fill", .meth "Code" "rule", .meth "Code" "__add__", .meth "Rule" "__init__", .meth "Rule" "settings", .meth "Web" "__init__", .meth "Web" "codes", .meth "Web" "__len__", .meth "Web" "code", .meth "Web" "__eq__", .noat "Code" "sign_row", .noat "Code" "helper_row", .noat "Code" "names", .noat "Code" "clause_row"]
def fa3 : List He.Fa := [.noat "Rule" "names", .noat "Rule" "allowed", .noat "Web" "row", .noat "Web" "tables", .noat "Web" "joined", .glo "BadCode", .glo "TooMany", .glo "Clash", .glo "NotTree", .exm "BadCode" "BadCode" true, .exm "TooMany" "BadCode" false, .exm "TooMany" "TooMany" true, .exm "Clash" "BadCode" false, .exm "Clash" "TooMany" false, .exm "Clash" "Clash" true, .exm "NotTree" "BadCode" false, .exm "NotTree" "TooMany" false, .exm "NotTree" "Clash" false, .exm "NotTree" "NotTree" true, .free "len"]
def fa4 : List He.Fa := [.free "tuple", .free "list", .free "str", .free "int", .free "all", .free "any", .free "isinstance", .free "enumerate", .free "range", .free "repr", .free "bool", .free "zip", .str "LETTERS" My.g_LETTERS, .int "MOST_SIGNS" 6]
def fa : List He.Fa := fa0 ++ fa1 ++ fa2 ++ fa3 ++ fa4
def fn0 : List He.DefD := [⟨("name_of", none), "name_of", "name_of", L2.defArgs My.s_name_of, L2.defBody My.s_name_of, L2.defScope My.s_name_of, [], []⟩, ⟨("opposite", none), "opposite", "opposite", L2.defArgs My.s_opposite, L2.defBody My.s_opposite, L2.defScope My.s_opposite, [], []⟩, ⟨("is_list", none), "is_list", "is_list", L2.defArgs My.s_is_list, L2.defBody My.s_is_list, L2.defScope My.s_is_list, [], []⟩, ⟨("is_literal", none), "is_literal", "is_literal", L2.defArgs My.s_is_literal, L2.defBody My.s_is_literal, L2.defScope My.s_is_literal, [], []⟩, ⟨("first_wrong", none), "first_wrong", "first_wrong", L2.defArgs My.s_first_wrong, L2.defBody My.s_first_wrong, L2.defScope My.s_first_wrong, [], []⟩, ⟨("ascending", none), "ascending", "ascending", L2.defArgs My.s_ascending, L2.defBody My.s_ascending, L2.defScope My.s_ascending, [], []⟩, ⟨("is_name", none), "is_name", "is_name", L2.defArgs My.s_is_name, L2.defBody My.s_is_name, L2.defScope My.s_is_name, [], []⟩, ⟨("checked_names", none), "checked_names", "checked_names", L2.defArgs My.s_checked_names, L2.defBody My.s_checked_names, L2.defScope My.s_checked_names, [], []⟩, ⟨("checked_clauses", none), "checked_clauses", "checked_clauses", L2.defArgs My.s_checked_clauses, L2.defBody My.s_checked_clauses, L2.defScope My.s_checked_clauses, [], []⟩, ⟨("open_ones", none), "open_ones", "open_ones", L2.defArgs My.s_open_ones, L2.defBody My.s_open_ones, L2.defScope My.s_open_ones, [], []⟩]
def fn1 : List He.DefD := [⟨("chase", none), "chase", "chase", L2.defArgs My.s_chase, L2.defBody My.s_chase, L2.defScope My.s_chase, [], []⟩, ⟨("are_same", none), "are_same", "are_same", L2.defArgs My.s_are_same, L2.defBody My.s_are_same, L2.defScope My.s_are_same, [], []⟩, ⟨("full_settings", none), "full_settings", "full_settings", L2.defArgs My.s_full_settings, L2.defBody My.s_full_settings, L2.defScope My.s_full_settings, [], []⟩, ⟨("checked_settings", none), "checked_settings", "checked_settings", L2.defArgs My.s_checked_settings, L2.defBody My.s_checked_settings, L2.defScope My.s_checked_settings, [], []⟩, ⟨("filled", none), "filled", "filled", L2.defArgs My.s_filled, L2.defBody My.s_filled, L2.defScope My.s_filled, [], []⟩, ⟨("check_codes", none), "check_codes", "check_codes", L2.defArgs My.s_check_codes, L2.defBody My.s_check_codes, L2.defScope My.s_check_codes, [], []⟩, ⟨("check_code", none), "check_code", "check_code", L2.defArgs My.s_check_code, L2.defBody My.s_check_code, L2.defScope My.s_check_code, [], []⟩, ⟨("_law_draw", none), "_law_draw", "_law_draw", L2.defArgs My.s__law_draw, L2.defBody My.s__law_draw, L2.defScope My.s__law_draw, [], []⟩, ⟨("_law_pick", none), "_law_pick", "_law_pick", L2.defArgs My.s__law_pick, L2.defBody My.s__law_pick, L2.defScope My.s__law_pick, [], []⟩, ⟨("_law_mixed", none), "_law_mixed", "_law_mixed", L2.defArgs My.s__law_mixed, L2.defBody My.s__law_mixed, L2.defScope My.s__law_mixed, [], []⟩]
def fn2 : List He.DefD := [⟨("_law_fresh", none), "_law_fresh", "_law_fresh", L2.defArgs My.s__law_fresh, L2.defBody My.s__law_fresh, L2.defScope My.s__law_fresh, [], []⟩, ⟨("_law_names", none), "_law_names", "_law_names", L2.defArgs My.s__law_names, L2.defBody My.s__law_names, L2.defScope My.s__law_names, [], []⟩, ⟨("_law_sided", none), "_law_sided", "_law_sided", L2.defArgs My.s__law_sided, L2.defBody My.s__law_sided, L2.defScope My.s__law_sided, [], []⟩, ⟨("_law_clause", none), "_law_clause", "_law_clause", L2.defArgs My.s__law_clause, L2.defBody My.s__law_clause, L2.defScope My.s__law_clause, [], []⟩, ⟨("_law_same", none), "_law_same", "_law_same", L2.defArgs My.s__law_same, L2.defBody My.s__law_same, L2.defScope My.s__law_same, [], []⟩, ⟨("_law_due", none), "_law_due", "_law_due", L2.defArgs My.s__law_due, L2.defBody My.s__law_due, L2.defScope My.s__law_due, [], []⟩, ⟨("_law_drawn_codes", none), "_law_drawn_codes", "_law_drawn_codes", L2.defArgs My.s__law_drawn_codes, L2.defBody My.s__law_drawn_codes, L2.defScope My.s__law_drawn_codes, [], []⟩, ⟨("_law_web_right", none), "_law_web_right", "_law_web_right", L2.defArgs My.s__law_web_right, L2.defBody My.s__law_web_right, L2.defScope My.s__law_web_right, [], []⟩, ⟨("_law_end", none), "_law_end", "_law_end", L2.defArgs My.s__law_end, L2.defBody My.s__law_end, L2.defScope My.s__law_end, [], []⟩, ⟨("law", none), "law", "law", L2.defArgs My.s_law, L2.defBody My.s_law, L2.defScope My.s_law, [], []⟩]
def fn3 : List He.DefD := [⟨("Code", some "__init__"), "__init__", "Code.__init__", L2.defArgs My.s_Code_init, L2.defBody My.s_Code_init, L2.defScope My.s_Code_init, [.adr Hq.e0], []⟩, ⟨("Code", some "__len__"), "__len__", "Code.__len__", L2.defArgs My.s_Code_len, L2.defBody My.s_Code_len, L2.defScope My.s_Code_len, [], []⟩, ⟨("Code", some "signs"), "signs", "Code.signs", L2.defArgs My.s_Code_signs, L2.defBody My.s_Code_signs, L2.defScope My.s_Code_signs, [], []⟩, ⟨("Code", some "helpers"), "helpers", "Code.helpers", L2.defArgs My.s_Code_helpers, L2.defBody My.s_Code_helpers, L2.defScope My.s_Code_helpers, [], []⟩, ⟨("Code", some "clauses"), "clauses", "Code.clauses", L2.defArgs My.s_Code_clauses, L2.defBody My.s_Code_clauses, L2.defScope My.s_Code_clauses, [], []⟩, ⟨("Code", some "__contains__"), "__contains__", "Code.__contains__", L2.defArgs My.s_Code_contains, L2.defBody My.s_Code_contains, L2.defScope My.s_Code_contains, [], []⟩, ⟨("Code", some "__eq__"), "__eq__", "Code.__eq__", L2.defArgs My.s_Code_eq, L2.defBody My.s_Code_eq, L2.defScope My.s_Code_eq, [], []⟩, ⟨("Code", some "fill"), "fill", "Code.fill", L2.defArgs My.s_Code_fill, L2.defBody My.s_Code_fill, L2.defScope My.s_Code_fill, [], []⟩, ⟨("Code", some "rule"), "rule", "Code.rule", L2.defArgs My.s_Code_rule, L2.defBody My.s_Code_rule, L2.defScope My.s_Code_rule, [], []⟩, ⟨("Code", some "__add__"), "__add__", "Code.__add__", L2.defArgs My.s_Code_add, L2.defBody My.s_Code_add, L2.defScope My.s_Code_add, [], []⟩]
def fn4 : List He.DefD := [⟨("Rule", some "__init__"), "__init__", "Rule.__init__", L2.defArgs My.s_Rule_init, L2.defBody My.s_Rule_init, L2.defScope My.s_Rule_init, [], []⟩, ⟨("Rule", some "settings"), "settings", "Rule.settings", L2.defArgs My.s_Rule_settings, L2.defBody My.s_Rule_settings, L2.defScope My.s_Rule_settings, [], []⟩, ⟨("Web", some "__init__"), "__init__", "Web.__init__", L2.defArgs My.s_Web_init, L2.defBody My.s_Web_init, L2.defScope My.s_Web_init, [], []⟩, ⟨("Web", some "codes"), "codes", "Web.codes", L2.defArgs My.s_Web_codes, L2.defBody My.s_Web_codes, L2.defScope My.s_Web_codes, [], []⟩, ⟨("Web", some "__len__"), "__len__", "Web.__len__", L2.defArgs My.s_Web_len, L2.defBody My.s_Web_len, L2.defScope My.s_Web_len, [], []⟩, ⟨("Web", some "code"), "code", "Web.code", L2.defArgs My.s_Web_code, L2.defBody My.s_Web_code, L2.defScope My.s_Web_code, [], []⟩, ⟨("Web", some "__eq__"), "__eq__", "Web.__eq__", L2.defArgs My.s_Web_eq, L2.defBody My.s_Web_eq, L2.defScope My.s_Web_eq, [], []⟩]
def fn : List He.DefD := fn0 ++ fn1 ++ fn2 ++ fn3 ++ fn4
abbrev R : PySem.W.OpenRow := PySem.W.OpenLaw.row PySem.Challenge.rw_lastopen_k62_webs_made_and_refused
def fx (K : PySem.W.Frag) : Bool := (decide (PySem.W.findIn K (.ref (He.ga K "Code")) "__ne__" = some (some (.builtin "object.__ne__")))) && ((decide (PySem.W.subIn K (.ref (He.ga K "Code")) (.type "object") = some true)) && ((decide (PySem.W.findIn K (.ref (He.ga K "Code")) "__class__" = some (some (.builtin "object.__class__")))) && ((decide (PySem.W.specialIn K (.builtin "object.__class__") "__get__" = some (some (.builtin "getset_descriptor.__get__")))) && ((decide (PySem.W.takesIn K (.builtin "object.__class__") = some true)) && ((decide (PySem.W.mroIn K (He.ga K "Code") (.type "object") = some true)) && ((decide (PySem.W.findIn K (.ref (He.ga K "Web")) "__ne__" = some (some (.builtin "object.__ne__")))) && ((decide (PySem.W.subIn K (.ref (He.ga K "Web")) (.type "object") = some true)) && ((decide (PySem.W.findIn K (.ref (He.ga K "Web")) "__class__" = some (some (.builtin "object.__class__")))) && ((decide (PySem.W.specialIn K (.builtin "object.__class__") "__get__" = some (some (.builtin "getset_descriptor.__get__")))) && ((decide (PySem.W.takesIn K (.builtin "object.__class__") = some true)) && ((decide (PySem.W.mroIn K (He.ga K "Web") (.type "object") = some true)) && ((PySem.W.selfFirst K (He.ga K "Code")) && ((decide (PySem.W.subIn K (.ref (He.ga K "Code")) (.type "list") = some false)) && ((decide (PySem.W.subIn K (.ref (He.ga K "Code")) (.type "tuple") = some false)) && ((decide (PySem.W.subIn K (.ref (He.ga K "Code")) (.type "dict") = some false)) && ((decide (PySem.W.subIn K (.ref (He.ga K "Code")) (.type "str") = some false)) && ((decide (PySem.W.subIn K (.ref (He.ga K "Code")) (.type "int") = some false)) && ((decide (PySem.W.subIn K (.ref (He.ga K "Code")) (.type "bool") = some false)) && ((decide (PySem.W.subIn K (.ref (He.ga K "Code")) (.type "NoneType") = some false)) && (((PySem.W.clsIn K (He.ga K "Code")).isSome) && ((decide (PySem.W.typeIn K (.ref (He.ga K "Code")) = some (.type "type"))) && ((decide (PySem.W.subIn K (.ref (He.ga K "Web")) (.type "list") = some false)) && ((decide (PySem.W.subIn K (.ref (He.ga K "Web")) (.type "tuple") = some false)) && ((decide (PySem.W.subIn K (.ref (He.ga K "Web")) (.type "dict") = some false)) && ((decide (PySem.W.subIn K (.ref (He.ga K "Web")) (.type "str") = some false)) && ((decide (PySem.W.subIn K (.ref (He.ga K "Web")) (.type "int") = some false)) && ((decide (PySem.W.subIn K (.ref (He.ga K "Web")) (.type "bool") = some false)) && ((decide (PySem.W.subIn K (.ref (He.ga K "Web")) (.type "NoneType") = some false)) && (((PySem.W.clsIn K (He.ga K "Web")).isSome) && ((decide (PySem.W.typeIn K (.ref (He.ga K "Web")) = some (.type "type"))) && ((Hq.emB K (Hq.e0 K)) && ((PySem.W.notFirst K (He.ga K "Web") (.ref (He.ga K "Code"))) && ((decide (PySem.W.kitOne K (.ref (He.ga K "Code")) (.ref (He.ga K "Web")) = some false)) && ((L3.supB R.prog K "BadCode" "BadCode.__init__" "index") && ((L3.supB R.prog K "TooMany" "TooMany.__init__" "n") && ((L3.supB R.prog K "Clash" "Clash.__init__" "name") && ((L3.supB R.prog K "NotTree" "NotTree.__init__" "index") && (true))))))))))))))))))))))))))))))))))))))
/-- what an object names, once each -/
def refs (o : Obj) : List Addr := match o.data with
  | .seq its _ => its.toList.flatMap He.refV
  | .dict es _ => es.toList.flatMap fun e => He.refV e.val
  | .func fd => He.refV fd.code ++ He.refV fd.defaults ++ fd.closure.map (·.2)
  | .cls cd => [cd.ns]
  | _ => []
def lay (g : Addr → Option Obj) : Nat → List Addr → List Addr
  | 0, l => l
  | n + 1, l => l ++ lay g n (l.flatMap fun a => match g a with
    | some o => refs o
    | none => [])
def xw (K : PySem.W.Frag) : List L3.FnC := [L3.fnC K "BadCode", L3.fnC K "TooMany", L3.fnC K "Clash", L3.fnC K "NotTree"]
def xv : List L3.FnC := [L3.fnCv "BadCode.__init__" My.s_BadCode_init, L3.fnCv "TooMany.__init__" My.s_TooMany_init, L3.fnCv "Clash.__init__" My.s_Clash_init, L3.fnCv "NotTree.__init__" My.s_NotTree_init]
abbrev lawD : He.Defn := ("law", none)
/-- the law's own code object and its table: empty, not in K -/
def Tb (K : PySem.W.Frag) (h : Heap) : Prop := PySem.W.codeHdIn K (He.cT K lawD).1 (He.cT K lawD).2 = true ∧ K.lookup (He.cT K lawD).2 = none ∧ h.get? (He.cT K lawD).2 = some { cls := .none, data := .fields #[] }
theorem tb_ok {h : Heap} {l : List Addr} (e : He.tabsB h.get? [lawD] (He.frT h.get? l) = true) : Tb (He.frT h.get? l) h := by
  obtain ⟨h3, h4⟩ := He.ba (List.all_eq_true.mp e lawD (List.mem_singleton.mpr rfl))
  cases q : h.get? (He.cT (He.frT h.get? l) lawD).2 with
  | none => rw [q] at h4; cases h4
  | some o =>
    rw [q] at h4
    have h4 : He.emptyTab o = true := h4
    exact ⟨h3, He.frT_none q h4, by rw [q, He.emptyTab_eq h4]⟩
abbrev Al : Type := ((Bool × Bool) × List L3.FnC) × He.AlD
def obK (g : Addr → Option Obj) (K : PySem.W.Frag) : Al := (((fx K, He.tabsB g [lawD] K), xw K), He.obsD fa fn K)
def obX (g : Addr → Option Obj) : Al := obK g (He.frT g (lay g 5 [mainGlobals, cStatics]))
def hk : PySem.W.Hook where
  α := Al
  obs := fun s => obX s.heap.get?
  val := fun _ => (((true, true), xv), He.valD fn)
  says := fun _ h => ∃ K : PySem.W.Frag, K.In h ∧ He.SaysD fa fn K ∧ fx K = true ∧ xw K = xv ∧ Tb K h
  of := fun _ _ e => ⟨_, He.frT_in, congrArg Prod.snd e, congrArg (fun z => z.1.1.1) e, congrArg (fun z => z.1.2) e, tb_ok (congrArg (fun z => z.1.1.2) e)⟩
  keeps := fun _ _ _ ⟨K, hK, c1, c2, c3, t1, t2, t3⟩ k => ⟨K, PySem.W.Frag.In.keeps hK k, c1, c2, c3, t1, t2, k _ _ t3⟩
theorem top : (R.prog.main.scope.names.lookup ("super" : Str)).isSome = false := by kernel_rfl
def ob (s : PySem.W.SharedT) : Al := obX (HandSHeadRun.getT s)
theorem ob_eq (s : PySem.W.SharedT) : ob s = hk.obs s.abs := by
  have e : HandSHeadRun.getT s = s.abs.heap.get? := funext (HandSHeadRun.getT_eq s)
  unfold ob
  rw [e] <;> rfl
theorem run (w : World) : HandSHeadRun.RunEq R (PySem.W.view R.prog [55]) hk ob 40000 ns w := by
  intro os
  kernel_rfl
theorem facts {w : World} {K : PySem.W.Frag} {h : Heap} {mg : Str → Option Value} {f : Addr} (X : K.In h) (G : h.Ns mainGlobals mg) (hfa : mg ("law" : Str) = some (.ref f)) (c : He.SaysD fa fn K) (cx : fx K = true) (cw : xw K = xv) (tb : Tb K h) :
    ∃ (fd : FuncData) (cd Pt : Addr), PySem.W.codeHdIn K cd Pt = true ∧ K.lookup Pt = none ∧ h.get? Pt = some { cls := .none, data := .fields #[] } ∧ (∀ (s : Shared) (v : Value), BindsTo s fd ⟨[v], []⟩ [("_law_script", v)]) ∧ ∀ base : Heap, K.In base → base.Ns mainGlobals mg → LamX.TabB base mg cd Pt → FnG (PySem.Challenge.rw_lastopen_k62_webs_made_and_refused).prog w K mg base CX0 27 f fd ["_law_script"] (My.sp_law K Pt) := by
  obtain ⟨x0, cx⟩ := He.ba cx
  obtain ⟨x1, cx⟩ := He.ba cx
  obtain ⟨x2, cx⟩ := He.ba cx
  obtain ⟨x3, cx⟩ := He.ba cx
  obtain ⟨x4, cx⟩ := He.ba cx
  obtain ⟨x5, cx⟩ := He.ba cx
  obtain ⟨x6, cx⟩ := He.ba cx
  obtain ⟨x7, cx⟩ := He.ba cx
  obtain ⟨x8, cx⟩ := He.ba cx
  obtain ⟨x9, cx⟩ := He.ba cx
  obtain ⟨x10, cx⟩ := He.ba cx
  obtain ⟨x11, cx⟩ := He.ba cx
  obtain ⟨x12, cx⟩ := He.ba cx
  obtain ⟨x13, cx⟩ := He.ba cx
  obtain ⟨x14, cx⟩ := He.ba cx
  obtain ⟨x15, cx⟩ := He.ba cx
  obtain ⟨x16, cx⟩ := He.ba cx
  obtain ⟨x17, cx⟩ := He.ba cx
  obtain ⟨x18, cx⟩ := He.ba cx
  obtain ⟨x19, cx⟩ := He.ba cx
  obtain ⟨x20, cx⟩ := He.ba cx
  obtain ⟨x21, cx⟩ := He.ba cx
  obtain ⟨x22, cx⟩ := He.ba cx
  obtain ⟨x23, cx⟩ := He.ba cx
  obtain ⟨x24, cx⟩ := He.ba cx
  obtain ⟨x25, cx⟩ := He.ba cx
  obtain ⟨x26, cx⟩ := He.ba cx
  obtain ⟨x27, cx⟩ := He.ba cx
  obtain ⟨x28, cx⟩ := He.ba cx
  obtain ⟨x29, cx⟩ := He.ba cx
  obtain ⟨x30, cx⟩ := He.ba cx
  obtain ⟨x31, cx⟩ := He.ba cx
  obtain ⟨x32, cx⟩ := He.ba cx
  obtain ⟨x33, cx⟩ := He.ba cx
  obtain ⟨x34, cx⟩ := He.ba cx
  obtain ⟨x35, cx⟩ := He.ba cx
  obtain ⟨x36, cx⟩ := He.ba cx
  obtain ⟨x37, cx⟩ := He.ba cx
  obtain ⟨ed, en, esl, lE⟩ := Hq.emB_ok x31
  obtain ⟨lt, lL⟩ := Hq.ns_str (c.fact 92)
  obtain ⟨lm, lM⟩ := Hq.ns_int (c.fact 93)
  obtain ⟨fd, cd, hb, ⟨oc, od, kV, doc, pm, an, ct, osl, lk⟩, hF⟩ := My.all_mk (l := PySem.Challenge.rw_lastopen_k62_webs_made_and_refused) X G hfa (Hq.atc_of (c.fact 0) (c.fact 1) (c.fact 2)) (Hq.atc_of (c.fact 3) (c.fact 4) (c.fact 5)) (Hq.atc_of (c.fact 6) (c.fact 7) (c.fact 8)) (Hq.at1_of (c.fact 9) (c.def_ 0)) (Hq.at1_of (c.fact 10) (c.def_ 1)) (Hq.at1_of (c.fact 11) (c.def_ 2)) (Hq.at1_of (c.fact 12) (c.def_ 3)) (Hq.at1_of (c.fact 13) (c.def_ 4)) (Hq.at1_of (c.fact 14) (c.def_ 5)) (Hq.at1_of (c.fact 15) (c.def_ 6)) (Hq.at1_of (c.fact 16) (c.def_ 7)) (Hq.at1_of (c.fact 17) (c.def_ 8)) (Hq.at1_of (c.fact 18) (c.def_ 9)) (Hq.at1_of (c.fact 19) (c.def_ 10)) (Hq.at1_of (c.fact 20) (c.def_ 11)) (Hq.at1_of (c.fact 21) (c.def_ 12)) (Hq.at1_of (c.fact 22) (c.def_ 13)) (Hq.at1_of (c.fact 23) (c.def_ 14)) (Hq.at1_of (c.fact 24) (c.def_ 15)) (Hq.at1_of (c.fact 25) (c.def_ 16)) (Hq.at1_of (c.fact 26) (c.def_ 17)) (Hq.at1_of (c.fact 27) (c.def_ 18)) (Hq.at1_of (c.fact 28) (c.def_ 19)) (Hq.at1_of (c.fact 29) (c.def_ 20)) (Hq.at1_of (c.fact 30) (c.def_ 21)) (Hq.at1_of (c.fact 31) (c.def_ 22)) (Hq.at1_of (c.fact 32) (c.def_ 23)) (Hq.at1_of (c.fact 33) (c.def_ 24)) (Hq.at1_of (c.fact 34) (c.def_ 25)) (Hq.at1_of (c.fact 35) (c.def_ 26)) (Hq.at1_of (c.fact 36) (c.def_ 27)) (Hq.at1_of (c.fact 37) (c.def_ 28)) (Hq.at1_of (c.fact 38) (c.def_ 29)) (Hq.ate_of (c.fact 39) (c.def_ 30)) (Hq.atm_of (c.fact 40) (c.def_ 31)) (Hq.atm_of (c.fact 41) (c.def_ 32)) (Hq.atm_of (c.fact 42) (c.def_ 33)) (Hq.atm_of (c.fact 43) (c.def_ 34)) (Hq.atm_of (c.fact 44) (c.def_ 35)) (Hq.atm_of (c.fact 45) (c.def_ 36)) (Hq.atm_of (c.fact 46) (c.def_ 37)) (Hq.atm_of (c.fact 47) (c.def_ 38)) (Hq.atm_of (c.fact 48) (c.def_ 39)) (Hq.atm_of (c.fact 49) (c.def_ 40)) (Hq.atm_of (c.fact 50) (c.def_ 41)) (Hq.atm_of (c.fact 51) (c.def_ 42)) (Hq.atm_of (c.fact 52) (c.def_ 43)) (Hq.atm_of (c.fact 53) (c.def_ 44)) (Hq.atm_of (c.fact 54) (c.def_ 45)) (Hq.atm_of (c.fact 55) (c.def_ 46)) (He.noat_ok (c.fact 56)) (He.noat_ok (c.fact 57)) (He.noat_ok (c.fact 58)) (He.noat_ok (c.fact 59)) (He.noat_ok (c.fact 60)) (He.noat_ok (c.fact 61)) (He.noat_ok (c.fact 62)) (He.noat_ok (c.fact 63)) (He.noat_ok (c.fact 64)) (of_decide_eq_true x0) (of_decide_eq_true x1) (of_decide_eq_true x2) (of_decide_eq_true x3) (of_decide_eq_true x4) (of_decide_eq_true x5) (of_decide_eq_true x6) (of_decide_eq_true x7) (of_decide_eq_true x8) (of_decide_eq_true x9) (of_decide_eq_true x10) (of_decide_eq_true x11) x12 (of_decide_eq_true x13) (of_decide_eq_true x14) (of_decide_eq_true x15) (of_decide_eq_true x16) (of_decide_eq_true x17) (of_decide_eq_true x18) (of_decide_eq_true x19) x20 (of_decide_eq_true x21) (of_decide_eq_true x22) (of_decide_eq_true x23) (of_decide_eq_true x24) (of_decide_eq_true x25) (of_decide_eq_true x26) (of_decide_eq_true x27) (of_decide_eq_true x28) x29 (of_decide_eq_true x30) lE lL lM x32 (of_decide_eq_true x33) (c.fact 65) (supB_ok x34 (congrArg (fun l : List L3.FnC => l.getD 0 none) cw) top) (c.fact 66) (supB_ok x35 (congrArg (fun l : List L3.FnC => l.getD 1 none) cw) top) (c.fact 67) (supB_ok x36 (congrArg (fun l : List L3.FnC => l.getD 2 none) cw) top) (c.fact 68) (supB_ok x37 (congrArg (fun l : List L3.FnC => l.getD 3 none) cw) top) (He.exm_ok (c.fact 69)) (He.exm_ok (c.fact 70)) (He.exm_ok (c.fact 71)) (He.exm_ok (c.fact 72)) (He.exm_ok (c.fact 73)) (He.exm_ok (c.fact 74)) (He.exm_ok (c.fact 75)) (He.exm_ok (c.fact 76)) (He.exm_ok (c.fact 77)) (He.exm_ok (c.fact 78)) (Hq.ns_none (c.fact 79)) (Hq.ns_none (c.fact 80)) (Hq.ns_none (c.fact 81)) (Hq.ns_none (c.fact 82)) (Hq.ns_none (c.fact 83)) (Hq.ns_none (c.fact 84)) (Hq.ns_none (c.fact 85)) (Hq.ns_none (c.fact 86)) (Hq.ns_none (c.fact 87)) (Hq.ns_none (c.fact 88)) (Hq.ns_none (c.fact 89)) (Hq.ns_none (c.fact 90)) (Hq.ns_none (c.fact 91))
  have ec : He.codeOf K lawD = cd := He.codeOf_eq lk rfl
  obtain ⟨t1, t2, t3⟩ := tb
  exact ⟨fd, _, _, t1, t2, t3, hb, fun base B N TB => hF base _ B N (by have z := TB; rw [show (He.cT K lawD).1 = cd from ec] at z; exact z)⟩
end Hq
open PySem PySem.W PySem.Calls PyProof.Rows
theorem PySem.Challenge.cw_lastopen_k62_webs_made_and_refused_holds : PySem.Challenge.rw_lastopen_k62_webs_made_and_refused.Holds := by
  w_on; o_law
  refine HandSHeadRun.head_any (r := OpenLaw.row PySem.Challenge.rw_lastopen_k62_webs_made_and_refused) (q := view (OpenLaw.row PySem.Challenge.rw_lastopen_k62_webs_made_and_refused).prog [55]) (H := Hq.hk) (ob := Hq.ob) (M := 40000) (loose := Hq.ns) (d := HandSHeadRun.topDef (OpenLaw.row PySem.Challenge.rw_lastopen_k62_webs_made_and_refused).prog 55) (kwd := []) Hq.ob_eq
    (by kernel_rfl) (fun s => by kernel_rfl) Hq.run (by kernel_rfl) (by kernel_rfl) (by kernel_rfl) (by rfl) (by first | assumption | decide +kernel) (by decide +kernel) ⟨rfl, rfl, rfl, rfl, rfl, by decide +kernel⟩ ?hw ?hc
  case hw => w_witness2
  case hc =>
    refine L3.walk_GT (n := 63) (k := 27) (x := "_law_script") (sp := My.sp_law) (l := PySem.Challenge.rw_lastopen_k62_webs_made_and_refused) rfl (by decide) (by kernel_rfl) ⟨rfl, by decide, by decide⟩ ?F ?S
    case S => exact fun K Pt H a ns hl hb hP hs only => let ⟨M, m1, m2, m3, m4⟩ := L3.start_law hP hs only; ⟨ns, M, .ref a, rfl, m1, m2, m3, m4, hP, fun _ => rfl⟩
    case F =>
      intro w mg fa h Y G hmg0
      obtain ⟨K, KX, c, cx, cw, tb⟩ := Y
      have hmg : mg ("law" : PySem.Str) = some (.ref fa) := by
        have e : (HandSHeadRun.topDef (OpenLaw.row PySem.Challenge.rw_lastopen_k62_webs_made_and_refused).prog 55).name = ("law" : PySem.Str) := by kernel_rfl
        rw [← e]
        exact hmg0
      obtain ⟨fd, cd, Pt, t1, t2, t3, hb, hF⟩ := Hq.facts (w := w) KX G hmg c cx cw tb
      exact ⟨K, fd, cd, Pt, KX, t1, t2, t3, hb, hF⟩

