import PyProof.Rows.All
import Wide.All
import OpenK.AllK
import Wide.FinOn
import HandS.ForMost
import HandS.Deep
import HandS.IsInst
import HandS.Conv
import HandS.DictComp
import HandS.EndBits
import HandS.Wide
import HandS.Flow
import KE.DataEq
import HandS.TupAny
import HandS.Walk
import KE.GoesEnum
import KE.KDictSum
import HandS.Defaults
import HandS.Style
import HandS.SlotsOwn
import HandS.Star
import HandS.OwnEq
import KE.DataFind
import HandS.More
import HandS.Text
import HandS.Strs
import KE.KSuper
import KE.KExcSuper
import KE.KExcMake
import HandS.Base
import HandS.Call
import HandS.Exc
import HandS.ExcInit
import HandS.Nested
import HandS.WordsExc
import HandS.ExcField
import HandS.TryMany
import HandS.TryOnly
import HandS.Words
import HandS.HeadHook1
import HandS.HeadHook2
import HandS.Lambda
import KE.KNestM
import HandS.HotCalls
import PySem.Challenge.RW_lastopen_k22_why_and_blame
import HandS.Codes
import PyProof.EqKinds
import PyProof.FactsAll.dict_1
import PyProof.FactsAll.subtypes_3
import PyProof.FactsAll.subtypes_4
import OpenK.KMeth
import PyProof.SliceList
import KE.KRevSl
import HandS.ExcOwn
import HandS.DictEq
import HandS.NoneIn
import HandS.Head0
import HandS.Head1
import HandS.Head2
import HandS.HeadHook4
set_option Elab.async false
set_option linter.all false
set_option maxRecDepth 100000
set_option maxHeartbeats 1000000
namespace L3
open PySem L2

/-! the ghost part M of the heap: what never changes from here on -/
structure Gr (M H M' H' : Hp) : Prop where
  mm : Same M M'
  hh : Same H H'
  mh : Same M' H'
  nw : ∀ a o, M' a = some o → M a = some o ∨ H a = none ∨ ∃ xs, o = HO.tup xs
  nt : ∀ a ps, M' a = some (.tbl ps) → M a = some (.tbl ps)
theorem same_new {H : Hp} {p : Addr} {o : HO} (h : H p = none) : Same H (upd H p o) := fun b u e => by
  rw [upd_ne (ne_of_none e h)]; exact e
theorem same_mut {M H : Hp} {p : Addr} {o : HO} (e : Same M H) (h : M p = none) : Same M (upd H p o) := fun b u q => by
  rw [upd_ne (ne_of_none q h)]; exact e b u q
theorem Gr.refl {M H : Hp} (mh : Same M H) : Gr M H M H := ⟨Same.refl M, Same.refl H, mh, fun _ _ e => .inl e, fun _ _ e => e⟩
theorem Gr.trans {M H M1 H1 M2 H2 : Hp} (a : Gr M H M1 H1) (b : Gr M1 H1 M2 H2) : Gr M H M2 H2 :=
  ⟨a.mm.trans b.mm, a.hh.trans b.hh, b.mh, fun x o e => by
    rcases b.nw x o e with h | h | h
    · exact a.nw x o h
    · exact .inr (.inl (a.hh.free h))
    · exact .inr (.inr h), fun x ps e => a.nt x ps (b.nt x ps e)⟩
theorem upd_nt {M : Hp} {p : Addr} {o : HO} (hn : ∀ ps, o ≠ HO.tbl ps) (a : Addr) (ps : Array Value) (e : upd M p o a = some (.tbl ps)) : M a = some (.tbl ps) := by
  by_cases h : a = p
  · subst h; rw [upd_same] at e; exact absurd (Option.some.inj e) (hn ps)
  · rw [upd_ne h] at e; exact e
/-- a new object that is known from now on; one that may still change -/
theorem Gr.new {M H : Hp} {p : Addr} {o : HO} (mh : Same M H) (hp : H p = none) (hn : ∀ ps, o ≠ HO.tbl ps := by intro _ z; cases z) : Gr M H (upd M p o) (upd H p o) := by
  refine ⟨same_new (mh.free hp), same_new hp, fun b u e => ?_, fun b u e => ?_, upd_nt hn⟩
  · by_cases hb : b = p
    · subst hb; rw [upd_same] at e ⊢; exact e
    · rw [upd_ne hb] at e ⊢; exact mh b u e
  · by_cases hb : b = p
    · subst hb; exact .inr (.inl hp)
    · rw [upd_ne hb] at e; exact .inl e
theorem Gr.own {M H : Hp} {p : Addr} {o : HO} (mh : Same M H) (hp : H p = none) : Gr M H M (upd H p o) :=
  ⟨Same.refl M, same_new hp, same_mut mh (mh.free hp), fun _ _ e => .inl e, fun _ _ e => e⟩
/-- an object of ours changes -/
theorem Gr.mut {M0 H0 M H : Hp} {p : Addr} {o : HO} (g : Gr M0 H0 M H) (h0 : H0 p = none) (hm : M p = none) : Gr M0 H0 M (upd H p o) :=
  ⟨g.mm, same_mut g.hh h0, same_mut g.mh hm, g.nw, g.nt⟩
/-- an object of ours is known from now on -/
theorem Gr.freeze {M0 H0 M H : Hp} {p : Addr} {o : HO} (g : Gr M0 H0 M H) (h0 : H0 p = none) (hm : M p = none) (hp : H p = some o) (hn : ∀ ps, o ≠ HO.tbl ps := by intro _ z; cases z) : Gr M0 H0 (upd M p o) H := by
  refine ⟨g.mm.trans (same_new hm), g.hh, fun b u e => ?_, fun b u e => ?_, fun b ps e => g.nt b ps (upd_nt hn b ps e)⟩
  · by_cases hb : b = p
    · subst hb; rw [upd_same] at e; rw [hp]; exact e
    · rw [upd_ne hb] at e; exact g.mh b u e
  · by_cases hb : b = p
    · subst hb; exact .inr (.inl h0)
    · rw [upd_ne hb] at e; exact g.nw b u e
theorem Gr.keep {M H M' H' : Hp} {p : Addr} {o : HO} (g : Gr M H M' H') (hm : M p = none) (hp : H p = some o) (hn : ∀ xs, o ≠ HO.tup xs := by intro _ z; cases z) : M' p = none := by
  cases e : M' p with
  | none => rfl
  | some u =>
    rcases g.nw p u e with h | h | ⟨xs, h⟩
    · rw [hm] at h; cases h
    · rw [hp] at h; cases h
    · subst h
      have h1 := g.mh p _ e
      rw [g.hh p _ hp] at h1
      exact absurd (Option.some.inj h1) (hn xs)
/-- tuples that stand may be known at any time -/
def withT (M H : Hp) (bs : List Addr) : Hp := fun a => (M a).or (if a ∈ bs then H a else none)
theorem withT_in {M H : Hp} {bs : List Addr} {a : Addr} {o : HO} (mh : Same M H) (ha : a ∈ bs) (h : H a = some o) : withT M H bs a = some o := by
  unfold withT
  cases e : M a with
  | none => rw [if_pos ha]; exact h
  | some u => have := mh a u e; rw [h] at this; cases this; rfl
theorem Gr.tups {M H : Hp} {bs : List Addr} (mh : Same M H) (hb : ∀ b ∈ bs, ∃ xs, H b = some (.tup xs)) : Gr M H (withT M H bs) H := by
  refine ⟨fun a o e => by unfold withT; rw [e]; rfl, Same.refl H, fun a o e => ?_, fun a o e => ?_, fun a ps e => ?_⟩
  · unfold withT at e
    cases q : M a with
    | some u => rw [q] at e; cases e; exact mh a _ q
    | none =>
      rw [q] at e
      by_cases ha : a ∈ bs
      · rw [if_pos ha] at e; exact e
      · rw [if_neg ha] at e; cases e
  · unfold withT at e
    cases q : M a with
    | some u => rw [q] at e; exact .inl e
    | none =>
      rw [q] at e
      by_cases ha : a ∈ bs
      · rw [if_pos ha] at e
        obtain ⟨xs, h⟩ := hb a ha
        have e' : H a = some o := e
        rw [h] at e'
        cases e'
        exact .inr (.inr ⟨xs, rfl⟩)
      · rw [if_neg ha] at e; cases e
  · unfold withT at e
    cases q : M a with
    | some u => rw [q] at e; exact e
    | none =>
      rw [q] at e
      by_cases ha : a ∈ bs
      · rw [if_pos ha] at e
        obtain ⟨xs, h⟩ := hb a ha
        have e' : H a = some (.tbl ps) := e
        rw [h] at e'
        cases e'
      · rw [if_neg ha] at e; cases e
theorem rd_mono {H H' : Hp} {a : Addr} {u : HO} (e : Same H H') (h : Rd H a u) : Rd H' a u := by
  rcases h with h | ⟨o, h⟩
  · exact Or.inl (e a _ h)
  · exact Or.inr ⟨o, e a _ h⟩
theorem sl_mono {K : PySem.W.Frag} {H H' : Hp} {a : Addr} {xs : List V} (e : Same H H') (h : SqL K H a xs) : SqL K H' a xs := by
  rcases h with h | h
  · exact Or.inl (rd_mono e h)
  · exact Or.inr h
theorem st_mono {K : PySem.W.Frag} {H H' : Hp} {a : Addr} {xs : List V} (e : Same H H') (h : SqT K H a xs) : SqT K H' a xs := by
  rcases h with h | h
  · exact Or.inl (rd_mono e h)
  · exact Or.inr h
mutual
theorem dp_mono {K : PySem.W.Frag} {H H' : Hp} (e : Same H H') : ∀ {v : V} {d : PyData}, Dp K H v d → Dp K H' v d
  | _, _, .non => .non
  | _, _, .bl b => .bl b
  | _, _, .int i => .int i
  | _, _, .str x => .str x
  | _, _, .lst hs ha => .lst (sl_mono e hs) (dpa_mono e ha)
  | _, _, .tup hs ha => .tup (st_mono e hs) (dpa_mono e ha)
theorem dpa_mono {K : PySem.W.Frag} {H H' : Hp} (e : Same H H') : ∀ {vs : List V} {ds : List PyData}, DpAll K H vs ds → DpAll K H' vs ds
  | _, _, .nil => .nil
  | _, _, .cons h t => .cons (dp_mono e h) (dpa_mono e t)
end
end L3

set_option Elab.async false
set_option linter.all false
set_option maxRecDepth 100000
set_option maxHeartbeats 1000000
namespace L3
open PySem PySem.Spec PyProof.Rows L2

/-! defs whose text asks repr: no repr is under way around them -/
structure FnG (P : Program) (w : World) (K : PySem.W.Frag) (mg : Str → Option Value) (base : Heap) (CX : CXT) (k : Nat) (f : Addr) (fd : FuncData) (ps : List Str) (sp : Sp) : Prop where
  len (vs : List V) (H : Hp) (Q : VK) (E : XK) : sp vs H Q E → vs.length = ps.length
  run : ∀ (A : Around) (outer : List Env) (s : Shared) (H : Hp) (args : Args) (us : List Value) (vs : List V) (Q : VK) (E : XK), A.guards = some [] → Room k A →
    Env0 P w K mg base A outer s H → BindsTo s fd args (ps.zip us) → Vals vs us → sp vs H Q E → codeAny (model P w) A (.call (.ref f) args) (CR CX outer P w H s Q E) s
section
variable {P : Program} {w : World} {K : PySem.W.Frag} {mg : Str → Option Value} {base : Heap} {CX : CXT} {k : Nat} {f : Addr} {fd : FuncData} {ps : List Str} {sp : Sp}
theorem FnG.of (F : FnOk P w K mg base CX k f fd ps sp) : FnG P w K mg base CX k f fd ps sp :=
  ⟨F.len, fun A outer s H args us vs Q E _ hr he hb hv h => F.run A outer s H args us vs Q E hr he hb hv h⟩
theorem FnG.mono {j : Nat} (F : FnG P w K mg base CX j f fd ps sp) (h : j ≤ k) : FnG P w K mg base CX k f fd ps sp :=
  ⟨F.len, fun A outer s H args us vs Q E hg hr he hb hv hs => F.run A outer s H args us vs Q E hg (hr.mono h) he hb hv hs⟩
end
/-- a def of the text keeps its promise where no repr is under way: its body is walked in the new frame, and each way out of the body is a way out of the call -/
theorem fun_okG {P : Program} {w : World} {K : PySem.W.Frag} {mg : Str → Option Value} {base : Heap} {x qual : Str} {st : Stmt} {f : Addr} {fd : FuncData} {N ps : List Str} {k : Nat} {sp : Sp} (F : Fun K x qual st f fd) (S : FnScope N ps (defScope st))
    (ar : ∀ vs H Q E, sp vs H Q E → vs.length = ps.length) (hb : ∀ (cdv : Value) (A : Around) (outer : List Env) (s : Shared) (H : Hp) (vs : List V) (Q : VK) (E : XK), A.guards = some [] → Room k (A.deeper (envOfC qual (defScope st) s.heap.objs.size f cdv)) → sp vs H Q E →
      ∃ t, PSs (cxOf CX0 P w K mg base N qual (defScope st) f cdv A outer s H E).nox (defBody st) t ∧ t { nx := fun _ H' => Q .non H', rt := Q } (start N vs) H) :
    FnG P w K mg base CX0 (k + 1) f fd ps sp where
  len := ar
  run A outer s H args us vs Q E hgu hr e0 hbi rv hsp := by
    have ⟨c1, c2, c3, c4, c5, c6, cdv, c7, c8, efd, lk, hcd⟩ := F.ex
    subst efd
    have grown : ∀ b o, base.get? b = some o → s.heap.get? b = some o := fun b o e => (e0.bs b o e).1
    have inK := e0.mod.kin.keeps grown
    apply codeAny_call_function hr.depth (inK _ _ lk) rfl S.co S.gen rfl (PySem.W.codeRec_of inK hcd)
    apply hbi
    refine wpAny_newFunctionEnv_cells S.kind (fun ⟨n, v⟩ hy => ?_) fun env he s1 new => ?_
    · rcases S.par n (List.of_mem_zip hy).1 with q | q
      · exact .inl q
      · exact .inr ⟨q, PySem.W.cellsFrom_some _ _ _ (.inl q)⟩
    subst he
    have ⟨t, pt, q⟩ := hb cdv A outer s H vs Q E hgu (hr.deeper _) hsp
    have I0 := inv_start (CX := CX0) (E := E) S hr.hd e0 (ar _ _ _ _ hsp) rv new
    refine ⟨(e0.mod.nolimit.keeps grown).keeps new.toInCall.keep, codeAny_func (wpAny_mono (pt.nox.run [] s1 _ H _ I0 q) ?_ fun _ _ z => z)⟩
    rintro (_ | _ | _ | u) s2 h2
    · have ⟨_, _, J, z⟩ := h2
      exact ⟨V.non, _, J.os, J.bare, J.base, J.hok, rfl, z⟩
    · exact h2.elim fun _ h => h.elim fun _ h => h.2.elim
    · exact h2.elim fun _ h => h.elim fun _ h => h.2.elim
    · have ⟨v, _, _, J, ru, z⟩ := h2
      exact ⟨v, _, J.os, J.bare, J.base, J.hok, ru, z⟩
section
variable {X : Cx} {CX : CXT} {k : Nat} {f C : Addr} {fd : FuncData} {ps : List Str} {sp : Sp} {dvs : List V} {ds : List Value} {E : XK} {x : Str} {p pos : Pos} {e : Expr} {es : List Expr} {t : TA}
theorem run_fnG {pins : List (Addr × Obj)} {σ : L2.St} {H : Hp} {s : Shared} {Q : VK} {us : List Value} {vs : List V} (F : FnG X.prog X.w X.K X.mg X.base CX k f fd ps sp) (hgu : X.A.guards = some []) (hr : Room k X.A) (hb : Binds X.K fd ps ds) (hd : Vals dvs ds) (hx : Passes CX X E) (I : Inv X pins σ H s) (rv : Vals vs us)
    (h : sp (vs ++ dvs) H Q E) : wpAny (model X.prog X.w) X.A (call (.ref f) us) (EP X pins σ Q) X.xe s := by
  have rr := rv.append hd
  have bind := hb s us I.kIn (rr.length ▸ F.len _ _ _ _ h)
  apply wpAny_call
  apply codeAny_mono (F.run X.A X.stack s H ⟨us, []⟩ _ _ Q E hgu hr I.env0 bind rr h)
  rintro (e | fl) s' hq
  · exact hx pins σ H s e s' I hq
  · cases fl with
    | ret u => exact I.after hq
    | _ => exact hq.elim
theorem pe_callG (F : FnG X.prog X.w X.K X.mg X.base CX k f fd ps sp) (hgu : X.A.guards = some []) (hr : Room k X.A) (hg : Gl X x) (hm : X.mg x = some (.ref f)) (hk : PySem.W.keepIn X.K (.ref f) = true) (hb : Binds X.K fd ps ds) (hd : Vals dvs ds) (hx : Passes CX X E)
    (ha : PA X (e :: es) t) (hdb : (x == ("__debug__" : Str)) = false := by decide) (he : starEach (e :: es) X.env = (false, eval e X.env) :: starEach es X.env := by rfl) (hpl : (backTo pos (starEach es X.env)).any (·.1) = false := by rfl) :
    PE X (.Call (.Name x p) (e :: es) [] pos) (tCall sp dvs E t) :=
  ⟨fun pins s σ H Q I h => wpAny_Call_Name_kw (ld_glob I hg hm (PySem.W.callWith_K (h₀ := X.base) I.ok.mod.kin hk
    (thn (ha.run pos pins s σ H _ I h) fun us s1 ⟨vs, H1, I1, r, q⟩ => ⟨I1.kIn, run_fnG F hgu hr hb hd hx I1 r q⟩) he hpl) hdb)⟩

/-! repr of data -/
def rRepr (K : PySem.W.Frag) : List V → Hp → VK → Prop := fun xs H Q => ∃ v d, xs = [v] ∧ Dp K H v d ∧ d.showable = true ∧ d.depth ≤ 64 ∧ d.shown.length ≤ sizeLine ∧ Q (.str d.shown) H
mutual
theorem dp_nodict {K : PySem.W.Frag} {H : Hp} : ∀ {v : V} {d : PyData}, Dp K H v d → d.hasDict = false
  | _, _, .non => by simp only [PyData.hasDict]
  | _, _, .bl b => by simp only [PyData.hasDict]
  | _, _, .int i => by simp only [PyData.hasDict]
  | _, _, .str x => by simp only [PyData.hasDict]
  | _, _, .lst _ ha => by simp only [PyData.hasDict]; exact dpa_nodict ha
  | _, _, .tup _ ha => by simp only [PyData.hasDict]; exact dpa_nodict ha
theorem dpa_nodict {K : PySem.W.Frag} {H : Hp} : ∀ {vs : List V} {ds : List PyData}, DpAll K H vs ds → PyData.hasDictAll ds = false
  | _, _, .nil => by simp only [PyData.hasDictAll]
  | _, _, .cons h t => by simp only [PyData.hasDictAll]; rw [dp_nodict h, dpa_nodict t]; rfl
end
theorem call_repr (hgu : X.A.guards = some []) (hu : X.A.units + 70 < cLine) : CallR X (.builtin "repr") (rRepr X.K) := by
  rintro pins s σ H _ us Q I r ⟨v, d, rfl, hd, hs, hdp, hz, q⟩
  have ⟨u, eu, ru⟩ := vals1 r
  subst eu
  obtain ⟨as, rd⟩ := Dp.reads I d v u hd ru
  have hsm := PyData.noDict_hsm (as := as) (dp_nodict hd)
  have fin : ∀ h' u' tk, (∀ b o, s.heap.get? b = some o → h'.get? b = some o) → EP X pins σ Q (.str d.shown u') { s with heap := h', toks := tk } :=
    fun h' u' tk k => ⟨.str d.shown, H, I.kept k, ⟨_, rfl⟩, q⟩
  cases hd with
  | non =>
    cases ru
    simp only [PyData.shown] at fin
    exact PySem.P.repr_of_none (fin s.heap _ _ fun _ _ e => e)
  | bl b =>
    cases ru
    simp only [PyData.shown] at fin
    exact PySem.P.repr_of_bool (fin s.heap _ _ fun _ _ e => e)
  | int i =>
    obtain ⟨t, rfl⟩ := ru
    simp only [PyData.shown] at fin
    exact PySem.P.repr_of_int (by simpa [PyData.showable] using hs) (fin s.heap _ _ fun _ _ e => e)
  | str x =>
    obtain ⟨t, rfl⟩ := ru
    simp only [PyData.shown] at fin hz
    exact PySem.P.repr_of_str (fin s.heap _ _ fun _ _ e => e) hz
  | lst hl ha =>
    cases ru
    exact repr_of_reads' rd hs hsm hgu (by omega) (fun _ _ e => e) fin hz
  | tup hl ha =>
    cases ru
    exact repr_of_reads' rd hs hsm hgu (by omega) (fun _ _ e => e) fin hz
end
end L3

set_option Elab.async false
set_option linter.all false
set_option maxRecDepth 100000
set_option maxHeartbeats 1000000
namespace L3
open PySem PySem.Spec PyProof.Rows L2

/-! the law's own end, over a promise that knows the guards. The script stands in the written part, or it is the one object that is known at the start -/
def scrO (vs : List Value) : Obj := { cls := .type "list", data := .seq vs.toArray }
def scrH (K : PySem.W.Frag) (a : Addr) (vs : List Value) (xs : List V) : Hp := fun b => if b = a ∧ K.lookup a = none then some (.frz (scrO vs) (.lst xs)) else none
section
variable {K : PySem.W.Frag} {a : Addr} {vs : List Value} {xs : List V} {h : Heap} {P : Program} {w : World}
theorem scrH_some {b : Addr} {u : HO} (e : scrH K a vs xs b = some u) : b = a ∧ K.lookup a = none ∧ u = .frz (scrO vs) (.lst xs) := by
  unfold scrH at e
  split at e
  next c => exact ⟨c.1, c.2, (Option.some.inj e).symm⟩
  next => cases e
theorem scrH_sq (KX : K.In h) (ho : h.get? a = some (scrO vs)) (rv : Vals xs vs) (hz : xs.length ≤ sizeLine) : SqL K (scrH K a vs xs) a xs := by
  cases e : K.lookup a with
  | none => exact .inl (.inr ⟨_, if_pos ⟨rfl, e⟩⟩)
  | some o =>
    cases ho.symm.trans (KX a o e)
    exact .inr ⟨_, vs.toArray, _, e, rfl, rfl, rfl, (by rw [List.size_toArray, ← rv.length]; exact hz), rv⟩
end
end L3

set_option Elab.async false
set_option linter.all false
set_option maxRecDepth 100000
set_option maxHeartbeats 1000000
namespace L3
open PySem PySem.Spec PyProof.Rows L2
abbrev Sl := L2.St

/-! operators by data -/
mutual
theorem dp_plain {K : PySem.W.Frag} {H : Hp} : ∀ {v : V} {d : PyData}, Dp K H v d → d.plain = true
  | _, _, .non => by simp only [PyData.plain]
  | _, _, .bl b => by simp only [PyData.plain]
  | _, _, .int i => by simp only [PyData.plain]
  | _, _, .str x => by simp only [PyData.plain]
  | _, _, .lst _ ha => by simp only [PyData.plain]; exact dpa_plain ha
  | _, _, .tup _ ha => by simp only [PyData.plain]; exact dpa_plain ha
theorem dpa_plain {K : PySem.W.Frag} {H : Hp} : ∀ {vs : List V} {ds : List PyData}, DpAll K H vs ds → PyData.plainAll ds = true
  | _, _, .nil => by simp only [PyData.plainAll]
  | _, _, .cons h t => by simp only [PyData.plainAll]; rw [dp_plain h, dpa_plain t]; rfl
end
/-- a list or a tuple of ds -/
def Sq (K : PySem.W.Frag) (ds : List PyData) (H : Hp) (v : V) : Prop := Dp K H v (.list ds) ∨ Dp K H v (.tuple ds)
theorem Sq.mono {K : PySem.W.Frag} {ds : List PyData} {H H' : Hp} {v : V} (e : Same H H') (h : Sq K ds H v) : Sq K ds H' v := h.imp (dp_mono e) (dp_mono e)
def rEqP (K : PySem.W.Frag) (neg : Bool) : R2 := fun x y H Q => ∃ d e, Dp K H x d ∧ Dp K H y e ∧ d.depth ≤ 60 ∧ Q (.bl (xor neg (PyData.eqv d e))) H
def rInP (K : PySem.W.Frag) (neg : Bool) : R2 := fun x y H Q => ∃ d ds, Dp K H x d ∧ Sq K ds H y ∧ d.depth ≤ 60 ∧ Q (.bl (xor neg (ds.any fun z => PyData.eqv z d))) H
section
variable {X : Cx}
theorem op_eqP (hu : X.A.units + 64 < cLine) : OpR X (compareOp .Eq) (rEqP X.K false) := by
  intro pins s σ H x y v u Q I rx ry ⟨d, e, hd, he, hz, q⟩
  obtain ⟨as, r1⟩ := Dp.reads I d x v hd rx
  obtain ⟨bs, r2⟩ := Dp.reads I e y u he ry
  exact SeqAt.eq_plain r1 r2 (dp_plain hd) (dp_plain he) (by omega) ⟨.bl _, H, I, rfl, by simpa using q⟩
theorem op_neP (hu : X.A.units + 64 < cLine) : OpR X (compareOp .NotEq) (rEqP X.K true) := by
  intro pins s σ H x y v u Q I rx ry ⟨d, e, hd, he, hz, q⟩
  obtain ⟨as, r1⟩ := Dp.reads I d x v hd rx
  obtain ⟨bs, r2⟩ := Dp.reads I e y u he ry
  exact SeqAt.ne_plain r1 r2 (dp_plain hd) (dp_plain he) (by omega) ⟨.bl _, H, I, rfl, by simpa using q⟩
theorem op_inP (hu : X.A.units + 64 < cLine) : OpR X (compareOp .In) (rInP X.K false) := by
  intro pins s σ H x y v u Q I rx ry ⟨d, ds, hd, hs, hz, q⟩
  obtain ⟨as, r1⟩ := Dp.reads I d x v hd rx
  rcases hs with hs | hs
  · obtain ⟨bs, r2⟩ := Dp.reads I _ y u hs ry
    exact SeqAt.in_list_data r2 r1 (by simpa only [PyData.plain] using dp_plain hs) (dp_plain hd) (by omega) ⟨.bl _, H, I, rfl, by simpa using q⟩
  · obtain ⟨bs, r2⟩ := Dp.reads I _ y u hs ry
    exact SeqAt.in_tuple_data r2 r1 (by simpa only [PyData.plain] using dp_plain hs) (dp_plain hd) (by omega) ⟨.bl _, H, I, rfl, by simpa using q⟩
theorem op_notInP (hu : X.A.units + 64 < cLine) : OpR X (compareOp .NotIn) (rInP X.K true) := by
  intro pins s σ H x y v u Q I rx ry ⟨d, ds, hd, hs, hz, q⟩
  obtain ⟨as, r1⟩ := Dp.reads I d x v hd rx
  rcases hs with hs | hs
  · obtain ⟨bs, r2⟩ := Dp.reads I _ y u hs ry
    exact SeqAt.notIn_list_data r2 r1 (by simpa only [PyData.plain] using dp_plain hs) (dp_plain hd) (by omega) ⟨.bl _, H, I, rfl, by simpa using q⟩
  · obtain ⟨bs, r2⟩ := Dp.reads I _ y u hs ry
    exact SeqAt.notIn_tuple_data r2 r1 (by simpa only [PyData.plain] using dp_plain hs) (dp_plain hd) (by omega) ⟨.bl _, H, I, rfl, by simpa using q⟩
/-- two readings of one expression, of one thing walked -/
theorem PE.or {e : Expr} {t u : TE} (h : PE X e t) (h' : PE X e u) : PE X e (fun σ H Q => t σ H Q ∨ u σ H Q) :=
  ⟨fun pins s σ H Q I q => q.elim (h.run pins s σ H Q I) (h'.run pins s σ H Q I)⟩
theorem PI.or {tg e : Expr} {t u : TI} (h : PI X tg e t) (h' : PI X tg e u) : PI X tg e (fun σ H R => t σ H R ∨ u σ H R) :=
  ⟨fun pins s σ H Q I q => q.elim (h.run pins s σ H Q I) (h'.run pins s σ H Q I)⟩
end

/-! what an expression is worth, over the known part M -/
abbrev Pr := Hp → V → Prop
abbrev Dd (K : PySem.W.Frag) (d : PyData) : Pr := fun M v => Dp K M v d
def Gv (te : TE) (σ : Sl) (M : Hp) (P : Pr) : Prop := ∀ H, Same M H → ∀ Q : VK, (∀ v M' H', Gr M H M' H' → P M' v → Q v H') → te σ H Q
def GvT (tt : TT) (σ : Sl) (M : Hp) (b : Bool) : Prop := ∀ H, Same M H → ∀ Q : Bool → Hp → Prop, (∀ M' H', Gr M H M' H' → Q b H') → tt σ H Q
/-- a new list, ours -/
def GvL (te : TE) (σ : Sl) (M : Hp) (P : Hp → List V → Prop) : Prop := ∀ H, Same M H → ∀ Q : VK, (∀ p vs M' H', Gr M H M' H' → H p = none → M' p = none → H' p = some (.lst vs) → P M' vs → Q (.ref p) H') → te σ H Q
def GvA (ta : TA) (σ : Sl) (M : Hp) (P : Hp → List V → Prop) : Prop := ∀ H, Same M H → ∀ Q : List V → Hp → Prop, (∀ vs M' H', Gr M H M' H' → P M' vs → Q vs H') → ta σ H Q
class Mono (P : Pr) : Prop where
  mono : ∀ {M M' : Hp} {v : V}, Same M M' → P M v → P M' v
instance {K : PySem.W.Frag} {d : PyData} : Mono (Dd K d) := ⟨fun e h => dp_mono e h⟩
instance {K : PySem.W.Frag} {ds : List PyData} : Mono (Sq K ds) := ⟨fun e h => h.mono e⟩
section
variable {K : PySem.W.Frag} {σ : Sl} {M M1 : Hp} {ta tb te : TE} {tt tu : TT} {P P1 : Pr} {b c : Bool} {v : V}
def jn (M1 M' : Hp) : Hp := fun a => (M1 a).or (M' a)
theorem jn_some {M1 M' : Hp} {a : Addr} {o : HO} (q : M1 a = some o) : jn M1 M' a = some o := by unfold jn; rw [q]; rfl
theorem jn_none {M1 M' : Hp} {a : Addr} (q : M1 a = none) : jn M1 M' a = M' a := by unfold jn; rw [q]; rfl
theorem Gr.join {M H M' H' M1 : Hp} (g : Gr M H M' H') (e : Same M M1) (h1 : Same M1 H) : Gr M1 H (jn M1 M') H' ∧ Same M' (jn M1 M') := by
  have k1 := h1.trans g.hh
  refine ⟨⟨fun a o q => jn_some q, g.hh, fun a o q => ?_, fun a o q => ?_, fun a ps q => ?_⟩, fun a o q => ?_⟩
  · cases z : M1 a with
    | some u => rw [jn_some z] at q; cases q; exact k1 a _ z
    | none => rw [jn_none z] at q; exact g.mh a o q
  · cases z : M1 a with
    | some u => rw [jn_some z] at q; exact .inl q
    | none =>
      rw [jn_none z] at q
      rcases g.nw a o q with y | y
      · rw [e a o y] at z; cases z
      · exact .inr y
  · cases z : M1 a with
    | some u => rw [jn_some z] at q; exact q
    | none =>
      rw [jn_none z] at q
      have y := e a _ (g.nt a ps q)
      rw [z] at y
      cases y
  · cases z : M1 a with
    | some u =>
      have y := k1 a _ z
      rw [g.mh a o q] at y
      cases y
      exact jn_some z
    | none => rw [jn_none z]; exact q
theorem Gv.le [Mono P] (h : Gv te σ M P) (e : Same M M1) : Gv te σ M1 P := fun H mh Q q =>
  h H (e.trans mh) Q fun v M' H' g p => q v _ H' (g.join e mh).1 (Mono.mono (g.join e mh).2 p)
theorem GvT.le (h : GvT tt σ M b) (e : Same M M1) : GvT tt σ M1 b := fun H mh Q q =>
  h H (e.trans mh) Q fun M' H' g => q _ H' (g.join e mh).1
/-- a reading over values -/
def RV (r : Hp → VK → Prop) (M : Hp) (P : Pr) : Prop := ∀ H, Same M H → ∀ Q : VK, (∀ v M' H', Gr M H M' H' → P M' v → Q v H') → r H Q
theorem gv_var {i : Nat} (h : σ[i]? = some (some v)) (p : P M v) : Gv (tVar i) σ M P := fun H mh Q q => ⟨v, h, q v M H (.refl mh) p⟩
theorem gv_c (p : P M v) : Gv (tC v) σ M P := fun H mh Q q => q v M H (.refl mh) p
theorem gv_op {r : R2} {R : Pr} [Mono P] [Mono P1] (ha : Gv ta σ M P) (hb : Gv tb σ M P1) (hr : ∀ M' x y, P M' x → P1 M' y → RV (r x y) M' R) : Gv (tOp r ta tb) σ M R := fun H mh Q q =>
  ha H mh _ fun x M1 H1 g1 p1 => (hb.le g1.mm) H1 g1.mh _ fun y M2 H2 g2 p2 => hr M2 x y (Mono.mono g2.mm p1) p2 H2 g2.mh Q fun v M' H' g p => q v M' H' ((g1.trans g2).trans g) p
theorem gv_is {P' : Pr} (h : Gv te σ M P) (e : ∀ M v, P M v → P' M v) : Gv te σ M P' := fun H mh Q q => h H mh Q fun v M' H' g p => q v M' H' g (e M' v p)
/-- tests -/
theorem gt_test {te : TE} (h : Gv te σ M (fun _ v => v = .bl b)) : GvT (tTest te) σ M b := fun H mh Q q => h H mh _ fun v M' H' g p => ⟨b, p, q M' H' g⟩
theorem gt_B {te : TE} (h : Gv te σ M (fun _ v => v = .bl b)) : GvT (tB te) σ M b := fun H mh Q q => h H mh _ fun v M' H' g p => ⟨b, p, q M' H' g⟩
theorem gt_and (h : GvT tt σ M b) (h2 : b = true → GvT tu σ M c) : GvT (tAnd tt tu) σ M (b && c) := fun H mh Q q => h H mh _ fun M1 H1 g1 => by
  cases b with
  | true => exact (h2 rfl).le g1.mm H1 g1.mh Q fun M' H' g => q M' H' (g1.trans g)
  | false => exact q M1 H1 g1
theorem gt_or (h : GvT tt σ M b) (h2 : b = false → GvT tu σ M c) : GvT (tOr tt tu) σ M (b || c) := fun H mh Q q => h H mh _ fun M1 H1 g1 => by
  cases b with
  | true => exact q M1 H1 g1
  | false => exact (h2 rfl).le g1.mm H1 g1.mh Q fun M' H' g => q M' H' (g1.trans g)
theorem gt_not (h : GvT tt σ M b) : GvT (tNot tt) σ M (!b) := fun H mh Q q => h H mh _ q
theorem gt_is (h : GvT tt σ M b) (e : b = c) : GvT tt σ M c := e ▸ h
abbrev Bl (b : Bool) : Pr := fun _ v => v = .bl b
abbrev It' (i : Int) : Pr := fun _ v => v = .int i
abbrev Tx (x : Str) : Pr := fun _ v => v = .str x
instance {b : Bool} : Mono (Bl b) := ⟨fun _ h => h⟩
instance {i : Int} : Mono (It' i) := ⟨fun _ h => h⟩
instance {x : Str} : Mono (Tx x) := ⟨fun _ h => h⟩
theorem gv_andV {ta tb : TE} (h : Gv ta σ M (Bl b)) (h2 : b = true → Gv tb σ M (Bl c)) : Gv (tAndV ta tb) σ M (Bl (b && c)) := fun H mh Q q => h H mh _ fun v M1 H1 g1 p => ⟨b, p, by
  cases b with
  | true => exact (h2 rfl).le g1.mm H1 g1.mh Q fun v M' H' g p => q v M' H' (g1.trans g) p
  | false => exact q _ M1 H1 g1 rfl⟩
theorem gv_orV {ta tb : TE} (h : Gv ta σ M (Bl b)) (h2 : b = false → Gv tb σ M (Bl c)) : Gv (tOrV ta tb) σ M (Bl (b || c)) := fun H mh Q q => h H mh _ fun v M1 H1 g1 p => ⟨b, p, by
  cases b with
  | true => exact q _ M1 H1 g1 rfl
  | false => exact (h2 rfl).le g1.mm H1 g1.mh Q fun v M' H' g p => q v M' H' (g1.trans g) p⟩
theorem gv_if [Mono P] (h : GvT tt σ M b) (h1 : b = true → Gv ta σ M P) (h2 : b = false → Gv tb σ M P) : Gv (tIf tt ta tb) σ M P := fun H mh Q q => h H mh _ fun M1 H1 g1 => by
  cases b with
  | true => exact (h1 rfl).le g1.mm H1 g1.mh Q fun v M' H' g p => q v M' H' (g1.trans g) p
  | false => exact (h2 rfl).le g1.mm H1 g1.mh Q fun v M' H' g p => q v M' H' (g1.trans g) p
/-- operators -/
theorem rv_pure {r : Hp → VK → Prop} (h : ∀ H, Same M H → ∀ Q : VK, Q v H → r H Q) (p : P M v) : RV r M P := fun H mh Q q => h H mh Q (q v M H (.refl mh) p)
theorem gv_eq {neg : Bool} {d e : PyData} (ha : Gv ta σ M (Dd K d)) (hb : Gv tb σ M (Dd K e)) (hz : d.depth ≤ 60) : Gv (tOp (rEqP K neg) ta tb) σ M (Bl (xor neg (PyData.eqv d e))) :=
  gv_op ha hb fun M' x y px py => rv_pure (fun H mh Q q => ⟨d, e, dp_mono mh px, dp_mono mh py, hz, q⟩) rfl
theorem gv_isN {ta : TE} [Mono P] (h : Gv ta σ M P) (e : ∀ M v, P M v → decide (v = .non) = b) : Gv (tIsN ta) σ M (Bl b) := fun H mh Q q => h H mh _ fun v M1 H1 g1 p => q _ M1 H1 g1 (by rw [e M1 v p])
theorem gv_notN {ta : TE} [Mono P] (h : Gv ta σ M P) (e : ∀ M v, P M v → decide (v = .non) = b) : Gv (tNotN ta) σ M (Bl (!b)) := fun H mh Q q => h H mh _ fun v M1 H1 g1 p => q _ M1 H1 g1 (by rw [e M1 v p])
/-- arguments -/
theorem ga_nil : GvA tNil σ M (fun _ vs => vs = []) := fun H mh Q q => q [] M H (.refl mh) rfl
theorem ga_cons {tr : TA} {R : Hp → List V → Prop} [Mono P] (h : Gv te σ M P) (hr : ∀ M1, Same M M1 → GvA tr σ M1 R) : GvA (tCons te tr) σ M (fun M vs => ∃ v r, vs = v :: r ∧ P M v ∧ R M r) := fun H mh Q q =>
  h H mh _ fun x M1 H1 g1 p1 => hr M1 g1.mm H1 g1.mh _ fun vs M2 H2 g2 p2 => q _ M2 H2 (g1.trans g2) ⟨x, vs, rfl, Mono.mono g2.mm p1, p2⟩
/-- displays -/
theorem gv_tup {ta : TA} {R : Hp → List V → Prop} {P : Pr} (h : GvA ta σ M R) (hz : ∀ M vs, R M vs → vs.length ≤ sizeLine) (hp : ∀ M vs p, R M vs → M p = none → P (upd M p (.tup vs)) (.ref p)) : Gv (tTup ta) σ M P := fun H mh Q q =>
  h H mh _ fun vs M1 H1 g1 p1 => ⟨hz M1 vs p1, fun p np => q _ _ _ (g1.trans (.new g1.mh np)) (hp M1 vs p p1 (g1.mh.free np))⟩
theorem gl_lst {ta : TA} {R : Hp → List V → Prop} (h : GvA ta σ M R) (hz : ∀ M vs, R M vs → vs.length ≤ sizeLine) : GvL (tLst ta) σ M R := fun H mh Q q =>
  h H mh _ fun vs M1 H1 g1 p1 => ⟨hz M1 vs p1, fun p np => q p vs M1 _ (g1.trans (.own g1.mh np)) (g1.hh.free np) (g1.mh.free np) upd_same p1⟩
/-- our new list, known from now on -/
theorem GvL.gv {R : Hp → List V → Prop} (h : GvL te σ M R) (hp : ∀ M vs p, R M vs → M p = none → P (upd M p (.lst vs)) (.ref p)) : Gv te σ M P := fun H mh Q q =>
  h H mh Q fun p vs M' H' g h0 m0 hv r => q _ _ H' (g.freeze h0 m0 hv) (hp M' vs p r m0)
theorem GvL.le {R : Hp → List V → Prop} (hR : ∀ M M' vs, Same M M' → R M vs → R M' vs) (h : GvL te σ M R) (e : Same M M1) : GvL te σ M1 R := fun H mh Q q =>
  h H (e.trans mh) Q fun p vs M' H' g h0 m0 hv r => q p vs _ H' (g.join e mh).1 h0 (by rw [jn_none (mh.free h0)]; exact m0) hv (hR _ _ _ (g.join e mh).2 r)
end
end L3

set_option Elab.async false
set_option linter.all false
set_option maxRecDepth 100000
set_option maxHeartbeats 1000000
namespace L3
open PySem PySem.Spec PyProof.Rows L2
/-! walking a value: one rule for each kind of value, joined by «or» -/
abbrev RI := V → Hp → (It → Hp → Prop) → Prop
def PIv (X : Cx) (tg : Expr) (r : RI) : Prop :=
  ∀ {pins : List (Addr × Obj)} {s : Shared} {σ : Sl} {H : Hp} {R : It → Hp → Prop} {x : V} {u : Value}, Inv X pins σ H s → RelV x u → r x H R → wpAny (model X.prog X.w) X.A (pyIter u) (PIE X pins σ tg R) X.xe s
section
variable {X : Cx} {tg : Expr} {r r' : RI}
theorem PIv.or (h : PIv X tg r) (h' : PIv X tg r') : PIv X tg fun x H R => r x H R ∨ r' x H R := fun I rx q => q.elim (h I rx) (h' I rx)
theorem PIv.pi {l : Expr} {te : TE} (h : PIv X tg r) (hl : PE X l te) : PI X tg l fun σ H R => te σ H fun x H1 => r x H1 R where
  run pins s σ H R I q := thn (hl.run pins s σ H _ I q) fun u s1 ⟨_, _, I1, rx, q1⟩ => h I1 rx q1
theorem fps_new {pins : List (Addr × Obj)} {s : Shared} {σ : Sl} {H : Hp} {fp : List Addr} (I : Inv X pins σ H s) (h : ∀ b ∈ fp, s.heap.objs.size ≤ b) : ∀ b ∈ fp, FpOk X pins H b :=
  fun b hb => I.fpOk (h b hb) (I.hok.fresh (h b hb))
/-- a value whose iterator is one new object -/
theorem walk_new {pins : List (Addr × Obj)} {s : Shared} {σ : Sl} {H : Hp} {R : It → Hp → Prop} {u : Value} {o : Obj} {G : Heap → Prop} {J : It} {tn : Addr → Nat → Heap → Prop} (B : Begins u o G) (I : Inv X pins σ H s) (g : G s.heap)
    (T : ∀ it, Turn X.prog X.w X.K tg J [it] it (tn it)) (h0 : ∀ it h, h.get? it = some o → tn it 0 h) (q : R J H) : wpAny (model X.prog X.w) X.A (pyIter u) (PIE X pins σ tg R) X.xe s :=
  B.iter _ _ _ _ s _ g ⟨s.heap.objs.size, _, _, J, H, rfl, I.kept (t' := s.toks) (fun _ _ z => Heap.get?_push_of_some _ z), T _, h0 _ _ (Heap.get?_push_size _ B.free), fps_new I (by intro b hb; rw [List.mem_singleton.mp hb]; exact Nat.le_refl _), q⟩
def wLst (K : PySem.W.Frag) : RI := fun x H R => ∃ a xs, x = .ref a ∧ SqL K H a xs ∧ R (Itl K a) H
def wTup (K : PySem.W.Frag) : RI := fun x H R => ∃ a xs, x = .ref a ∧ SqT K H a xs ∧ R (Itt K a) H
theorem pv_lst : PIv X tg (wLst X.K) := fun I rx ⟨a, xs, ea, hs, q⟩ => by
  subst ea; cases rx
  let ⟨its, _, pl, _⟩ := I.list hs
  exact walk_new (begins_list a its.toArray) I pl.isList (turn_list a) (fun it h e => ⟨_, e, rfl, rfl⟩) q
theorem pv_tup : PIv X tg (wTup X.K) := fun I rx ⟨a, xs, ea, hs, q⟩ => by
  subst ea; cases rx
  let ⟨its, _, pl, _⟩ := I.tuple hs
  exact walk_new (begins_tuple a its.toArray) I pl (turn_tuple a) (fun it h e => ⟨_, e, rfl, rfl⟩) q
/-- a list or a tuple walked -/
def iSq (K : PySem.W.Frag) (te : TE) : TI := fun σ H R => te σ H fun x H1 => ∃ a, x = .ref a ∧ ((∃ xs, SqL K H1 a xs ∧ R (Itl K a) H1) ∨ ∃ xs, SqT K H1 a xs ∧ R (Itt K a) H1)
theorem pi_sq {l : Expr} {te : TE} (hl : PE X l te) : PI X tg l (iSq X.K te) :=
  PIv.pi (r := fun x H1 R => ∃ a, x = .ref a ∧ ((∃ xs, SqL X.K H1 a xs ∧ R (Itl X.K a) H1) ∨ ∃ xs, SqT X.K H1 a xs ∧ R (Itt X.K a) H1))
    (fun I rx ⟨a, ea, q⟩ => (pv_lst.or pv_tup) I rx (q.imp (fun ⟨xs, z⟩ => ⟨a, xs, ea, z⟩) fun ⟨xs, z⟩ => ⟨a, xs, ea, z⟩)) hl
end

/-! enumerate over anything whose items stand still -/
structure Still (P : Program) (w : World) (K : PySem.W.Frag) (a : Addr) (o : Obj) (rd : Hp → List V → Prop) (pt : Addr → Nat → Heap → Prop) (fx : List Value → Heap → Prop) : Prop where
  got : ∀ {X : Cx} {pins : List (Addr × Obj)} {σ : Sl} {H : Hp} {s : Shared} {xs : List V}, X.K = K → Inv X pins σ H s → rd H xs → ∃ its, Vals xs its ∧ fx its s.heap
  one : ∀ {X : Cx} {pins : List (Addr × Obj)} {σ : Sl} {H : Hp} {s : Shared} {xs ys : List V}, X.K = K → Inv X pins σ H s → rd H xs → rd H ys → xs = ys
  dr : ∀ {A : Around} {it : Addr} (its : List Value), A.handled = none → a ≠ it → Draws P w A it [it, a] its.toArray.size (fun i v => its.toArray[i]? = some v) (fun i h => pt it i h ∧ fx its h)
  live : ∀ {it : Addr} {i : Nat} {h : Heap}, pt it i h → ∃ ob, h.get? it = some ob ∧ ∀ v, ob.data ≠ .cell v
  mv : ∀ {it : Addr} {i : Nat} {h h' : Heap}, pt it i h → (∀ ob, h.get? it = some ob → h'.get? it = some ob) → pt it i h'
  lt : ∀ {its : List Value} {h : Heap}, fx its h → a < h.objs.size
  bg : ∀ its : List Value, Begins (.ref a) o (fx its)
  st : ∀ {it : Addr} {h : Heap}, h.get? it = some o → pt it 0 h
theorem still_lst {P : Program} {w : World} {K : PySem.W.Frag} (a : Addr) : Still P w K a { cls := .type "list_iterator", data := .fields #[.ref a, .int 0 0] } (fun H xs => SqL K H a xs) (fun it i h => h.IsListIter it a i) (fun its h => h.IsList a its.toArray) where
  got hk I h := by subst hk; let ⟨its, r, p, _⟩ := I.list h; exact ⟨its, r, p.isList⟩
  one hk I h h' := by subst hk; exact I.list_inj h h'
  dr its hh hn := Draws.list hh _ _ hn _
  live h := let ⟨ob, e, _, d⟩ := h; ⟨ob, e, fun v z => by rw [d] at z; exact nomatch z⟩
  mv h k := let ⟨ob, e, z⟩ := h; ⟨ob, k ob e, z⟩
  lt h := let ⟨_, e, _⟩ := h; Heap.lt_size e
  bg its := begins_list a its.toArray
  st h := ⟨_, h, rfl, rfl⟩
theorem still_tup {P : Program} {w : World} {K : PySem.W.Frag} (a : Addr) : Still P w K a { cls := .type "tuple_iterator", data := .fields #[.ref a, .int 0 0] } (fun H xs => SqT K H a xs) (fun it i h => h.IsTupleIter it a i) (fun its h => h.IsTuple a its.toArray) where
  got hk I h := by subst hk; let ⟨its, r, p, _⟩ := I.tuple h; exact ⟨its, r, p⟩
  one hk I h h' := by subst hk; exact I.tuple_inj h h'
  dr its hh hn := Draws.tuple hh _ _ hn _
  live h := let ⟨ob, e, _, d⟩ := h; ⟨ob, e, fun v z => by rw [d] at z; exact nomatch z⟩
  mv h k := let ⟨ob, e, z⟩ := h; ⟨ob, k ob e, z⟩
  lt h := let ⟨_, e, _⟩ := h; Heap.lt_size e
  bg its := begins_tuple a its.toArray
  st h := ⟨_, h, rfl, rfl⟩
/-- the walk: number and item as a new pair -/
def IeS (rd : Hp → List V → Prop) : It :=
  ⟨fun i H => ∃ xs, rd H xs ∧ i < xs.length, fun i H v H' => ∃ p x, v = .ref p ∧ H p = none ∧ H' = upd H p (.tup [.int (i : Nat), x]) ∧ ∀ xs, rd H xs → xs[i]? = some x, fun i H => ∃ xs, rd H xs ∧ xs.length = i⟩
theorem walk_eS {rd : Hp → List V → Prop} {xs : List V} : Walk (IeS rd) xs.length (fun H => rd H xs) (YPair (fun i => some (.int (i : Nat))) (fun i => xs[i]?)) :=
  ⟨fun _ _ hi q => ⟨xs, q, hi⟩, fun _ q => ⟨xs, q, rfl⟩, fun i _ _ _ _ q ⟨p, x, h1, h2, h3, h4⟩ => ⟨p, _, x, h1, h2, h3, rfl, h4 xs q⟩⟩
section
variable {P : Program} {w : World} {K : PySem.W.Frag} {a : Addr} {o : Obj} {rd : Hp → List V → Prop} {pt : Addr → Nat → Heap → Prop} {fx : List Value → Heap → Prop} {elts : List Expr} {kk : Nat} {tpos : Pos}
/-- where the two objects of the walk stand -/
def EnAt (pt : Addr → Nat → Heap → Prop) (e it : Addr) (i : Nat) (h : Heap) : Prop := ∃ old, IsEnum h e it (i : Nat) old ∧ pt it i h
theorem turn_eS (S : Still P w K a o rd pt fx) {e it : Addr} (n1 : e ≠ it) (n2 : e ≠ a) (n3 : a ≠ it) : Turn P w K (.Tuple elts kk tpos) (IeS rd) [e, it] e (EnAt pt e it) where
  mem := .head _
  obj := fun i h ⟨old, he, hp⟩ b hb => by
    cases hb with
    | head => exact ⟨_, he, fun v z => nomatch z⟩
    | tail _ hb => rw [List.mem_singleton.mp hb]; exact S.live hp
  keep := fun i h h' ⟨old, he, hp⟩ k => ⟨old, k e (.head _) _ he, S.mv hp (k it (.tail _ (.head _)))⟩
  self := fun A i s Q E ⟨old, he, _⟩ q => wpAny_pyIter_enum he q
  done := fun X e1 e2 e3 hc i pins s σ H E I hf ⟨old, he, hp⟩ ⟨xs, hx, hl⟩ => by
    subst e1 e2
    obtain ⟨its, rv, fx0⟩ := S.got e3 I hx
    have hi : i = its.toArray.size := by rw [List.size_toArray, ← rv.length, hl]
    subst hi
    have f := hf it (.tail _ (.head _))
    exact wpAny_pyNext_enum_endD (S.dr (A := X.A.in1) its (I.ok.hd hc) n3) he ⟨hp, fx0⟩ fun h' k => ⟨rfl, I.turned (t' := s.toks) k f.1 f.2.1 f.2.2.2.1 f.2.2.2.2.1 f.2.2.2.2.2⟩
  item := fun X e1 e2 e3 hc i pins s σ H E I hf ⟨old, he, hp⟩ ⟨xs, hx, hl⟩ => by
    subst e1 e2
    obtain ⟨its, rv, fx0⟩ := S.got e3 I hx
    have hlt : i < its.toArray.size := by rw [List.size_toArray, ← rv.length]; exact hl
    have be := Heap.lt_size he
    have bi : it < s.heap.objs.size := let ⟨_, z, _⟩ := S.live hp; Heap.lt_size z
    have out : e ∉ [it, a] := fun z => by
      cases z with
      | head => exact n1 rfl
      | tail _ z => exact n2 (List.mem_singleton.mp z)
    refine wpAny_pyNext_enum_itemD (S.dr (A := X.A.in1) its (I.ok.hd hc) n3) he ⟨hp, fx0⟩ hlt n1 out fun y h1 tk hy eo pt1 new _ kp => ⟨_, rfl, ?_⟩
    refine wpAny_letOwnedTupleGo_enum (s := { s with heap := h1, toks := tk + 1 }) eo fun h2 en sb => ?_
    obtain ⟨x, gx, rx⟩ : ∃ x, xs[i]? = some x ∧ RelV x y := by
      have z := rv.get (x := xs[i]) (List.getElem?_eq_getElem hl)
      obtain ⟨y', g, rr⟩ := z
      rw [List.getElem?_toArray, g] at hy
      exact ⟨_, List.getElem?_eq_getElem hl, Option.some.inj hy ▸ rr⟩
    have stands : h2.get? s.heap.objs.size = some { cls := .type "tuple", data := .seq #[.int i tk, y] } := (sb.2 _ (Nat.ne_of_gt be)).trans new
    have kept : ∀ b ob, b ∉ [e, it] → s.heap.get? b = some ob → h2.get? b = some ob := fun b ob hb z =>
      have m1 : b ≠ e := fun q => hb (q ▸ .head _)
      (sb.2 b m1).trans (kp b ob m1 (fun q => hb (q ▸ .tail _ (.head _))) z)
    have J := I.turnedNew (t' := tk + 1) (ob := .tup [.int (i : Nat), x]) kept hf (Nat.le_refl _) ⟨(by show 2 ≤ sizeLine; decide), [.int i tk, y], .cons ⟨_, rfl⟩ (.cons rx .nil), ⟨_, stands, rfl, _, rfl⟩⟩
    refine ⟨.ref s.heap.objs.size, _, J, rfl, ⟨_, x, rfl, I.hok.fresh (Nat.le_refl _), rfl, fun ys hy' => S.one e3 I hx hy' ▸ gx⟩, ⟨y, en, S.mv pt1.1 fun ob z => (sb.2 it (Ne.symm n1)).trans z⟩, fun b hb => ?_⟩
    have bb : b ≠ s.heap.objs.size := by
      cases hb with
      | head => exact Nat.ne_of_lt be
      | tail _ hb => rw [List.mem_singleton.mp hb]; exact Nat.ne_of_lt bi
    rw [upd_ne bb]
    exact (hf b hb).1
/-- enumerate(v): two new objects -/
theorem en_new {v : Value} {o : Obj} {G : Heap → Prop} (B : Begins v o G) : Meets (Builtin.«enumerate.__new__» ⟨[.type "enumerate", v], []⟩) fun _ R s => G s.heap ∧
    R (.ok (.ret (.ref (s.heap.push o).objs.size))) { s with heap := (s.heap.push o).push { cls := .type "enumerate", data := .fields #[.none, .bool false, .ref s.heap.objs.size, rawInt 0, .none, .none] } } := by
  refine Meets.of_wp fun prog w A R ⟨hp, gs, dn, tk, os⟩ q => ?_
  have isub := sub_enumerate
  have first {A' : Around} {E Q : Value → Shared → Prop} (z : Q (.ref hp.objs.size) ⟨hp.push o, gs, dn, tk, os⟩) : wpAny (model prog w) A' (pyIter v) Q E ⟨hp, gs, dn, tk, os⟩ := B.iter prog w A' E ⟨hp, gs, dn, tk, os⟩ Q q.1 z
  wp_walk using first
  refine wpAny_stack_any fun st => wpAny_pure ?_
  split
  next c _ _ _ _ _ => by_cases hcl : (c == Value.type "enumerate") = true <;> simp only [hcl] <;> wp_walk using first <;> exact ⟨_, rfl, q.2⟩
  next => wp_walk using first; exact ⟨_, rfl, q.2⟩
theorem en_walk {X : Cx} {pins : List (Addr × Obj)} {s : Shared} {σ : Sl} {H : Hp} {R : It → Hp → Prop} {xs : List V} (S : Still X.prog X.w X.K a o rd pt fx) (I : Inv X pins σ H s) (hx : rd H xs) (q : R (IeS rd) H) :
    wpAny (model X.prog X.w) X.A (call (.type "enumerate") [.ref a]) (fun v s1 => wpAny (model X.prog X.w) X.A (pyIter v) (PIE X pins σ (.Tuple elts kk tpos) R) X.xe s1) X.xe s := by
  obtain ⟨its, _, f0⟩ := S.got rfl I hx
  have la := S.lt f0
  have B := S.bg its
  have hN : (s.heap.push o).objs.size = s.heap.objs.size + 1 := Heap.size_push ..
  apply callType_new F.called_enumerate (by decide) (F.typeCall_enumerate_1 _) (F.newCall_enumerate_1 _) (fun ob => F.args_object_init_2 ob _) F.entry_enumerate_new (en_new B)
  refine ⟨f0, ?_⟩
  have top := Heap.get?_push_size (s.heap.push o) (o := ({ cls := .type "enumerate", data := .fields #[.none, .bool false, .ref s.heap.objs.size, rawInt 0, .none, .none] } : Obj)) rfl
  have below : ∀ b ob, (s.heap.push o).get? b = some ob → ((s.heap.push o).push { cls := .type "enumerate", data := .fields #[.none, .bool false, .ref s.heap.objs.size, rawInt 0, .none, .none] }).get? b = some ob := fun b ob z => Heap.get?_push_of_some _ z
  refine ⟨⟨_, top, rfl⟩, ?_⟩
  rw [hN] at top ⊢
  refine wpAny_pyIter_enum top ⟨_, [s.heap.objs.size + 1, s.heap.objs.size], _, IeS rd, H, rfl, I.kept (t' := s.toks) (fun b ob z => below b ob (Heap.get?_push_of_some _ z)), turn_eS S (Nat.succ_ne_self _) (Nat.ne_of_gt (Nat.lt_succ_of_lt la)) (Nat.ne_of_lt la), ⟨.none, top, S.st (below _ _ (Heap.get?_push_size _ B.free))⟩, fps_new I fun b hb => ?_, q⟩
  cases hb with
  | head => exact Nat.le_succ _
  | tail _ hb => rw [List.mem_singleton.mp hb]; exact Nat.le_refl _
end
def iEn (K : PySem.W.Frag) (ta : TA) : TI := fun σ H R => ta σ H fun vs H1 => ∃ a, vs = [.ref a] ∧ ((∃ xs, SqL K H1 a xs ∧ R (IeS fun H xs => SqL K H a xs) H1) ∨ ∃ xs, SqT K H1 a xs ∧ R (IeS fun H xs => SqT K H a xs) H1)
theorem pi_en {X : Cx} {e : Expr} {ta : TA} {p pos tpos : Pos} {elts : List Expr} {kk : Nat} (hg : Gl X "enumerate") (hm : X.mg "enumerate" = none) (ha : PA X [e] ta) (hs : starEach [e] X.env = [(false, eval e X.env)] := by rfl) :
    PI X (.Tuple elts kk tpos) (.Call (.Name "enumerate" p) [e] [] pos) (iEn X.K ta) where
  run pins s σ H R I h := by
    refine Call_ (ld_blt I hg hm boot_enumerate (PyProof.Rows.callWith_type1 (thn (ha.run pos pins s σ H _ I h) fun us s1 z => ?_) hs rfl))
    obtain ⟨vs, H1, I1, rvs, a, rfl, q⟩ := z
    obtain ⟨_, rfl, rfl⟩ := vals1 rvs
    rcases q with ⟨xs, hx, q⟩ | ⟨xs, hx, q⟩
    · exact en_walk (still_lst a) I1 hx q
    · exact en_walk (still_tup a) I1 hx q
end L3

set_option Elab.async false
set_option linter.all false
set_option maxRecDepth 100000
set_option maxHeartbeats 1000000
namespace L3
open PySem PySem.Spec PyProof.Rows L2
/-! typed relations -/
abbrev Rl (α : Type) := α → Pr
class Mon {α : Type} (R : Rl α) : Prop where
  mono : ∀ {x : α} {M M' : Hp} {v : V}, Same M M' → R x M v → R x M' v
instance {α : Type} {R : Rl α} [h : Mon R] {x : α} : Mono (R x) := ⟨fun e p => h.mono e p⟩
instance : Mon Tx := ⟨fun _ h => h⟩
instance : Mon It' := ⟨fun _ h => h⟩
instance : Mon Bl := ⟨fun _ h => h⟩
instance {K : PySem.W.Frag} : Mon (Dd K) := ⟨fun e h => dp_mono e h⟩
abbrev Pd {α : Type} (R : Rl α) (M : Hp) : List α → List V → Prop := Paired fun x v => R x M v
theorem Pd.mono {α : Type} {R : Rl α} [Mon R] {M M' : Hp} (e : Same M M') {xs : List α} {vs : List V} (h : Pd R M xs vs) : Pd R M' xs vs := Paired.mapP h fun _ _ q => Mon.mono e q
theorem pd_get {α β : Type} {F : α → β → Prop} : ∀ {xs : List α} {vs : List β} {i : Nat} {x : α}, Paired F xs vs → xs[i]? = some x → ∃ v, vs[i]? = some v ∧ F x v
  | _, _, _, _, .nil, e => by simp at e
  | _, _, 0, _, .cons h _, e => by
    have e' := Option.some.inj (show some _ = some _ from e)
    subst e'
    exact ⟨_, rfl, h⟩
  | _, _, i + 1, _, .cons _ t, e => pd_get (i := i) t (by simpa using e)
theorem pd_get' {α β : Type} {F : α → β → Prop} : ∀ {xs : List α} {vs : List β} {i : Nat} {v : β}, Paired F xs vs → vs[i]? = some v → ∃ x, xs[i]? = some x ∧ F x v
  | _, _, _, _, .nil, e => by simp at e
  | _, _, 0, _, .cons h _, e => by
    have e' := Option.some.inj (show some _ = some _ from e)
    subst e'
    exact ⟨_, rfl, h⟩
  | _, _, i + 1, _, .cons _ t, e => pd_get' (i := i) t (by simpa using e)
theorem pd_app {α β : Type} {F : α → β → Prop} : ∀ {xs ys : List α} {vs ws : List β}, Paired F xs vs → Paired F ys ws → Paired F (xs ++ ys) (vs ++ ws)
  | _, _, _, _, .nil, s => s
  | _, _, _, _, .cons r t, s => .cons r (pd_app t s)
theorem pd_take {α β : Type} {F : α → β → Prop} : ∀ {xs : List α} {vs : List β} (n : Nat), Paired F xs vs → Paired F (xs.take n) (vs.take n)
  | _, _, 0, _ => .nil
  | _, _, _ + 1, .nil => .nil
  | _, _, n + 1, .cons r t => .cons r (pd_take n t)
theorem pd_drop {α β : Type} {F : α → β → Prop} : ∀ {xs : List α} {vs : List β} (n : Nat), Paired F xs vs → Paired F (xs.drop n) (vs.drop n)
  | _, _, 0, h => h
  | _, _, _ + 1, .nil => .nil
  | _, _, n + 1, .cons _ t => pd_drop n t
def TupR (K : PySem.W.Frag) {α : Type} (R : Rl α) : Rl (List α) := fun xs M v => ∃ a vs, v = .ref a ∧ SqT K M a vs ∧ Pd R M xs vs
def LstR (K : PySem.W.Frag) {α : Type} (R : Rl α) : Rl (List α) := fun xs M v => ∃ a vs, v = .ref a ∧ SqL K M a vs ∧ Pd R M xs vs
def SqR (K : PySem.W.Frag) {α : Type} (R : Rl α) : Rl (List α) := fun xs M v => LstR K R xs M v ∨ TupR K R xs M v
section
variable {K : PySem.W.Frag} {α : Type} {R : Rl α}
instance [Mon R] : Mon (TupR K R) := ⟨fun e ⟨a, vs, h1, h2, h3⟩ => ⟨a, vs, h1, st_mono e h2, h3.mono e⟩⟩
instance [Mon R] : Mon (LstR K R) := ⟨fun e ⟨a, vs, h1, h2, h3⟩ => ⟨a, vs, h1, sl_mono e h2, h3.mono e⟩⟩
instance [Mon R] : Mon (SqR K R) := ⟨fun e h => h.imp (Mon.mono e) (Mon.mono e)⟩
theorem TupR.sq {xs : List α} {M : Hp} {v : V} (h : TupR K R xs M v) : SqR K R xs M v := .inr h
theorem LstR.sq {xs : List α} {M : Hp} {v : V} (h : LstR K R xs M v) : SqR K R xs M v := .inl h
/-- as data -/
def PyR (K : PySem.W.Frag) (R : Rl α) (e : α → PyData) : Prop := ∀ x M v, R x M v → Dp K M v (e x)
theorem py_str : PyR K Tx PyData.str := fun x M v h => by cases (show v = .str x from h); exact .str x
theorem py_int : PyR K It' PyData.int := fun x M v h => by cases (show v = .int x from h); exact .int x
theorem py_all {e : α → PyData} (h : PyR K R e) {M : Hp} : ∀ {xs : List α} {vs : List V}, Pd R M xs vs → DpAll K M vs (xs.map e)
  | _, _, .nil => .nil
  | _, _, .cons q t => .cons (h _ _ _ q) (py_all h t)
theorem py_tup {e : α → PyData} (h : PyR K R e) : PyR K (TupR K R) fun xs => .tuple (xs.map e) := fun xs M v ⟨a, vs, h1, h2, h3⟩ => by subst h1; exact .tup h2 (py_all h h3)
theorem py_lst {e : α → PyData} (h : PyR K R e) : PyR K (LstR K R) fun xs => .list (xs.map e) := fun xs M v ⟨a, vs, h1, h2, h3⟩ => by subst h1; exact .lst h2 (py_all h h3)
theorem py_sq {e : α → PyData} (h : PyR K R e) {xs : List α} {M : Hp} {v : V} (q : SqR K R xs M v) : Sq K (xs.map e) M v := q.imp (py_lst h _ _ _) (py_tup h _ _ _)
/-- e tells things apart as == does -/
def Inj (e : α → PyData) [DecidableEq α] : Prop := ∀ x y, PyData.eqv (e x) (e y) = decide (x = y)
theorem str_beq (x y : Str) : (x == y) = decide (x = y) := by
  by_cases h : x = y
  · subst h; simp
  · rw [decide_eq_false h]; exact beq_eq_false_iff_ne.mpr h
theorem inj_str : Inj PyData.str := fun x y => by simp only [PyData.eqv]; exact str_beq x y
theorem inj_int : Inj PyData.int := fun x y => by
  simp only [PyData.eqv]
  by_cases h : x = y
  · subst h; simp
  · rw [decide_eq_false h]; exact beq_eq_false_iff_ne.mpr h
theorem inj_all {e : α → PyData} [DecidableEq α] (h : Inj e) : ∀ xs ys : List α, PyData.eqvAll (xs.map e) (ys.map e) = decide (xs = ys)
  | [], [] => by simp [PyData.eqvAll]
  | [], _ :: _ => by simp [PyData.eqvAll]
  | _ :: _, [] => by simp [PyData.eqvAll]
  | x :: xs, y :: ys => by
    simp only [List.map_cons, PyData.eqvAll, h x y, inj_all h xs ys]
    by_cases h1 : x = y <;> by_cases h2 : xs = ys <;> simp [h1, h2]
theorem inj_tup {e : α → PyData} [DecidableEq α] (h : Inj e) : Inj fun xs : List α => PyData.tuple (xs.map e) := fun xs ys => by simp only [PyData.eqv]; exact inj_all h xs ys
theorem inj_lst {e : α → PyData} [DecidableEq α] (h : Inj e) : Inj fun xs : List α => PyData.list (xs.map e) := fun xs ys => by simp only [PyData.eqv]; exact inj_all h xs ys
theorem any_mem {e : α → PyData} [DecidableEq α] (h : Inj e) (x : α) : ∀ xs : List α, ((xs.map e).any fun z => PyData.eqv z (e x)) = decide (x ∈ xs)
  | [] => by simp
  | y :: ys => by
    rw [List.map_cons, List.any_cons, any_mem h x ys, h y x]
    by_cases h1 : x = y
    · subst h1; simp
    · have h2 : ¬ y = x := fun z => h1 z.symm
      simp [h1, h2]
end
section
variable {K : PySem.W.Frag} {σ : Sl} {M : Hp} {ta tb te ts : TE} {tt : TT} {α β : Type} {R : Rl α} {S : Rl β}
theorem gv_eqT {e : α → PyData} [DecidableEq α] [Mon R] {neg : Bool} {x y : α} (pe : PyR K R e) (ie : Inj e) (ha : Gv ta σ M (R x)) (hb : Gv tb σ M (R y)) (hz : (e x).depth ≤ 60) : Gv (tOp (rEqP K neg) ta tb) σ M (Bl (xor neg (decide (x = y)))) := by
  rw [← ie]
  exact gv_eq (gv_is ha fun M v h => pe _ _ _ h) (gv_is hb fun M v h => pe _ _ _ h) hz
theorem wipe1 {j : Nat} {v : V} : wipe ((wipe σ [j]).set j (some v)) [j] = wipe σ [j] := by
  show ((σ.set j none).set j (some v)).set j none = σ.set j none
  rw [List.set_set, List.set_set]
/-- a comprehension over a list or tuple -/
theorem gl_lc [Mon R] [Mon S] {j : Nat} {xs : List α} (hsrc : Gv ts σ M (SqR K R xs)) (hz : xs.length ≤ sizeLine) (t : α → Bool) (f : α → β)
    (ht : ∀ x ∈ xs, ∀ M1 v, Same M M1 → R x M1 v → GvT tt ((wipe σ [j]).set j (some v)) M1 (t x))
    (he : ∀ x ∈ xs, t x = true → ∀ M1 v, Same M M1 → R x M1 v → Gv te ((wipe σ [j]).set j (some v)) M1 (S (f x))) :
    GvL (tLc (iSq K ts) (gName j) tt te [j]) σ M fun M vs => Pd S M ((xs.filter t).map f) vs := by
  intro H mh Q q
  refine hsrc H mh _ fun v M1 H1 g1 hv => ?_
  have core : ∀ (J : It) (G : Hp → Prop) (vs : List V), Walk J vs.length G (YAt vs) → (∀ M2 H2, Same M1 M2 → Same M2 H2 → G H2) → Pd R M1 xs vs →
      ∀ D, H1 D = none → ∃ W : Nat → Nat → Hp → Prop, (∃ m, W 0 m (upd H1 D (.lst []))) ∧ ∀ i m H, W i m H →
        (J.stop i H ∧ Q (.ref D) H) ∨ (J.go i H ∧ ∃ Nx : Hp → Prop, (∀ H', Nx H' → ∃ m', m' < m ∧ W (i + 1) m' H') ∧ ∀ x H', J.yld i H x H' → gName j x (wipe σ [j]) H' fun σ2 H2 => wipe σ2 [j] = wipe σ [j] ∧ tt σ2 H2 fun b H3 =>
          if b = true then te σ2 H3 fun y H4 => ∃ acc, H4 D = some (.lst acc) ∧ acc.length < sizeLine ∧ Nx (upd H4 D (.lst (acc ++ [y]))) else Nx H3) := by
    intro J G vs w hG hp D hD
    refine lc_it w (fun i H' => ∃ M' ws, Gr M1 H1 M' H' ∧ M' D = none ∧ H' D = some (.lst ws) ∧ ws.length ≤ i ∧ Pd S M' (((xs.take i).filter t).map f) ws) ⟨M1, [], .own g1.mh hD, g1.mh.free hD, upd_same, Nat.le_refl _, .nil⟩ (fun i H' _ ⟨M', ws, g, _⟩ => hG M' H' g.mm g.mh) ?_ ?_
    · rintro i y H' H'' hi ⟨M', ws, g, m0, hw, hl, hpd⟩ ⟨rfl, hy⟩
      obtain ⟨x, hx, rx⟩ := pd_get' hp hy
      have hxm : x ∈ xs := List.mem_of_getElem? hx
      have et : xs.take (i + 1) = xs.take i ++ [x] := by rw [List.take_add_one, hx]; rfl
      have hil : i < xs.length := (List.getElem?_eq_some_iff.mp hx).1
      refine ⟨wipe1, ht x hxm M' y (g1.mm.trans g.mm) (Mon.mono g.mm rx) H'' g.mh _ fun M2 H2 g2 => ?_⟩
      cases ex : t x with
      | true =>
        refine he x hxm ex M2 y ((g1.mm.trans g.mm).trans g2.mm) (Mon.mono (g.mm.trans g2.mm) rx) H2 g2.mh _ fun z M3 H3 g3 hz3 => ?_
        have g' := (g.trans g2).trans g3
        have k3 : H3 D = some (.lst ws) := g3.hh _ _ (g2.hh _ _ hw)
        have m3 : M3 D = none := (g2.trans g3).keep m0 hw
        refine ⟨ws, k3, Nat.lt_of_lt_of_le (Nat.lt_of_le_of_lt hl hil) hz, M3, ws ++ [z], g'.mut hD m3, m3, upd_same, by rw [List.length_append]; exact Nat.succ_le_succ hl, ?_⟩
        rw [et, List.filter_append, List.map_append, List.filter_cons, ex]
        exact pd_app (hpd.mono (g2.mm.trans g3.mm)) (.cons hz3 .nil)
      | false =>
        refine ⟨M2, ws, g.trans g2, g2.keep m0 hw, g2.hh _ _ hw, Nat.le_succ_of_le hl, ?_⟩
        rw [et, List.filter_append, List.map_append, List.filter_cons, ex]
        show Pd S M2 (_ ++ []) ws
        rw [List.append_nil]
        exact hpd.mono g2.mm
    · rintro H' ⟨M', ws, g, m0, hw, hl, hpd⟩
      rw [List.take_of_length_le (by rw [hp.length]; exact Nat.le_refl _)] at hpd
      exact q D ws M' H' (g1.trans g) (g1.hh.free hD) m0 hw hpd
  rcases hv with ⟨a, vs, rfl, hs, hp⟩ | ⟨a, vs, rfl, hs, hp⟩
  · exact ⟨a, rfl, .inl ⟨vs, sl_mono g1.mh hs, core (Itl K a) (fun H => SqL K H a vs) vs walk_list (fun M2 H2 s1 s2 => sl_mono (s1.trans s2) hs) hp⟩⟩
  · exact ⟨a, rfl, .inr ⟨vs, st_mono g1.mh hs, core (Itt K a) (fun H => SqT K H a vs) vs walk_tup (fun M2 H2 s1 s2 => st_mono (s1.trans s2) hs) hp⟩⟩
end
end L3

set_option Elab.async false
set_option linter.all false
set_option maxRecDepth 100000
set_option maxHeartbeats 1000000
namespace L3
open PySem PySem.Spec PyProof.Rows L2
/-! promises of pure defs -/
section
variable {α β γ : Type}
def sp1 (R1 : Rl α) (pre : α → Prop) (R : α → Pr) : Sp := fun vs H Q _ => ∃ x M v, vs = [v] ∧ Same M H ∧ R1 x M v ∧ pre x ∧ ∀ u M' H', Gr M H M' H' → R x M' u → Q u H'
def sp2 (R1 : Rl α) (R2 : Rl β) (pre : α → β → Prop) (R : α → β → Pr) : Sp := fun vs H Q _ => ∃ x y M v w, vs = [v, w] ∧ Same M H ∧ R1 x M v ∧ R2 y M w ∧ pre x y ∧ ∀ u M' H', Gr M H M' H' → R x y M' u → Q u H'
def sp3 (R1 : Rl α) (R2 : Rl β) (R3 : Rl γ) (pre : α → β → γ → Prop) (R : α → β → γ → Pr) : Sp := fun vs H Q _ => ∃ x y z M v w u, vs = [v, w, u] ∧ Same M H ∧ R1 x M v ∧ R2 y M w ∧ R3 z M u ∧ pre x y z ∧ ∀ u M' H', Gr M H M' H' → R x y z M' u → Q u H'
/-- a new list comes back -/
def sl1 (R1 : Rl α) (pre : α → Prop) (R : α → Hp → List V → Prop) : Sp := fun vs H Q _ => ∃ x M v, vs = [v] ∧ Same M H ∧ R1 x M v ∧ pre x ∧
  ∀ p ws M' H', Gr M H M' H' → H p = none → M' p = none → H' p = some (.lst ws) → R x M' ws → Q (.ref p) H'
def sl2 (R1 : Rl α) (R2 : Rl β) (pre : α → β → Prop) (R : α → β → Hp → List V → Prop) : Sp := fun vs H Q _ => ∃ x y M v w, vs = [v, w] ∧ Same M H ∧ R1 x M v ∧ R2 y M w ∧ pre x y ∧
  ∀ p ws M' H', Gr M H M' H' → H p = none → M' p = none → H' p = some (.lst ws) → R x y M' ws → Q (.ref p) H'
variable {K : PySem.W.Frag} {σ : Sl} {M : Hp} {t1 t2 t3 ta te ts : TE} {R1 : Rl α} {R2 : Rl β} {R3 : Rl γ} {E : XK}
theorem gv_call1 {pre : α → Prop} {R : α → Pr} {x : α} (h1 : Gv t1 σ M (R1 x)) (hp : pre x) : Gv (tCall (sp1 R1 pre R) [] E (tCons t1 tNil)) σ M (R x) := fun H mh Q q =>
  h1 H mh _ fun v M1 H1 g1 p1 => ⟨x, M1, v, rfl, g1.mh, p1, hp, fun u M' H' g r => q u M' H' (g1.trans g) r⟩
theorem gv_call2 [Mon R1] [Mon R2] {pre : α → β → Prop} {R : α → β → Pr} {x : α} {y : β} (h1 : Gv t1 σ M (R1 x)) (h2 : Gv t2 σ M (R2 y)) (hp : pre x y) : Gv (tCall (sp2 R1 R2 pre R) [] E (tCons t1 (tCons t2 tNil))) σ M (R x y) := fun H mh Q q =>
  h1 H mh _ fun v M1 H1 g1 p1 => h2.le g1.mm H1 g1.mh _ fun w M2 H2 g2 p2 => ⟨x, y, M2, v, w, rfl, g2.mh, Mon.mono g2.mm p1, p2, hp, fun u M' H' g r => q u M' H' ((g1.trans g2).trans g) r⟩
theorem gv_call3 [Mon R1] [Mon R2] [Mon R3] {pre : α → β → γ → Prop} {R : α → β → γ → Pr} {x : α} {y : β} {z : γ} (h1 : Gv t1 σ M (R1 x)) (h2 : Gv t2 σ M (R2 y)) (h3 : Gv t3 σ M (R3 z)) (hp : pre x y z) :
    Gv (tCall (sp3 R1 R2 R3 pre R) [] E (tCons t1 (tCons t2 (tCons t3 tNil)))) σ M (R x y z) := fun H mh Q q =>
  h1 H mh _ fun v M1 H1 g1 p1 => h2.le g1.mm H1 g1.mh _ fun w M2 H2 g2 p2 => h3.le (g1.mm.trans g2.mm) H2 g2.mh _ fun u M3 H3 g3 p3 =>
    ⟨x, y, z, M3, v, w, u, rfl, g3.mh, Mon.mono (g2.mm.trans g3.mm) p1, Mon.mono g3.mm p2, p3, hp, fun u M' H' g r => q u M' H' (((g1.trans g2).trans g3).trans g) r⟩
theorem gl_call2 [Mon R1] [Mon R2] {pre : α → β → Prop} {R : α → β → Hp → List V → Prop} {x : α} {y : β} (h1 : Gv t1 σ M (R1 x)) (h2 : Gv t2 σ M (R2 y)) (hp : pre x y) : GvL (tCall (sl2 R1 R2 pre R) [] E (tCons t1 (tCons t2 tNil))) σ M (R x y) := fun H mh Q q =>
  h1 H mh _ fun v M1 H1 g1 p1 => h2.le g1.mm H1 g1.mh _ fun w M2 H2 g2 p2 => ⟨x, y, M2, v, w, rfl, g2.mh, Mon.mono g2.mm p1, p2, hp, fun p ws M' H' g h0 m0 hw r => q p ws M' H' ((g1.trans g2).trans g) ((g1.trans g2).hh.free h0) m0 hw r⟩
/-! built-ins -/
theorem gv_cb1 {r : List V → Hp → VK → Prop} {P P' : Pr} [Mono P] (h : Gv te σ M P) (hr : ∀ M' v, P M' v → RV (r [v]) M' P') : Gv (tCB r (tCons te tNil)) σ M P' := fun H mh Q q =>
  h H mh _ fun v M1 H1 g1 p1 => hr M1 v p1 H1 g1.mh Q fun u M' H' g r => q u M' H' (g1.trans g) r
theorem pd_bl {bs : List Bool} {M : Hp} : ∀ {vs : List V}, Pd Bl M bs vs → vs = bs.map V.bl := by
  induction bs with
  | nil => intro vs h; cases h; rfl
  | cons b bs ih => intro vs h; cases h with | cons q t => rw [ih t, (show _ = V.bl b from q)]; rfl
theorem pd_tx {xs : List Str} {M : Hp} : ∀ {vs : List V}, Pd Tx M xs vs → vs = xs.map V.str := by
  induction xs with
  | nil => intro vs h; cases h; rfl
  | cons b bs ih => intro vs h; cases h with | cons q t => rw [ih t, (show _ = V.str b from q)]; rfl
theorem pd_of_tx {M : Hp} : ∀ (xs : List Str), Pd Tx M xs (xs.map V.str)
  | [] => .nil
  | _ :: r => .cons rfl (pd_of_tx r)
theorem gv_all {bs : List Bool} (h : GvL te σ M fun M vs => Pd Bl M bs vs) : Gv (tCB (rAll K) (tCons te tNil)) σ M (Bl (bs.all id)) := fun H mh Q q =>
  h H mh _ fun p vs M' H' g h0 m0 hw r => ⟨p, bs, rfl, by rw [pd_bl r] at hw; exact .inl (.inl hw), q _ M' H' g rfl⟩
theorem gv_any {bs : List Bool} (h : GvL te σ M fun M vs => Pd Bl M bs vs) : Gv (tCB (rAny K) (tCons te tNil)) σ M (Bl (bs.any id)) := fun H mh Q q =>
  h H mh _ fun p vs M' H' g h0 m0 hw r => ⟨p, bs, rfl, by rw [pd_bl r] at hw; exact .inl (.inl hw), q _ M' H' g rfl⟩
def rTupOf (K : PySem.W.Frag) : List V → Hp → VK → Prop := fun xs H Q => ∃ p ys, xs = [.ref p] ∧ ((SqL K H p ys ∧ ∀ l, H l = none → Q (.ref l) (upd H l (.tup ys))) ∨ (SqT K H p ys ∧ Q (.ref p) H))
def rLstOf (K : PySem.W.Frag) : List V → Hp → VK → Prop := fun xs H Q => ∃ p ys, xs = [.ref p] ∧ (SqL K H p ys ∨ SqT K H p ys) ∧ ∀ l, H l = none → Q (.ref l) (upd H l (.lst ys))
def rLenOf (K : PySem.W.Frag) : List V → Hp → VK → Prop := fun xs H Q => ∃ p ys, xs = [.ref p] ∧ (SqL K H p ys ∨ SqT K H p ys) ∧ Q (.int ys.length) H
theorem gl_lstOf [Mon R1] {xs : List α} (h : Gv te σ M (SqR K R1 xs)) : GvL (tCB (rLstOf K) (tCons te tNil)) σ M fun M vs => Pd R1 M xs vs := fun H mh Q q =>
  h H mh _ fun v M1 H1 g1 hv => by
    rcases hv with ⟨a, vs, rfl, hs, hp⟩ | ⟨a, vs, rfl, hs, hp⟩
    · exact ⟨a, vs, rfl, .inl (sl_mono g1.mh hs), fun l nl => q l vs M1 _ (g1.trans (.own g1.mh nl)) (g1.hh.free nl) (g1.mh.free nl) upd_same hp⟩
    · exact ⟨a, vs, rfl, .inr (st_mono g1.mh hs), fun l nl => q l vs M1 _ (g1.trans (.own g1.mh nl)) (g1.hh.free nl) (g1.mh.free nl) upd_same hp⟩
/-! texts cut -/
/-! loops -/
variable {D : Ends} {tb : TS}
theorem s_for [Mon R1] {j : Nat} {xs : List α} {H : Hp} (mh : Same M H) (hsrc : Gv ts σ M (SqR K R1 xs)) (Pv : Hp → Nat → Sl → Hp → Hp → Prop)
    (h0 : ∀ M1 H1, Gr M H M1 H1 → Pv M1 0 σ M1 H1) (hk : ∀ M1 i σ' M' H', Pv M1 i σ' M' H' → Same M1 M' ∧ Same M' H')
    (hs : ∀ M1 i x v σ' M' H', Same M M1 → xs[i]? = some x → Pv M1 i σ' M' H' → R1 x M' v → tb { D with nx := fun σ2 H2 => ∃ M2, Pv M1 (i + 1) σ2 M2 H2, ct := fun σ2 H2 => ∃ M2, Pv M1 (i + 1) σ2 M2 H2, bk := D.nx } (σ'.set j (some v)) H')
    (hd : ∀ M1 σ' M' H', Same M M1 → Pv M1 xs.length σ' M' H' → D.nx σ' H') : tFor (iSq K ts) (gName j) tb D σ H := by
  refine hsrc H mh _ fun v M1 H1 g1 hv => ?_
  have core : ∀ (J : It) (G : Hp → Prop) (vs : List V), Walk J vs.length G (YAt vs) → (∀ M2 H2, Same M1 M2 → Same M2 H2 → G H2) → Pd R1 M1 xs vs →
      ∃ W : Nat → Nat → L2.St → Hp → Prop, (∃ m, W 0 m σ H1) ∧ ∀ i m σ H, W i m σ H →
        (J.stop i H ∧ D.nx σ H) ∨ (J.go i H ∧ ∃ N : L2.St → Hp → Prop, (∀ σ' H', N σ' H' → ∃ m', m' < m ∧ W (i + 1) m' σ' H') ∧ ∀ x H', J.yld i H x H' → gName j x σ H' fun σ2 H2 => tb { D with nx := N, ct := N, bk := D.nx } σ2 H2) := by
    intro J G vs w hG hp
    refine for_it w (fun i σ' H' => ∃ M', Pv M1 i σ' M' H') ⟨M1, h0 M1 H1 g1⟩ (fun i σ' H' _ ⟨M', p⟩ => hG M' H' (hk _ _ _ _ _ p).1 (hk _ _ _ _ _ p).2) ?_ ?_
    · rintro i y σ' H' H'' hi ⟨M', p⟩ ⟨rfl, hy⟩
      obtain ⟨x, hx, rx⟩ := pd_get' hp hy
      exact hs M1 i x y σ' M' _ g1.mm hx p (Mon.mono (hk _ _ _ _ _ p).1 rx)
    · rintro σ' H' ⟨M', p⟩
      rw [← hp.length] at p
      exact hd M1 σ' M' H' g1.mm p
  rcases hv with ⟨a, vs, rfl, hs', hp⟩ | ⟨a, vs, rfl, hs', hp⟩
  · exact ⟨a, rfl, .inl ⟨vs, sl_mono g1.mh hs', core (Itl K a) (fun H => SqL K H a vs) vs walk_list (fun M2 H2 s1 s2 => sl_mono (s1.trans s2) hs') hp⟩⟩
  · exact ⟨a, rfl, .inr ⟨vs, st_mono g1.mh hs', core (Itt K a) (fun H => SqT K H a vs) vs walk_tup (fun M2 H2 s1 s2 => st_mono (s1.trans s2) hs') hp⟩⟩
/-- for i, x in enumerate(xs) -/
theorem s_forE [Mon R1] {j k : Nat} {xs : List α} {H : Hp} (mh : Same M H) (hsrc : Gv ts σ M (SqR K R1 xs)) (Pv : Hp → Nat → Sl → Hp → Hp → Prop)
    (h0 : ∀ M1 H1, Gr M H M1 H1 → Pv M1 0 σ M1 H1) (hk : ∀ M1 i σ' M' H', Pv M1 i σ' M' H' → Same M1 M' ∧ Same M' H')
    (hs : ∀ M1 i x v σ' M' H' H'', Same M M1 → xs[i]? = some x → Pv M1 i σ' M' H' → Gr M' H' M' H'' → R1 x M' v →
      tb { D with nx := fun σ2 H2 => ∃ M2, Pv M1 (i + 1) σ2 M2 H2, ct := fun σ2 H2 => ∃ M2, Pv M1 (i + 1) σ2 M2 H2, bk := D.nx } ((σ'.set j (some (.int (i : Nat)))).set k (some v)) H'')
    (hd : ∀ M1 σ' M' H', Same M M1 → Pv M1 xs.length σ' M' H' → D.nx σ' H') : tFor (iEn K (tCons ts tNil)) (gTup K 2 (gCons (gName j) (gCons (gName k) gNil))) tb D σ H := by
  refine hsrc H mh _ fun v M1 H1 g1 hv => ?_
  have core : ∀ (J : It) (G : Hp → Prop) (vs : List V), Walk J vs.length G (YPair (fun i => some (.int (i : Nat))) fun i => vs[i]?) → (∀ M2 H2, Same M1 M2 → Same M2 H2 → G H2) → Pd R1 M1 xs vs →
      ∃ W : Nat → Nat → L2.St → Hp → Prop, (∃ m, W 0 m σ H1) ∧ ∀ i m σ H, W i m σ H →
        (J.stop i H ∧ D.nx σ H) ∨ (J.go i H ∧ ∃ N : L2.St → Hp → Prop, (∀ σ' H', N σ' H' → ∃ m', m' < m ∧ W (i + 1) m' σ' H') ∧ ∀ x H', J.yld i H x H' → gTup K 2 (gCons (gName j) (gCons (gName k) gNil)) x σ H' fun σ2 H2 => tb { D with nx := N, ct := N, bk := D.nx } σ2 H2) := by
    intro J G vs w hG hp
    refine for_it w (fun i σ' H' => ∃ M', Pv M1 i σ' M' H') ⟨M1, h0 M1 H1 g1⟩ (fun i σ' H' _ ⟨M', p⟩ => hG M' H' (hk _ _ _ _ _ p).1 (hk _ _ _ _ _ p).2) ?_ ?_
    · rintro i y σ' H' H'' hi ⟨M', p⟩ ⟨T, x1, x2, rfl, nT, rfl, e1, hy⟩
      cases e1
      obtain ⟨x, hx, rx⟩ := pd_get' hp hy
      have km := hk _ _ _ _ _ p
      refine ⟨T, _, rfl, .inl (.inl upd_same), rfl, _, _, rfl, _, _, rfl, rfl, ?_⟩
      exact hs M1 i x x2 σ' M' H' _ g1.mm hx p (.own km.2 nT) (Mon.mono km.1 rx)
    · rintro σ' H' ⟨M', p⟩
      rw [← hp.length] at p
      exact hd M1 σ' M' H' g1.mm p
  rcases hv with ⟨a, vs, rfl, hs', hp⟩ | ⟨a, vs, rfl, hs', hp⟩
  · exact ⟨a, rfl, .inl ⟨vs, sl_mono g1.mh hs', core (IeS fun H xs => SqL K H a xs) (fun H => SqL K H a vs) vs walk_eS (fun M2 H2 s1 s2 => sl_mono (s1.trans s2) hs') hp⟩⟩
  · exact ⟨a, rfl, .inr ⟨vs, st_mono g1.mh hs', core (IeS fun H xs => SqT K H a xs) (fun H => SqT K H a vs) vs walk_eS (fun M2 H2 s1 s2 => st_mono (s1.trans s2) hs') hp⟩⟩
end
end L3

set_option Elab.async false
set_option linter.all false
set_option maxRecDepth 100000
set_option maxHeartbeats 1000000
namespace L3
open PySem PySem.Spec PyProof.Rows L2
/-! one rule for each operator, whatever the kinds -/
def rDIn (neg : Bool) : R2 := fun x y H Q => ∃ a o, y = .ref a ∧ DGet H a x o ∧ Q (.bl (xor neg o.isSome)) H
def rSgn (neg : Bool) : R2 := fun x y H Q => ∃ (c : Nat) (z : Str), x = .str ⟨#[c]⟩ ∧ y = .str z ∧ Q (.bl (xor neg (decide (c ∈ z.cps.toList)))) H
def rInA (K : PySem.W.Frag) (neg : Bool) : R2 := fun x y H Q => rInP K neg x y H Q ∨ rDIn neg x y H Q ∨ rSgn neg x y H Q
def rAddI : R2 := rI0 fun i j => .int (i + j)
def rAddS : R2 := fun x y H Q => ∃ i j, x = .str i ∧ y = .str j ∧ i.length + j.length ≤ sizeLine ∧ Q (.str (i ++ j)) H
def rAddA (K : PySem.W.Frag) : R2 := fun x y H Q => rAddI x y H Q ∨ rAddS x y H Q ∨ rCatA K x y H Q ∨ rCat x y H Q
def rLenS : List V → Hp → VK → Prop := fun xs H Q => ∃ z, xs = [.str z] ∧ z.length ≤ sizeLine ∧ Q (.int z.length) H
def rLenD : List V → Hp → VK → Prop := fun xs H Q => ∃ a kvs, xs = [V.ref a] ∧ H a = some (.dK kvs) ∧ Q (.int kvs.length) H
def rLenA (K : PySem.W.Frag) : List V → Hp → VK → Prop := fun xs H Q => rLenOf K xs H Q ∨ rLenS xs H Q ∨ rLenD xs H Q
def rSlX (K : PySem.W.Frag) : V → Option Int → Option Int → Hp → VK → Prop := fun x lo hi H Q => rSlS x lo hi H Q ∨ rSlL K x lo hi H Q ∨ rSlA K x lo hi H Q
def rIxX (K : PySem.W.Frag) : R2 := fun x y H Q => rIxL K x y H Q ∨ rIxT K x y H Q ∨ rIxS x y H Q
section
variable {X : Cx}
theorem CallR.or {f : Value} {r r' : List V → Hp → VK → Prop} (h : CallR X f r) (h' : CallR X f r') : CallR X f (fun xs H Q => r xs H Q ∨ r' xs H Q) := fun pins s σ H xs us Q I rx q => q.elim (h pins s σ H xs us Q I rx) (h' pins s σ H xs us Q I rx)
theorem op_dIn (hu : X.A.units + 64 < cLine) : OpR X (compareOp .In) (rDIn false) := by
  intro pins s σ H x y v u Q I rx ry ⟨a, o, ey, g, q⟩
  subst ey
  cases ry
  exact d_in (by omega) I g rx fun s' I' => ⟨.bl _, H, I', rfl, by simpa using q⟩
theorem op_dNotIn (hu : X.A.units + 64 < cLine) : OpR X (compareOp .NotIn) (rDIn true) := by
  intro pins s σ H x y v u Q I rx ry ⟨a, o, ey, g, q⟩
  subst ey
  cases ry
  exact d_notIn (by omega) I g rx fun s' I' => ⟨.bl _, H, I', rfl, by simpa using q⟩
theorem op_sgn : OpR X (compareOp .In) (rSgn false) := by
  intro pins s σ H x y v u Q I rx ry ⟨c, z, e1, e2, q⟩
  exact op_in_sign pins s σ H x y v u Q I rx ry ⟨c, z, e1, e2, by simpa using q⟩
theorem op_nsgn : OpR X (compareOp .NotIn) (rSgn true) := by
  intro pins s σ H x y v u Q I rx ry ⟨c, z, e1, e2, q⟩
  exact op_notIn_sign pins s σ H x y v u Q I rx ry ⟨c, z, e1, e2, by simpa using q⟩
theorem op_inA (hu : X.A.units + 64 < cLine) : OpR X (compareOp .In) (rInA X.K false) := (op_inP hu).or ((op_dIn hu).or op_sgn)
theorem op_niA (hu : X.A.units + 64 < cLine) : OpR X (compareOp .NotIn) (rInA X.K true) := (op_notInP hu).or ((op_dNotIn hu).or op_nsgn)
theorem op_addA : OpR X (binaryOp .Add) (rAddA X.K) := OpR.or op_add (OpR.or op_add_str (OpR.or op_catA op_cat))
theorem call_lenA : CallR X (.builtin "len") (rLenA X.K) := CallR.or call_len_seq (CallR.or call_len_str call_lenD)
theorem sl_X : SlR X (rSlX X.K) := SlR.or sl_str (SlR.or sl_list sl_tupA)
theorem ix_X : IxR X (rIxX X.K) := IxR.or ix_list (IxR.or ix_tup ix_str)
theorem call_tupA : CallR X (.type "tuple") (rTupOf X.K) := call_tuple_of
theorem call_lstA : CallR X (.type "list") (rLstOf X.K) := call_list_of
end
/-! dicts whose keys are texts, each with True -/
def kvT (ks : List Str) : List (Key × V) := ks.map fun k => (Sum.inr k, V.bl true)
def DcR : Rl (List Str) := fun ks M v => ∃ a, v = .ref a ∧ Rd M a (.dK (kvT ks))
instance : Mon DcR := ⟨fun e ⟨a, h, r⟩ => ⟨a, h, rd_mono e r⟩⟩
theorem val_kvT (x : Str) : ∀ ks : List Str, (valV (kvT ks) (Sum.inr x : Key)).isSome = decide (x ∈ ks)
  | [] => rfl
  | k :: ks => by
    have ih := val_kvT x ks
    unfold valV kvT at ih ⊢
    rw [List.map_cons, List.find?_cons]
    by_cases h : k = x
    · subst h; simp
    · have h1 : ¬ (Sum.inr k : Key) = Sum.inr x := fun z => h (Sum.inr.inj z)
      have h2 : ¬ x = k := fun z => h z.symm
      simp only [h1, decide_false, List.mem_cons, h2, false_or]
      exact ih
/-- anything with texts that «in» asks -/
def CtR (K : PySem.W.Frag) : Rl (List Str) := fun xs M v => SqR K Tx xs M v ∨ DcR xs M v
instance {K : PySem.W.Frag} : Mon (CtR K) := ⟨fun e h => h.imp (Mon.mono e) (Mon.mono e)⟩
section
variable {K : PySem.W.Frag} {σ : Sl} {M : Hp} {ta tb te ts : TE} {tt : TT} {α β : Type} {R : Rl α} {S : Rl β}
theorem gv_inA {neg : Bool} {x : Str} {xs : List Str} (ha : Gv ta σ M (Tx x)) (hb : Gv tb σ M (CtR K xs)) : Gv (tOp (rInA K neg) ta tb) σ M (Bl (xor neg (decide (x ∈ xs)))) :=
  gv_op ha hb fun M' u w px py => rv_pure (fun H mh Q q => by
    rcases py with py | ⟨a, e, r⟩
    · exact .inl ⟨.str x, _, (by cases px; exact .str x), (py_sq py_str py).mono mh, (by simp [PyData.depth]), (by rw [any_mem inj_str]; exact q)⟩
    · subst e
      cases px
      exact .inr (.inl ⟨a, _, rfl, .inl ⟨_, Sum.inr x, rd_mono mh r, rfl, rfl⟩, by rw [val_kvT]; exact q⟩)) rfl
/-- .. of data -/
theorem gv_inD {e : α → PyData} [DecidableEq α] [Mon R] {neg : Bool} {x : α} {xs : List α} (pe : PyR K R e) (ie : Inj e) (ha : Gv ta σ M (R x)) (hb : Gv tb σ M (SqR K R xs)) (hz : (e x).depth ≤ 60) : Gv (tOp (rInA K neg) ta tb) σ M (Bl (xor neg (decide (x ∈ xs)))) :=
  gv_op ha hb fun M' u w px py => rv_pure (fun H mh Q q => .inl ⟨e x, _, dp_mono mh (pe _ _ _ px), (py_sq pe py).mono mh, hz, by rw [any_mem ie]; exact q⟩) rfl
theorem gv_sgn {neg : Bool} {c : Nat} {z : Str} (ha : Gv ta σ M (Tx ⟨#[c]⟩)) (hb : Gv tb σ M (Tx z)) : Gv (tOp (rInA K neg) ta tb) σ M (Bl (xor neg (decide (c ∈ z.cps.toList)))) :=
  gv_op ha hb fun M' u w px py => rv_pure (fun H mh Q q => .inr (.inr ⟨c, z, px, py, q⟩)) rfl
theorem gv_addSt {x y : Str} (ha : Gv ta σ M (Tx x)) (hb : Gv tb σ M (Tx y)) (hz : x.length + y.length ≤ sizeLine) : Gv (tOp (rAddA K) ta tb) σ M (Tx (x ++ y)) :=
  gv_op ha hb fun M' u w px py => rv_pure (fun H mh Q q => .inr (.inl ⟨x, y, px, py, hz, q⟩)) rfl
theorem gv_addIn {x y : Int} (ha : Gv ta σ M (It' x)) (hb : Gv tb σ M (It' y)) : Gv (tOp (rAddA K) ta tb) σ M (It' (x + y)) :=
  gv_op ha hb fun M' u w px py => rv_pure (fun H mh Q q => .inl ⟨x, y, px, py, q⟩) rfl
theorem gv_lenA [Mon R] {xs : List α} (h : Gv te σ M (SqR K R xs)) : Gv (tCB (rLenA K) (tCons te tNil)) σ M (It' xs.length) := gv_cb1 h fun M' v hv H mh Q q => by
  rcases hv with ⟨a, vs, rfl, hs, hp⟩ | ⟨a, vs, rfl, hs, hp⟩
  · exact .inl ⟨a, vs, rfl, .inl (sl_mono mh hs), q _ M' H (.refl mh) (by rw [hp.length])⟩
  · exact .inl ⟨a, vs, rfl, .inr (st_mono mh hs), q _ M' H (.refl mh) (by rw [hp.length])⟩
theorem gv_lenS {x : Str} (h : Gv te σ M (Tx x)) (hz : x.length ≤ sizeLine) : Gv (tCB (rLenA K) (tCons te tNil)) σ M (It' x.length) := gv_cb1 h fun M' v hv H mh Q q => .inr (.inl ⟨x, by rw [hv], hz, q _ M' H (.refl mh) rfl⟩)
theorem gv_cutS {tl th : TO} {x : Str} {lo hi : Option Int} (h : Gv te σ M (Tx x)) (hz : x.length ≤ sizeLine)
    (hl : ∀ (H : Hp) (Q : Option Int → Hp → Prop), Q lo H → tl σ H Q) (hh : ∀ (H : Hp) (Q : Option Int → Hp → Prop), Q hi H → th σ H Q) : Gv (tSl (rSlX K) te tl th) σ M (Tx (cutS x lo hi)) := fun H mh Q q =>
  h H mh _ fun v M1 H1 g1 p => hl H1 _ (hh H1 _ (.inl ⟨x, p, hz, q _ M1 H1 g1 rfl⟩))
/-- an item -/
theorem gv_ix [Mon R] {xs : List α} {i : Int} {x : α} (ha : Gv ta σ M (SqR K R xs)) (hb : Gv tb σ M (It' i)) (hx : atI xs i = some x) : Gv (tOp (rIxX K) ta tb) σ M (R x) := by
  refine gv_op ha hb fun M' u w pu pw => ?_
  cases (show w = .int i from pw)
  unfold atI at hx
  obtain ⟨j, hj, hx⟩ := Option.bind_eq_some_iff.mp hx
  rcases pu with ⟨a, vs, rfl, hs, hp⟩ | ⟨a, vs, rfl, hs, hp⟩
  all_goals
    obtain ⟨v, hv, rv⟩ := pd_get hp hx
    have ha : atI vs i = some v := by unfold atI; rw [← hp.length, hj]; exact hv
  · exact rv_pure (v := v) (fun H mh Q q => .inl ⟨a, vs, i, v, rfl, rfl, sl_mono mh hs, ha, q⟩) rv
  · exact rv_pure (v := v) (fun H mh Q q => .inr (.inl ⟨a, vs, i, v, rfl, rfl, st_mono mh hs, ha, q⟩)) rv
theorem gv_ixS {x : Str} {i : Int} {c : Nat} (ha : Gv ta σ M (Tx x)) (hb : Gv tb σ M (It' i)) (hz : x.length ≤ sizeLine) (hx : atI x.cps.toList i = some c) : Gv (tOp (rIxX K) ta tb) σ M (Tx ⟨#[c]⟩) :=
  gv_op ha hb fun M' u w pu pw => rv_pure (fun H mh Q q => .inr (.inr ⟨x, i, c, pu, pw, hz, hx, q⟩)) rfl
/-- a written tuple of two texts -/
theorem gv_tup2 {x y : Str} (h1 : Gv ta σ M (Tx x)) (h2 : Gv tb σ M (Tx y)) : Gv (tTup (tCons ta (tCons tb tNil))) σ M (TupR K Tx [x, y]) := fun H mh Q q =>
  h1 H mh _ fun v M1 H1 g1 p1 => h2.le g1.mm H1 g1.mh _ fun w M2 H2 g2 p2 => ⟨by show 2 ≤ sizeLine; decide, fun p np => q _ _ _ ((g1.trans g2).trans (.new g2.mh np)) ⟨p, _, rfl, .inl (.inl upd_same), .cons p1 (.cons p2 .nil)⟩⟩
end
end L3

set_option Elab.async false
set_option linter.all false
set_option maxRecDepth 100000
set_option maxHeartbeats 1000000
namespace L3
open PySem PySem.Spec PyProof.Rows L2
/-! calls of defs by name -/
def Cal (P : Program) (w : World) (K : PySem.W.Frag) (mg : Str → Option Value) (base : Heap) (k : Nat) (x : Str) (ps : List Str) (sp : Sp) : Prop :=
  ∃ f fd, FnOk P w K mg base CX0 k f fd ps sp ∧ mg x = some (.ref f) ∧ PySem.W.keepIn K (.ref f) = true ∧ Binds K fd ps []
theorem pe_f {X : Cx} {k : Nat} {x : Str} {ps : List Str} {sp : Sp} {e : Expr} {es : List Expr} {t : TA} {p pos : Pos} (c : Cal X.prog X.w X.K X.mg X.base k x ps sp) (hr : Room k X.A) (ha : PA X (e :: es) t) (hg : Gl X x := by rfl)
    (hdb : (x == ("__debug__" : Str)) = false := by decide) (he : starEach (e :: es) X.env = (false, eval e X.env) :: starEach es X.env := by rfl) (hpl : (backTo pos (starEach es X.env)).any (·.1) = false := by rfl) :
    PE X (.Call (.Name x p) (e :: es) [] pos) (tCall sp [] E0 t) :=
  let ⟨_, _, G, m, kp, b⟩ := c
  pe_call G hr hg m kp b .nil pass0 ha hdb he hpl
/-! small statements -/
section
variable {K : PySem.W.Frag} {σ : Sl} {M H : Hp} {te : TE} {P : Pr} {D : Ends} {tu tw tz : TS} {tt : TT} {b : Bool}
theorem s_ret (mh : Same M H) (h : Gv te σ M P) (k : ∀ v M' H', Gr M H M' H' → P M' v → D.rt v H') : tRet te D σ H := h H mh _ k
theorem s_retL {P : Hp → List V → Prop} (mh : Same M H) (h : GvL te σ M P) (k : ∀ p vs M' H', Gr M H M' H' → H p = none → M' p = none → H' p = some (.lst vs) → P M' vs → D.rt (.ref p) H') : tRet te D σ H := h H mh _ k
theorem s_asg {i : Nat} (mh : Same M H) (h : Gv te σ M P) (k : ∀ v M' H', Gr M H M' H' → P M' v → D.nx (σ.set i (some v)) H') : tAsg te (gName i) D σ H := h H mh _ k
theorem q_asg {i : Nat} (mh : Same M H) (h : Gv te σ M P) (k : ∀ v M' H', Gr M H M' H' → P M' v → tz D (σ.set i (some v)) H') : tSeq (tAsg te (gName i)) tz D σ H := h H mh _ k
theorem q_asgL {i : Nat} {P : Hp → List V → Prop} (mh : Same M H) (h : GvL te σ M P) (k : ∀ p vs M' H', Gr M H M' H' → H p = none → M' p = none → H' p = some (.lst vs) → P M' vs → tz D (σ.set i (some (.ref p))) H') : tSeq (tAsg te (gName i)) tz D σ H := h H mh _ k
theorem q_if (mh : Same M H) (h : GvT tt σ M b) (h1 : b = true → ∀ H', Same H H' → tu { D with nx := tz D } σ H') (h2 : b = false → ∀ H', Same H H' → tw { D with nx := tz D } σ H') : tSeq (tIfS tt tu tw) tz D σ H := h H mh _ fun M' H' g => by
  cases b with
  | true => exact h1 rfl H' g.hh
  | false => exact h2 rfl H' g.hh
theorem s_if (mh : Same M H) (h : GvT tt σ M b) (h1 : b = true → ∀ H', Same H H' → tu D σ H') (h2 : b = false → ∀ H', Same H H' → tw D σ H') : tIfS tt tu tw D σ H := h H mh _ fun M' H' g => by
  cases b with
  | true => exact h1 rfl H' g.hh
  | false => exact h2 rfl H' g.hh
theorem Gr.idle {M H H' : Hp} (mh : Same M H) (hh : Same H H') : Gr M H M H' := ⟨Same.refl M, hh, mh.trans hh, fun _ _ e => .inl e, fun _ _ e => e⟩
/-- an empty list, ours -/
theorem gl_nil : GvL (tLst tNil) σ M fun _ vs => vs = [] := gl_lst ga_nil fun _ vs h => by rw [h]; exact Nat.zero_le _
/-- xs.append(e), xs in slot i at p -/
theorem s_app {i : Nat} {p : Addr} {vs : List V} (mh : Same M H) (hi : σ[i]? = some (some (.ref p))) (hp : H p = some (.lst vs)) (hz : vs.length < sizeLine) (h : Gv te σ M P)
    (k : ∀ v M' H', Gr M H M' H' → P M' v → D.nx σ (upd H' p (.lst (vs ++ [v])))) : tDrop (tBM K "list" rAppend (tVar i) (tCons te tNil)) D σ H :=
  ⟨.ref p, hi, .inl ⟨rfl, _, .inl (.inl hp)⟩, h H mh _ fun v M' H' g r => ⟨p, vs, v, rfl, rfl, g.hh _ _ hp, hz, k v M' H' g r⟩⟩
/-- xs.extend(e), e a new list -/
theorem s_ext {i : Nat} {p : Addr} {vs : List V} {P : Hp → List V → Prop} (mh : Same M H) (hi : σ[i]? = some (some (.ref p))) (hp : H p = some (.lst vs)) (h : GvL te σ M P) (hz : ∀ M' ws, P M' ws → vs.length + ws.length ≤ sizeLine)
    (k : ∀ ws M' H', Gr M H M' H' → P M' ws → D.nx σ (upd H' p (.lst (vs ++ ws)))) : tDrop (tBM K "list" rExtend (tVar i) (tCons te tNil)) D σ H :=
  ⟨.ref p, hi, .inl ⟨rfl, _, .inl (.inl hp)⟩, h H mh _ fun b ws M' H' g h0 m0 hb r => ⟨p, b, vs, ws, rfl, rfl, g.hh _ _ hp, hb, hz M' ws r, k ws M' H' g r⟩⟩
end
/-- what we own: new since H0, not known to M -/
structure Own (H0 M H : Hp) (p : Addr) (vs : List V) : Prop where
  h0 : H0 p = none
  m : M p = none
  h : H p = some (.lst vs)
theorem Own.fr {H0 M H : Hp} {p : Addr} {vs : List V} (o : Own H0 M H p vs) (mh : Same M H) : Same (upd M p (.lst vs)) H := fun b u e => by
  by_cases hb : b = p
  · subst hb; rw [upd_same] at e; rw [o.h]; exact e
  · rw [upd_ne hb] at e; exact mh b u e
theorem Own.up {H0 M H : Hp} {p : Addr} {vs : List V} (o : Own H0 M H p vs) : Same M (upd M p (.lst vs)) := same_new o.m
theorem Own.idle {H0 M H H' : Hp} {p : Addr} {vs : List V} (o : Own H0 M H p vs) (hh : Same H H') : Own H0 M H' p vs := ⟨o.h0, o.m, hh _ _ o.h⟩
theorem Own.put {H0 M H : Hp} {p : Addr} {vs ws : List V} (o : Own H0 M H p vs) : Own H0 M (upd H p (.lst ws)) p ws := ⟨o.h0, o.m, upd_same⟩
theorem Own.lst {K : PySem.W.Frag} {α : Type} {R : Rl α} {H0 M H : Hp} {p : Addr} {vs : List V} {xs : List α} [Mon R] (o : Own H0 M H p vs) (h : Pd R M xs vs) : LstR K R xs (upd M p (.lst vs)) (.ref p) := ⟨p, vs, rfl, .inl (.inl upd_same), h.mono o.up⟩
theorem Own.step {H0 M H M' H' : Hp} {p : Addr} {vs : List V} (o : Own H0 M H p vs) (g : Gr M H M' H') : Own H0 M' H' p vs := ⟨o.h0, g.keep o.m o.h, g.hh _ _ o.h⟩
section
variable {K : PySem.W.Frag} {σ : Sl} {M : Hp} {ts : TE} {α : Type} {R1 : Rl α} {D : Ends} {tb tz : TS}
theorem q_for [Mon R1] {j : Nat} {xs : List α} {H : Hp} (mh : Same M H) (hsrc : Gv ts σ M (SqR K R1 xs)) (Pv : Hp → Nat → Sl → Hp → Hp → Prop)
    (h0 : ∀ M1 H1, Gr M H M1 H1 → Pv M1 0 σ M1 H1) (hk : ∀ M1 i σ' M' H', Pv M1 i σ' M' H' → Same M1 M' ∧ Same M' H')
    (hs : ∀ M1 i x v σ' M' H', Same M M1 → xs[i]? = some x → Pv M1 i σ' M' H' → R1 x M' v → tb { D with nx := fun σ2 H2 => ∃ M2, Pv M1 (i + 1) σ2 M2 H2, ct := fun σ2 H2 => ∃ M2, Pv M1 (i + 1) σ2 M2 H2, bk := tz D } (σ'.set j (some v)) H')
    (hd : ∀ M1 σ' M' H', Same M M1 → Pv M1 xs.length σ' M' H' → tz D σ' H') : tSeq (tFor (iSq K ts) (gName j) tb) tz D σ H := s_for (D := { D with nx := tz D }) mh hsrc Pv h0 hk hs hd
theorem q_forE [Mon R1] {j k : Nat} {xs : List α} {H : Hp} (mh : Same M H) (hsrc : Gv ts σ M (SqR K R1 xs)) (Pv : Hp → Nat → Sl → Hp → Hp → Prop)
    (h0 : ∀ M1 H1, Gr M H M1 H1 → Pv M1 0 σ M1 H1) (hk : ∀ M1 i σ' M' H', Pv M1 i σ' M' H' → Same M1 M' ∧ Same M' H')
    (hs : ∀ M1 i x v σ' M' H' H'', Same M M1 → xs[i]? = some x → Pv M1 i σ' M' H' → Gr M' H' M' H'' → R1 x M' v →
      tb { D with nx := fun σ2 H2 => ∃ M2, Pv M1 (i + 1) σ2 M2 H2, ct := fun σ2 H2 => ∃ M2, Pv M1 (i + 1) σ2 M2 H2, bk := tz D } ((σ'.set j (some (.int (i : Nat)))).set k (some v)) H'')
    (hd : ∀ M1 σ' M' H', Same M M1 → Pv M1 xs.length σ' M' H' → tz D σ' H') : tSeq (tFor (iEn K (tCons ts tNil)) (gTup K 2 (gCons (gName j) (gCons (gName k) gNil))) tb) tz D σ H := s_forE (D := { D with nx := tz D }) mh hsrc Pv h0 hk hs hd
/-- the whole of a tuple of ours: tuple(xs) -/
theorem s_retTup {i : Nat} {p : Addr} {vs : List V} {H : Hp} (mh : Same M H) (hi : σ[i]? = some (some (.ref p))) (hp : H p = some (.lst vs))
    (k : ∀ l, H l = none → D.rt (.ref l) (upd H l (.tup vs))) : tRet (tCB (rTupOf K) (tCons (tVar i) tNil)) D σ H := ⟨.ref p, hi, p, vs, rfl, .inl ⟨.inl (.inl hp), k⟩⟩
end
end L3

set_option Elab.async false
set_option linter.all false
set_option maxRecDepth 100000
set_option maxHeartbeats 1000000
namespace L3
open PySem PySem.Spec PyProof.Rows L2
/-! isinstance of data -/
def tyN : PyData → String
  | .none => "NoneType" | .bool _ => "bool" | .int _ => "int" | .str _ => "str" | .list _ => "list" | .tuple _ => "tuple" | .dict _ => "dict"
theorem ty_of {K : PySem.W.Frag} {H : Hp} {v : V} {d : PyData} (h : Dp K H v d) : TyX K H v (.type (tyN d)) := by
  cases h with
  | non => exact .base .non
  | bl b => exact .base (.bl b)
  | int i => exact .base (.int i)
  | str x => exact .base (.str x)
  | lst hs ha =>
    rcases hs with (h | ⟨o, h⟩) | ⟨o, its, n, hk, hc, _⟩
    · exact .base (.lst h)
    · exact .base (.frz h)
    · exact .kList hk hc
  | tup hs ha =>
    rcases hs with (h | ⟨o, h⟩) | ⟨o, its, n, hk, hc, _⟩
    · exact .base (.tup h)
    · exact .fTuple h
    · exact .kTuple hk hc
section
variable {K : PySem.W.Frag} {σ : Sl} {M : Hp} {ta tb te ts : TE} {α : Type} {R : Rl α}
theorem gv_isi {d : PyData} {n : String} {b : Bool} (h : Gv ta σ M (Dd K d)) (hk : kitB (tyN d) n = some b) : Gv (tCB (rIsi K) (tCons ta (tCons (tC (.ty n)) tNil))) σ M (Bl b) := fun H mh Q q =>
  h H mh _ fun v M1 H1 g1 p => ⟨v, .ty n, _, _, b, rfl, .ty n, ty_of (dp_mono g1.mh p), kit_ty hk, q _ M1 H1 g1 rfl⟩
theorem gv_isi2 {d : PyData} {n m : String} {b c : Bool} (h : Gv ta σ M (Dd K d)) (hk : kitB (tyN d) n = some b) (hm : kitB (tyN d) m = some c) : Gv (tCB (rIsiT K) (tCons ta (tCons (tTup (tCons (tC (.ty n)) (tCons (tC (.ty m)) tNil))) tNil))) σ M (Bl (b || c)) := fun H mh Q q =>
  h H mh _ fun v M1 H1 g1 p => ⟨by show 2 ≤ sizeLine; decide, fun tp ntp => by
    refine ⟨v, tp, _, _, _, b || c, rfl, upd_same, .cons (.ty n) (.cons (.ty m) .nil), ty_of (dp_mono ((g1.mh).trans (same_new ntp)) p), ?_, q _ M1 _ (g1.trans (.own g1.mh ntp)) rfl⟩
    refine kitAny_cons (kit_ty hk) (fun hb => kitAny_cons (kit_ty hm) (fun hc => ?_) fun hc => ?_) fun h => ?_
    · rw [hb, hc]; exact kitAny_nil
    · rw [hb, hc]; rfl
    · rw [h]; rfl⟩
/-- None or a number -/
def OpN : Rl (Option Nat) := fun o _ v => v = match o with | none => .non | some i => .int (i : Nat)
instance : Mon OpN := ⟨fun _ h => h⟩
/-- None or something -/
def OpR' (R : Rl α) : Rl (Option α) := fun o M v => match o with | none => v = .non | some x => R x M v
instance [Mon R] : Mon (OpR' R) := ⟨fun {o M M' v} e h => by
  cases o with
  | none => exact h
  | some x => exact Mon.mono (R := R) e h⟩
theorem pd_d {M : Hp} : ∀ {vs : List V} {ds : List PyData}, DpAll K M vs ds → Pd (Dd K) M ds vs
  | _, _, .nil => .nil
  | _, _, .cons q t => .cons q (pd_d t)
theorem dp_sqL {ds : List PyData} {M : Hp} {v : V} (h : Dp K M v (.list ds)) : SqR K (Dd K) ds M v := by
  cases h with
  | lst hs ha => exact .inl ⟨_, _, rfl, hs, pd_d ha⟩
theorem dp_sqT {ds : List PyData} {M : Hp} {v : V} (h : Dp K M v (.tuple ds)) : SqR K (Dd K) ds M v := by
  cases h with
  | tup hs ha => exact .inr ⟨_, _, rfl, hs, pd_d ha⟩
end
end L3

set_option Elab.async false
set_option linter.all false
set_option maxRecDepth 100000
set_option maxHeartbeats 1000000
namespace L3
open PySem PySem.Spec PyProof.Rows L2
/-! anything walked: the items xs, each told by R -/
def GW {α : Type} (M1 : Hp) (J : It) (xs : List α) (R : Rl α) : Prop := ∃ (G : Hp → Prop) (Y : Nat → Hp → V → Hp → Prop), Walk J xs.length G Y ∧ (∀ M2 H2, Same M1 M2 → Same M2 H2 → G H2) ∧
  ∀ i M2 H2 v H3, Same M1 M2 → Same M2 H2 → i < xs.length → Y i H2 v H3 → ∃ x M3, xs[i]? = some x ∧ Gr M2 H2 M3 H3 ∧ R x M3 v
def GvI {α : Type} (wi : TI) (σ : Sl) (M : Hp) (xs : List α) (R : Rl α) : Prop := ∀ H, Same M H → ∀ Q : It → Hp → Prop, (∀ J M1 H1, Gr M H M1 H1 → GW M1 J xs R → Q J H1) → wi σ H Q
/-- a target: how the slots change -/
def TgOk {α : Type} (g : TG) (R : Rl α) (U : α → Hp → Sl → Sl → Prop) : Prop := ∀ x M v H σ (Q : L2.St → Hp → Prop), R x M v → Same M H → (∀ σ', U x M σ σ' → Q σ' H) → g v σ H Q
abbrev U1 {α : Type} (R : Rl α) (j : Nat) : α → Hp → Sl → Sl → Prop := fun x M σ σ' => ∃ v, R x M v ∧ σ' = σ.set j (some v)
/-- a pair in a tuple -/
def PrR (K : PySem.W.Frag) {α β : Type} (R : Rl α) (S : Rl β) : Rl (α × β) := fun x M v => ∃ a u w, v = .ref a ∧ SqT K M a [u, w] ∧ R x.1 M u ∧ S x.2 M w
instance {K : PySem.W.Frag} {α β : Type} {R : Rl α} {S : Rl β} [Mon R] [Mon S] : Mon (PrR K R S) := ⟨fun e ⟨a, u, w, h1, h2, h3, h4⟩ => ⟨a, u, w, h1, st_mono e h2, Mon.mono e h3, Mon.mono e h4⟩⟩
abbrev U2 {α β : Type} (R : Rl α) (S : Rl β) (j k : Nat) : α × β → Hp → Sl → Sl → Prop := fun x M σ σ' => ∃ v w, R x.1 M v ∧ S x.2 M w ∧ σ' = (σ.set j (some v)).set k (some w)
section
variable {K : PySem.W.Frag} {σ : Sl} {M : Hp} {ta tb te ts : TE} {tt : TT} {α β : Type} {R : Rl α} {S : Rl β} {wi : TI} {g : TG}
theorem tg_1 {j : Nat} : TgOk (gName j) R (U1 R j) := fun x M v H σ Q r mh q => q _ ⟨v, r, rfl⟩
theorem tg_2 {j k : Nat} : TgOk (gTup K 2 (gCons (gName j) (gCons (gName k) gNil))) (PrR K R S) (U2 R S j k) := by
  rintro x M v H σ Q ⟨a, u, w, rfl, h2, h3, h4⟩ mh q
  exact ⟨a, _, rfl, st_mono mh h2, rfl, u, _, rfl, w, _, rfl, rfl, q _ ⟨u, w, h3, h4, rfl⟩⟩
theorem gi_sq [Mon R] {xs : List α} (h : Gv ts σ M (SqR K R xs)) : GvI (iSq K ts) σ M xs R := fun H mh Q q => h H mh _ fun v M1 H1 g1 hv => by
  rcases hv with ⟨a, vs, rfl, hs, hp⟩ | ⟨a, vs, rfl, hs, hp⟩
  · refine ⟨a, rfl, .inl ⟨vs, sl_mono g1.mh hs, q _ M1 H1 g1 ⟨_, _, (by rw [hp.length]; exact walk_list (xs := vs)), fun M2 H2 s1 s2 => sl_mono (s1.trans s2) hs, ?_⟩⟩⟩
    rintro i M2 H2 v H3 s1 s2 hi ⟨rfl, hy⟩
    obtain ⟨x, hx, rx⟩ := pd_get' hp hy
    exact ⟨x, M2, hx, .refl s2, Mon.mono s1 rx⟩
  · refine ⟨a, rfl, .inr ⟨vs, st_mono g1.mh hs, q _ M1 H1 g1 ⟨_, _, (by rw [hp.length]; exact walk_tup (xs := vs)), fun M2 H2 s1 s2 => st_mono (s1.trans s2) hs, ?_⟩⟩⟩
    rintro i M2 H2 v H3 s1 s2 hi ⟨rfl, hy⟩
    obtain ⟨x, hx, rx⟩ := pd_get' hp hy
    exact ⟨x, M2, hx, .refl s2, Mon.mono s1 rx⟩
theorem gi_str {x : Str} (h : Gv ts σ M (Tx x)) : GvI (iStr ts) σ M x.cps.toList (fun c => Tx ⟨#[c]⟩) := fun H mh Q q => h H mh _ fun v M1 H1 g1 hv => by
  refine ⟨x, hv, q _ M1 H1 g1 ⟨_, _, (by rw [Array.length_toList]; exact walk_str (z := x)), fun _ _ _ _ => trivial, ?_⟩⟩
  rintro i M2 H2 v H3 s1 s2 hi ⟨rfl, c, hc, rfl⟩
  exact ⟨c, M2, by simpa using hc, .refl s2, rfl⟩
theorem gi_rng1 {n : Nat} (h : Gv te σ M (It' (n : Int))) (hn : n ≤ 1000000000) : GvI (iRng1 (tCons te tNil)) σ M (List.range n) (fun i => It' (i : Nat)) := fun H mh Q q => h H mh _ fun v M1 H1 g1 hv => by
  cases (show v = _ from hv)
  refine ⟨(n : Int), rfl, by omega, by omega, q _ M1 H1 g1 ⟨_, _, (by rw [List.length_range, Int.toNat_natCast]; exact walk_range), fun _ _ _ _ => trivial, ?_⟩⟩
  rintro i M2 H2 v H3 s1 s2 hi ⟨rfl, rfl⟩
  rw [List.length_range] at hi
  exact ⟨i, M2, by simp [hi], .refl s2, by show V.int _ = V.int _; rw [Int.zero_add]⟩
/-- the keys of a dict that is locked -/
def DcF : Rl (List Str) := fun ks M v => ∃ a o, v = .ref a ∧ M a = some (.frz o (.dK (kvT ks)))
instance : Mon DcF := ⟨fun e ⟨a, o, h, r⟩ => ⟨a, o, h, e _ _ r⟩⟩
theorem DcF.dc {ks : List Str} {M : Hp} {v : V} (h : DcF ks M v) : DcR ks M v := let ⟨a, o, e, r⟩ := h; ⟨a, e, .inr ⟨o, r⟩⟩
theorem gi_keys {ks : List Str} (h : Gv ts σ M (DcF ks)) : GvI (iKeys ts) σ M ks Tx := fun H mh Q q => h H mh _ fun v M1 H1 g1 ⟨a, o, e, r⟩ => by
  subst e
  have hl : (kvT ks).length = ks.length := by unfold kvT; rw [List.length_map]
  refine ⟨a, o, rfl, .inl ⟨_, g1.mh _ _ r, q _ M1 H1 g1 ⟨_, _, (by rw [← hl]; exact walk_keys (kvs := kvT ks)), fun M2 H2 s1 s2 => s2 _ _ (s1 _ _ r), ?_⟩⟩⟩
  rintro i M2 H2 v H3 s1 s2 hi ⟨rfl, k, w, hk, rfl⟩
  unfold kvT at hk
  rw [List.getElem?_map] at hk
  obtain ⟨x, hx, ex⟩ := Option.map_eq_some_iff.mp hk
  cases ex
  exact ⟨x, M2, hx, .refl s2, rfl⟩
theorem gl_comp [Mon S] {U : α → Hp → Sl → Sl → Prop} {vs : List Nat} {xs : List α} (hsrc : GvI wi σ M xs R) (htg : TgOk g R U) (hw : ∀ x M' σ', U x M' (wipe σ vs) σ' → wipe σ' vs = wipe σ vs) (hz : xs.length ≤ sizeLine) (t : α → Bool) (f : α → β)
    (ht : ∀ x ∈ xs, ∀ M1 σ', Same M M1 → U x M1 (wipe σ vs) σ' → GvT tt σ' M1 (t x))
    (he : ∀ x ∈ xs, t x = true → ∀ M1 σ', Same M M1 → U x M1 (wipe σ vs) σ' → Gv te σ' M1 (S (f x))) :
    GvL (tLc wi g tt te vs) σ M fun M ws => Pd S M ((xs.filter t).map f) ws := by
  intro H mh Q q
  refine hsrc H mh _ fun J M1 H1 g1 ⟨G, Y, w, hG, hY⟩ D hD => ?_
  refine lc_it w (fun i H' => ∃ M' ws, Gr M1 H1 M' H' ∧ M' D = none ∧ H' D = some (.lst ws) ∧ ws.length ≤ i ∧ Pd S M' (((xs.take i).filter t).map f) ws) ⟨M1, [], .own g1.mh hD, g1.mh.free hD, upd_same, Nat.le_refl _, .nil⟩ (fun i H' _ ⟨M', ws, g, _⟩ => hG M' H' g.mm g.mh) ?_ ?_
  · rintro i y H' H'' hi ⟨M', ws, g, m0, hw', hl, hpd⟩ hy
    obtain ⟨x, M0, hx, g0, rx⟩ := hY i M' H' y H'' g.mm g.mh hi hy
    have hxm : x ∈ xs := List.mem_of_getElem? hx
    have et : xs.take (i + 1) = xs.take i ++ [x] := by rw [List.take_add_one, hx]; rfl
    have gg := g.trans g0
    have sm := g1.mm.trans gg.mm
    have k0 : H'' D = some (.lst ws) := g0.hh _ _ hw'
    have m0' : M0 D = none := g0.keep m0 hw'
    refine htg x M0 y H'' _ _ rx gg.mh fun σ2 hU => ⟨hw x M0 σ2 hU, ht x hxm M0 σ2 sm hU H'' gg.mh _ fun M2 H2 g2 => ?_⟩
    cases ex : t x with
    | true =>
      refine (he x hxm ex M0 σ2 sm hU).le g2.mm H2 g2.mh _ fun z M3 H3 g3 hz3 => ?_
      have m3 : M3 D = none := (g2.trans g3).keep m0' k0
      refine ⟨ws, g3.hh _ _ (g2.hh _ _ k0), Nat.lt_of_lt_of_le (Nat.lt_of_le_of_lt hl hi) hz, M3, ws ++ [z], ((gg.trans g2).trans g3).mut hD m3, m3, upd_same, by rw [List.length_append]; exact Nat.succ_le_succ hl, ?_⟩
      rw [et, List.filter_append, List.map_append, List.filter_cons, ex]
      exact pd_app (hpd.mono ((g0.mm.trans g2.mm).trans g3.mm)) (.cons hz3 .nil)
    | false =>
      refine ⟨M2, ws, gg.trans g2, g2.keep m0' k0, g2.hh _ _ k0, Nat.le_succ_of_le hl, ?_⟩
      rw [et, List.filter_append, List.map_append, List.filter_cons, ex]
      show Pd S M2 (_ ++ []) ws
      rw [List.append_nil]
      exact hpd.mono (g0.mm.trans g2.mm)
  · rintro H' ⟨M', ws, g, m0, hw', hl, hpd⟩
    rw [List.take_length] at hpd
    exact q D ws M' H' (g1.trans g) (g1.hh.free hD) m0 hw' hpd
/-- the plain form: a name for the target -/
theorem gl_c1 [Mon S] {j : Nat} {xs : List α} (hsrc : GvI wi σ M xs R) (hz : xs.length ≤ sizeLine) (t : α → Bool) (f : α → β)
    (ht : ∀ x ∈ xs, ∀ M1 v, Same M M1 → R x M1 v → GvT tt ((wipe σ [j]).set j (some v)) M1 (t x))
    (he : ∀ x ∈ xs, t x = true → ∀ M1 v, Same M M1 → R x M1 v → Gv te ((wipe σ [j]).set j (some v)) M1 (S (f x))) : GvL (tLc wi (gName j) tt te [j]) σ M fun M ws => Pd S M ((xs.filter t).map f) ws :=
  gl_comp hsrc tg_1 (fun x M' σ' ⟨v, _, e⟩ => by subst e; exact wipe1) hz t f (fun x hx M1 σ' sm ⟨v, r, e⟩ => by subst e; exact ht x hx M1 v sm r) (fun x hx e M1 σ' sm ⟨v, r, e'⟩ => by subst e'; exact he x hx e M1 v sm r)
theorem gt_yes : GvT tYes σ M true := fun H mh Q q => q M H (.refl mh)
/-- without a test -/
theorem gl_m1 [Mon S] {j : Nat} {xs : List α} (hsrc : GvI wi σ M xs R) (hz : xs.length ≤ sizeLine) (f : α → β)
    (he : ∀ x ∈ xs, ∀ M1 v, Same M M1 → R x M1 v → Gv te ((wipe σ [j]).set j (some v)) M1 (S (f x))) : GvL (tLc wi (gName j) tYes te [j]) σ M fun M ws => Pd S M (xs.map f) ws := by
  have h := gl_c1 (tt := tYes) (te := te) (S := S) (j := j) hsrc hz (fun _ => true) f (fun _ _ _ _ _ _ => gt_yes) (fun x hx _ M1 v sm r => he x hx M1 v sm r)
  rw [List.filter_eq_self.mpr fun _ _ => rfl] at h
  exact h
variable {D : Ends} {tz tbd : TS}
/-- for over anything -/
theorem q_forG {U : α → Hp → Sl → Sl → Prop} {xs : List α} {H : Hp} (mh : Same M H) (hsrc : GvI wi σ M xs R) (htg : TgOk g R U) (Pv : Hp → Nat → Sl → Hp → Hp → Prop)
    (h0 : ∀ M1 H1, Gr M H M1 H1 → Pv M1 0 σ M1 H1) (hk : ∀ M1 i σ' M' H', Pv M1 i σ' M' H' → Same M1 M' ∧ Same M' H')
    (hs : ∀ M1 i x σ' M' H' M2 H2 σ2, Same M M1 → xs[i]? = some x → Pv M1 i σ' M' H' → Gr M' H' M2 H2 → U x M2 σ' σ2 →
      tbd { D with nx := fun σ2 H2 => ∃ M2, Pv M1 (i + 1) σ2 M2 H2, ct := fun σ2 H2 => ∃ M2, Pv M1 (i + 1) σ2 M2 H2, bk := tz D } σ2 H2)
    (hd : ∀ M1 σ' M' H', Same M M1 → Pv M1 xs.length σ' M' H' → tz D σ' H') : tSeq (tFor wi g tbd) tz D σ H := by
  refine hsrc H mh _ fun J M1 H1 g1 ⟨G, Y, w, hG, hY⟩ => ?_
  refine for_it w (fun i σ' H' => ∃ M', Pv M1 i σ' M' H') ⟨M1, h0 M1 H1 g1⟩ (fun i σ' H' _ ⟨M', p⟩ => hG M' H' (hk _ _ _ _ _ p).1 (hk _ _ _ _ _ p).2) ?_ ?_
  · rintro i y σ' H' H'' hi ⟨M', p⟩ hy
    have km := hk _ _ _ _ _ p
    obtain ⟨x, M2, hx, g2, rx⟩ := hY i M' H' y H'' km.1 km.2 hi hy
    exact htg x M2 y H'' σ' _ rx g2.mh fun σ2 hU => hs M1 i x σ' M' H' M2 H'' σ2 g1.mm hx p g2 hU
  · rintro σ' H' ⟨M', p⟩
    exact hd M1 σ' M' H' g1.mm p
/-- i ≤ j ≤ k -/
theorem gv_chain {tc : TE} {i j k : Int} (ha : Gv ta σ M (It' i)) (hb : Gv tb σ M (It' j)) (hc : Gv tc σ M (It' k)) :
    Gv (tChain (rI0 fun i j => .bl (decide (i ≤ j))) (rI0 fun i j => .bl (decide (i ≤ j))) ta tb tc) σ M (Bl (decide (i ≤ j) && decide (j ≤ k))) := fun H mh Q q =>
  ha H mh _ fun x M1 H1 g1 p1 => hb.le g1.mm H1 g1.mh _ fun y M2 H2 g2 p2 => ⟨i, j, p1, p2, decide (i ≤ j), rfl, by
    cases hd : decide (i ≤ j) with
    | true =>
      refine (hc.le (g1.mm.trans g2.mm)) H2 g2.mh _ fun z M3 H3 g3 p3 => ⟨j, k, p2, p3, q _ M3 H3 ((g1.trans g2).trans g3) ?_⟩
      rw [hd]; rfl
    | false =>
      refine q _ M2 H2 (g1.trans g2) ?_
      rw [hd]; rfl⟩
end
end L3

set_option Elab.async false
set_option linter.all false
set_option maxRecDepth 100000
set_option maxHeartbeats 2000000
namespace L3
open PySem PySem.Spec PyProof.Rows L2
/-! tuple(x) where x is collected -/
theorem tup_by {prog : Program} {w : World} {A : Around} {E : Value → Shared → Prop} {s : Shared} {T : String} {r : Addr} {n : Nat} {P : Nat → Value → Prop} {Q : Value → Shared → Prop} (ty : s.TypeIs (.ref r) T) (nt : (Value.type T == Value.type "tuple") = false) (hn : n ≤ sizeLine)
    (col : ∀ (B : Around) (F : Value → Shared → Prop) (R : List Value → Shared → Prop), B.handled = A.handled → (∀ (h' : Heap) (tk : Nat) (acc : Array Value), (∀ b o, s.heap.get? b = some o → h'.get? b = some o) → ItemsOf P acc n → R acc.toList { s with heap := h', toks := tk }) → wpAny (model prog w) B (collect (.ref r)) R F s)
    (fin : ∀ (h' : Heap) (tk : Nat) (acc : Array Value), (∀ b o, s.heap.get? b = some o → h'.get? b = some o) → ItemsOf P acc n → Q (.ref h'.objs.size) { s with heap := h'.push { cls := .type "tuple", data := .seq acc }, toks := tk }) :
    wpAny (model prog w) A (call (.type "tuple") [.ref r]) Q E s := by
  have made : codeAny (model prog w) A.in1 (.call (.builtin "tuple.__new__") ⟨[.type "tuple", .ref r], []⟩) (wants (fun v s1 => s1.TypeIs v "tuple" ∧ Q v s1) E) s := by
    apply codeAny_of_tree
    apply wpAny_bind
    apply wpAny_of_eq (F.newCall_tuple_1 _)
    refine wpAny_pure ⟨plainId_quiet F.plain_tuple_new _, codeAny_builtin F.entry_tuple_new ?_⟩
    rw [Around.under_plainId F.plain_tuple_new _]
    have a1 := sub_tuple_self
    have a2 := init_tuple_lookup
    have a3 := madeHere_tuple
    have here {F : Value → Shared → Prop} {R : List Value → Shared → Prop} := col A.in1.in1 F R rfl
    wp_walk using wpAny_typeOf ty, here
    intro h' tk acc kp it
    have sz : acc.size ≤ sizeLine := it.1 ▸ hn
    have same : acc.toList.toArray = acc := by simp
    rw [same]
    refine wpAny_bind (wpAny_pure (wpAny_bind (wpAny_newObj_type ?_ (show sizeOk (Data.seq acc) from sz))))
    exact wpAny_pure ⟨⟨_, Heap.get?_push_size _ rfl, rfl⟩, fin h' tk acc kp it⟩
  refine callType_codes F.called_tuple (F.typeCall_tuple_1 _) F.entry_object_init made fun v s1 h => ⟨h.1, F.args_object_init_2 v _, ?_⟩
  exact object_init_meets F.called_tuple.init.lookup F.called_tuple.made (by decide) prog w A.in1 _ s1 ⟨h.1, rfl, h.2⟩
/-- the keys of a dict with tuple keys -/
def rTupD : List V → Hp → VK → Prop := fun xs H Q => ∃ d kvs, xs = [V.ref d] ∧ Rd H d (.dT kvs) ∧ ∀ p bs, H p = none → IsKeys H kvs bs → Q (.ref p) (upd H p (.tup (bs.map V.ref)))
theorem call_tupD {X : Cx} (hc : X.calm = true) : CallR X (.type "tuple") rTupD := fun pins s σ H xs us Q I r ⟨d, kvs, ex, hd, q⟩ => by
  subst ex
  obtain ⟨_, rfl, rfl⟩ := r.one
  obtain ⟨z, low, ks, pr, o, es, ep, ho, exact_, hdt, he, _⟩ := (show ObjOk X.prog X.w H s.heap d (.dT kvs) from hd.ok I.hok)
  have S := kdl_raw (prog := X.prog) (w := X.w) low exact_ hdt
  have n1 : es.size = ks.length := size_of_entries he
  have n2 := Paired.length pr
  refine tup_by (S.type s ho) S.notTuple (n := es.size) (by omega) (fun B F R hB h => PySem.W.kdu_collect S (hB.trans (I.ok.hd hc)) ho (by omega) h) fun h' tk acc kp it => ?_
  have vals : acc.toList = (ks.map (·.2.1)).map Value.ref := by
    apply List.ext_getElem
    · rw [Array.length_toList, List.length_map, List.length_map, it.1, n1]
    · intro j h1 h2
      rw [Array.length_toList] at h1
      have hj : j < ks.length := by rw [← n1, ← it.1]; exact h1
      obtain ⟨en, g, v⟩ := it.2 j acc[j] (Array.getElem?_eq_getElem h1)
      have g2 := entry_at he j
      rw [g, List.getElem?_eq_getElem hj] at g2
      rw [Array.getElem_toList, v, List.getElem_map, List.getElem_map, Option.some.inj g2]
      rfl
  have I' : Inv X pins σ H { s with heap := h', toks := tk } := I.kept kp
  refine ⟨.ref h'.objs.size, _, I'.laid (t' := tk) (o := .tup ((ks.map (·.2.1)).map V.ref)) (fun b u e => Heap.get?_push_of_some _ e) (Nat.le_refl _) ?_, rfl, q _ _ (I'.hok.fresh (Nat.le_refl _)) (isKeys_of pr)⟩
  refine ⟨by simp only [List.length_map]; omega, acc.toList, vals ▸ vals_refs _, ⟨_, Heap.get?_push_size _ rfl, rfl, 0, ?_⟩⟩
  simp
/-! the frame of a comprehension -/
abbrev InBlk (X : Cx) (scope : Scope) (J : Cx → Prop) : Prop := ∀ (s : Shared) (H : Hp) (C : Addr) (cl : List (Str × Addr)) (fp : List Addr), J (X.blk s H scope (compEnvC scope cl C X.env) fp)
section
variable {X : Cx} {pins : List (Addr × Obj)} {σ τ : Sl} {H0 H : Hp} {s0 s : Shared} {scope : Scope} {ce : Env} {fp : List Addr} {tn : Nat → Heap → Prop} {i : Nat}
theorem blk_fp (I : Inv (X.blk s0 H0 scope ce fp) [] τ H s) (h : ∀ b ∈ fp, H b = none) : ∀ b ∈ fp, FpOk (X.blk s0 H0 scope ce fp) [] H b := fun b hb =>
  have x := I.ok.exf b hb
  ⟨h b hb, x.1, I.ok.exfs b hb, .inl hb, x.2, fun p hp => (List.not_mem_nil (a := p) hp).elim⟩
/-- out of the frame -/
theorem blk_out (I0 : Inv X pins σ H0 s0) (f0 : ∀ b ∈ fp, FpOk X pins H0 b) (I : Inv (X.blk s0 H0 scope ce fp) [] τ H s) : Inv X pins σ H s :=
  I0.call' (ch := fp) I.os I.base I.hok I.bare fun b hb => have z := (f0 b hb).2; ⟨z.2.2.1, z.1, z.2.2.2.1, z.2.2.2.2⟩
/-- its variables let go -/
theorem blk_end (I0 : Inv X pins σ H0 s0) (f0 : ∀ b ∈ fp, FpOk X pins H0 b) (hC : ce.locals = s0.heap.objs.size) (I : Inv (X.blk s0 H0 scope ce fp) [] τ H s) :
    ∃ m, s.heap.Ns s0.heap.objs.size m ∧ ∀ h', Heap.SameBut s0.heap.objs.size s.heap h' → Inv X pins σ H { s with heap := h' } := by
  have fr : H s0.heap.objs.size = none := hC ▸ I.free
  have z := I0.fpOk (Nat.le_refl _) fr
  have O := blk_out I0 f0 I
  obtain ⟨m, ns, _⟩ := I.loc
  exact ⟨m, hC ▸ ns, fun h' sb => O.turned (t' := s.toks) (fun b o hb e => (sb.2 b hb).trans e) fr z.2.1 z.2.2.2.1 z.2.2.2.2.1 z.2.2.2.2.2⟩
/-- the frame between two turns: the walk stands ahead of item i -/
structure Ahead (Y : Cx) (fp : List Addr) (tn : Nat → Heap → Prop) (τ : Sl) (i : Nat) (H : Hp) (s : Shared) : Prop where
  inv : Inv Y [] τ H s
  at_ : tn i s.heap
  off : ∀ b ∈ fp, H b = none
/-- one item drawn, stored, looked at; whoever goes on from there may close the turn -/
theorem blk_turn {tg : Expr} {ifs : List Expr} {J : It} {it : Addr} {g : TG} {tt : TT} {vs : List Nat} {Body : Sl → Hp → Prop} {Nx : Hp → Prop} {E : Value → Shared → Prop} {F0 : Shared → Prop} {Fy Fn : Shared → Prop}
    (T : Turn X.prog X.w X.K tg J fp it tn) (hc : X.calm = true) (pg : PG (X.blk s0 H0 scope ce fp) tg g) (pt : PTs (X.blk s0 H0 scope ce fp) ifs tt) (a : Ahead (X.blk s0 H0 scope ce fp) fp tn (wipe σ vs) i H s) (go : J.go i H)
    (step : ∀ x H', J.yld i H x H' → g x (wipe σ vs) H' fun σ2 H2 => wipe σ2 vs = wipe σ vs ∧ tt σ2 H2 fun b H3 => if b = true then Body σ2 H3 else Nx H3)
    (yes : ∀ pl σ2 H2 s2, Inv (X.blk s0 H0 scope ce fp) pl σ2 H2 s2 → Body σ2 H2 → (∀ H' s', Inv (X.blk s0 H0 scope ce fp) pl σ2 H' s' → Ahead (X.blk s0 H0 scope ce fp) fp tn (wipe σ vs) (i + 1) H' s') → Fy s2)
    (no : ∀ H' s', Ahead (X.blk s0 H0 scope ce fp) fp tn (wipe σ vs) (i + 1) H' s' → Nx H' → Fn s') :
    wpAny (model X.prog X.w) X.A (pyNext (.ref it)) (fun r s1 => match r with
      | none => F0 s1
      | some v => wpAny (model X.prog X.w) X.A (letOwnedTupleGo tg (.ref it) v) (fun _ s2 => wpAny (model X.prog X.w) X.A (assign tg ce v) (fun _ s3 =>
          wpAny (model X.prog X.w) X.A (forIn ifs true fun c r => if r = true then do let ok ← isTrue c ce (eval c ce); pure (ForInStep.yield ok) else pure (ForInStep.yield r)) (fun ok s4 => if ok = true then Fy s4 else Fn s4) E s3) E s2) E s1) E s := by
  refine thnF (T.item (X.blk s0 H0 scope ce fp) rfl rfl rfl hc i [] s _ H _ a.inv (blk_fp a.inv a.off) a.at_ go) fun r s1 ⟨v, hr, h1⟩ => ?_
  subst hr
  refine thnF h1 fun _ s2 ⟨x, H2, I2, rx, y2, st2, off2⟩ => ?_
  have P2 := I2.pinned (blk_fp I2 off2) (T.obj _ _ st2)
  refine thnF (pg.run _ s2 _ H2 x v _ P2 rx (step x H2 y2)) fun _ s3 ⟨σ3, H3, I3, hw, q3⟩ => ?_
  have close : ∀ H' s', Inv (X.blk s0 H0 scope ce fp) ([] ++ pinsAt fp s2.heap) σ3 H' s' → Ahead (X.blk s0 H0 scope ce fp) fp tn (wipe σ vs) (i + 1) H' s' := fun H' s' I' => by
    have pin : ∀ b ∈ fp, ∀ o, s2.heap.get? b = some o → s'.heap.get? b = some o ∧ H' b = none := fun b hb o e =>
      have z := I'.pin (b, o) (List.mem_append_right _ (List.mem_append_right _ (mem_pinsAt hb e)))
      ⟨z.1, z.2.1⟩
    refine ⟨(I'.unpinned (pins := [])).weak (hw ▸ wipe_length σ3 vs) fun j v e => (wipe_some (hw ▸ e : (wipe σ3 vs)[j]? = _)).1, T.keep _ _ _ st2 fun b hb o e => (pin b hb o e).1, fun b hb => ?_⟩
    obtain ⟨o, e, _⟩ := T.obj _ _ st2 b hb
    exact (pin b hb o e).2
  refine thnF (pt.run _ s3 σ3 H3 _ I3 q3) fun ok s4 ⟨H4, I4, q4⟩ => ?_
  cases ok with
  | true => exact yes _ σ3 H4 s4 I4 q4 close
  | false => exact no H4 s4 (close H4 s4 I4) q4
/-- D[b] = r, b a tuple key -/
theorem put_T {E : Value → Shared → Prop} {D b : Addr} {kvs : List (List Key × V)} {k : List Key} {v : V} {r : Value} {Q : Unit → Shared → Prop} (hu : X.A.units + 1 < cLine) (I : Inv X pins σ H s) (hD : H D = some (.dT kvs)) (hz : kvs.length < sizeLine) (hb : H b = some (.tup (k.map kV))) (rv : RelV v r)
    (h : ∀ s', Inv X pins σ (upd H D (.dT (putK kvs k v))) s' → Q () s') : wpAny (model X.prog X.w) X.A (dictSet D (.ref b) r) Q E s := by
  have ⟨_, low, xs, rel, dd⟩ := dt_of I.hok hD
  have room : (tupleKind (mixKind X.prog X.w)).room X.A := Nat.lt_of_succ_lt hu
  apply wpAny_dictSet_heap room (key_of I.hok hb) dd (hsz := Paired.length rel ▸ Nat.le_of_lt hz)
  intro h' ⟨q, es, ep, hq, d1, d2, d3, _, d4⟩ sb
  have len : (putK kvs k v).length ≤ sizeLine := Nat.le_trans (length_putK kvs k v) hz
  have other : ∀ c ys, H c = some (.tup ys) → upd H D (.dT (putK kvs k v)) c = some (.tup ys) := fun c ys e => (upd_ne (ne_of e hD nofun)).trans e
  exact h _ (d_write I (by rw [hD]; trivial) sb ⟨q, hq⟩ ⟨len, low, _, (rel.put k hb rv).keeps other, q, es, ep, hq, d1, d2, d3, d4⟩)
end
/-! a dict comprehension whose keys are tuples -/
/-- the key c, the value z put in; then nx -/
def KeyPut (D : Addr) (tk tv : TE) (nx : Hp → Prop) : Sl → Hp → Prop := fun σ H => tk σ H fun y H1 => tv σ H1 fun z H2 => ∃ kvs k c, y = .ref c ∧ H2 c = some (.tup (List.map kV k)) ∧ H2 D = some (.dT kvs) ∧ kvs.length < sizeLine ∧ nx (upd H2 D (.dT (putK kvs k z)))
/-- what a turn is asked: the end, or an item with which the count goes down -/
def DcTurn (J : It) (g : TG) (tt : TT) (tk tv : TE) (τ : Sl) (vs : List Nat) (D : Addr) (fin : Hp → Prop) (W : Nat → Nat → Hp → Prop) (i m : Nat) (H : Hp) : Prop :=
  J.stop i H ∧ fin H ∨ J.go i H ∧ ∀ x H', J.yld i H x H' → g x τ H' fun σ2 H2 => wipe σ2 vs = τ ∧ tt σ2 H2 fun b H3 =>
    if b = true then KeyPut D tk tv (fun H4 => ∃ m', m' < m ∧ W (i + 1) m' H4) σ2 H3 else ∃ m', m' < m ∧ W (i + 1) m' H3
def tDcT (wi : TI) (g : TG) (tt : TT) (tk tv : TE) (vs : List Nat) : TE := fun σ H Q => wi σ H fun J H1 => ∀ D, H1 D = none → ∃ W : Nat → Nat → Hp → Prop,
  (∃ m, W 0 m (upd H1 D (.dT []))) ∧ ∀ i m H, W i m H → DcTurn J g tt tk tv (wipe σ vs) vs D (Q (.ref D)) W i m H
section
variable {X : Cx} {kx vx tg iter : Expr} {ifs : List Expr} {scope : Scope} {own : List (Str × Nat)} {pos : Pos} {wi : TI} {g : TG} {tt : TT} {tk tv : TE}
/-- the loop, once the frame stands -/
theorem dcT_loop {pins : List (Addr × Obj)} {σ : Sl} {H0 : Hp} {s0 s : Shared} {ce : Env} {fp : List Addr} {it D : Addr} {J : It} {tn : Nat → Heap → Prop} {Q : VK} {W : Nat → Nat → Hp → Prop} {m0 : Nat} (hu : X.A.units + 64 < cLine) (hc : X.calm = true) (T : Turn X.prog X.w X.K tg J fp it tn)
    (I0 : Inv X pins σ H0 s0) (f0 : ∀ b ∈ fp, FpOk X pins H0 b) (hC : ce.locals = s0.heap.objs.size) (pg : PG (X.blk s0 H0 scope ce fp) tg g) (pt : PTs (X.blk s0 H0 scope ce fp) ifs tt) (pk : PE (X.blk s0 H0 scope ce fp) kx tk) (pv : PE (X.blk s0 H0 scope ce fp) vx tv)
    (turn : ∀ i m H, W i m H → DcTurn J g tt tk tv (wipe σ (own.map (·.2))) (own.map (·.2)) D (Q (.ref D)) W i m H)
    (w0 : W 0 m0 H0) (a0 : Ahead (X.blk s0 H0 scope ce fp) fp tn (wipe σ (own.map (·.2))) 0 H0 s) :
    codeAny (model X.prog X.w) X.A (.compLoop (.DictComp kx vx [⟨tg, iter, ifs, 0⟩] scope pos) 0 (.ref it) (.ref D) ce) (compPost (model X.prog X.w) X.A X.xe none (EP X pins σ Q) (.ref D) s0.heap.objs.size) s := by
  refine compLoop_anyD (fun n s' => ∃ i H', W i n H' ∧ Ahead (X.blk s0 H0 scope ce fp) fp tn (wipe σ (own.map (·.2))) i H' s') (fun n s1 ⟨i, H1, w1, a1⟩ => ?_) m0 ⟨0, H0, w0, a0⟩
  rcases turn i n H1 w1 with ⟨stop, q⟩ | ⟨go, step⟩
  · refine thnF (T.done (X.blk s0 H0 scope ce fp) rfl rfl rfl hc i [] s1 _ H1 _ a1.inv (blk_fp a1.inv a1.off) a1.at_ stop) fun r s2 ⟨hr, I2⟩ => ?_
    subst hr
    obtain ⟨m, ns, out⟩ := blk_end I0 f0 hC I2
    exact ⟨m, ns, fun h' sb => ⟨.ref D, H1, out h' sb, rfl, q⟩⟩
  · have on : ∀ H' s', Ahead (X.blk s0 H0 scope ce fp) fp tn (wipe σ (own.map (·.2))) (i + 1) H' s' → (∃ m', m' < n ∧ W (i + 1) m' H') → ∃ m, m < n ∧ ∃ i H', W i m H' ∧ Ahead (X.blk s0 H0 scope ce fp) fp tn (wipe σ (own.map (·.2))) i H' s' := fun H' s' a' ⟨m', lt, w'⟩ => ⟨m', lt, i + 1, H', w', a'⟩
    refine blk_turn T hc pg pt a1 go step (fun pl σ2 H2 s2 I2 q2 close => ?_) on
    refine thnF (pk.run pl s2 σ2 H2 _ I2 q2) fun kv s3 ⟨y, H3, I3, ry, q3⟩ => thnF (pv.run pl s3 σ2 H3 _ I3 q3) fun vv s4 ⟨z, H4, I4, rz, kvs, k, c, ey, hk, hD, hz, nx⟩ => ?_
    subst ey
    obtain rfl : kv = .ref c := ry
    exact put_T (X := X.blk s0 H0 scope ce fp) (by show X.A.units + 1 < cLine; omega) I4 hD hz hk rz fun s5 I5 => on _ _ (close _ _ I5) nx
theorem pe_dcT (hu : X.A.units + 64 < cLine) (hc : X.calm = true) (hN : X.N.Nodup) (hi : PI X tg iter wi) (ok : BlkOk X.N X.env.scope scope own) (hg : InBlk X scope fun Y => PG Y tg g) (ht : InBlk X scope fun Y => PTs Y ifs tt)
    (hk : InBlk X scope fun Y => PE Y kx tk) (he : InBlk X scope fun Y => PE Y vx tv) (hs : ∀ x, foldedSetIterable iter X.env x = pure x := by intro _; rfl) :
    PE X (.DictComp kx vx [⟨tg, iter, ifs, 0⟩] scope pos) (tDcT wi g tt tk tv (own.map (·.2))) where
  run pins s σ H Q I h := by
    rw [arm_eval_DictComp]
    have cells : closureFor scope X.env = pure (cloFrom X.env.cells scope.names []) := closure_ok fun y hy e => I.ok.has _ (ok.free y hy e)
    refine wpAny_comprehension_free rfl hs cells ok.kind (fun y hy e => e ▸ ok.uniq y hy) (thn (hi.run pins s σ H _ I h) fun _ s1 h1 => thn h1 fun _ s2 ⟨it, fp, tn, J, H2, e, I2, T, st, f2, q⟩ => ?_)
    subst e
    have nD := I2.hok.fresh (Nat.le_refl s2.heap.objs.size)
    obtain ⟨W, ⟨m0, w0⟩, turn⟩ := q _ nD
    have below : ∀ b ∈ fp, b < s2.heap.objs.size := fun b hb => let ⟨_, e, _⟩ := T.obj _ _ st b hb; Heap.lt_size e
    have I3 := I2.laid (t' := s2.toks) (h' := s2.heap.push { cls := .type "dict", data := .dict #[] }) (fun b o e => Heap.get?_push_of_some _ e) (Nat.le_refl _) (dt_empty s2.heap I2.big)
    have off : ∀ b ∈ fp, upd H2 s2.heap.objs.size (.dT []) b = none := fun b hb => (upd_ne (Nat.ne_of_lt (below b hb))).trans (f2 b hb).1
    have f3 : ∀ b ∈ fp, FpOk X pins (upd H2 s2.heap.objs.size (.dT [])) b := fun b hb => ⟨off b hb, (f2 b hb).2⟩
    refine wpAny_newObj_type (newEnv_comp ?_)
    have I4 := block_start I3 ok hN fun b hb => ⟨f3 b hb, by show b < (s2.heap.push _).objs.size; rw [Heap.size_push]; exact Nat.lt_succ_of_lt (below b hb)⟩
    have st4 := T.keep _ _ _ st fun b _ o e => pushCells_keeps scope.names _ _ _ (Heap.get?_push_of_some { cls := .type "dict", data := .dict #[] } (Heap.get?_push_of_some { cls := .type "dict", data := .dict #[] } e))
    have loop := dcT_loop (kx := kx) (vx := vx) (iter := iter) (pos := pos) (Q := Q) hu hc T I3 f3 rfl (hg _ _ _ _ _) (ht _ _ _ _ _) (hk _ _ _ _ _) (he _ _ _ _ _) turn w0 ⟨I4, st4, off⟩
    exact codeAny_compStart_dict loop (T.self X.A 0 _ _ _ st4 loop)
end
end L3

set_option Elab.async false
set_option linter.all false
set_option maxRecDepth 100000
set_option maxHeartbeats 1000000
namespace L3
open PySem PySem.Spec PyProof.Rows L2
/-- a tuple of texts that stands in the heap itself; a tuple of anything -/
def TT : Rl (List Str) := fun xs M v => ∃ a, v = .ref a ∧ M a = some (.tup (xs.map V.str))
instance : Mon TT := ⟨fun e ⟨a, h, r⟩ => ⟨a, h, e _ _ r⟩⟩
theorem TT.tup {K : PySem.W.Frag} {xs : List Str} {M : Hp} {v : V} (h : TT xs M v) : TupR K Tx xs M v := let ⟨a, e, r⟩ := h; ⟨a, _, e, .inl (.inl r), pd_of_tx xs⟩
theorem TT.sq {K : PySem.W.Frag} {xs : List Str} {M : Hp} {v : V} (h : TT xs M v) : SqR K Tx xs M v := .inr h.tup
theorem py_TT {K : PySem.W.Frag} : PyR K TT fun xs => .tuple (xs.map .str) := fun xs M v h => py_tup py_str _ _ _ h.tup
theorem TT.new {M : Hp} {p : Addr} (xs : List Str) : TT xs (upd M p (.tup (xs.map V.str))) (.ref p) := ⟨p, rfl, upd_same⟩
theorem inj_TT : Inj fun xs : List Str => PyData.tuple (xs.map .str) := inj_tup inj_str
def TuR {α : Type} (R : Rl α) : Rl (List α) := fun xs M v => ∃ a vs, v = .ref a ∧ M a = some (.tup vs) ∧ Pd R M xs vs
def LiR {α : Type} (R : Rl α) : Rl (List α) := fun xs M v => ∃ a vs, v = .ref a ∧ M a = some (.lst vs) ∧ Pd R M xs vs
section
variable {K : PySem.W.Frag} {α : Type} {R : Rl α}
instance [Mon R] : Mon (TuR R) := ⟨fun e ⟨a, vs, h1, h2, h3⟩ => ⟨a, vs, h1, e _ _ h2, h3.mono e⟩⟩
instance [Mon R] : Mon (LiR R) := ⟨fun e ⟨a, vs, h1, h2, h3⟩ => ⟨a, vs, h1, e _ _ h2, h3.mono e⟩⟩
theorem TuR.tup {xs : List α} {M : Hp} {v : V} (h : TuR R xs M v) : TupR K R xs M v := let ⟨a, vs, e, r, p⟩ := h; ⟨a, vs, e, .inl (.inl r), p⟩
theorem TuR.sq {xs : List α} {M : Hp} {v : V} (h : TuR R xs M v) : SqR K R xs M v := .inr h.tup
theorem LiR.lst {xs : List α} {M : Hp} {v : V} (h : LiR R xs M v) : LstR K R xs M v := let ⟨a, vs, e, r, p⟩ := h; ⟨a, vs, e, .inl (.inl r), p⟩
theorem LiR.sq {xs : List α} {M : Hp} {v : V} (h : LiR R xs M v) : SqR K R xs M v := .inl h.lst
end
/-! tuple({x: True for x in xs}): each once -/
def onceP {α : Type} [DecidableEq α] (acc : List α) (x : α) : List α := if x ∈ acc then acc else acc ++ [x]
def once {α : Type} [DecidableEq α] (xs : List α) : List α := xs.foldl onceP []
def ent (acc : List (List Str)) : List (List Key × V) := acc.map fun c => (c.map Sum.inr, V.bl true)
theorem inr_inj : ∀ {a b : List Str}, a.map (Sum.inr : Str → Key) = b.map Sum.inr → a = b
  | [], [], _ => rfl
  | [], _ :: _, h => by simp at h
  | _ :: _, [], h => by simp at h
  | x :: a, y :: b, h => by
    simp only [List.map_cons, List.cons.injEq, Sum.inr.injEq] at h
    rw [h.1, inr_inj h.2]
theorem putK_ent (acc : List (List Str)) (c : List Str) : putK (ent acc) (c.map Sum.inr) (V.bl true) = ent (onceP acc c) := by
  unfold putK onceP
  have e : ((ent acc).any fun kv => decide (kv.1 = c.map Sum.inr)) = decide (c ∈ acc) := by
    unfold ent
    rw [List.any_map]
    induction acc with
    | nil => simp
    | cons x r ih =>
      rw [List.any_cons, ih]
      by_cases h : c = x
      · subst h; simp
      · have h1 : ¬ x.map (Sum.inr : Str → Key) = c.map Sum.inr := fun z => h (inr_inj z).symm
        simp [h, h1]
  rw [e]
  by_cases h : c ∈ acc
  · rw [decide_eq_true h, if_pos rfl, if_pos h]
    unfold ent
    rw [List.map_map]
    refine List.map_congr_left fun x _ => ?_
    show (if _ then _ else _) = _
    by_cases h2 : x.map (Sum.inr : Str → Key) = c.map Sum.inr
    · rw [if_pos h2]
    · rw [if_neg h2]
  · rw [decide_eq_false h, if_neg (by simp), if_neg h]
    unfold ent
    rw [List.map_append]
    rfl
theorem key_V (c : List Str) : (c.map (Sum.inr : Str → Key)).map kV = c.map V.str := by rw [List.map_map]; rfl
theorem onceP_len {α : Type} [DecidableEq α] (acc : List α) (x : α) : (onceP acc x).length ≤ acc.length + 1 := by
  unfold onceP; split
  · omega
  · simp
section
variable {K : PySem.W.Frag} {σ : Sl} {M : Hp} {wi : TI}
theorem gv_once {j : Nat} {xs : List (List Str)} (hj : j < σ.length) (hsrc : GvI wi σ M xs TT) (hz : xs.length ≤ sizeLine) :
    Gv (tCB rTupD (tCons (tDcT wi (gName j) tYes (tVar j) (tC (.bl true)) [j]) tNil)) σ M (TuR TT (once xs)) := by
  intro H mh Q q
  refine hsrc H mh _ fun J M1 H1 g1 ⟨G, Y, w, hG, hY⟩ D hD => ?_
  let Pv : Nat → Hp → Prop := fun i H' => ∃ M' acc, Gr M1 H1 M' H' ∧ M' D = none ∧ acc = (xs.take i).foldl onceP [] ∧ acc.length ≤ i ∧ H' D = some (.dT (ent acc))
  refine ⟨fun i m H' => m = xs.length - i ∧ i ≤ xs.length ∧ Pv i H', ⟨xs.length, by omega, Nat.zero_le _, M1, [], .own g1.mh hD, g1.mh.free hD, rfl, Nat.le_refl _, upd_same⟩, ?_⟩
  rintro i m H' ⟨rfl, hi, M', acc, g, m0, eacc, hl, hw⟩
  by_cases hlt : i < xs.length
  · refine .inr ⟨w.goes i H' hlt (hG M' H' g.mm g.mh), fun y H2 hy => ?_⟩
    obtain ⟨x, M2, hx, g2, ⟨b, rfl, rb⟩⟩ := hY i M' H' y H2 g.mm g.mh hlt (w.yields i H' y H2 hlt (hG M' H' g.mm g.mh) hy)
    have et : xs.take (i + 1) = xs.take i ++ [x] := by rw [List.take_add_one, hx]; rfl
    have hs : ((wipe σ [j]).set j (some (V.ref b)))[j]? = some (some (V.ref b)) := by rw [List.getElem?_set_self (by rw [wipe_length]; exact hj)]
    refine ⟨wipe1, .ref b, hs, ent acc, x.map Sum.inr, b, rfl, by rw [key_V]; exact g2.mh _ _ rb, g2.hh _ _ hw, by unfold ent; rw [List.length_map]; exact Nat.lt_of_le_of_lt hl (Nat.lt_of_lt_of_le hlt hz), ?_⟩
    refine ⟨xs.length - (i + 1), by omega, rfl, hlt, M2, onceP acc x, (g.trans g2).mut hD (g2.keep m0 hw), g2.keep m0 hw, by rw [et, List.foldl_append, ← eacc]; rfl, Nat.le_trans (onceP_len acc x) (Nat.succ_le_succ hl), ?_⟩
    rw [upd_same, putK_ent]
  · have e : i = xs.length := by omega
    subst e
    rw [List.take_length] at eacc
    refine .inl ⟨w.stops H' (hG M' H' g.mm g.mh), D, ent acc, rfl, .inl hw, fun p bs np hk => ?_⟩
    have hbs : ∀ b ∈ bs, ∃ ys, H' b = some (.tup ys) := by
      intro b hb
      have go : ∀ {kvs : List (List Key × V)} {bs : List Addr}, IsKeys H' kvs bs → ∀ b ∈ bs, ∃ ys, H' b = some (.tup ys) := by
        intro kvs bs h
        induction h with
        | nil => intro b hb; cases hb
        | cons q _ ih =>
          intro b hb
          rcases List.mem_cons.mp hb with rfl | hb
          · exact ⟨_, q⟩
          · exact ih b hb
      exact go hk b hb
    have gt := Gr.tups g.mh hbs
    have hpd : Pd TT (withT M' H' bs) acc (bs.map V.ref) := by
      have go : ∀ {acc : List (List Str)} {cs : List Addr}, (∀ c ∈ cs, c ∈ bs) → IsKeys H' (ent acc) cs → Pd TT (withT M' H' bs) acc (cs.map V.ref) := by
        intro acc
        induction acc with
        | nil => intro cs _ h; cases h; exact .nil
        | cons x r ih =>
          intro cs hc h
          cases h with
          | cons q t => exact .cons ⟨_, rfl, withT_in g.mh (hc _ List.mem_cons_self) (by rw [← key_V]; exact q)⟩ (ih (fun c h => hc c (List.mem_cons_of_mem _ h)) t)
      exact go (fun c h => h) hk
    have gn := Gr.new (o := .tup (bs.map V.ref)) gt.mh np
    refine q _ _ _ (((g1.trans g).trans gt).trans gn) ⟨p, _, rfl, upd_same, ?_⟩
    unfold once
    rw [← eacc]
    exact hpd.mono gn.mm
end
end L3

set_option Elab.async false
set_option linter.all false
set_option maxRecDepth 100000
set_option maxHeartbeats 1000000
namespace L3
open PySem PySem.Spec PyProof.Rows L2
/-! something of ours is lent to the known part while an expression runs -/
def del (M : Hp) (x : Addr) : Hp := fun a => if a = x then none else M a
theorem del_ne {M : Hp} {x a : Addr} (h : a ≠ x) : del M x a = M a := if_neg h
theorem del_at {M : Hp} {x : Addr} : del M x x = none := if_pos rfl
class Stb (P : Pr) : Prop where
  del : ∀ {M : Hp} {v : V} {x : Addr} {o : HO}, (∀ xs, o ≠ HO.tup xs) → M x = some o → P M v → P (del M x) v
class Stl {α : Type} (R : Rl α) : Prop where
  del : ∀ {y : α} {M : Hp} {v : V} {x : Addr} {o : HO}, (∀ xs, o ≠ HO.tup xs) → M x = some o → R y M v → R y (del M x) v
instance {α : Type} {R : Rl α} [h : Stl R] {y : α} : Stb (R y) := ⟨fun a b c => h.del a b c⟩
instance : Stl Tx := ⟨fun _ _ h => h⟩
instance : Stl It' := ⟨fun _ _ h => h⟩
instance : Stl Bl := ⟨fun _ _ h => h⟩
instance : Stl OpN := ⟨fun _ _ h => h⟩
theorem tup_ne {M : Hp} {a x : Addr} {o : HO} {xs : List V} (hn : ∀ xs, o ≠ HO.tup xs) (hx : M x = some o) (ha : M a = some (.tup xs)) : a ≠ x := fun z => by
  subst z; rw [hx] at ha; exact hn xs (Option.some.inj ha)
instance : Stl TT := ⟨fun hn hx ⟨a, e, r⟩ => ⟨a, e, by rw [del_ne (tup_ne hn hx r)]; exact r⟩⟩
theorem Pd.del {α : Type} {R : Rl α} [Stl R] {M : Hp} {x : Addr} {o : HO} (hn : ∀ xs, o ≠ HO.tup xs) (hx : M x = some o) {ys : List α} {vs : List V} (h : Pd R M ys vs) : Pd R (L3.del M x) ys vs := Paired.mapP h fun _ _ q => Stl.del hn hx q
instance {α : Type} {R : Rl α} [Stl R] : Stl (TuR R) := ⟨fun hn hx ⟨a, vs, e, r, p⟩ => ⟨a, vs, e, by rw [del_ne (tup_ne hn hx r)]; exact r, p.del hn hx⟩⟩
theorem same_lent {M H : Hp} {x : Addr} {o : HO} (mh : Same M H) (hx : H x = some o) : Same (upd M x o) H := fun b u e => by
  by_cases hb : b = x
  · subst hb; rw [upd_same] at e; rw [hx]; exact e
  · rw [upd_ne hb] at e; exact mh b u e
theorem Gr.back {M H M' H' : Hp} {x : Addr} {o : HO} (g : Gr (upd M x o) H M' H') (hm : M x = none) : Gr M H (del M' x) H' := by
  refine ⟨fun a u e => ?_, g.hh, fun a u e => ?_, fun a u e => ?_, fun a ps e => by
    by_cases ha : a = x
    · subst ha; rw [del_at] at e; cases e
    · rw [del_ne ha] at e
      have h := g.nt a ps e
      rw [upd_ne ha] at h
      exact h⟩
  · have na : a ≠ x := ne_of_none e hm
    rw [del_ne na]
    exact g.mm a u (by rw [upd_ne na]; exact e)
  · by_cases ha : a = x
    · subst ha; rw [del_at] at e; cases e
    · rw [del_ne ha] at e; exact g.mh a u e
  · by_cases ha : a = x
    · subst ha; rw [del_at] at e; cases e
    · rw [del_ne ha] at e
      rcases g.nw a u e with h | h
      · rw [upd_ne ha] at h; exact .inl h
      · exact .inr h
section
variable {K : PySem.W.Frag} {σ : Sl} {M H : Hp} {te : TE} {P : Pr} {x : Addr} {o : HO}
theorem Gv.lend [Stb P] (h : Gv te σ (upd M x o) P) (hm : M x = none) (mh : Same M H) (hx : H x = some o) (hn : ∀ xs, o ≠ HO.tup xs) {Q : VK} (q : ∀ v M' H', Gr M H M' H' → M' x = none → H' x = some o → P M' v → Q v H') : te σ H Q :=
  h H (same_lent mh hx) Q fun v M' H' g p => q v _ H' (g.back hm) del_at (g.hh _ _ hx) (Stb.del hn (g.mm x o upd_same) p)
end
/-! our instance -/
structure OwnI (H0 M H : Hp) (x C dx : Addr) (fs : List (Str × V)) : Prop where
  h0 : H0 x = none
  m : M x = none
  h : H x = some (.ins C dx fs)
theorem ins_nt {C dx : Addr} {fs : List (Str × V)} : ∀ xs, HO.ins C dx fs ≠ HO.tup xs := by intro _ z; cases z
/-- self.f = e, self in slot i -/
theorem s_fld {K : PySem.W.Frag} {σ : Sl} {M H : Hp} {te : TE} {P : Pr} {D : Ends} {i : Nat} {x C dx : Addr} {fs : List (Str × V)} {f : Str} [Stb P] (mh : Same M H) (hm : M x = none) (hx : H x = some (.ins C dx fs)) (hi : σ[i]? = some (some (.ref x))) (cl : Cls K C) (na : NoAttr K C f) (hl : fs.length < 1000)
    (h : Gv te σ (upd M x (.ins C dx fs)) P) (k : ∀ v M' H', Gr M H M' H' → M' x = none → P M' v → D.nx σ (upd H' x (.ins C dx (putF f v fs)))) : sFld K (tVar i) te f D σ H :=
  h.lend hm mh hx ins_nt fun v M' H' g m0 hx' p => ⟨.ref x, hi, x, C, dx, fs, rfl, hx', cl, na, hl, k v M' H' g m0 p⟩
theorem q_fld {K : PySem.W.Frag} {σ : Sl} {M H : Hp} {te : TE} {P : Pr} {D : Ends} {tz : TS} {i : Nat} {x C dx : Addr} {fs : List (Str × V)} {f : Str} [Stb P] (mh : Same M H) (hm : M x = none) (hx : H x = some (.ins C dx fs)) (hi : σ[i]? = some (some (.ref x))) (cl : Cls K C) (na : NoAttr K C f) (hl : fs.length < 1000)
    (h : Gv te σ (upd M x (.ins C dx fs)) P) (k : ∀ v M' H', Gr M H M' H' → M' x = none → P M' v → tz D σ (upd H' x (.ins C dx (putF f v fs)))) : tSeq (sFld K (tVar i) te f) tz D σ H :=
  s_fld (D := { D with nx := tz D }) mh hm hx hi cl na hl h k
theorem gv_self {K : PySem.W.Frag} {σ : Sl} {M : Hp} {P : Pr} {i : Nat} {x C dx : Addr} {fs : List (Str × V)} {f : Str} {u : V} (hi : σ[i]? = some (some (.ref x))) (hx : M x = some (.ins C dx fs)) (cl : Cls K C) (na : NoAttr K C f) (l : fs.lookup f = some u) (p : P M u) : Gv (tFld K (tVar i) f) σ M P :=
  fun H mh Q q => ⟨.ref x, hi, x, C, dx, fs, u, rfl, mh _ _ hx, cl, na, l, q u M H (.refl mh) p⟩
theorem putF_len {f : Str} {v : V} {fs : List (Str × V)} {n : Nat} (h : fs.length ≤ n) : (putF f v fs).length ≤ n + 1 := Nat.le_trans (length_putF f v fs) (Nat.succ_le_succ h)
theorem lt1000 {n m : Nat} (h : n ≤ m) (hm : m < 1000 := by decide) : n < 1000 := Nat.lt_of_le_of_lt h hm
/-- e.f of an instance that is known -/
theorem gv_fld {K : PySem.W.Frag} {σ : Sl} {M : Hp} {te : TE} {P P' : Pr} {f : Str} [Mono P'] (h : Gv te σ M P') (hf : ∀ M' v, P' M' v → ∃ a C dx fs u, v = .ref a ∧ M' a = some (.ins C dx fs) ∧ Cls K C ∧ NoAttr K C f ∧ fs.lookup f = some u ∧ P M' u) : Gv (tFld K te f) σ M P := fun H mh Q q =>
  h H mh _ fun v M1 H1 g1 p1 => let ⟨a, C, dx, fs, u, e, hm, cl, na, l, p⟩ := hf M1 v p1; ⟨a, C, dx, fs, u, e, g1.mh _ _ hm, cl, na, l, q _ M1 H1 g1 p⟩
section
variable {K : PySem.W.Frag} {σ : Sl} {M : Hp} {ta tb te : TE} {α : Type} {R : Rl α}
/-- tuple + tuple -/
theorem gv_addT [Mon R] {xs ys : List α} (ha : Gv ta σ M (TuR R xs)) (hb : Gv tb σ M (TuR R ys)) (hz : xs.length + ys.length ≤ sizeLine) : Gv (tOp (rAddA K) ta tb) σ M (TuR R (xs ++ ys)) := by
  refine gv_op ha hb fun M' u w ⟨a, vs, e1, r1, p1⟩ ⟨b, ws, e2, r2, p2⟩ H mh Q q => .inr (.inr (.inl ⟨a, b, vs, ws, e1, e2, .inl (.inl (mh _ _ r1)), .inl (.inl (mh _ _ r2)), by rw [← p1.length, ← p2.length]; exact hz, fun e => ?_, fun e1 e2 => ?_, fun _ _ p np => ?_⟩))
  · subst e; cases p1
    exact q _ M' H (.refl mh) ⟨b, ws, rfl, r2, p2⟩
  · subst e2; cases p2
    exact q _ M' H (.refl mh) ⟨a, vs, rfl, r1, by rw [List.append_nil]; exact p1⟩
  · exact q _ _ _ (.new mh np) ⟨p, _, rfl, upd_same, Pd.mono (R := R) (same_new (mh.free np)) (pd_app p1 p2)⟩
theorem TT.ts {xs : List Str} {M : Hp} {v : V} (h : TT xs M v) : TuR Tx xs M v := let ⟨a, e, r⟩ := h; ⟨a, _, e, r, pd_of_tx xs⟩
theorem TuR.tt {xs : List Str} {M : Hp} {v : V} (h : TuR Tx xs M v) : TT xs M v := let ⟨a, vs, e, r, p⟩ := h; ⟨a, e, by rw [← pd_tx p]; exact r⟩
theorem gv_addTT {xs ys : List Str} (ha : Gv ta σ M (TT xs)) (hb : Gv tb σ M (TT ys)) (hz : xs.length + ys.length ≤ sizeLine) : Gv (tOp (rAddA K) ta tb) σ M (TT (xs ++ ys)) :=
  gv_is (gv_addT (R := Tx) (gv_is ha fun _ _ h => h.ts) (gv_is hb fun _ _ h => h.ts) hz) fun _ _ h => h.tt
theorem gv_nilT : Gv (tTup tNil) σ M (TT []) := gv_tup ga_nil (fun _ vs h => by rw [h]; exact Nat.zero_le _) fun M' vs p h _ => by subst h; exact ⟨p, rfl, upd_same⟩
end
/-- a def with defaults, no exception leaves it -/
theorem funD_ok {P : Program} {w : World} {K : PySem.W.Frag} {mg : Str → Option Value} {base : Heap} {x qual : Str} {params : Arguments} {body : List Stmt} {scope : Scope} {dvs : List V} {kws : List (Str × V)} {f : Addr} {fd : FuncData} {N ps : List Str} {k : Nat} {sp : Sp}
    (F : FunD K x qual params body scope dvs kws f fd) (S : FnScope N ps scope) (len : ∀ vs H Q E, sp vs H Q E → vs.length = ps.length)
    (hb : ∀ (cdv : Value) (A : Around) (outer : List Env) (s : Shared) (H : Hp) (vs : List V) (Q : VK) (E : XK), Room k (A.deeper (envOfC qual scope s.heap.objs.size f cdv)) → sp vs H Q E →
      ∃ t, PSs (cxOf CX0 P w K mg base N qual scope f cdv A outer s H E).nox body t ∧ t { nx := fun _ H' => Q .non H', rt := Q } (start N vs) H) : FnOk P w K mg base CX0 (k + 1) f fd ps sp :=
  FunD.ok F S len fun cdv A outer s H vs Q E hr hs => let ⟨t, h, q⟩ := hb cdv A outer s H vs Q E hr hs; ⟨t, h.nox, q⟩
end L3

set_option Elab.async false
set_option linter.all false
set_option maxRecDepth 100000
set_option maxHeartbeats 1000000
namespace L3
open PySem PySem.Spec PyProof.Rows L2
/-! a dict of ours whose keys are texts -/
def GvK (te : TE) (σ : Sl) (M : Hp) (ks : List Str) : Prop := ∀ H, Same M H → ∀ Q : VK, (∀ p M' H', Gr M H M' H' → H p = none → M' p = none → H' p = some (.dK (kvT ks)) → Q (.ref p) H') → te σ H Q
theorem putK_kvT (acc : List Str) (x : Str) : putK (kvT acc) (Sum.inr x : Key) (V.bl true) = kvT (onceP acc x) := by
  unfold putK onceP
  have e : ((kvT acc).any fun kv => decide (kv.1 = (Sum.inr x : Key))) = decide (x ∈ acc) := by
    unfold kvT
    rw [List.any_map]
    induction acc with
    | nil => simp
    | cons y r ih =>
      rw [List.any_cons, ih]
      by_cases h : x = y
      · subst h; simp
      · have h1 : ¬ (Sum.inr y : Key) = Sum.inr x := fun z => h (Sum.inr.inj z).symm
        simp [h, h1]
  rw [e]
  by_cases h : x ∈ acc
  · rw [decide_eq_true h, if_pos rfl, if_pos h]
    unfold kvT
    rw [List.map_map]
    refine List.map_congr_left fun y _ => ?_
    show (if _ then _ else _) = _
    by_cases h2 : (Sum.inr y : Key) = Sum.inr x
    · rw [if_pos h2]
    · rw [if_neg h2]
  · rw [decide_eq_false h, if_neg (by simp), if_neg h]
    unfold kvT
    rw [List.map_append]
    rfl
theorem kvT_len (ks : List Str) : (kvT ks).length = ks.length := by unfold kvT; rw [List.length_map]
section
variable {K : PySem.W.Frag} {σ : Sl} {M : Hp} {wi : TI}
theorem gk_dc {j : Nat} {xs : List Str} (hj : j < σ.length) (hsrc : GvI wi σ M xs Tx) (hz : xs.length ≤ sizeLine) : GvK (tDc wi (gName j) tYes (tVar j) (tC (.bl true)) [j]) σ M (once xs) := by
  intro H mh Q q
  refine hsrc H mh _ fun J M1 H1 g1 ⟨G, Y, w, hG, hY⟩ D hD => ?_
  let Pv : Nat → Hp → Prop := fun i H' => ∃ M' acc, Gr M1 H1 M' H' ∧ M' D = none ∧ acc = (xs.take i).foldl onceP [] ∧ acc.length ≤ i ∧ H' D = some (.dK (kvT acc))
  refine ⟨fun i m H' => m = xs.length - i ∧ i ≤ xs.length ∧ Pv i H', ⟨xs.length, by omega, Nat.zero_le _, M1, [], .own g1.mh hD, g1.mh.free hD, rfl, Nat.le_refl _, upd_same⟩, ?_⟩
  rintro i m H' ⟨rfl, hi, M', acc, g, m0, eacc, hl, hw⟩
  by_cases hlt : i < xs.length
  · refine .inr ⟨w.goes i H' hlt (hG M' H' g.mm g.mh), Pv (i + 1), fun H2 p2 => ⟨xs.length - (i + 1), by omega, rfl, hlt, p2⟩, fun y H2 hy => ?_⟩
    obtain ⟨x, M2, hx, g2, ry⟩ := hY i M' H' y H2 g.mm g.mh hlt (w.yields i H' y H2 hlt (hG M' H' g.mm g.mh) hy)
    cases (show y = _ from ry)
    have et : xs.take (i + 1) = xs.take i ++ [x] := by rw [List.take_add_one, hx]; rfl
    have hs : ((wipe σ [j]).set j (some (V.str x)))[j]? = some (some (V.str x)) := by rw [List.getElem?_set_self (by rw [wipe_length]; exact hj)]
    refine ⟨wipe1, .str x, hs, kvT acc, Sum.inr x, rfl, g2.hh _ _ hw, by rw [kvT_len]; exact Nat.lt_of_le_of_lt hl (Nat.lt_of_lt_of_le hlt hz), ?_⟩
    refine ⟨M2, onceP acc x, (g.trans g2).mut hD (g2.keep m0 hw), g2.keep m0 hw, by rw [et, List.foldl_append, ← eacc]; rfl, Nat.le_trans (onceP_len acc x) (Nat.succ_le_succ hl), ?_⟩
    rw [upd_same, putK_kvT]
  · have e : i = xs.length := by omega
    subst e
    rw [List.take_length] at eacc
    unfold once at q
    rw [← eacc] at q
    exact .inl ⟨w.stops H' (hG M' H' g.mm g.mh), q D M' H' (g1.trans g) (g1.hh.free hD) m0 hw⟩
end
/-- what we own: a dict -/
structure OwnK (H0 M H : Hp) (p : Addr) (ks : List Str) : Prop where
  h0 : H0 p = none
  m : M p = none
  h : H p = some (.dK (kvT ks))
theorem OwnK.step {H0 M H M' H' : Hp} {p : Addr} {ks : List Str} (o : OwnK H0 M H p ks) (g : Gr M H M' H') : OwnK H0 M' H' p ks := ⟨o.h0, g.keep o.m o.h, g.hh _ _ o.h⟩
theorem OwnK.idle {H0 M H H' : Hp} {p : Addr} {ks : List Str} (o : OwnK H0 M H p ks) (hh : Same H H') : OwnK H0 M H' p ks := ⟨o.h0, o.m, hh _ _ o.h⟩
theorem OwnK.put {H0 M H : Hp} {p : Addr} {ks ls : List Str} (o : OwnK H0 M H p ks) : OwnK H0 M (upd H p (.dK (kvT ls))) p ls := ⟨o.h0, o.m, upd_same⟩
/-- another thing of ours changes -/
theorem OwnK.off {H0 M H : Hp} {p b : Addr} {ks : List Str} {u : HO} (o : OwnK H0 M H p ks) (h : p ≠ b) : OwnK H0 M (upd H b u) p ks := ⟨o.h0, o.m, by rw [upd_ne h]; exact o.h⟩
theorem Own.off {H0 M H : Hp} {p b : Addr} {vs : List V} {u : HO} (o : Own H0 M H p vs) (h : p ≠ b) : Own H0 M (upd H b u) p vs := ⟨o.h0, o.m, by rw [upd_ne h]; exact o.h⟩
theorem OwnK.ne {H0 M H : Hp} {p b : Addr} {ks : List Str} {vs : List V} (o : OwnK H0 M H p ks) (q : Own H0 M H b vs) : p ≠ b := ne_of o.h q.h (by intro z; cases z)
theorem OwnK.lent {H0 M H : Hp} {p : Addr} {ks : List Str} (o : OwnK H0 M H p ks) (mh : Same M H) : Same (upd M p (.dK (kvT ks))) H := same_lent mh o.h
theorem OwnK.ct {K : PySem.W.Frag} {M : Hp} {p : Addr} {ks : List Str} : CtR K ks (upd M p (.dK (kvT ks))) (.ref p) := .inr ⟨p, rfl, .inl upd_same⟩
theorem kt_nt {kvs : List (Key × V)} : ∀ xs, HO.dK kvs ≠ HO.tup xs := by intro _ z; cases z
theorem ls_nt {vs : List V} : ∀ xs, HO.lst vs ≠ HO.tup xs := by intro _ z; cases z
/-! a thing is locked for good behind an expression -/
def tFrz (te : TE) : TE := fun σ H Q => te σ H fun v H1 => ∃ a u, v = .ref a ∧ H1 a = some u ∧ Mut (some u) ∧ ∀ o, Q v (upd H1 a (.frz o u))
theorem pe_frz {X : Cx} {e : Expr} {te : TE} (h : PE X e te) : PE X e (tFrz te) := by
  refine ⟨fun pins s σ H Q I hw => thn (h.run pins s σ H _ I hw) fun v s1 ⟨x, H1, I1, r, a, u, ex, ha, mu, q⟩ => ?_⟩
  obtain ⟨od, I2⟩ := I1.lock ha mu
  exact ⟨x, _, I2, r, q od⟩
section
variable {K : PySem.W.Frag} {σ : Sl} {M : Hp} {D : Ends} {tc : L2.TT} {tb tz : TS}
theorem q_while {H : Hp} (W : Nat → Sl → Hp → Hp → Prop) {m0 : Nat} (h0 : W m0 σ M H) (hs : ∀ m σ' M' H', W m σ' M' H' → ∃ b Mp, Same Mp H' ∧ GvT tc σ' Mp b ∧
      (b = true → ∀ H1, Same H' H1 → tb { D with nx := fun σ2 H2 => ∃ m' M2, m' < m ∧ W m' σ2 M2 H2, ct := fun σ2 H2 => ∃ m' M2, m' < m ∧ W m' σ2 M2 H2, bk := tz D } σ' H1) ∧ (b = false → ∀ H1, Same H' H1 → tz D σ' H1)) :
    tSeq (tWhile tc tb) tz D σ H := by
  refine ⟨fun m σ' H' => ∃ M', W m σ' M' H', ⟨m0, M, h0⟩, ?_⟩
  rintro m σ' H' ⟨M', w⟩
  obtain ⟨b, Mp, mp, hb, h1, h2⟩ := hs m σ' M' H' w
  refine hb H' mp _ fun M2 H2 g => ?_
  cases b with
  | true => exact ⟨_, fun σ2 H3 ⟨m', M3, hm, w'⟩ => ⟨m', hm, M3, w'⟩, h1 rfl H2 g.hh⟩
  | false => exact h2 rfl H2 g.hh
end
end L3

set_option Elab.async false
set_option linter.all false
set_option maxRecDepth 100000
set_option maxHeartbeats 1000000
namespace L3
open PySem PySem.Spec PyProof.Rows L2
/-! a dict of ours is lent -/
class Sdk (P : Pr) : Prop where
  del : ∀ {M : Hp} {v : V} {x : Addr} {kvs : List (Key × V)}, M x = some (.dK kvs) → P M v → P (L3.del M x) v
class Sdl {α : Type} (R : Rl α) : Prop where
  del : ∀ {y : α} {M : Hp} {v : V} {x : Addr} {kvs : List (Key × V)}, M x = some (.dK kvs) → R y M v → R y (L3.del M x) v
instance {α : Type} {R : Rl α} [h : Sdl R] {y : α} : Sdk (R y) := ⟨fun b c => h.del b c⟩
instance {α : Type} {R : Rl α} [h : Stl R] : Sdl R := ⟨fun b c => h.del kt_nt b c⟩
theorem Pd.delK {α : Type} {R : Rl α} [Sdl R] {M : Hp} {x : Addr} {kvs : List (Key × V)} (hx : M x = some (.dK kvs)) {ys : List α} {vs : List V} (h : Pd R M ys vs) : Pd R (L3.del M x) ys vs := Paired.mapP h fun _ _ q => Sdl.del hx q
instance {α : Type} {R : Rl α} [Sdl R] : Sdl (LiR R) := ⟨fun hx ⟨a, vs, e, r, p⟩ => ⟨a, vs, e, by
  rw [del_ne (fun z => by subst z; rw [hx] at r; cases r)]; exact r, p.delK hx⟩⟩
instance {α : Type} {R : Rl α} [h : Sdl R] : Sdl (OpR' R) := ⟨fun {y M v x kvs} hx r => by
  cases y with
  | none => exact r
  | some y => exact h.del hx r⟩
section
variable {K : PySem.W.Frag} {σ : Sl} {M H : Hp} {te : TE} {P : Pr} {x : Addr} {kvs : List (Key × V)} {D : Ends} {tz : TS}
theorem Gv.lendK [Sdk P] (h : Gv te σ (upd M x (.dK kvs)) P) (hm : M x = none) (mh : Same M H) (hx : H x = some (.dK kvs)) {Q : VK} (q : ∀ v M' H', Gr M H M' H' → M' x = none → H' x = some (.dK kvs) → P M' v → Q v H') : te σ H Q :=
  h H (same_lent mh hx) Q fun v M' H' g p => q v _ H' (g.back hm) del_at (g.hh _ _ hx) (Sdk.del (g.mm x _ upd_same) p)
theorem q_asgK {i : Nat} [Sdk P] (mh : Same M H) (hm : M x = none) (hx : H x = some (.dK kvs)) (h : Gv te σ (upd M x (.dK kvs)) P) (k : ∀ v M' H', Gr M H M' H' → P M' v → tz D (σ.set i (some v)) H') : tSeq (tAsg te (gName i)) tz D σ H :=
  h.lendK hm mh hx fun v M' H' g _ _ p => k v M' H' g p
theorem q_if0 {tt : L2.TT} {b : Bool} {tu : TS} (mh : Same M H) (h : GvT tt σ M b) (h1 : b = true → ∀ H', Same H H' → tu { D with nx := tz D } σ H') (h2 : b = false → ∀ H', Same H H' → tz D σ H') : tSeq (tIfS tt tu tNext) tz D σ H := q_if mh h h1 h2
theorem s_if0 {tt : L2.TT} {b : Bool} {tu : TS} (mh : Same M H) (h : GvT tt σ M b) (h1 : b = true → ∀ H', Same H H' → tu D σ H') (h2 : b = false → ∀ H', Same H H' → D.nx σ H') : tIfS tt tu tNext D σ H := s_if mh h h1 h2
/-! arguments one by one -/
variable {tr ta : TA} {QA : List V → Hp → Prop}
theorem a_V (mh : Same M H) (h : Gv te σ M P) (k : ∀ v M' H', Gr M H M' H' → P M' v → tr σ H' fun vs H2 => QA (v :: vs) H2) : tCons te tr σ H QA := h H mh _ k
theorem a_L {P : Hp → List V → Prop} (mh : Same M H) (h : GvL te σ M P) (k : ∀ p vs M' H', Gr M H M' H' → H p = none → M' p = none → H' p = some (.lst vs) → P M' vs → tr σ H' fun us H2 => QA (.ref p :: us) H2) : tCons te tr σ H QA := h H mh _ k
theorem a_K {ks : List Str} (mh : Same M H) (h : GvK te σ M ks) (k : ∀ p M' H', Gr M H M' H' → H p = none → M' p = none → H' p = some (.dK (kvT ks)) → tr σ H' fun us H2 => QA (.ref p :: us) H2) : tCons te tr σ H QA := h H mh _ k
theorem a_nil (k : QA [] H) : tNil σ H QA := k
theorem q_par3 {i j l : Nat} (h : ta σ H fun vs H1 => ∃ u v w, vs = [u, v, w] ∧ tz D (((σ.set i (some u)).set j (some v)).set l (some w)) H1) : tSeq (tPar3 i j l ta) tz D σ H := h
theorem q_par2 {i j : Nat} (h : ta σ H fun vs H1 => ∃ u v, vs = [u, v] ∧ tz D ((σ.set i (some u)).set j (some v)) H1) : tSeq (tPar i j ta) tz D σ H := h
theorem s_dputT {i : Nat} {p : Addr} {so : List Str} {l : Str} {tk : TE} (mh : Same M H) (hi : σ[i]? = some (some (.ref p))) (hp : H p = some (.dK (kvT so))) (hz : so.length < sizeLine) (h : Gv tk σ M (Tx l))
    (k : ∀ M' H', Gr M H M' H' → D.nx σ (upd H' p (.dK (kvT (onceP so l))))) : sDPut (tVar i) tk (tC (.bl true)) D σ H :=
  ⟨.ref p, hi, h H mh _ fun v M' H' g r => ⟨p, _, rfl, .inl ⟨kvT so, Sum.inr l, g.hh _ _ hp, r, by rw [kvT_len]; exact hz, rfl⟩, by rw [putK_kvT]; exact k M' H' g⟩⟩
theorem q_dputT {i : Nat} {p : Addr} {so : List Str} {l : Str} {tk : TE} (mh : Same M H) (hi : σ[i]? = some (some (.ref p))) (hp : H p = some (.dK (kvT so))) (hz : so.length < sizeLine) (h : Gv tk σ M (Tx l))
    (k : ∀ M' H', Gr M H M' H' → tz D σ (upd H' p (.dK (kvT (onceP so l))))) : tSeq (sDPut (tVar i) tk (tC (.bl true))) tz D σ H := s_dputT (D := { D with nx := tz D }) mh hi hp hz h k
theorem q_app {i : Nat} {p : Addr} {vs : List V} (mh : Same M H) (hi : σ[i]? = some (some (.ref p))) (hp : H p = some (.lst vs)) (hz : vs.length < sizeLine) (h : Gv te σ M P)
    (k : ∀ v M' H', Gr M H M' H' → P M' v → tz D σ (upd H' p (.lst (vs ++ [v])))) : tSeq (tDrop (tBM K "list" rAppend (tVar i) (tCons te tNil))) tz D σ H := s_app (D := { D with nx := tz D }) mh hi hp hz h k
theorem Own.new' {M0 H0 M H : Hp} {p : Addr} {vs : List V} (g : Gr M0 H0 M H) (np : H p = none) : Own H0 M (upd H p (.lst vs)) p vs := ⟨g.hh.free np, g.mh.free np, upd_same⟩
theorem Own.both {H0 M H : Hp} {p b : Addr} {vs : List V} {u : HO} (o : Own H0 M H p vs) (h : p ≠ b) : Own H0 (upd M b u) (upd H b u) p vs := ⟨o.h0, by rw [upd_ne h]; exact o.m, by rw [upd_ne h]; exact o.h⟩
end
end L3

set_option Elab.async false
set_option linter.all false
set_option maxRecDepth 100000
set_option maxHeartbeats 1000000
namespace L3
open PySem PySem.Spec PyProof.Rows L2
/-! len(x) by an own __len__ -/
section
variable {X : Cx} {CX : CXT} {pins : List (Addr × Obj)} {σ : L2.St} {H : Hp} {s : Shared} {a C dx f : Addr} {fs : List (Str × V)} {k : Nat} {fd : FuncData} {ps : List Str} {sp : Sp} {E : XK}
/-- a class with an own __len__ -/
structure OwnLen (P : Program) (w : World) (K : PySem.W.Frag) (mg : Str → Option Value) (base : Heap) (k : Nat) (C : Addr) (sp : Sp) : Prop where
  ok : ∃ f fd, FnOk P w K mg base CX0 k f fd ["self"] sp ∧ PySem.W.findIn K (.ref C) "__len__" = some (some (.ref f)) ∧ PySem.W.isFn K (.ref f) = true ∧ Binds K fd ["self"] []
end
section
end
section
variable {σ : Sl} {M H : Hp} {te : TE} {ta : TA} {P : Pr} {D : Ends} {tz : TS} {g : TG} {sp : Sp}
theorem q_asgC (h : ta σ H fun vs H1 => sp (vs ++ []) H1 (fun v H2 => g v σ H2 fun σ' H3 => tz D σ' H3) E0) : tSeq (tAsg (tCall sp [] E0 ta) g) tz D σ H := h
end
end L3

set_option Elab.async false
set_option linter.all false
set_option maxRecDepth 100000
set_option maxHeartbeats 1000000
namespace L3
open PySem PySem.Spec PyProof.Rows L2
/-! the law's stream: two lists that change behind all else -/
structure Strm where
  a : Addr
  b : Addr
namespace Strm
def off (S : Strm) (x : Addr) : Prop := x = S.a ∨ x = S.b
instance {S : Strm} {x : Addr} : Decidable (S.off x) := by unfold off; infer_instance
def cut (S : Strm) (H : Hp) : Hp := fun x => if S.off x then none else H x
/-- the stream stands, k draws are left -/
structure At (S : Strm) (k : Nat) (H : Hp) : Prop where
  ne : S.a ≠ S.b
  ex : ∃ (cells : List Int) (x n m : Int), H S.a = some (.lst [.ref S.b, .int x, .int n, .int m]) ∧ H S.b = some (.lst (cells.map V.int)) ∧ 0 ≤ x ∧ 0 ≤ n ∧ n + k ≤ 10000000 ∧ 0 ≤ m ∧ m < 2147483647
variable {S : Strm} {H H' M M' : Hp} {x p : Addr} {o : HO} {j k : Nat}
theorem cut_off (h : S.off x) : S.cut H x = none := if_pos h
theorem cut_on (h : ¬ S.off x) : S.cut H x = H x := if_neg h
theorem on_of (h : S.cut H x = some o) : ¬ S.off x := fun z => by rw [cut_off z] at h; cases h
theorem of_cut (h : S.cut H x = some o) : H x = some o := by rw [← cut_on (S := S) (H := H) (on_of h)]; exact h
theorem cut_same : Same (S.cut H) H := fun _ _ h => of_cut h
theorem cut_upd (h : ¬ S.off p) : S.cut (upd H p o) = upd (S.cut H) p o := by
  funext y
  by_cases hy : y = p
  · subst hy; rw [cut_on h, upd_same, upd_same]
  · rw [upd_ne hy]
    by_cases ho : S.off y
    · rw [cut_off ho, cut_off ho]
    · rw [cut_on ho, cut_on ho, upd_ne hy]
theorem At.le (h : S.At k H) (e : j ≤ k) : S.At j H := let ⟨c, x, n, m, h1, h2, h3, h4, h5, h6⟩ := h.ex; ⟨h.ne, c, x, n, m, h1, h2, h3, h4, by omega, h6⟩
theorem At.same (h : S.At k H) (e : Same H H') : S.At k H' := let ⟨c, x, n, m, h1, h2, h3⟩ := h.ex; ⟨h.ne, c, x, n, m, e _ _ h1, e _ _ h2, h3⟩
theorem At.upd (h : S.At k H) (hp : ¬ S.off p) : S.At k (upd H p o) := let ⟨c, x, n, m, h1, h2, h3⟩ := h.ex
  ⟨h.ne, c, x, n, m, by rw [upd_ne (fun z => hp (.inl z.symm))]; exact h1, by rw [upd_ne (fun z => hp (.inr z.symm))]; exact h2, h3⟩
theorem At.at_ (h : S.At k H) (ho : S.off x) : ∃ vs, H x = some (.lst vs) := let ⟨c, y, n, m, h1, h2, h3⟩ := h.ex; by
  rcases ho with rfl | rfl
  · exact ⟨_, h1⟩
  · exact ⟨_, h2⟩
theorem At.fresh (h : S.At k H) (hp : H p = none) : ¬ S.off p := fun z => by obtain ⟨vs, e⟩ := h.at_ z; rw [hp] at e; cases e
theorem At.cutn (h : S.At k H) (hp : H p = none) : S.cut H p = none := by rw [cut_on (h.fresh hp)]; exact hp
theorem off_none (mh : Same M (S.cut H)) (ho : S.off x) : M x = none := by
  cases e : M x with
  | none => rfl
  | some o => have := mh x o e; rw [cut_off ho] at this; cases this
theorem lift (mh : Same M (S.cut H)) (h : S.At k H) (g : Gr M H M' H') : Gr M (S.cut H) M' (S.cut H') := by
  refine ⟨g.mm, fun y u e => ?_, fun y u e => ?_, fun y u e => ?_, g.nt⟩
  · rw [cut_on (on_of e)]; exact g.hh y u (of_cut e)
  · have ny : ¬ S.off y := fun z => by
      obtain ⟨vs, hy⟩ := h.at_ z
      rw [g.keep (off_none mh z) hy] at e
      cases e
    rw [cut_on ny]; exact g.mh y u e
  · rcases g.nw y u e with z | z | z
    · exact .inl z
    · by_cases ho : S.off y
      · exact .inr (.inl (cut_off ho))
      · exact .inr (.inl (by rw [cut_on ho]; exact z))
    · exact .inr (.inr z)
end Strm
open Strm
/-- a value behind draws -/
def GvS (S : Strm) (c : Nat) (te : TE) (σ : Sl) (M : Hp) (P : Pr) : Prop := ∀ H k, Same M (S.cut H) → S.At (k + c) H → ∀ Q : VK, (∀ v M' H', Gr M (S.cut H) M' (S.cut H') → S.At k H' → P M' v → Q v H') → te σ H Q
def GvTS (S : Strm) (c : Nat) (tt : L2.TT) (σ : Sl) (M : Hp) (B : Bool → Prop) : Prop := ∀ H k, Same M (S.cut H) → S.At (k + c) H → ∀ Q : Bool → Hp → Prop, (∀ b M' H', Gr M (S.cut H) M' (S.cut H') → S.At k H' → B b → Q b H') → tt σ H Q
def GvLS (S : Strm) (c : Nat) (te : TE) (σ : Sl) (M : Hp) (P : Hp → List V → Prop) : Prop := ∀ H k, Same M (S.cut H) → S.At (k + c) H → ∀ Q : VK,
  (∀ p vs M' H', Gr M (S.cut H) M' (S.cut H') → S.At k H' → S.cut H p = none → M' p = none → S.cut H' p = some (.lst vs) → P M' vs → Q (.ref p) H') → te σ H Q
def GvIS {α : Type} (S : Strm) (c : Nat) (wi : TI) (σ : Sl) (M : Hp) (G : List α → Prop) (R : Rl α) : Prop := ∀ H k, Same M (S.cut H) → S.At (k + c) H → ∀ Q : It → Hp → Prop, (∀ J xs M1 H1, Gr M (S.cut H) M1 (S.cut H1) → S.At k H1 → G xs → GW M1 J xs R → Q J H1) → wi σ H Q
/-- some x that is good -/
def Ex {α : Type} (R : Rl α) (good : α → Prop) : Pr := fun M v => ∃ x, good x ∧ R x M v
instance {α : Type} {R : Rl α} [Mon R] {good : α → Prop} : Mono (Ex R good) := ⟨fun e ⟨x, g, r⟩ => ⟨x, g, Mon.mono e r⟩⟩
section
variable {K : PySem.W.Frag} {S : Strm} {c c1 c2 : Nat} {σ : Sl} {M M1 : Hp} {ta tb te : TE} {tt tu : L2.TT} {P P1 : Pr} {α : Type} {R : Rl α}
theorem Gv.s (h : Gv te σ M P) : GvS S 0 te σ M P := fun H k mh at_ Q q => h H (mh.trans cut_same) Q fun v M' H' g p => q v M' H' (lift mh at_ g) (at_.same g.hh) p
theorem GvT.s {b : Bool} (h : GvT tt σ M b) : GvTS S 0 tt σ M (· = b) := fun H k mh at_ Q q => h H (mh.trans cut_same) Q fun M' H' g => q b M' H' (lift mh at_ g) (at_.same g.hh) rfl
theorem GvI.s {wi : TI} {xs : List α} (h : GvI wi σ M xs R) : GvIS S 0 wi σ M (· = xs) R := fun H k mh at_ Q q => h H (mh.trans cut_same) Q fun J M' H' g w => q J xs M' H' (lift mh at_ g) (at_.same g.hh) rfl w
theorem GvL.s {P : Hp → List V → Prop} (h : GvL te σ M P) : GvLS S 0 te σ M P := fun H k mh at_ Q q => h H (mh.trans cut_same) Q fun p vs M' H' g h0 m0 hp r =>
  q p vs M' H' (lift mh at_ g) (at_.same g.hh) (Strm.At.cutn at_ h0) m0 (by rw [cut_on (Strm.At.fresh at_ h0)]; exact hp) r
theorem GvS.is {P' : Pr} (h : GvS S c te σ M P) (e : ∀ M v, P M v → P' M v) : GvS S c te σ M P' := fun H k mh at_ Q q => h H k mh at_ Q fun v M' H' g a p => q v M' H' g a (e M' v p)
theorem GvS.cost (h : GvS S c te σ M P) (e : c ≤ c1) : GvS S c1 te σ M P := fun H k mh at_ Q q => h H k mh (at_.le (by omega)) Q q
theorem GvLS.cost {P : Hp → List V → Prop} (h : GvLS S c te σ M P) (e : c ≤ c1) : GvLS S c1 te σ M P := fun H k mh at_ Q q => h H k mh (at_.le (by omega)) Q q
theorem GvTS.cost {B : Bool → Prop} (h : GvTS S c tt σ M B) (e : c ≤ c1) : GvTS S c1 tt σ M B := fun H k mh at_ Q q => h H k mh (at_.le (by omega)) Q q
theorem GvTS.is {B B' : Bool → Prop} (h : GvTS S c tt σ M B) (e : ∀ b, B b → B' b) : GvTS S c tt σ M B' := fun H k mh at_ Q q => h H k mh at_ Q fun b M' H' g a p => q b M' H' g a (e b p)
theorem GvS.le [Mono P] (h : GvS S c te σ M P) (e : Same M M1) : GvS S c te σ M1 P := fun H k mh at_ Q q =>
  h H k (e.trans mh) at_ Q fun v M' H' g a p => q v _ H' (g.join e mh).1 a (Mono.mono (g.join e mh).2 p)
theorem GvTS.le {B : Bool → Prop} (h : GvTS S c tt σ M B) (e : Same M M1) : GvTS S c tt σ M1 B := fun H k mh at_ Q q => h H k (e.trans mh) at_ Q fun b M' H' g a p => q b _ H' (g.join e mh).1 a p
theorem GvLS.gv {R : Hp → List V → Prop} (h : GvLS S c te σ M R) (hp : ∀ M vs p, R M vs → M p = none → P (upd M p (.lst vs)) (.ref p)) : GvS S c te σ M P := fun H k mh at_ Q q =>
  h H k mh at_ Q fun p vs M' H' g a h0 m0 hw r => q (.ref p) _ H' (g.freeze h0 m0 hw) a (hp M' vs p r m0)
theorem GvLS.is {R R' : Hp → List V → Prop} (h : GvLS S c te σ M R) (e : ∀ M vs, R M vs → R' M vs) : GvLS S c te σ M R' := fun H k mh at_ Q q => h H k mh at_ Q fun p vs M' H' g a h0 m0 hw r => q p vs M' H' g a h0 m0 hw (e M' vs r)
theorem gs_op {r : R2} {R : Pr} [Mono P] [Mono P1] (ha : GvS S c1 ta σ M P) (hb : GvS S c2 tb σ M P1) (hr : ∀ M' x y, P M' x → P1 M' y → RV (r x y) M' R) : GvS S (c1 + c2) (tOp r ta tb) σ M R := fun H k mh at_ Q q =>
  ha H (k + c2) mh (at_.le (by omega)) _ fun x M1 H1 g1 a1 p1 => hb.le g1.mm H1 k g1.mh a1 _ fun y M2 H2 g2 a2 p2 =>
    hr M2 x y (Mono.mono g2.mm p1) p2 H2 (g2.mh.trans cut_same) _ fun v M3 H3 g3 p3 => q v M3 H3 ((g1.trans g2).trans (lift g2.mh a2 g3)) (a2.same g3.hh) p3
theorem gts_test (h : GvS S c te σ M P) {B : Bool → Prop} (e : ∀ M v, P M v → ∃ b, v = .bl b ∧ B b) : GvTS S c (tTest te) σ M B := fun H k mh at_ Q q => h H k mh at_ _ fun v M' H' g a p => let ⟨b, e1, e2⟩ := e M' v p; ⟨b, e1, q b M' H' g a e2⟩
theorem gts_or {B C : Bool → Prop} (h : GvTS S c1 tt σ M B) (h2 : B false → GvTS S c2 tu σ M C) : GvTS S (c1 + c2) (tOr tt tu) σ M (fun b => (b = true ∧ B true) ∨ (B false ∧ C b)) := fun H k mh at_ Q q => h H (k + c2) mh (at_.le (by omega)) _ fun b M1 H1 g1 a1 p => by
  cases b with
  | true => exact q true M1 H1 g1 (a1.le (by omega)) (.inl ⟨rfl, p⟩)
  | false => exact (h2 p).le g1.mm H1 k g1.mh a1 _ fun b2 M2 H2 g2 a2 p2 => q b2 M2 H2 (g1.trans g2) a2 (.inr ⟨p, p2⟩)
theorem gs_if {B : Bool → Prop} [Mono P] (h : GvTS S c1 tt σ M B) (h1 : B true → GvS S c2 ta σ M P) (h2 : B false → GvS S c2 tb σ M P) : GvS S (c1 + c2) (tIf tt ta tb) σ M P := fun H k mh at_ Q q => h H (k + c2) mh (at_.le (by omega)) _ fun b M1 H1 g1 a1 p => by
  cases b with
  | true => exact (h1 p).le g1.mm H1 k g1.mh a1 _ fun v M2 H2 g2 a2 p2 => q v M2 H2 (g1.trans g2) a2 p2
  | false => exact (h2 p).le g1.mm H1 k g1.mh a1 _ fun v M2 H2 g2 a2 p2 => q v M2 H2 (g1.trans g2) a2 p2
theorem gis_sq [Mon R] {ts : TE} {good : List α → Prop} (h : GvS S c ts σ M (Ex (SqR K R) good)) : GvIS S c (iSq K ts) σ M good R := fun H k mh at_ Q q => h H k mh at_ _ fun v M1 H1 g1 a1 ⟨xs, gx, hv⟩ =>
  gi_sq (K := K) (σ := σ) (M := M1) (ts := tC v) (gv_c hv) H1 (g1.mh.trans cut_same) _ fun J M2 H2 g2 w => q J xs M2 H2 (g1.trans (lift g1.mh a1 g2)) (a1.same g2.hh) gx w
theorem gis_rng1 {good : Nat → Prop} (h : GvS S c te σ M (Ex (fun n : Nat => It' (n : Int)) good)) (hn : ∀ n, good n → n ≤ 1000000000) : GvIS S c (iRng1 (tCons te tNil)) σ M (fun xs => ∃ n, good n ∧ xs = List.range n) (fun i => It' (i : Nat)) := fun H k mh at_ Q q => h H k mh at_ _ fun v M1 H1 g1 a1 ⟨n, gx, hv⟩ =>
  gi_rng1 (σ := σ) (M := M1) (te := tC v) (gv_c hv) (hn n gx) H1 (g1.mh.trans cut_same) _ fun J M2 H2 g2 w => q J _ M2 H2 (g1.trans (lift g1.mh a1 g2)) (a1.same g2.hh) ⟨n, gx, rfl⟩ w
end
end L3

set_option Elab.async false
set_option linter.all false
set_option maxRecDepth 100000
set_option maxHeartbeats 1000000
namespace L3
open PySem PySem.Spec PyProof.Rows L2
open Strm
instance {α : Type} {R : Rl α} [h : Stl R] {good : α → Prop} : Stb (Ex R good) := ⟨fun a b ⟨x, g, r⟩ => ⟨x, g, h.del a b r⟩⟩
/-! statements behind draws -/
section
variable {K : PySem.W.Frag} {S : Strm} {c c1 c2 k : Nat} {σ : Sl} {M H : Hp} {ta tb te : TE} {tt tu : L2.TT} {P P1 : Pr} {α β : Type} {R : Rl α} {D : Ends} {tz tx tw : TS}
theorem z_ret (mh : Same M (S.cut H)) (a : S.At (k + c) H) (h : GvS S c te σ M P) (q : ∀ v M' H', Gr M (S.cut H) M' (S.cut H') → S.At k H' → P M' v → D.rt v H') : tRet te D σ H := h H k mh a _ q
theorem z_retL {P : Hp → List V → Prop} (mh : Same M (S.cut H)) (a : S.At (k + c) H) (h : GvLS S c te σ M P)
    (q : ∀ p vs M' H', Gr M (S.cut H) M' (S.cut H') → S.At k H' → S.cut H p = none → M' p = none → S.cut H' p = some (.lst vs) → P M' vs → D.rt (.ref p) H') : tRet te D σ H := h H k mh a _ q
theorem z_asg {i : Nat} (mh : Same M (S.cut H)) (a : S.At (k + c) H) (h : GvS S c te σ M P) (q : ∀ v M' H', Gr M (S.cut H) M' (S.cut H') → S.At k H' → P M' v → tz D (σ.set i (some v)) H') : tSeq (tAsg te (gName i)) tz D σ H := h H k mh a _ q
theorem z_asgL {i : Nat} {P : Hp → List V → Prop} (mh : Same M (S.cut H)) (a : S.At (k + c) H) (h : GvLS S c te σ M P)
    (q : ∀ p vs M' H', Gr M (S.cut H) M' (S.cut H') → S.At k H' → S.cut H p = none → M' p = none → S.cut H' p = some (.lst vs) → P M' vs → tz D (σ.set i (some (.ref p))) H') : tSeq (tAsg te (gName i)) tz D σ H := h H k mh a _ q
theorem z_if {B : Bool → Prop} (mh : Same M (S.cut H)) (a : S.At (k + c) H) (h : GvTS S c tt σ M B) (h1 : B true → ∀ M' H', Gr M (S.cut H) M' (S.cut H') → S.At k H' → tx { D with nx := tz D } σ H') (h2 : B false → ∀ M' H', Gr M (S.cut H) M' (S.cut H') → S.At k H' → tz D σ H') :
    tSeq (tIfS tt tx tNext) tz D σ H := h H k mh a _ fun b M' H' g a' p => by
  cases b with
  | true => exact h1 p M' H' g a'
  | false => exact h2 p M' H' g a'
/-- a list of ours changes -/
theorem cut_put {p : Addr} {o u : HO} (hp : S.cut H p = some o) : S.cut (upd H p u) = upd (S.cut H) p u := cut_upd (on_of hp)
/-- something of ours is lent -/
theorem GvS.lend {x : Addr} {o : HO} [Stb P] (h : GvS S c te σ (upd M x o) P) (hm : M x = none) (mh : Same M (S.cut H)) (a : S.At (k + c) H) (hx : S.cut H x = some o) (hn : ∀ xs, o ≠ HO.tup xs) {Q : VK}
    (q : ∀ v M' H', Gr M (S.cut H) M' (S.cut H') → S.At k H' → P M' v → Q v H') : te σ H Q :=
  h H k (same_lent mh hx) a Q fun v M' H' g a' p => q v _ H' (g.back hm) a' (Stb.del hn (g.mm x o upd_same) p)
/-- for over anything, drawing -/
theorem z_for {wi : TI} {g : TG} {tbd : TS} {U : α → Hp → Sl → Sl → Prop} {G : List α → Prop} (mh : Same M (S.cut H)) (a : S.At (k + c) H) (hsrc : GvIS S c wi σ M G R) (htg : TgOk g R U) (Pv : List α → Hp → Nat → Sl → Hp → Hp → Prop)
    (h0 : ∀ xs M1 H1, G xs → Gr M (S.cut H) M1 (S.cut H1) → S.At k H1 → Pv xs M1 0 σ M1 H1) (hk : ∀ xs M1 i σ' M' H', Pv xs M1 i σ' M' H' → Same M1 M' ∧ Same M' (S.cut H') ∧ S.At 0 H')
    (hs : ∀ xs M1 i x σ' M' H' M2 H2 σ2, G xs → Same M M1 → xs[i]? = some x → Pv xs M1 i σ' M' H' → Gr M' H' M2 H2 → U x M2 σ' σ2 →
      tbd { D with nx := fun σ2 H2 => ∃ M2, Pv xs M1 (i + 1) σ2 M2 H2, ct := fun σ2 H2 => ∃ M2, Pv xs M1 (i + 1) σ2 M2 H2, bk := tz D } σ2 H2)
    (hd : ∀ xs M1 σ' M' H', G xs → Same M M1 → Pv xs M1 xs.length σ' M' H' → tz D σ' H') : tSeq (tFor wi g tbd) tz D σ H := by
  refine hsrc H k mh a _ fun J xs M1 H1 g1 a1 gx ⟨GG, Y, w, hG, hY⟩ => ?_
  refine for_it w (fun i σ' H' => ∃ M', Pv xs M1 i σ' M' H') ⟨M1, h0 xs M1 H1 gx g1 a1⟩ (fun i σ' H' _ ⟨M', p⟩ => hG M' H' (hk _ _ _ _ _ _ p).1 ((hk _ _ _ _ _ _ p).2.1.trans cut_same)) ?_ ?_
  · rintro i y σ' H' H'' hi ⟨M', p⟩ hy
    have km := hk _ _ _ _ _ _ p
    obtain ⟨x, M2, hx, g2, rx⟩ := hY i M' H' y H'' km.1 (km.2.1.trans cut_same) hi hy
    exact htg x M2 y H'' σ' _ rx g2.mh fun σ2 hU => hs xs M1 i x σ' M' H' M2 H'' σ2 gx g1.mm hx p g2 hU
  · rintro σ' H' ⟨M', p⟩
    exact hd xs M1 σ' M' H' gx g1.mm p
/-- a comprehension without a test, drawing at each item -/
theorem gls_m1 {T : Rl β} [Mon T] {j n : Nat} {wi : TI} {G : List α → Prop} {good : α → β → Prop} (hsrc : GvIS S c1 wi σ M G R) (hn : ∀ xs, G xs → xs.length ≤ n) (hz : n ≤ sizeLine)
    (he : ∀ xs, G xs → ∀ x ∈ xs, ∀ M1 v, Same M M1 → R x M1 v → GvS S c2 te ((wipe σ [j]).set j (some v)) M1 (Ex T (good x))) :
    GvLS S (c1 + n * c2) (tLc wi (gName j) tYes te [j]) σ M fun M ws => ∃ xs ys, G xs ∧ Paired good xs ys ∧ Pd T M ys ws := by
  intro H k mh at_ Q q
  refine hsrc H (k + n * c2) mh (at_.le (by omega)) _ fun J xs M1 H1 g1 a1 gx ⟨GG, Y, w, hG, hY⟩ D hD => ?_
  have hxn := hn xs gx
  have nD := a1.fresh hD
  refine lc_it w (fun i H' => ∃ M' ys ws, Gr M1 (S.cut H1) M' (S.cut H') ∧ S.At (k + (n - i) * c2) H' ∧ M' D = none ∧ S.cut H' D = some (.lst ws) ∧ ws.length ≤ i ∧ Paired good (xs.take i) ys ∧ Pd T M' ys ws)
    ⟨M1, [], [], by rw [cut_upd nD]; exact .own g1.mh (a1.cutn hD), a1.upd nD, g1.mh.free (a1.cutn hD), by rw [cut_upd nD, upd_same], Nat.le_refl _, .nil, .nil⟩ (fun i H' _ ⟨M', ys, ws, g, _⟩ => hG M' H' g.mm (g.mh.trans cut_same)) ?_ ?_
  · rintro i y H' H'' hi ⟨M', ys, ws, g, a', m0, hw', hl, hg, hpd⟩ hy
    obtain ⟨x, M0, hx, g0, rx⟩ := hY i M' H' y H'' g.mm (g.mh.trans cut_same) hi hy
    have hxm : x ∈ xs := List.mem_of_getElem? hx
    have et : xs.take (i + 1) = xs.take i ++ [x] := by rw [List.take_add_one, hx]; rfl
    have gg := g.trans (lift g.mh a' g0)
    have ag := a'.same g0.hh
    have k0 : S.cut H'' D = some (.lst ws) := (lift g.mh a' g0).hh _ _ hw'
    have m0' : M0 D = none := (lift g.mh a' g0).keep m0 hw'
    have hni : n - i = (n - (i + 1)) + 1 := by omega
    refine ⟨wipe1, ?_⟩
    show te _ H'' _
    refine he xs gx x hxm M0 y (g1.mm.trans gg.mm) rx H'' (k + (n - (i + 1)) * c2) gg.mh (ag.le (by rw [hni, Nat.add_mul]; omega)) _ fun z M3 H3 g3 a3 ⟨b, gb, hb⟩ => ?_
    have m3 : M3 D = none := g3.keep m0' k0
    have k3 := g3.hh _ _ k0
    have n3 := on_of k3
    refine ⟨ws, of_cut k3, Nat.lt_of_lt_of_le (Nat.lt_of_le_of_lt hl hi) (Nat.le_trans hxn hz), M3, ys ++ [b], ws ++ [z], by rw [cut_upd n3]; exact (gg.trans g3).mut (a1.cutn hD) m3, a3.upd n3, m3, by rw [cut_upd n3, upd_same], by rw [List.length_append]; exact Nat.succ_le_succ hl, ?_, ?_⟩
    · rw [et]; exact pd_app hg (.cons gb .nil)
    · exact pd_app (hpd.mono ((lift g.mh a' g0).mm.trans g3.mm)) (.cons hb .nil)
  · rintro H' ⟨M', ys, ws, g, a', m0, hw', hl, hg, hpd⟩
    rw [List.take_length] at hg
    exact q D ws M' H' (g1.trans g) (a'.le (by omega)) (g1.hh.free (a1.cutn hD)) m0 hw' ⟨xs, ys, gx, hg, hpd⟩
end
/-! promises of defs that draw -/
section
variable {α β γ : Type} {S : Strm} {c : Nat} {σ : Sl} {M : Hp} {t1 t2 t3 : TE} {R1 : Rl α} {R2 : Rl β} {R3 : Rl γ} {i : Nat}
def spS1 (R1 : Rl α) (pre : α → Prop) (c : α → Nat) (R : α → Pr) : Sp := fun vs H Q _ => ∃ (S : Strm) (x : α) (M : Hp) (v : V) (k : Nat), vs = [.ref S.a, v] ∧ Same M (S.cut H) ∧ S.At (k + c x) H ∧ R1 x M v ∧ pre x ∧ ∀ u M' H', Gr M (S.cut H) M' (S.cut H') → S.At k H' → R x M' u → Q u H'
def slS1 (R1 : Rl α) (pre : α → Prop) (c : α → Nat) (R : α → Hp → List V → Prop) : Sp := fun vs H Q _ => ∃ (S : Strm) (x : α) (M : Hp) (v : V) (k : Nat), vs = [.ref S.a, v] ∧ Same M (S.cut H) ∧ S.At (k + c x) H ∧ R1 x M v ∧ pre x ∧
  ∀ p ws M' H', Gr M (S.cut H) M' (S.cut H') → S.At k H' → S.cut H p = none → M' p = none → S.cut H' p = some (.lst ws) → R x M' ws → Q (.ref p) H'
def slS2 (R1 : Rl α) (R2 : Rl β) (pre : α → β → Prop) (c : α → β → Nat) (R : α → β → Hp → List V → Prop) : Sp := fun vs H Q _ => ∃ (S : Strm) (x : α) (y : β) (M : Hp) (v w : V) (k : Nat), vs = [.ref S.a, v, w] ∧ Same M (S.cut H) ∧ S.At (k + c x y) H ∧ R1 x M v ∧ R2 y M w ∧ pre x y ∧
  ∀ p ws M' H', Gr M (S.cut H) M' (S.cut H') → S.At k H' → S.cut H p = none → M' p = none → S.cut H' p = some (.lst ws) → R x y M' ws → Q (.ref p) H'
theorem gs_call1 {pre : α → Prop} {cs : α → Nat} {R : α → Pr} {x : α} (hi : σ[i]? = some (some (.ref S.a))) (h1 : Gv t1 σ M (R1 x)) (hp : pre x) : GvS S (cs x) (tCall (spS1 R1 pre cs R) [] E0 (tCons (tVar i) (tCons t1 tNil))) σ M (R x) := fun H k mh a Q q =>
  ⟨_, hi, h1 H (mh.trans cut_same) _ fun v M1 H1 g1 p1 => ⟨S, x, M1, v, k, rfl, (lift mh a g1).mh, a.same g1.hh, p1, hp, fun u M' H' g a' r => q u M' H' ((lift mh a g1).trans g) a' r⟩⟩
theorem gls_call1 {pre : α → Prop} {cs : α → Nat} {R : α → Hp → List V → Prop} {x : α} (hi : σ[i]? = some (some (.ref S.a))) (h1 : Gv t1 σ M (R1 x)) (hp : pre x) : GvLS S (cs x) (tCall (slS1 R1 pre cs R) [] E0 (tCons (tVar i) (tCons t1 tNil))) σ M (R x) := fun H k mh a Q q =>
  ⟨_, hi, h1 H (mh.trans cut_same) _ fun v M1 H1 g1 p1 => ⟨S, x, M1, v, k, rfl, (lift mh a g1).mh, a.same g1.hh, p1, hp, fun p ws M' H' g a' h0 m0 hw r => q p ws M' H' ((lift mh a g1).trans g) a' ((lift mh a g1).hh.free h0) m0 hw r⟩⟩
theorem gls_call2 [Mon R1] [Mon R2] {pre : α → β → Prop} {cs : α → β → Nat} {R : α → β → Hp → List V → Prop} {x : α} {y : β} (hi : σ[i]? = some (some (.ref S.a))) (h1 : Gv t1 σ M (R1 x)) (h2 : Gv t2 σ M (R2 y)) (hp : pre x y) :
    GvLS S (cs x y) (tCall (slS2 R1 R2 pre cs R) [] E0 (tCons (tVar i) (tCons t1 (tCons t2 tNil)))) σ M (R x y) := fun H k mh a Q q =>
  ⟨_, hi, h1 H (mh.trans cut_same) _ fun v M1 H1 g1 p1 => h2.le g1.mm H1 g1.mh _ fun w M2 H2 g2 p2 => ⟨S, x, y, M2, v, w, k, rfl, (lift mh a (g1.trans g2)).mh, a.same (g1.trans g2).hh, Mon.mono g2.mm p1, p2, hp,
    fun p ws M' H' g a' h0 m0 hw r => q p ws M' H' ((lift mh a (g1.trans g2)).trans g) a' ((lift mh a (g1.trans g2)).hh.free h0) m0 hw r⟩⟩
end
end L3

set_option Elab.async false
set_option linter.all false
set_option maxRecDepth 100000
set_option maxHeartbeats 1000000
namespace L3
open PySem PySem.Spec PyProof.Rows L2
open Strm
namespace Strm
variable {S : Strm} {H H' M M' : Hp} {x p : Addr} {o : HO} {j k : Nat}
/-- the stream lent -/
def full (S : Strm) (M H : Hp) : Hp := fun x => if S.off x then H x else M x
theorem full_off (h : S.off x) : S.full M H x = H x := if_pos h
theorem full_on (h : ¬ S.off x) : S.full M H x = M x := if_neg h
theorem full_same (mh : Same M (S.cut H)) : Same (S.full M H) H := fun y u e => by
  by_cases h : S.off y
  · rw [full_off h] at e; exact e
  · rw [full_on h] at e; exact of_cut (mh y u e)
theorem cut_updo (h : S.off p) : S.cut (upd H p o) = S.cut H := by
  funext y
  by_cases ho : S.off y
  · rw [cut_off ho, cut_off ho]
  · rw [cut_on ho, cut_on ho, upd_ne (fun z => ho (by rw [z]; exact h))]
theorem unfull (mh : Same M (S.cut H)) (g : Gr (S.full M H) H M' H') : Gr M (S.cut H) (S.cut M') (S.cut H') := by
  refine ⟨fun y u e => ?_, fun y u e => ?_, fun y u e => ?_, fun y u e => ?_, fun y ps e => by
    have h := g.nt y ps (of_cut e)
    rw [full_on (on_of e)] at h
    exact h⟩
  · have ny := on_of (mh y u e)
    rw [cut_on ny]; exact g.mm y u (by rw [full_on ny]; exact e)
  · rw [cut_on (on_of e)]; exact g.hh y u (of_cut e)
  · rw [cut_on (on_of e)]; exact g.mh y u (of_cut e)
  · have ny := on_of e
    rcases g.nw y u (of_cut e) with z | z | z
    · rw [full_on ny] at z; exact .inl z
    · exact .inr (.inl (by rw [cut_on ny]; exact z))
    · exact .inr (.inr z)
end Strm
def cellD (cells : List Int) (x n m : Int) : List PyData := [.list (cells.map .int), .int x, .int n, .int m]
structure StAt (S : Strm) (H : Hp) (cells : List Int) (x n m : Int) : Prop where
  ne : S.a ≠ S.b
  a : H S.a = some (.lst [.ref S.b, .int x, .int n, .int m])
  b : H S.b = some (.lst (cells.map V.int))
/-- one statement, then what follows it is proved once -/
theorem q_cut {t tz : TS} {D : Ends} {σ : Sl} {H : Hp} (J : Sl → Hp → Prop) (h : ∀ nx, (∀ σ H, J σ H → nx σ H) → t { D with nx := nx } σ H) (hz : ∀ σ H, J σ H → tz D σ H) : tSeq t tz D σ H := h _ hz
section
variable {K : PySem.W.Frag} {S : Strm} {c k : Nat} {σ : Sl} {M H H' : Hp} {te : TE} {D : Ends} {tz tb : TS} {cells : List Int} {x n m : Int}
theorem StAt.same (st : StAt S H cells x n m) (e : Same H H') : StAt S H' cells x n m := ⟨st.ne, e _ _ st.a, e _ _ st.b⟩
theorem pd_int {M : Hp} : ∀ (cs : List Int), Pd (Dd K) M (cs.map PyData.int) (cs.map V.int)
  | [] => .nil
  | c :: r => .cons (.int c) (pd_int r)
theorem dpa_pd {M : Hp} {ds : List PyData} {vs : List V} (h : Pd (Dd K) M ds vs) : DpAll K M vs ds := by
  induction h with
  | nil => exact .nil
  | cons q _ ih => exact .cons q ih
theorem StAt.sq (st : StAt S H cells x n m) : SqR K (Dd K) (cellD cells x n m) (S.full M H) (.ref S.a) :=
  .inl ⟨_, _, rfl, .inl (.inl (by rw [full_off (.inl rfl)]; exact st.a)), .cons (.lst (.inl (.inl (by rw [full_off (.inr rfl)]; exact st.b))) (dpa_pd (pd_int cells))) (.cons (.int x) (.cons (.int n) (.cons (.int m) .nil)))⟩
/-- stream[j] = e -/
theorem z_subE {j : Int} {jn : Nat} {z : Int} (hσ : σ[0]? = some (some (.ref S.a))) (mh : Same M (S.cut H)) (st : StAt S H cells x n m) (hj : ixN 4 j = some jn) (h : Gv te σ (S.full M H) (It' z))
    (q : ∀ M' H', Gr M (S.cut H) M' (S.cut H') → H' S.a = some (.lst ([V.ref S.b, .int x, .int n, .int m].set jn (.int z))) → H' S.b = some (.lst (cells.map V.int)) → D.nx σ H') :
    tAsg te (gSub (tVar 0) (tC (.int j)) rSetL) D σ H := h H (full_same mh) _ fun v M' H' g p => by
  have st' := st.same g.hh
  refine ⟨.ref S.a, hσ, S.a, _, j, jn, rfl, rfl, st'.a, hj, ?_⟩
  cases (show v = _ from p)
  refine q _ _ (by rw [cut_updo (.inl rfl)]; exact unfull mh g) upd_same ?_
  rw [upd_ne (Ne.symm st.ne)]
  exact st'.b
theorem z_sub {j : Int} {jn : Nat} {z : Int} (hσ : σ[0]? = some (some (.ref S.a))) (mh : Same M (S.cut H)) (st : StAt S H cells x n m) (hj : ixN 4 j = some jn) (h : Gv te σ (S.full M H) (It' z))
    (q : ∀ M' H', Gr M (S.cut H) M' (S.cut H') → H' S.a = some (.lst ([V.ref S.b, .int x, .int n, .int m].set jn (.int z))) → H' S.b = some (.lst (cells.map V.int)) → tz D σ H') :
    tSeq (tAsg te (gSub (tVar 0) (tC (.int j)) rSetL)) tz D σ H := z_subE (D := { D with nx := tz D }) hσ mh st hj h q
end
end L3

set_option Elab.async false
set_option linter.all false
set_option maxRecDepth 100000
set_option maxHeartbeats 1000000
namespace L3
open PySem PySem.Spec PyProof.Rows L2
open Strm
section
variable {σ : Sl} {M H : Hp} {te0 te : TE}
/-- [e for k in range(n)], n told while something of ours is lent -/
theorem lc_rngL {x : Addr} {o : HO} {n j : Nat} (h : Gv te0 σ (upd M x o) (It' (n : Int))) (hm : M x = none) (mh : Same M H) (hx : H x = some o) (hn : n ≤ 1000000000) (ho : ∀ xs, o ≠ HO.tup xs) {Q : VK} (Pv : Addr → Nat → Hp → Hp → Prop)
    (h0 : ∀ M1 H1 D, Gr M H M1 H1 → H1 D = none → Pv D 0 M1 (upd H1 D (.lst [])))
    (hs : ∀ D i M' H', i < n → Pv D i M' H' → te ((wipe σ [j]).set j (some (.int (i : Nat)))) H' fun z H3 => ∃ acc, H3 D = some (.lst acc) ∧ acc.length < sizeLine ∧ ∃ M3, Pv D (i + 1) M3 (upd H3 D (.lst (acc ++ [z]))))
    (hd : ∀ D M' H', Pv D n M' H' → Q (.ref D) H') : tLc (iRng1 (tCons te0 tNil)) (gName j) tYes te [j] σ H Q := by
  refine h.lend hm mh hx ho fun v M1 H1 g1 _ _ hv => ?_
  cases (show v = _ from hv)
  refine ⟨(n : Int), rfl, by omega, by omega, fun D hD => ?_⟩
  have w := walk_range (lo := 0) (n := (n : Int).toNat)
  refine lc_it w (fun i H' => ∃ M', Pv D i M' H') ⟨M1, h0 M1 H1 D g1 hD⟩ (fun _ _ _ _ => trivial) ?_ ?_
  · rintro i y H' H'' hi ⟨M', p⟩ ⟨rfl, rfl⟩
    rw [Int.toNat_natCast] at hi
    have e0 : (fun i : Nat => V.int (0 + (i : Int))) i = V.int (i : Nat) := by show V.int _ = V.int _; rw [Int.zero_add]
    rw [e0]
    exact ⟨wipe1, hs D i M' _ hi p⟩
  · rintro H' ⟨M', p⟩
    rw [Int.toNat_natCast] at p
    exact hd D M' H' p
end
end L3
namespace L3
open PySem PySem.Spec PyProof.Rows L2
open Strm
section
variable {K : PySem.W.Frag} {S : Strm} {c k : Nat} {σ : Sl} {M H : Hp} {te ta tb : TE} {P : Pr} {α β : Type} {R : Rl α} {T : Rl β} {D : Ends} {tz : TS} {g : TG} {U : α → Hp → Sl → Sl → Prop}
theorem z_asgT {x : α} (mh : Same M (S.cut H)) (a : S.At (k + c) H) (h : GvS S c te σ M (R x)) (htg : TgOk g R U) (q : ∀ σ' M' H', Gr M (S.cut H) M' (S.cut H') → S.At k H' → U x M' σ σ' → tz D σ' H') : tSeq (tAsg te g) tz D σ H :=
  h H k mh a _ fun v M' H' g' a' r => htg x M' v H' σ _ r (g'.mh.trans cut_same) fun σ' u => q σ' M' H' g' a' u
theorem gv_pair [Mon R] [Mon T] {x : α} {y : β} (h1 : Gv ta σ M (R x)) (h2 : Gv tb σ M (T y)) : Gv (tTup (tCons ta (tCons tb tNil))) σ M (PrR K R T (x, y)) := fun H mh Q q =>
  h1 H mh _ fun v M1 H1 g1 p1 => h2.le g1.mm H1 g1.mh _ fun w M2 H2 g2 p2 => ⟨by show 2 ≤ sizeLine; decide, fun p np => q _ _ _ ((g1.trans g2).trans (.new g2.mh np)) ⟨p, _, _, rfl, .inl (.inl upd_same), Mon.mono (g2.mm.trans (same_new (g2.mh.free np))) p1, Mon.mono (same_new (g2.mh.free np)) p2⟩⟩
/-- constants in a row -/
def tCs : List V → TA
  | [] => tNil
  | v :: r => tCons (tC v) (tCs r)
theorem ga_cs : ∀ vs : List V, GvA (tCs vs) σ M fun _ ws => ws = vs
  | [] => ga_nil
  | v :: r => fun H mh Q q => ga_cs r H mh _ fun ws M' H' g e => q _ M' H' g (by rw [e])
theorem gl_cs (vs : List V) (hz : vs.length ≤ 1000) : GvL (tLst (tCs vs)) σ M fun _ ws => ws = vs := gl_lst (ga_cs vs) fun _ ws e => by rw [e]; exact Nat.le_trans hz (by decide)
theorem gv_strs (xs : List Str) (hz : xs.length ≤ 1000) : Gv (tLst (tCs (xs.map V.str))) σ M (LiR Tx xs) := (gl_cs _ (by rw [List.length_map]; exact hz)).gv fun M vs p e m => by subst e; exact ⟨p, _, rfl, upd_same, pd_of_tx xs⟩
theorem pd_of_it {M : Hp} : ∀ (xs : List Int), Pd It' M xs (xs.map V.int)
  | [] => .nil
  | _ :: r => .cons rfl (pd_of_it r)
theorem gv_ints (xs : List Int) (hz : xs.length ≤ 1000) : Gv (tLst (tCs (xs.map V.int))) σ M (LiR It' xs) := (gl_cs _ (by rw [List.length_map]; exact hz)).gv fun M vs p e m => by subst e; exact ⟨p, _, rfl, upd_same, pd_of_it xs⟩
/-- sep.join(a new list of texts) -/
theorem gs_join {good : List Str → Prop} {x : Str} (h : GvLS S c te σ M fun M ws => ∃ ys, good ys ∧ Pd Tx M ys ws) (hz : ∀ ys, good ys → (ys.map (·.length)).sum + ys.length * x.length ≤ 16777216) :
    GvS S c (tM1 (fun x xs H Q => ∃ a p, ∃ ys : List Str, x = .str a ∧ xs = [.ref p] ∧ (SqL K H p (ys.map V.str) ∨ SqT K H p (ys.map V.str)) ∧ (ys.map (·.length)).sum + ys.length * a.length ≤ 16777216 ∧ Q (.str (Txt.join a ys)) H) (tC (.str x)) te) σ M (Ex (fun ys => Tx (Txt.join x ys)) good) := fun H k mh a Q q =>
  ⟨⟨x, rfl⟩, h H k mh a _ fun p vs M' H' g a' h0 m0 hw ⟨ys, gy, hp⟩ => ⟨x, p, ys, rfl, rfl, .inl (.inl (.inl (by rw [← pd_tx hp]; exact of_cut hw))), hz ys gy, q _ M' H' g a' ⟨ys, gy, rfl⟩⟩⟩
end
end L3
namespace L3
open PySem PySem.Spec PyProof.Rows L2
open Strm
section
variable {K : PySem.W.Frag} {S : Strm} {c k : Nat} {σ : Sl} {M H : Hp} {te : TE} {P : Pr} {D : Ends} {tz : TS}
/-- xs.append(e), e asks xs itself -/
theorem z_appL {i : Nat} {p : Addr} {vs : List V} [Stb P] (mh : Same M (S.cut H)) (a : S.At (k + c) H) (hi : σ[i]? = some (some (.ref p))) (hm : M p = none) (hp : S.cut H p = some (.lst vs)) (hz : vs.length < sizeLine) (h : GvS S c te σ (upd M p (.lst vs)) P)
    (q : ∀ v M' H', Gr M (S.cut H) M' (S.cut H') → S.At k H' → P M' v → D.nx σ (upd H' p (.lst (vs ++ [v])))) : tDrop (tBM K "list" rAppend (tVar i) (tCons te tNil)) D σ H :=
  ⟨.ref p, hi, .inl ⟨rfl, _, .inl (.inl (of_cut hp))⟩, h.lend hm mh a hp ls_nt fun v M' H' g a' r => ⟨p, vs, v, rfl, rfl, of_cut (g.hh _ _ hp), hz, q v M' H' g a' r⟩⟩
end
/-- a list of ours behind the stream -/
structure OwS (S : Strm) (H0 M H : Hp) (p : Addr) (vs : List V) : Prop where
  o : Own (S.cut H0) M (S.cut H) p vs
theorem OwS.put {S : Strm} {H0 M H : Hp} {p : Addr} {vs ws : List V} (o : OwS S H0 M H p vs) : OwS S H0 M (upd H p (.lst ws)) p ws := ⟨by rw [cut_put o.o.h]; exact o.o.put⟩
theorem OwS.step {S : Strm} {H0 M H M' H' : Hp} {p : Addr} {vs : List V} (o : OwS S H0 M H p vs) (g : Gr M (S.cut H) M' (S.cut H')) : OwS S H0 M' H' p vs := ⟨o.o.step g⟩
theorem OwS.mut {S : Strm} {M0 H0 M H : Hp} {p : Addr} {vs ws : List V} (o : OwS S H0 M H p vs) (g : Gr M0 (S.cut H0) M (S.cut H)) : Gr M0 (S.cut H0) M (S.cut (upd H p (.lst ws))) := by rw [cut_put o.o.h]; exact g.mut o.o.h0 o.o.m
theorem OwS.on {S : Strm} {H0 M H : Hp} {p : Addr} {vs : List V} (o : OwS S H0 M H p vs) : ¬ S.off p := on_of o.o.h
end L3
namespace L3
open PySem PySem.Spec PyProof.Rows L2
open Strm
def cutL {α : Type} (xs : List α) (lo hi : Option Int) : List α := (xs.drop (HT.sIx xs.length 0 lo)).take (HT.sIx xs.length xs.length hi - HT.sIx xs.length 0 lo)
theorem pd_cut {α : Type} {R : Rl α} {M : Hp} {xs : List α} {vs : List V} {lo hi : Option Int} (h : Pd R M xs vs) : Pd R M (cutL xs lo hi) (cutV vs lo hi) := by
  have e : cutV vs lo hi = cutL vs lo hi := rfl
  rw [e]
  unfold cutL
  rw [← h.length]
  exact pd_take _ (pd_drop _ h)
theorem cut_sub {α : Type} (xs : List α) (lo hi : Option Int) : (cutL xs lo hi).Sublist xs := (List.take_sublist _ _).trans (List.drop_sublist _ _)
section
variable {K : PySem.W.Frag} {S : Strm} {c1 c2 : Nat} {σ : Sl} {M : Hp} {te th : TE} {α : Type} {R : Rl α}
theorem gl_cut [Mon R] {tl th : TO} {xs : List α} {lo hi : Option Int} (h : Gv te σ M (LstR K R xs)) (hl : ∀ (H : Hp) (Q : Option Int → Hp → Prop), Q lo H → tl σ H Q) (hh : ∀ (H : Hp) (Q : Option Int → Hp → Prop), Q hi H → th σ H Q) :
    GvL (tSl (rSlX K) te tl th) σ M fun M ws => Pd R M (cutL xs lo hi) ws := fun H mh Q q =>
  h H mh _ fun v M1 H1 g1 ⟨a, vs, e, hs, hp⟩ => hl H1 _ (hh H1 _ (.inr (.inl ⟨a, vs, e, sl_mono g1.mh hs, fun p np => q p _ M1 _ (g1.trans (.own g1.mh np)) (g1.hh.free np) (g1.mh.free np) upd_same (pd_cut hp)⟩)))
theorem gls_cut [Mon R] {good : List α → Prop} (h : GvS S c1 te σ M (Ex (LiR R) good)) (hh : GvS S c2 th σ M (Ex It' fun _ => True)) :
    GvLS S (c1 + c2) (tSl (rSlX K) te tNoPart (tPart th)) σ M fun M ws => ∃ xs i, good xs ∧ Pd R M (cutL xs none (some i)) ws := fun H k mh at_ Q q =>
  h H (k + c2) mh (at_.le (by omega)) _ fun v M1 H1 g1 a1 ⟨xs, gx, a, vs, e, hs, hp⟩ => hh.le g1.mm H1 k g1.mh a1 _ fun w M2 H2 g2 a2 ⟨i, _, ew⟩ =>
    ⟨i, ew, .inr (.inl ⟨a, vs, e, .inl (.inl (of_cut (g2.mh _ _ (g2.mm _ _ hs)))), fun p np => by
      have n2 := a2.fresh np
      exact q p _ M2 _ ((g1.trans g2).trans (by rw [cut_upd n2]; exact .own g2.mh (a2.cutn np))) (a2.upd n2) ((g1.trans g2).hh.free (a2.cutn np)) (g2.mh.free (a2.cutn np)) (by rw [cut_upd n2, upd_same]) ⟨xs, i, gx, (pd_cut hp).mono g2.mm⟩⟩)⟩
end
end L3
namespace L3
open PySem PySem.Spec PyProof.Rows L2
section
end
end L3

set_option Elab.async false
set_option linter.all false
set_option maxRecDepth 100000
set_option maxHeartbeats 1000000
namespace L3
open PySem PySem.Spec PyProof.Rows L2
open Strm
/-! instances made by name -/
def Mak (P : Program) (w : World) (K : PySem.W.Frag) (mg : Str → Option Value) (base : Heap) (k : Nat) (x : Str) (C : Addr) (ps : List Str) (sp : Sp) : Prop :=
  ∃ f fd, Mk K C f ∧ FnOk P w K mg base CX0 k f fd ps sp ∧ mg x = some (.ref C) ∧ Binds K fd ps []
theorem pe_mk {X : Cx} {k : Nat} {x : Str} {C : Addr} {ps : List Str} {sp : Sp} {e : Expr} {es : List Expr} {t : TA} {p pos : Pos} (c : Mak X.prog X.w X.K X.mg X.base k x C ps sp) (hr : Room (k + 1) X.A) (ha : PA X (e :: es) t) (hg : Gl X x := by rfl)
    (hdb : (x == ("__debug__" : Str)) = false := by decide) (he : starEach (e :: es) X.env = (false, eval e X.env) :: starEach es X.env := by rfl) (hpl : (backTo pos (starEach es X.env)).any (·.1) = false := by rfl) :
    PE X (.Call (.Name x p) (e :: es) [] pos) (tMake C sp [] E0 t) :=
  let ⟨_, _, M, F, m, b⟩ := c
  pe_make M F hr hg m b .nil pass0 ha hdb he hpl
theorem cut_take {α : Type} (xs : List α) (n : Nat) : cutL xs none (some (n : Int)) = xs.take n := by
  unfold cutL
  rw [HT.sIx_none, HT.sIx_nat]
  simp only [List.drop_zero, Nat.sub_zero]
  by_cases h : n ≤ xs.length
  · rw [Nat.min_eq_left h]
  · rw [Nat.min_eq_right (by omega), List.take_length, List.take_of_length_le (by omega)]
theorem cut_drop {α : Type} (xs : List α) (n : Nat) : cutL xs (some (n : Int)) none = xs.drop n := by
  unfold cutL
  rw [HT.sIx_none, HT.sIx_nat]
  by_cases h : n ≤ xs.length
  · rw [Nat.min_eq_left h, List.take_of_length_le (by rw [List.length_drop]; omega)]
  · rw [Nat.min_eq_right (by omega), List.drop_length, List.drop_of_length_le (by omega)]; simp
/-- three keys -/
theorem merge3 {a b c : Str} {u v w : V} (h1 : a ≠ b) (h2 : a ≠ c) (h3 : b ≠ c) : mergeK [] [(Sum.inr a, u), (Sum.inr b, v), (Sum.inr c, w)] = [(Sum.inr a, u), (Sum.inr b, v), (Sum.inr c, w)] := by
  have e1 : ¬ (Sum.inr a : Key) = Sum.inr b := fun z => h1 (Sum.inr.inj z)
  have e2 : ¬ (Sum.inr a : Key) = Sum.inr c := fun z => h2 (Sum.inr.inj z)
  have e3 : ¬ (Sum.inr b : Key) = Sum.inr c := fun z => h3 (Sum.inr.inj z)
  simp [mergeK, putK, e1, e2, e3]
section
end
end L3
namespace L3
open PySem PySem.Spec PyProof.Rows L2
open Strm
section
variable {K : PySem.W.Frag} {S : Strm} {c k : Nat} {σ : Sl} {M H : Hp} {te t1 t2 t3 : TE} {P : Pr} {tr : TA} {QA : List V → Hp → Prop}
theorem z_V (mh : Same M (S.cut H)) (a : S.At (k + c) H) (h : GvS S c te σ M P) (q : ∀ v M' H', Gr M (S.cut H) M' (S.cut H') → S.At k H' → P M' v → tr σ H' fun vs H2 => QA (v :: vs) H2) : tCons te tr σ H QA := h H k mh a _ q
end
end L3
namespace L3
open PySem PySem.Spec PyProof.Rows L2
/-- a, b = x, y through a real tuple -/
def Fin2 (K : PySem.W.Frag) (i j : Nat) (tz : TS) (D : Ends) (σ : Sl) : List V → Hp → Prop := fun vs H1 => vs.length ≤ sizeLine ∧ ∀ p, H1 p = none → gTup K 2 (gCons (gName i) (gCons (gName j) gNil)) (.ref p) σ (upd H1 p (.tup vs)) fun σ' H' => tz D σ' H'
theorem q_asg2 {K : PySem.W.Frag} {i j : Nat} {tz : TS} {D : Ends} {σ : Sl} {H : Hp} {ta : TA} (h : ta σ H (Fin2 K i j tz D σ)) : tSeq (tAsg (tTup ta) (gTup K 2 (gCons (gName i) (gCons (gName j) gNil)))) tz D σ H := h
theorem fin2 {K : PySem.W.Frag} {i j : Nat} {tz : TS} {D : Ends} {σ : Sl} {H1 : Hp} {u v : V} (h : ∀ p, H1 p = none → tz D ((σ.set i (some u)).set j (some v)) (upd H1 p (.tup [u, v]))) : Fin2 K i j tz D σ [u, v] H1 :=
  ⟨by show 2 ≤ sizeLine; decide, fun p np => ⟨p, _, rfl, .inl (.inl upd_same), rfl, u, _, rfl, v, _, rfl, rfl, h p np⟩⟩
end L3
namespace L3
open PySem PySem.Spec PyProof.Rows L2
/-- a new list while a list of ours is lent -/
theorem q_asgLL {i : Nat} {σ : Sl} {M H : Hp} {te : TE} {D : Ends} {tz : TS} {x : Addr} {us : List V} {P : Hp → List V → Prop} (hP : ∀ M ws, M x = some (.lst us) → P M ws → P (del M x) ws) (mh : Same M H) (hm : M x = none) (hx : H x = some (.lst us)) (h : GvL te σ (upd M x (.lst us)) P)
    (k : ∀ p vs M' H', Gr M H M' H' → H p = none → M' p = none → H' p = some (.lst vs) → P M' vs → tz D (σ.set i (some (.ref p))) H') : tSeq (tAsg te (gName i)) tz D σ H :=
  h H (same_lent mh hx) _ fun p vs M' H' g h0 m0 hw r => k p vs _ H' (g.back hm) h0 (by unfold del; split; rfl; exact m0) hw (hP M' vs (g.mm x _ upd_same) r)
end L3
namespace L3
open PySem PySem.Spec PyProof.Rows L2
def CalG (P : Program) (w : World) (K : PySem.W.Frag) (mg : Str → Option Value) (base : Heap) (k : Nat) (x : Str) (ps : List Str) (sp : Sp) : Prop :=
  ∃ f fd, FnG P w K mg base CX0 k f fd ps sp ∧ mg x = some (.ref f) ∧ PySem.W.keepIn K (.ref f) = true ∧ Binds K fd ps []
theorem pe_fG {X : Cx} {k : Nat} {x : Str} {ps : List Str} {sp : Sp} {e : Expr} {es : List Expr} {t : TA} {p pos : Pos} (c : CalG X.prog X.w X.K X.mg X.base k x ps sp) (hgu : X.A.guards = some []) (hr : Room k X.A) (ha : PA X (e :: es) t) (hg : Gl X x := by rfl)
    (hdb : (x == ("__debug__" : Str)) = false := by decide) (he : starEach (e :: es) X.env = (false, eval e X.env) :: starEach es X.env := by rfl) (hpl : (backTo pos (starEach es X.env)).any (·.1) = false := by rfl) :
    PE X (.Call (.Name x p) (e :: es) [] pos) (tCall sp [] E0 t) :=
  let ⟨_, _, G, m, kp, b⟩ := c
  pe_callG G hgu hr hg m kp b .nil pass0 ha hdb he hpl
end L3

set_option Elab.async false
set_option linter.all false
set_option maxRecDepth 100000
set_option maxHeartbeats 1000000
namespace L3
open PySem PySem.Spec PyProof.Rows L2
open Strm
section
variable {K : PySem.W.Frag} {S : Strm} {c k : Nat} {σ : Sl} {M H : Hp} {te t1 t2 t3 : TE} {ta tr : TA} {tt : L2.TT} {tx tz : TS} {P : Pr} {D : Ends} {α β γ : Type} {R : Rl α} {R1 : Rl α} {R2 : Rl β} {R3 : Rl γ} {QA : List V → Hp → Prop} {E : XK}
theorem q_asgS {i : Nat} (h : te σ H fun v H1 => tz D (σ.set i (some v)) H1) : tSeq (tAsg te (gName i)) tz D σ H := h
theorem lst_in {Q : VK} (h : ta σ H fun vs H1 => vs.length ≤ sizeLine ∧ ∀ p, H1 p = none → Q (.ref p) (upd H1 p (.lst vs))) : tLst ta σ H Q := h
/-- list + list -/
theorem gl_addL [Mon R] {xs ys : List α} (h1 : Gv t1 σ M (LiR R xs)) (h2 : Gv t2 σ M (LiR R ys)) (hz : xs.length + ys.length ≤ sizeLine) : GvL (tOp (rAddA K) t1 t2) σ M fun M ws => Pd R M (xs ++ ys) ws := fun H mh Q q =>
  h1 H mh _ fun v M1 H1 g1 p1 => h2.le g1.mm H1 g1.mh _ fun w M2 H2 g2 p2 => by
    obtain ⟨a, us, e1, r1, d1⟩ := (Mon.mono g2.mm p1 : LiR R xs M2 v)
    obtain ⟨b, ws, e2, r2, d2⟩ := p2
    exact .inr (.inr (.inr ⟨a, b, us, ws, e1, e2, g2.mh _ _ r1, g2.mh _ _ r2, by rw [← d1.length, ← d2.length]; exact hz, fun p np => q p _ M2 _ ((g1.trans g2).trans (.own g2.mh np)) ((g1.trans g2).hh.free np) (g2.mh.free np) upd_same (pd_app d1 d2)⟩))
end
section
variable {S : Strm} {c k : Nat} {σ : Sl} {M H : Hp} {α : Type} {R : Rl α} {D : Ends}
/-- for over anything, drawing, at the end of a block -/
theorem z_forE {wi : TI} {g : TG} {tbd : TS} {U : α → Hp → Sl → Sl → Prop} {G : List α → Prop} (mh : Same M (S.cut H)) (a : S.At (k + c) H) (hsrc : GvIS S c wi σ M G R) (htg : TgOk g R U) (Pv : List α → Hp → Nat → Sl → Hp → Hp → Prop)
    (h0 : ∀ xs M1 H1, G xs → Gr M (S.cut H) M1 (S.cut H1) → S.At k H1 → Pv xs M1 0 σ M1 H1) (hk : ∀ xs M1 i σ' M' H', Pv xs M1 i σ' M' H' → Same M1 M' ∧ Same M' (S.cut H') ∧ S.At 0 H')
    (hs : ∀ xs M1 i x σ' M' H' M2 H2 σ2, G xs → Same M M1 → xs[i]? = some x → Pv xs M1 i σ' M' H' → Gr M' H' M2 H2 → U x M2 σ' σ2 →
      tbd { D with nx := fun σ2 H2 => ∃ M2, Pv xs M1 (i + 1) σ2 M2 H2, ct := fun σ2 H2 => ∃ M2, Pv xs M1 (i + 1) σ2 M2 H2, bk := D.nx } σ2 H2)
    (hd : ∀ xs M1 σ' M' H', G xs → Same M M1 → Pv xs M1 xs.length σ' M' H' → D.nx σ' H') : tFor wi g tbd D σ H := by
  refine hsrc H k mh a _ fun J xs M1 H1 g1 a1 gx ⟨GG, Y, w, hG, hY⟩ => ?_
  refine for_it w (fun i σ' H' => ∃ M', Pv xs M1 i σ' M' H') ⟨M1, h0 xs M1 H1 gx g1 a1⟩ (fun i σ' H' _ ⟨M', p⟩ => hG M' H' (hk _ _ _ _ _ _ p).1 ((hk _ _ _ _ _ _ p).2.1.trans cut_same)) ?_ ?_
  · rintro i y σ' H' H'' hi ⟨M', p⟩ hy
    have km := hk _ _ _ _ _ _ p
    obtain ⟨x, M2, hx, g2, rx⟩ := hY i M' H' y H'' km.1 (km.2.1.trans cut_same) hi hy
    exact htg x M2 y H'' σ' _ rx g2.mh fun σ2 hU => hs xs M1 i x σ' M' H' M2 H'' σ2 gx g1.mm hx p g2 hU
  · rintro σ' H' ⟨M', p⟩
    exact hd xs M1 σ' M' H' gx g1.mm p
end
theorem pd_itv {M : Hp} {xs : List Int} {vs : List V} (h : Pd It' M xs vs) : vs = xs.map V.int := by
  induction h with
  | nil => rfl
  | cons q _ ih => rw [ih, show _ = V.int _ from q]; rfl
end L3

set_option Elab.async false
set_option linter.all false
set_option maxRecDepth 100000
set_option maxHeartbeats 1000000
namespace L3
open PySem PySem.Spec PyProof.Rows L2
open Strm
section
variable {K : PySem.W.Frag} {σ : Sl} {M : Hp} {ta tb te ts : TE} {tt : L2.TT} {α β γ : Type} {R : Rl α} {R1 : Rl β} {T : Rl γ} {wi wi1 : TI} {g : TG}
theorem take_flat {α β : Type} {xs : List α} {i : Nat} {x : α} (f : α → List β) (h : xs[i]? = some x) : (xs.take (i + 1)).flatMap f = (xs.take i).flatMap f ++ f x := by
  rw [List.take_add_one, h]
  simp
end
/-! methods -/
def Met (P : Program) (w : World) (K : PySem.W.Frag) (mg : Str → Option Value) (base : Heap) (k : Nat) (C : Addr) (m : Str) (ps : List Str) (sp : Sp) : Prop := ∃ f fd, Cls K C ∧ Meth K C m f ∧ FnOk P w K mg base CX0 k f fd ps sp ∧ Binds K fd ps []
section
variable {X : Cx} {k : Nat} {C : Addr} {m : Str} {ps : List Str} {sp : Sp} {o e : Expr} {es : List Expr} {to : TE} {t : TA} {apos pos : Pos} {pl : Sem Bool}
theorem pe_m (c : Met X.prog X.w X.K X.mg X.base k C m ps sp) (hr : Room k X.A) (ho : PE X o to) (ha : PA X (e :: es) t) (hst : starEach (e :: es) X.env = (false, eval e X.env) :: starEach es X.env := by rfl) (hpl : (backTo pos (starEach es X.env)).any (·.1) = false := by rfl)
    (ht : eval (.Call (.Attribute o m apos) (e :: es) [] pos) X.env = (do let ov ← eval o X.env; standAt apos.atName; let (f, first) ← holding [ov] (getMethod ov m pl); callWith pos f first (backTo pos (starEach (e :: es) X.env)) (backToKw pos (keywordEach [] X.env))) := by rfl) :
    PE X (.Call (.Attribute o m apos) (e :: es) [] pos) (tMeth C m sp [] E0 to t) := by
  obtain ⟨f, fd, cl, hm, F, hb⟩ := c
  exact pe_meth ho cl hm F hr hb .nil pass0 ha hst hpl ht
theorem pe_m0 (c : Met X.prog X.w X.K X.mg X.base k C m ps sp) (hr : Room k X.A) (ho : PE X o to)
    (ht : eval (.Call (.Attribute o m apos) [] [] pos) X.env = (do let ov ← eval o X.env; standAt apos.atName; let (f, first) ← holding [ov] (getMethod ov m pl); callWith pos f first (backTo pos (starEach [] X.env)) (backToKw pos (keywordEach [] X.env))) := by rfl) :
    PE X (.Call (.Attribute o m apos) [] [] pos) (tMeth C m sp [] E0 to tNil) := by
  obtain ⟨f, fd, cl, hm, F, hb⟩ := c
  exact pe_meth0 ho cl hm F hr hb .nil pass0 ht
end
section
variable {σ : Sl} {M : Hp} {α β : Type} {R1 : Rl α} {R2 : Rl β} {to te : TE} {C : Addr} {m : Str}
/-- an instance of C without a variable of the method's name -/
def InsR (C : Addr) (m : Str) (P : Pr) : Prop := ∀ M v, P M v → ∃ a dx fs, v = .ref a ∧ M a = some (.ins C dx fs) ∧ fs.lookup m = none
theorem gv_met1 {pre : α → Prop} {R : α → Pr} {x : α} (hi : InsR C m (R1 x)) (h : Gv to σ M (R1 x)) (hp : pre x) : Gv (tMeth C m (sp1 R1 pre R) [] E0 to tNil) σ M (R x) := fun H mh Q q => h H mh _ fun v M1 H1 g1 p1 => by
  obtain ⟨a, dx, fs, e, ha, hl⟩ := hi M1 v p1
  exact ⟨a, dx, fs, e, g1.mh _ _ ha, hl, x, M1, v, rfl, g1.mh, p1, hp, fun u M' H' g r => q u M' H' (g1.trans g) r⟩
theorem gl_met1 {pre : α → Prop} {R : α → Hp → List V → Prop} {x : α} (hi : InsR C m (R1 x)) (h : Gv to σ M (R1 x)) (hp : pre x) : GvL (tMeth C m (sl1 R1 pre R) [] E0 to tNil) σ M (R x) := fun H mh Q q => h H mh _ fun v M1 H1 g1 p1 => by
  obtain ⟨a, dx, fs, e, ha, hl⟩ := hi M1 v p1
  exact ⟨a, dx, fs, e, g1.mh _ _ ha, hl, x, M1, v, rfl, g1.mh, p1, hp, fun p vs M' H' g h0 m0 hw r => q p vs M' H' (g1.trans g) (g1.hh.free h0) m0 hw r⟩
end
/-! dicts with tuple keys, known -/
def DtR : Rl (List (List Str)) := fun ks M v => ∃ a, v = .ref a ∧ M a = some (.dT (ent ks))
instance : Mon DtR := ⟨fun e ⟨a, h, r⟩ => ⟨a, h, e _ _ r⟩⟩
section
end
end L3

set_option Elab.async false
set_option linter.all false
set_option maxRecDepth 100000
set_option maxHeartbeats 1000000
namespace L3
open PySem PySem.Spec PyProof.Rows L2
/-! *d in a display, d a dict with texts for keys -/
def tStarK (te : TE) (t : TA) : TA := fun σ H Q => te σ H fun x H1 => ∃ d ks, x = V.ref d ∧ Rd H1 d (.dK (kvT ks)) ∧ t σ H1 fun ys H2 => Q (ks.map V.str ++ ys) H2
section
variable {X : Cx} {e : Expr} {es : List Expr} {te : TE} {t : TA} {p : Pos}
theorem pa_starK (hc : X.calm = true) (he : PE X e te) (hr : PA X es t) (hs : starEach (.Starred e p :: es) X.env = (true, eval e X.env) :: starEach es X.env := by rfl) : PA X (.Starred e p :: es) (tStarK te t) where
  run pos pins s σ H Q I h := by
    apply PySem.W.items_star _ hs
    refine thn (he.run pins s σ H _ I h) fun v s1 z => ?_
    obtain ⟨_, H1, I1, rv, d, ks, rfl, hd, q⟩ := z
    obtain rfl : v = Value.ref d := rv
    have ⟨z, low, vs, rk, dd⟩ := (show ObjOk X.prog X.w H1 s1.heap d (.dK (kvT ks)) from hd.ok I1.hok)
    have ⟨ep, at_⟩ := dd.dictAt
    have S := PySem.W.kdl_dict (prog := X.prog) (w := X.w) (knd := mixKind X.prog X.w) (kvs := vs) (ep := ep) low
    have n1 : (kvT ks).length = vs.length := Paired.length rk
    have n2 : (kvT ks).length = ks.length := by unfold kvT; rw [List.length_map]
    unfold PySem.W.StarOf notIterableAtAll
    refine wpAny_bind (wpAny_specialOf (S.type s1 at_) PySem.F.slot_dict_iter.lookup (wpAny_pure ⟨rfl, PySem.W.kdu_collect S (I1.ok.hd hc) at_ (by omega) fun h' tk acc kp it => ?_⟩))
    have I2 : Inv X pins σ H1 { s1 with heap := h', toks := tk } := I1.kept kp
    have rel : Vals (ks.map V.str) acc.toList := by
      refine vals_of_at (by have h1 := it.1; have h2 : acc.toList.length = acc.size := Array.length_toList; rw [List.length_map, h2]; omega) fun j x u hx hu => ?_
      rw [Array.getElem?_toList] at hu
      obtain ⟨k, y, hk, is⟩ := it.2 j u hu
      have keys := congrArg (fun l => l[j]?) (KV.keys rk)
      simp only [kvT, List.map_map, List.getElem?_map, hk] at keys
      rw [List.getElem?_map] at hx
      cases hj : ks[j]? with
      | none => rw [hj] at hx; cases hx
      | some a =>
        rw [hj] at hx keys
        cases Option.some.inj hx
        have ek : (Sum.inr a : Key) = k := Option.some.inj keys
        rw [← ek] at is
        exact keyIs_rel (show keyIs (Sum.inr a) u = true from is)
    exact thn (hr.run pos pins _ σ H1 _ I2 q) fun ws s3 ⟨us, H3, I3, r3, q3⟩ => ⟨_, H3, I3, rel.append r3, q3⟩
end
/-! defs called with defaults -/
section
end
end L3

set_option Elab.async false
set_option linter.all false
set_option maxRecDepth 100000
set_option maxHeartbeats 1000000
namespace L3
open PySem PySem.Spec PyProof.Rows L2
/-! x in o, x not in o by an own __contains__; o == p, o != p by an own __eq__ -/
section
variable {X : Cx} {CX : CXT} {pins : List (Addr × Obj)} {σ : L2.St} {H : Hp} {s : Shared} {C : Addr} {k : Nat} {ps : List Str} {sp : Sp} {E : XK}
def rInO (C : Addr) (sp : Sp) (neg : Bool) : R2 := fun x y H Q => ∃ a dx fs, y = V.ref a ∧ H a = some (.ins C dx fs) ∧ sp [.ref a, x] H (fun v H' => ∃ b, v = .bl b ∧ Q (.bl (xor neg b)) H') E0
/-- a class that has object's != -/
structure NeObj (K : PySem.W.Frag) (C : Addr) : Prop where
  ne : PySem.W.findIn K (.ref C) "__ne__" = some (some (.builtin "object.__ne__"))
  ob : PySem.W.subIn K (.ref C) (.type "object") = some true
end
end L3

set_option Elab.async false
set_option linter.all false
set_option maxRecDepth 100000
set_option maxHeartbeats 1000000
namespace L3
open PySem PySem.Spec PyProof.Rows L2
/-! lists of data: remove, index; insert -/
section
variable {K : PySem.W.Frag} {σ : Sl} {M H : Hp} {te tb : TE} {P : Pr} {D : Ends} {tz : TS} {α : Type} {R : Rl α}
/-- what isinstance asks of a class of the text -/
structure InsF (K : PySem.W.Frag) (C : Addr) : Prop where
  cl : Cls K C
  gc : PySem.W.findIn K (.ref C) "__class__" = some (some (.builtin "object.__class__"))
  sp : PySem.W.specialIn K (.builtin "object.__class__") "__get__" = some (some (.builtin "getset_descriptor.__get__"))
  tk : PySem.W.takesIn K (.builtin "object.__class__") = some true
  mr : PySem.W.mroIn K C (.type "object") = some true
end
section
variable {α β : Type} {σ : Sl} {M : Hp} {ta tb : TE} {R1 : Rl α} {R2 : Rl β} {C : Addr}
/-- x in o, o == p by own methods -/
theorem gv_inO [Mon R1] [Mon R2] {pre : α → β → Prop} {B : α → β → Bool} {x : α} {y : β} {neg : Bool} (ha : Gv ta σ M (R2 y)) (hb : Gv tb σ M (R1 x)) (hi : ∀ M v, R1 x M v → ∃ a dx fs, v = .ref a ∧ M a = some (.ins C dx fs)) (hp : pre x y) :
    Gv (tOp (rInO C (sp2 R1 R2 pre fun x y => Bl (B x y)) neg) ta tb) σ M (Bl (xor neg (B x y))) := fun H mh Q q =>
  ha H mh _ fun v M1 H1 g1 p1 => hb.le g1.mm H1 g1.mh _ fun w M2 H2 g2 p2 => by
    obtain ⟨a, dx, fs, rfl, h2⟩ := hi M2 w p2
    exact ⟨a, dx, fs, rfl, g2.mh _ _ h2, x, y, M2, _, v, rfl, g2.mh, p2, Mon.mono g2.mm p1, hp, fun u M' H' g r => ⟨_, r, q _ M' H' ((g1.trans g2).trans g) rfl⟩⟩
end
end L3

set_option Elab.async false
set_option linter.all false
set_option maxRecDepth 100000
set_option maxHeartbeats 1000000
namespace L3
open PySem PySem.Spec PyProof.Rows L2
/-! instances made with defaults -/
end L3

set_option Elab.async false
set_option linter.all false
set_option maxRecDepth 100000
set_option maxHeartbeats 1000000
namespace L3
open PySem PySem.Spec PyProof.Rows L2
section
end
end L3

set_option Elab.async false
set_option linter.all false
set_option maxRecDepth 100000
set_option maxHeartbeats 1000000
namespace L3
open PySem PySem.Spec PyProof.Rows L2
/-! texts cut, lists repeated, several things of ours lent, a dict of new lists -/
section
variable {K : PySem.W.Frag} {σ : Sl} {M H : Hp} {to te ta tb ts : TE} {α : Type} {R : Rl α}
/-! several things of ours, lent at once -/
def delS (M : Hp) (bs : List Addr) : Hp := fun x => if x ∈ bs then none else M x
theorem lentS {bs : List Addr} (mh : Same M H) : Same (withT M H bs) H := fun a o e => by
  unfold withT at e
  cases q : M a with
  | some u => rw [q] at e; cases e; exact mh a _ q
  | none =>
    rw [q] at e
    by_cases ha : a ∈ bs
    · rw [if_pos ha] at e; exact e
    · rw [if_neg ha] at e; cases e
theorem delS_on {bs : List Addr} {a : Addr} (h : a ∉ bs) : delS M bs a = M a := if_neg h
theorem delS_off {bs : List Addr} {a : Addr} (h : a ∈ bs) : delS M bs a = none := if_pos h
end
section
end
end L3

set_option Elab.async false
set_option linter.all false
set_option maxRecDepth 100000
set_option maxHeartbeats 2000000
namespace L3
open PySem PySem.Spec PyProof.Rows PySem.Calls L2 NdefX
/-! own exceptions whose __init__ says super().__init__('..') and then self.f = x -/
/-- the body of such an __init__ -/
abbrev supBody (p0 p1 p2 p3 p4 p5 p6 p7 p8 p9 : Pos) (k : Nat) (tx : Str) (f x : Str) : List Stmt :=
  [.Expr (.Call (.Attribute (.Call (.Name "super" p0) [] [] p1) "__init__" p2) [.Constant (.str tx) k p3] [] p4) p5, .Assign [.Attribute (.Name "self" p6) f p7] (.Name x p8) p9]
/-- what the written part says of the class at C and its __init__ at fI -/
structure SupC (P : Program) (K : PySem.W.Frag) (C fI : Addr) (q : Str) (args : Arguments) (body : List Stmt) (sc : Scope) : Prop where
  T : OexC K C
  fn : ∃ oc od kV doc pm an cda ct osl cc cl cld csl ccl cdd vs ccs file tf, K.lookup fI = some ⟨oc, od, .func (PySem.W.fnX "__init__" q args body sc [("__class__", cc)] .none kV doc pm an (.ref cda) ct), osl⟩ ∧ PySem.W.codeIn K (.ref cda) q = true ∧
    K.lookup cc = some ⟨cl, cld, .cell (some (.ref C)), csl⟩ ∧ K.lookup cda = some ⟨ccl, cdd, .fields vs, ccs⟩ ∧ vs[2]? = some (.str file tf) ∧ ((P.main.file : Str) == file) = true
  sup : PySem.W.nsIn K mainGlobals "super" = some none
  opq : PySem.W.nsIn K cStatics "thirdparty.any" = some none
  hm : PySem.W.ks_superIn K C C "__init__" = some (some (.builtin "ValueError.__init__"))
  hB : PySem.W.subIn K (.ref C) (.type "ValueError") = some true
  hS : PySem.W.mroIn K C (.ref C) = some true
  top : (P.main.scope.names.lookup ("super" : Str)).isSome = false
/-- what such an __init__ does -/
def spSup (K : PySem.W.Frag) (C : Addr) (f : Str) : Sp := fun vs H Q _ => ∃ a v, vs = [.ref a, v] ∧ H a = some (exo a C none) ∧ ∀ dx, H dx = none → dx ≠ a → Q .non (upd (upd H dx (exd dx [(f, v)])) a (exo a C (some dx)))
section
variable {prog : Program} {w : World} {A : Around} {E : Value → Shared → Prop}
/-- the wrapper of ValueError.__init__, called -/
theorem call_mw {u e t0 C : Addr} {dv : Option Addr} {h : Heap} {g : Array GenState} {d : Drawn} {t : Nat} {os : OsState} {rest : List Value} {Q : Value → Shared → Prop} {nm q : Str} {N : Addr} {bs bm : List Value} {hdct : Bool} {sn : List Str} {sub : List Value} {ab : Bool} {col : Option Bool} {dd : Option Addr} {k0 k1 k2 k3 k5 : Option Value}
    (hC : h.get? C = some (excClassObj nm q C N bs bm hdct sn sub ab col dd k0 k1 k2 k3 k5 "ValueError.__new__")) (he : h.get? e = some (PySem.W.excRec (.ref C) t0 dv .none .none (.bool false))) (hu : h.get? u = some (PySem.W.kxs_mw "ValueError.__init__" e)) (hz : rest.length ≤ sizeLine)
    (hq : ∀ h', (∀ b o, b ≠ e → h.get? b = some o → h'.get? b = some o) → h'.get? e = some (PySem.W.excRec (.ref C) h.objs.size dv .none .none (.bool false)) → Q .none ⟨h', g, d, t, os⟩) : wpAny (model prog w) A (call (.ref u) rest) Q E ⟨h, g, d, t, os⟩ := by
  refine wpAny_call (codeAny_of_tree ?_)
  show wpAny _ A.in1 (callAny (.ref u) ⟨rest, []⟩) _ _ _
  simp only [callAny]
  refine wpAny_bind (wpAny_load hu ?_)
  simp only [PySem.W.kxs_mw, show (Value.type "method-wrapper" == Value.type "method" || Value.type "method-wrapper" == Value.type "builtin_function_or_method" || Value.type "method-wrapper" == Value.type "method-wrapper") = true by decide, if_true]
  refine PySem.W.KFB.if_so (by decide) ?_
  refine wpAny_bind (PySem.W.check_bound_init PySem.F.excBase_ValueError.toExcCallFacts hC he rfl ?_)
  refine wpAny_bind (wpAny_pure (wpAny_pure ?_))
  refine ⟨plainId_quiet PySem.F.excBase_ValueError.init.plain _, codeAny_builtin PySem.F.excBase_ValueError.initEntry ?_⟩
  exact PySem.W.exc_init_tree he hz fun h' k e' _ => hq h' k e'
end
/-- FnOk of such an __init__ -/
theorem sup_ok {CX : CXT} {P : Program} {w : World} {K : PySem.W.Frag} {mg : Str → Option Value} {base : Heap} {k : Nat} {C fI : Addr} {q : Str} {args : Arguments} {sc : Scope} {p0 p1 p2 p3 p4 p5 p6 p7 p8 p9 : Pos} {kk : Nat} {tx f x : Str}
    (S : SupC P K C fI q args (supBody p0 p1 p2 p3 p4 p5 p6 p7 p8 p9 kk tx f x) sc) (hno : PySem.W.findIn K (.ref C) f = some none) (hx1 : (x == ("__debug__" : Str)) = false) (hx2 : (x == ("__classdict__" : Str)) = false) (NS : NScope ["self", x, "__class__"] ["self", x] ["__class__"] sc) (hks : sc.names.lookup ("super" : Str) = some .globalImplicit)
    (har : ∃ ar : Arg, (args.posonlyargs ++ args.args).head? = some ar ∧ ar.arg = "self") (hev : ∀ env : Env, ∃ pl : Sem Bool, eval (.Call (.Attribute (.Call (.Name "super" p0) [] [] p1) "__init__" p2) [.Constant (.str tx) kk p3] [] p4) env = (do
      let ov ← attributeBase (.Call (.Name "super" p0) [] [] p1) "__init__" env (eval (.Call (.Name "super" p0) [] [] p1) env)
      standAt p2.atName
      let (f, first) ← holding [ov] (getMethod ov "__init__" pl)
      callWith p4 f first (backTo p4 (starEach [.Constant (.str tx) kk p3] env)) []))
    (hbind : ∀ (kV doc pm : Value) (an : Option Addr) (cdv ct : Value) (cl : List (Str × Addr)) (us : List Value), us.length = 2 → bindArgs (PySem.W.fnX "__init__" q args (supBody p0 p1 p2 p3 p4 p5 p6 p7 p8 p9 kk tx f x) sc cl .none kV doc pm an cdv ct) ⟨us, []⟩ = pure (([("self" : Str), x]).zip us)) :
    ∃ fd, Binds K fd ["self", x] [] ∧ FnOk P w K mg base CX (k + 1) fI fd ["self", x] (spSup K C f) := by
  obtain ⟨oc, od, kV, doc, pm, an, cda, ct, osl, cc, cl, cld, csl, ccl, cdd, vs, ccs, file, tf, lk, hcd, hcell, hcode, hvs, hfile⟩ := S.fn
  refine ⟨PySem.W.fnX "__init__" q args (supBody p0 p1 p2 p3 p4 p5 p6 p7 p8 p9 kk tx f x) sc [("__class__", cc)] .none kV doc pm an (.ref cda) ct, .all fun us hl => hbind _ _ _ _ _ _ _ us hl, ⟨fun vs H Q E h => ?_, fun A outer s H as us vs' Q E hr e0 hb r hsp => ?_⟩⟩
  · obtain ⟨a, v, rfl, _⟩ := h
    rfl
  have hl : vs'.length = 2 := by obtain ⟨a, v, rfl, _⟩ := hsp; rfl
  have KB : ∀ b o, K.lookup b = some o → s.heap.get? b = some o ∧ H b = none := fun b o e => e0.bs b o (e0.mod.kin b o e)
  have KX : K.In s.heap := fun b o e => (KB b o e).1
  have lim : s.heap.NoLimit := e0.mod.nolimit.keeps fun b o e => (e0.bs b o e).1
  let F : NF := ⟨"__init__", q, args, supBody p0 p1 p2 p3 p4 p5 p6 p7 p8 p9 kk tx f x, sc, [("__class__", cc)], cda⟩
  have hl2 : us.length = 2 := by rw [← r.length]; exact hl
  refine ks_codeAny_call_defAt hr.depth (KX _ _ lk) rfl lim (PySem.W.codeRec_of KX hcd) rfl hb NS.nocell (fun ⟨n, _⟩ hy => NS.par n (List.of_mem_zip hy).1) (fun h₁ hns kp => ?_) NS.co NS.gen NS.kind
  have one : ∀ {y : Str} {c : Addr}, F.cl.lookup y = some c → y = "__class__" ∧ c = cc := fun {y c} e => by
    have e : (match (y == ("__class__" : Str)) with | true => some cc | false => none) = some c := e
    cases hy : (y == ("__class__" : Str)) with
    | true => rw [hy] at e; exact ⟨beq_iff_eq.mp hy, (Option.some.inj e).symm⟩
    | false => rw [hy] at e; cases e
  have CA : CellsAt F.cl ["__class__"] [none] s.heap H := by
    refine ⟨rfl, fun y c e => ?_, fun x y c e1 e2 => (one e1).1.trans (one e2).1.symm, fun i y e => ?_⟩
    · obtain ⟨rfl, rfl⟩ := one e
      exact ⟨(KB _ _ hcell).2, _, ⟨_, (KB _ _ hcell).1, rfl⟩⟩
    · cases i with
      | zero =>
        cases (show (some ("__class__" : Str)) = some y from e)
        exact ⟨cc, rfl, fun v e => by cases (show (some none : Option (Option V)) = some (some v) from e)⟩
      | succ i => cases (show (none : Option Str) = some y from by simpa using e)
  have I : Inv (ncx CX P w K mg base ["self", x, "__class__"] F fI A outer s H E) [] (startF ["self", x, "__class__"] vs' [none]) H { s with heap := h₁, toks := s.toks + (([("self" : Str), x]).zip us).length } := inv_startN NS hr.hd e0 hl r CA hns kp
  obtain ⟨a, v, rfl, ha, hq⟩ := hsp
  obtain ⟨u0, u1, rfl⟩ : ∃ u0 u1, us = [u0, u1] := match us, hl2 with | [u0, u1], _ => ⟨u0, u1, rfl⟩
  obtain rfl : u0 = .ref a := by cases r with | cons r1 _ => exact r1
  obtain ⟨env, henv⟩ : ∃ env, env = envF F fI s.heap.objs.size := ⟨_, rfl⟩
  have goal : _root_.PySem.wpAt (model P w) (A.deeper env) (.func F.body env) (execs F.body env) (fun f s' => CR CX outer P w H s Q E (.ok (.ret (match f with | .ret v => v | _ => .none))) s')
      (fun e s' => wpAny (model P w) (A.deeper env) (leaving env e) (fun _ s'' => CR CX outer P w H s Q E (.error e) s'') (fun e' s'' => CR CX outer P w H s Q E (.error e') s'') s') { s with heap := h₁, toks := s.toks + (([("self" : Str), x]).zip [Value.ref a, u1]).length } := by
    have hk : env.scope.kind = .function := by rw [henv]; exact NS.kind
    have hin : interactive env = false := by unfold interactive; rw [hk]; rfl
    obtain ⟨pl, he⟩ := hev env
    refine ks_wpAt_execs_cons (ks_wpAt_Expr_any (ks_wpAt_MethodCall (pl := pl) ?_ he) hin ?_)
    · obtain ⟨ar, har1, har2⟩ := har
      have nd2 : ([("self" : Str), x] : List Str).Nodup := by
        have h := NS.nd
        have h2 : ([("self" : Str), x] ++ [("__class__" : Str)]).Nodup := h
        exact (List.nodup_append.mp h2).1
      have m0 : (([("self" : Str), x]).zip [Value.ref a, u1]).reverse.lookup ("self" : Str) = some (.ref a) := zip_look nd2 (i := 0) rfl rfl
      obtain ⟨nm, qC, NC, bs, bm, sn, sub, ab, col, dd, k0, k1, k2, k3, k5, hC, hbm⟩ := S.T.cls
      have hcl : PySem.W.clsIn K C = some { name := nm, bases := bs, mro := .ref C :: bm, ns := NC, qualname := qC, hasDict := true, slotNames := sn, subclasses := sub, abstract := ab, collection := col, hasDel := false } := by unfold PySem.W.clsIn; rw [hC] <;> rfl
      have KX1 : K.In h₁ := KX.keeps kp
      obtain ⟨t1, hoe⟩ := exo_at e0.hok ha
      have hoe1 := kp _ _ hoe
      obtain ⟨mb, hb1, hb2⟩ := e0.mod.blt
      have kB : ∀ b o, base.get? b = some o → h₁.get? b = some o := fun b o e => kp _ _ (e0.bs b o e).1
      refine ks_wpAt_super_base (cc := cda) (f := fI) (ar := ar) (by rw [henv]; exact hks) (by rw [henv]; exact NS.frk _ (by simp)) (by decide) (by rw [henv]) (kp _ _ (KX _ _ lk)) rfl har1 (by rw [henv]) (kp _ _ (KX _ _ hcode)) rfl hvs hfile S.top ?_
      refine PySem.W.ks_loadName_global hk (by rw [henv]; exact hks) (Calls.loadGlobal_builtin (mg := mg) (mb := mb) (by rw [henv]; exact e0.mod.glob.keeps kB) (PySem.W.mg_none_of e0.mod.kin e0.mod.glob S.sup) (by rw [henv]; exact hb1.keeps kB) ((hb2 "super" (by decide)).trans (by kernel_rfl)) ⟨rfl, ?_⟩)
      refine wpAny_loadName_free hk (by rw [henv]; exact NS.frk _ (by simp)) (by rw [henv]; rfl) ⟨_, KX1 _ _ hcell, rfl⟩ ?_
      rw [har2]
      refine wpAny_loadName_local hk (by rw [henv]; exact NS.par _ (by simp)) (by rw [henv]; exact hns) m0 ?_
      refine ks_wpAny_isType_cls (KX1 _ _ hC) rfl ⟨rfl, ?_⟩
      refine ks_wpAny_call_super (KX1 _ _ hC) rfl hoe1 rfl (fun c z => by cases z) (PySem.W.looks_mroIn KX1 S.hS) (fun h2 e2 k2 => ?_)
      have KX2 : K.In h2 := KX1.keeps k2
      have I2 : PySem.W.InstAt h2 a _ C none := ⟨k2 _ _ hoe1, rfl, rfl, trivial⟩
      have hm := S.hm
      unfold PySem.W.ks_superIn at hm
      rw [hcl] at hm
      refine PySem.W.kxs_getMethod PySem.W.kxs_ValueError e2 (PySem.W.looks_opaque KX2 S.opq) (l₀ := .ref C :: bm) (fun A Q E s k q => wpAny_bind ((PySem.W.looks_clsIn KX2 hcl) A _ E s k (wpAny_pure q))) rfl KX2 hm (I2.type.andThen (PySem.W.looks_subIn KX2 S.hB)) (PySem.W.ks_ne KX2 I2 hcl) (by decide) ?_
      -- the wrapper stands
      obtain ⟨u, hu⟩ : ∃ u, u = h2.objs.size := ⟨_, rfl⟩
      have k3 : ∀ b o, h₁.get? b = some o → (h2.push (PySem.W.kxs_mw "ValueError.__init__" a)).get? b = some o := fun b o e => Heap.get?_push_of_some _ (k2 _ _ e)
      have eu : (h2.push (PySem.W.kxs_mw "ValueError.__init__" a)).get? u = some (PySem.W.kxs_mw "ValueError.__init__" a) := by rw [hu]; exact Heap.get?_push_size _ rfl
      have lu : h₁.objs.size ≤ u := by
        rw [hu]
        refine Nat.le_of_not_lt fun z => ?_
        obtain ⟨oS, hS⟩ : ∃ oS, h2.get? h₁.objs.size = some oS := ⟨_, e2⟩
        exact absurd (Heap.lt_size hS) (Nat.not_lt.mpr (Nat.le_of_lt z))
      have I3 : Inv (ncx CX P w K mg base ["self", x, "__class__"] F fI A outer s H E) [] (startF ["self", x, "__class__"] [.ref a, v] [none]) H { s with heap := h2.push (PySem.W.kxs_mw "ValueError.__init__" a), toks := s.toks + (([("self" : Str), x]).zip [Value.ref a, u1]).length + 1 } := I.kept (t' := s.toks + (([("self" : Str), x]).zip [Value.ref a, u1]).length + 1) k3
      have I4 : Inv (ncx CX P w K mg base ["self", x, "__class__"] F fI A outer s H E) [(u, PySem.W.kxs_mw "ValueError.__init__" a)] (startF ["self", x, "__class__"] [.ref a, v] [none]) H { s with heap := h2.push (PySem.W.kxs_mw "ValueError.__init__" a), toks := s.toks + (([("self" : Str), x]).zip [Value.ref a, u1]).length + 1 } := I3.pins_of fun p hp => by
        rw [List.mem_singleton.mp hp]
        exact ⟨eu, I.hok.fresh lu, fun z => by
          have := I.lt
          rw [← z] at this
          exact absurd (Nat.lt_of_lt_of_le this lu) (Nat.lt_irrefl _), I.nofs lu, fun v z => by cases z⟩
      rw [← hu]
      show wpAny (model P w) (A.deeper env) (callWith p4 (.ref u) [] (backTo p4 (starEach [.Constant (.str tx) kk p3] env)) []) _ _ _
      refine PySem.W.kxs_callWith1 (i := "ValueError.__init__") (x := a) (h₀ := h₁) (L := s.heap.objs.size) (news := [(u, PySem.W.kxs_mw "ValueError.__init__" a)]) (fun p hp => ?_) (by simp) ?_ (by rfl) (by rfl)
      · rw [List.mem_singleton.mp hp]
        refine ⟨eu, fun z => ?_, ?_⟩
        · have z : u = s.heap.objs.size := z
          have := I.lt
          have this : s.heap.objs.size < h₁.objs.size := this
          omega
        · show h₁.get? u = none
          cases e : h₁.get? u with
          | none => rfl
          | some o => exact absurd (Heap.lt_size e) (Nat.not_lt.mpr lu)
      rw [henv]
      refine thn ((pa_cons (X := ncx CX P w K mg base ["self", x, "__class__"] F fI A outer s H E) (pe_str (x := tx)) pa_nil).run p4 [(u, PySem.W.kxs_mw "ValueError.__init__" a)] _ _ H (fun vs H' => vs = [.str tx] ∧ H' = H) I4 ⟨rfl, rfl⟩) fun us s5 hAP => ?_
      obtain ⟨vs5, H5, I5, r5, rfl, rfl⟩ := hAP
      have hu5 := (I5.pin (u, PySem.W.kxs_mw "ValueError.__init__" a) (List.mem_append_right _ List.mem_cons_self)).1
      obtain ⟨t5, he5⟩ := exo_at I5.hok ha
      have hz5 : us.length ≤ sizeLine := by rw [← r5.length]; show 1 ≤ sizeLine; decide
      obtain ⟨h5, g5, d5, tk5, os5⟩ := s5
      refine ⟨hu5, call_mw (I5.kIn _ _ hC) he5 hu5 hz5 fun h6 k6 e6 => ?_⟩
      have J := I5.write (t' := tk5) (x := a) (e := a) (o := exo a C none) (by rw [ha]; exact True.intro) (.inl rfl) k6 ⟨_, e6⟩ (exo_ok e6)
      have eH : upd H5 a (exo a C none) = H5 := by
        funext b
        by_cases hb : b = a
        · rw [hb, upd_same, ha]
        · rw [upd_ne hb]
      rw [eH] at J
      have J2 := J.pins_of (pins' := []) fun p hp => absurd hp (by simp)
      refine wpAt_of_wpAny (wpAny_mono ((pss_one (ps_ost (X := ncx CX P w K mg base ["self", x, "__class__"] F fI A outer s H5 E) (pv 0 rfl (.inl (NS.par _ (by simp)))) (pv 1 rfl (.inl (NS.par _ (by simp))) hx1 hx2))).run [] _ _ H5 { nx := fun _ H' => Q .non H', rt := Q } J2 ?_) (fun fl s' hs => ?_) fun e s' z => z)
      · exact ⟨v, rfl, .ref a, rfl, a, C, rfl, S.T, hno, .inl ⟨ha, fun dx n ne => hq dx n ne⟩⟩
      · have fin : ∀ {σ' : L2.St} {H' : Hp} {v : V} {u : Value}, Inv (ncx CX P w K mg base ["self", x, "__class__"] F fI A outer s H5 E) [] σ' H' s' → L2.RelV v u → Q v H' → CE outer P w H5 s Q u s' :=
          fun {σ' H' v u} J rv q => ⟨v, H', J.os, J.bare, J.base, J.hok, rv, q⟩
        cases fl with
        | ret u =>
          obtain ⟨v, σ', H', J, rv, q⟩ := hs
          exact fin J rv q
        | next =>
          obtain ⟨σ', H', J, q⟩ := hs
          exact fin (v := V.non) (u := Value.none) J rfl q
        | brk =>
          obtain ⟨_, _, _, q⟩ := hs
          exact False.elim q
        | cont =>
          obtain ⟨_, _, _, q⟩ := hs
          exact False.elim q
    · rfl
  rw [henv] at goal
  exact goal
end L3

set_option Elab.async false
set_option linter.all false
set_option maxRecDepth 100000
set_option maxHeartbeats 2000000
namespace L3
open PySem PySem.Spec PyProof.Rows L2
/-! own exceptions raised, caught, asked for their field -/
/-- an own exception class x of the module, its instances made with one thing, kept as field f -/
structure Rai (P : Program) (w : World) (K : PySem.W.Frag) (mg : Str → Option Value) (base : Heap) (k : Nat) (x : Str) (C : Addr) (f : Str) : Prop where
  T : OexC K C
  gl : mg x = some (.ref C)
  ini : ∃ (fI : Addr) (fd : FuncData) (p : Str), PySem.W.findIn K (.ref C) "__init__" = some (some (.ref fI)) ∧ PySem.W.typeIn K (.ref fI) = some (.type "function") ∧ FnOk P w K mg base CX0 k fI fd ["self", p] (spSup K C f) ∧ Binds K fd ["self", p] []
/-- raise C(e) -/
def tRai (K : PySem.W.Frag) (C : Addr) (f : Str) (W : WX) (te : TE) : TS := fun _ σ H => tMkO C (spSup K C f) [] (tCons te tNil) σ H fun cls d H' => W cls d σ H'
theorem ps_rai {X : Cx} {W : WX} {k : Nat} {x : Str} {C : Addr} {f : Str} {e : Expr} {te : TE} {p p2 p3 : Pos} (R : Rai X.prog X.w X.K X.mg X.base k x C f) (hr : Room (k + 1) X.A) (hc : X.calm = true) (tk : Takes X W) (h : PA X [e] (tCons te tNil)) (hg : Gl X x := by rfl)
    (hdb : (x == ("__debug__" : Str)) = false := by decide) (he : starEach [e] X.env = (false, eval e X.env) :: starEach [] X.env := by rfl) (hpl : (backTo p2 (starEach [] X.env)).any (·.1) = false := by rfl) :
    PS X (.Raise (some (.Call (.Name x p) [e] [] p2)) none p3) (tRai X.K C f W te) :=
  let ⟨_, _, _, h1, h2, h3, h4⟩ := R.ini
  ps_raise hc tk (pmk_oex R.T h1 h2 h3 hr h4 .nil pass0 hg R.gl h hdb he hpl)
theorem s_rai {K : PySem.W.Frag} {C : Addr} {f : Str} {W : WX} {te : TE} {D : Ends} {σ : Sl} {M H : Hp} {P : Pr} (mh : Same M H) (h : Gv te σ M P) (q : ∀ v M' H' d, Gr M H M' H' → P M' v → H' d = none → W (.ref C) (some d) σ (upd H' d (.xd [(f, v)]))) : tRai K C f W te D σ H :=
  h H mh _ fun v M1 H1 g1 p1 => ⟨by show 1 ≤ 1000; decide, fun a na => ⟨a, v, rfl, upd_same, fun dx ndx nda => ⟨rfl, dx, [(f, v)], upd_same, by rw [upd_ne nda]; exact upd_same, by rw [upd_ne nda] at ndx; exact ndx, by
    have nd1 : H1 dx = none := by rw [upd_ne nda] at ndx; exact ndx
    have e : upd (L2.del (upd (upd (upd H1 a (exo a C none)) dx (exd dx [(f, v)])) a (exo a C (some dx))) a) dx (.xd [(f, v)]) = upd H1 dx (.xd [(f, v)]) := by
      funext b
      by_cases hb : b = dx
      · rw [hb, upd_same, upd_same]
      · rw [upd_ne hb, upd_ne hb]
        by_cases ha : b = a
        · rw [ha, L2.del_same, na]
        · rw [L2.del_ne ha, upd_ne ha, upd_ne hb, upd_ne ha]
    rw [e]
    exact q v M1 H1 dx g1 p1 nd1⟩⟩⟩
end L3

set_option Elab.async false
set_option linter.all false
set_option maxRecDepth 100000
set_option maxHeartbeats 2000000
namespace L3
open PySem PySem.Spec PyProof.Rows L2
/-! what the head must see of an own exception class, as a Boolean -/
def oexM (C : Addr) (cd : ClassData) : List Value → List (Option Value) → Bool
  | .ref C' :: bm, [_, _, _, _, some (.builtin n), _] => decide (C' = C) && (decide (n = "ValueError.__new__") && (cd.hasDict && (!cd.hasDel && PySem.HandSPX.refsVE bm)))
  | _, _ => false
def oexB (K : PySem.W.Frag) (C : Addr) : Bool := match K.lookup C with
  | some ⟨.type c, _, .cls cd, sl⟩ => decide (c = "type") && oexM C cd cd.mro sl.toList
  | _ => false
theorem oexM_ok {C : Addr} {cd : ClassData} {mro : List Value} {sl : List (Option Value)} (h : oexM C cd mro sl = true) : ∃ bm k0 k1 k2 k3 k5, mro = .ref C :: bm ∧ sl = [k0, k1, k2, k3, some (.builtin "ValueError.__new__"), k5] ∧ cd.hasDict = true ∧ cd.hasDel = false ∧ PySem.HandSPX.refsVE bm = true := by
  unfold oexM at h
  split at h
  · rename_i C' bm a0 a1 a2 a3 n a5
    obtain ⟨g1, h2⟩ := He.ba h
    obtain ⟨g2, h2⟩ := He.ba h2
    obtain ⟨g3, h2⟩ := He.ba h2
    obtain ⟨g4, g5⟩ := He.ba h2
    cases of_decide_eq_true g1
    cases of_decide_eq_true g2
    exact ⟨_, _, _, _, _, _, rfl, rfl, g3, by simpa using g4, g5⟩
  · cases h
theorem oexB_ok {K : PySem.W.Frag} {C : Addr} (h : oexB K C = true) : ∃ nm q N bs bm sn sub ab col dd k0 k1 k2 k3 k5, K.lookup C = some (excClassObj nm q C N bs bm true sn sub ab col dd k0 k1 k2 k3 k5 "ValueError.__new__") ∧ PySem.HandSPX.refsVE bm = true := by
  unfold oexB at h
  cases e : K.lookup C with
  | none => rw [e] at h; cases h
  | some o =>
    obtain ⟨oc, od, dt, ⟨sl⟩⟩ := o
    rw [e] at h
    cases oc with
    | type c =>
      cases dt with
      | cls cd =>
        obtain ⟨h1, h2⟩ := He.ba (show (decide (c = "type") && oexM C cd cd.mro sl) = true from h)
        cases of_decide_eq_true h1
        obtain ⟨bm, a0, a1, a2, a3, a5, e1, rfl, e3, e4, g5⟩ := oexM_ok h2
        obtain ⟨nm, bs, mro, ns, qn, hd, sn, sb, ab, col, del⟩ := cd
        dsimp only at e1 e3 e4
        subst e1 e3 e4
        exact ⟨nm, qn, ns, bs, bm, sn, sb, ab, col, od, a0, a1, a2, a3, a5, rfl, g5⟩
      | _ => cases h
    | _ => cases dt <;> cases h
/-- the words of the __init__ at fI -/
abbrev FnC : Type := Option (Str × Str × Arguments × FuncBody × Scope × Addr × List Str × Addr)
def fnC (K : PySem.W.Frag) (x : Str) : FnC := match K.lookup (He.ma K (He.ga K x) "__init__") with
  | some ⟨_, _, .func fd, _⟩ => some (fd.name, fd.qualname, fd.params, fd.body, fd.scope, fd.globals, fd.closure.map (·.1), fd.builtins)
  | _ => none
def fnCv (q : Str) (st : Stmt) : FnC := some ("__init__", q, defArgs st, .stmts (defBody st), defScope st, mainGlobals, ["__class__"], builtinsNs)
/-- its cell, its code, its defaults -/
def cellB (K : PySem.W.Frag) (C : Addr) : List (Str × Addr) → Bool
  | [(_, cc)] => (match K.lookup cc with
    | some ⟨_, _, .cell (some (.ref D)), _⟩ => decide (D = C)
    | _ => false)
  | _ => false
def fileB (P : Program) (K : PySem.W.Frag) : Value → Bool
  | .ref cda => (match K.lookup cda with
    | some ⟨_, _, .fields vs, _⟩ => (match (vs[2]? : Option Value) with
      | some (.str file _) => (P.main.file : Str) == file
      | _ => false)
    | _ => false)
  | _ => false
def noneB : Value → Bool
  | .none => true
  | _ => false
def restB (P : Program) (K : PySem.W.Frag) (x q : Str) : Bool := match K.lookup (He.ma K (He.ga K x) "__init__") with
  | some ⟨_, _, .func fd, _⟩ => PySem.W.codeIn K fd.code q && (fileB P K fd.code && (cellB K (He.ga K x) fd.closure && noneB fd.defaults))
  | _ => false
theorem cellB_ok {K : PySem.W.Frag} {C : Addr} {cl : List (Str × Addr)} (h : cellB K C cl = true) (e : cl.map (·.1) = [("__class__" : Str)]) : ∃ cc oc od osl, cl = [(("__class__" : Str), cc)] ∧ K.lookup cc = some ⟨oc, od, .cell (some (.ref C)), osl⟩ := by
  match cl, h, e with
  | [(n, cc)], h, e =>
    obtain rfl : n = "__class__" := by simpa using e
    have h : (match K.lookup cc with
      | some ⟨_, _, .cell (some (.ref D)), _⟩ => decide (D = C)
      | _ => false) = true := h
    split at h
    · rename_i oc od D osl hl
      cases of_decide_eq_true h
      exact ⟨cc, oc, od, osl, rfl, hl⟩
    · cases h
theorem fileB_ok {P : Program} {K : PySem.W.Frag} {v : Value} (h : fileB P K v = true) : ∃ cda ccl cdd vs ccs file tf, v = .ref cda ∧ K.lookup cda = some ⟨ccl, cdd, .fields vs, ccs⟩ ∧ vs[2]? = some (.str file tf) ∧ ((P.main.file : Str) == file) = true := by
  cases v with
  | ref cda =>
    have h : (match K.lookup cda with
      | some ⟨_, _, .fields vs, _⟩ => (match (vs[2]? : Option Value) with
        | some (.str file _) => (P.main.file : Str) == file
        | _ => false)
      | _ => false) = true := h
    split at h
    · rename_i ccl cdd vs ccs hl
      split at h
      · rename_i file tf hv
        exact ⟨cda, ccl, cdd, vs, ccs, file, tf, rfl, hl, hv, h⟩
      · cases h
    · cases h
  | _ => cases h
/-- all else of the class -/
def supB (P : Program) (K : PySem.W.Frag) (x q f : Str) : Bool :=
  oexB K (He.ga K x) && (decide (PySem.W.findIn K (.ref (He.ga K x)) "__setattr__" = some (some (.builtin "object.__setattr__"))) && (decide (PySem.W.subIn K (.ref (He.ga K x)) (.type "BaseException") = some true) && (decide (PySem.W.typeIn K (.ref (He.ga K x)) = some (.type "type")) &&
  (PySem.W.keepIn K (.ref (He.ga K x)) && (decide (PySem.W.nsIn K mainGlobals "super" = some none) && (decide (PySem.W.nsIn K cStatics "thirdparty.any" = some none) && (decide (PySem.W.ks_superIn K (He.ga K x) (He.ga K x) "__init__" = some (some (.builtin "ValueError.__init__"))) &&
  (decide (PySem.W.subIn K (.ref (He.ga K x)) (.type "ValueError") = some true) && (decide (PySem.W.mroIn K (He.ga K x) (.ref (He.ga K x)) = some true) && (decide (PySem.W.findIn K (.ref (He.ga K x)) "__init__" = some (some (.ref (He.ma K (He.ga K x) "__init__")))) &&
  (decide (PySem.W.typeIn K (.ref (He.ma K (He.ga K x) "__init__")) = some (.type "function")) && (decide (PySem.W.findIn K (.ref (He.ga K x)) f = some none) && (xfB K (He.ga K x) && restB P K x q)))))))))))))
structure SupF (P : Program) (K : PySem.W.Frag) (x q f : Str) (st : Stmt) : Prop where
  S : SupC P K (He.ga K x) (He.ma K (He.ga K x) "__init__") q (defArgs st) (defBody st) (defScope st)
  xf : XfC K (He.ga K x)
  ini : PySem.W.findIn K (.ref (He.ga K x)) "__init__" = some (some (.ref (He.ma K (He.ga K x) "__init__")))
  ty : PySem.W.typeIn K (.ref (He.ma K (He.ga K x) "__init__")) = some (.type "function")
  no : PySem.W.findIn K (.ref (He.ga K x)) f = some none
theorem supB_ok {P : Program} {K : PySem.W.Frag} {x q f : Str} {st : Stmt} (h : supB P K x q f = true) (e : fnC K x = fnCv q st) (top : (P.main.scope.names.lookup ("super" : Str)).isSome = false) : SupF P K x q f st := by
  obtain ⟨a1, h⟩ := He.ba h
  obtain ⟨a2, h⟩ := He.ba h
  obtain ⟨a3, h⟩ := He.ba h
  obtain ⟨a4, h⟩ := He.ba h
  obtain ⟨a5, h⟩ := He.ba h
  obtain ⟨a6, h⟩ := He.ba h
  obtain ⟨a7, h⟩ := He.ba h
  obtain ⟨a8, h⟩ := He.ba h
  obtain ⟨a9, h⟩ := He.ba h
  obtain ⟨b1, h⟩ := He.ba h
  obtain ⟨b2, h⟩ := He.ba h
  obtain ⟨b3, h⟩ := He.ba h
  obtain ⟨b4, h⟩ := He.ba h
  obtain ⟨b5, b6⟩ := He.ba h
  refine ⟨⟨⟨oexB_ok a1, of_decide_eq_true a2, of_decide_eq_true a3, of_decide_eq_true a4, a5⟩, ?_, of_decide_eq_true a6, of_decide_eq_true a7, of_decide_eq_true a8, of_decide_eq_true a9, of_decide_eq_true b1, top⟩, xfB_ok b5, of_decide_eq_true b2, of_decide_eq_true b3, of_decide_eq_true b4⟩
  unfold restB at b6
  unfold fnC at e
  cases hl : K.lookup (He.ma K (He.ga K x) "__init__") with
  | none => rw [hl] at b6; cases b6
  | some o =>
    obtain ⟨oc, od, dt, osl⟩ := o
    rw [hl] at b6 e
    cases dt with
    | func fd =>
      obtain ⟨n1, n2, n3, n4, n5, n6, n7, n8, n9, n10, n11, n12, n13, n14, n15⟩ := fd
      have e2 : (some (n1, n2, n3, n4, n5, n6, n7.map (·.1), n15) : FnC) = fnCv q st := e
      unfold fnCv at e2
      simp only [Option.some.injEq, Prod.mk.injEq] at e2
      obtain ⟨h1, h2, h3, h4, h5, h6, h7, h8⟩ := e2
      subst h1 h2 h3 h4 h5 h6 h8
      obtain ⟨c1, d2⟩ := He.ba (show (PySem.W.codeIn K n13 n2 && (fileB P K n13 && (cellB K (He.ga K x) n7 && noneB n8))) = true from b6)
      obtain ⟨c2, d3⟩ := He.ba d2
      obtain ⟨c3, c4⟩ := He.ba d3
      obtain ⟨cc, cl, cld, csl, rfl, hcell⟩ := cellB_ok c3 h7
      obtain ⟨cda, ccl, cdd, vs, ccs, file, tf, rfl, hcode, hvs, hfile⟩ := fileB_ok c2
      obtain rfl : n8 = .none := by cases n8 <;> first | rfl | cases c4
      exact ⟨_, _, _, _, _, _, cda, _, _, cc, cl, cld, csl, ccl, cdd, vs, ccs, file, tf, rfl, c1, hcell, hcode, hvs, hfile⟩
    | _ => cases b6
end L3

set_option Elab.async false
set_option linter.all false
set_option maxRecDepth 100000
set_option maxHeartbeats 1000000
namespace L3
open PySem PySem.Spec PyProof.Rows L2
/-! ~o by an own __invert__, o <= p by an own __le__, o op p by an own method of both's class -/
section
end
/-! dicts with tuple keys, locked -/
def DtF : Rl (List (List Str)) := fun ks M v => ∃ a o, v = .ref a ∧ M a = some (.frz o (.dT (ent ks)))
instance : Mon DtF := ⟨fun e ⟨a, o, h, r⟩ => ⟨a, o, h, e _ _ r⟩⟩
section
end
end L3

set_option Elab.async false
set_option linter.all false
set_option maxRecDepth 100000
set_option maxHeartbeats 1000000
namespace L3
open PySem PySem.Spec PyProof.Rows L2 LamX
open Strm
/-! a lambda handed to a def of the law, behind the stream -/
/-- a def whose code object stands at c -/
def FunC (K : PySem.W.Frag) (x qual : Str) (st : Stmt) (fd : FuncData) (f c : Addr) : Prop := ∃ (oc : Value) (od : Option Addr) (kV doc pm : Value) (an : Option Addr) (ct : Value) (osl : Array (Option Value)),
  fd = PySem.W.fnOf x qual (defArgs st) (defBody st) (defScope st) .none kV doc pm an (.ref c) ct ∧ K.lookup f = some ⟨oc, od, .func (PySem.W.fnOf x qual (defArgs st) (defBody st) (defScope st) .none kV doc pm an (.ref c) ct), osl⟩ ∧ PySem.W.codeIn K (.ref c) qual = true
/-- a def keeps its promise where no repr is under way; its code object is known -/
theorem fun_okGC {P : Program} {w : World} {K : PySem.W.Frag} {mg : Str → Option Value} {base : Heap} {x qual : Str} {st : Stmt} {f c : Addr} {fd : FuncData} {N ps : List Str} {k : Nat} {sp : Sp} (F : FunC K x qual st fd f c) (S : FnScope N ps (defScope st))
    (ar : ∀ vs H Q E, sp vs H Q E → vs.length = ps.length) (hb : ∀ (A : Around) (outer : List Env) (s : Shared) (H : Hp) (vs : List V) (Q : VK) (E : XK), A.guards = some [] → Room k (A.deeper (envOfC qual (defScope st) s.heap.objs.size f (.ref c))) → sp vs H Q E →
      ∃ t, PSs (cxOf CX0 P w K mg base N qual (defScope st) f (.ref c) A outer s H E).nox (defBody st) t ∧ t { nx := fun _ H' => Q .non H', rt := Q } (start N vs) H) :
    FnG P w K mg base CX0 (k + 1) f fd ps sp where
  len := ar
  run A outer s H args us vs Q E hgu hr e0 hbi rv hsp := by
    have ⟨c1, c2, c3, c4, c5, c6, c7, c8, efd, lk, hcd⟩ := F
    subst efd
    have grown : ∀ b o, base.get? b = some o → s.heap.get? b = some o := fun b o e => (e0.bs b o e).1
    have inK := e0.mod.kin.keeps grown
    apply codeAny_call_function hr.depth (inK _ _ lk) rfl S.co S.gen rfl (PySem.W.codeRec_of inK hcd)
    apply hbi
    refine wpAny_newFunctionEnv_cells S.kind (fun ⟨n, v⟩ hy => ?_) fun env he s1 new => ?_
    · rcases S.par n (List.of_mem_zip hy).1 with q | q
      · exact .inl q
      · exact .inr ⟨q, PySem.W.cellsFrom_some _ _ _ (.inl q)⟩
    subst he
    have ⟨t, pt, q⟩ := hb A outer s H vs Q E hgu (hr.deeper _) hsp
    have I0 := inv_start (CX := CX0) (E := E) S hr.hd e0 (ar _ _ _ _ hsp) rv new
    refine ⟨(e0.mod.nolimit.keeps grown).keeps new.toInCall.keep, codeAny_func (wpAny_mono (pt.nox.run [] s1 _ H _ I0 q) ?_ fun _ _ z => z)⟩
    rintro (_ | _ | _ | u) s2 h2
    · have ⟨_, _, J, z⟩ := h2
      exact ⟨V.non, _, J.os, J.bare, J.base, J.hok, rfl, z⟩
    · exact h2.elim fun _ h => h.elim fun _ h => h.2.elim
    · exact h2.elim fun _ h => h.elim fun _ h => h.2.elim
    · have ⟨v, _, _, J, ru, z⟩ := h2
      exact ⟨v, _, J.os, J.bare, J.base, J.hok, ru, z⟩
section
variable {S : Strm} {H H' M M' : Hp} {j k : Nat} {Pt : Addr} {q : Str} {σ : Sl} {P : Pr}
theorem Strm.At.ext (h : S.At k H) (e : ExtN H H') : S.At k H' := let ⟨c, x, n, m, h1, h2, h3⟩ := h.ex; ⟨h.ne, c, x, n, m, e _ _ h1 (fun _ z => by cases z), e _ _ h2 (fun _ z => by cases z), h3⟩
/-- the state of a law with a table of code objects -/
structure LS (S : Strm) (Pt : Addr) (q : Str) (M H : Hp) (k : Nat) : Prop where
  mh : Same M (S.cut H)
  at_ : S.At k H
  tb : TabS H Pt q
  mp : M Pt = none
  nt : ∀ a ps, M a ≠ some (.tbl ps)
theorem LS.le (L : LS S Pt q M H k) (e : j ≤ k) : LS S Pt q M H j := ⟨L.mh, L.at_.le e, L.tb, L.mp, L.nt⟩
theorem LS.step (L : LS S Pt q M H k) (g : Gr M (S.cut H) M' (S.cut H')) (a : S.At j H') : LS S Pt q M' H' j := by
  have kp : ∀ x o, H x = some o → (∀ vs, o ≠ HO.lst vs) → S.cut H x = some o ∧ H' x = some o := fun x o e n => by
    have no : ¬ S.off x := fun z => by
      obtain ⟨vs, hv⟩ := L.at_.at_ z
      rw [hv] at e
      exact n vs (Option.some.inj e).symm
    have e1 : S.cut H x = some o := by rw [cut_on no]; exact e
    exact ⟨e1, of_cut (g.hh x o e1)⟩
  obtain ⟨ps, hP, ok, h3⟩ := L.tb
  have h1 := kp Pt _ hP (fun _ z => by cases z)
  refine ⟨g.mh, a, ⟨ps, h1.2, ok, fun pos cv hc => ?_⟩, g.keep L.mp h1.1, fun x qs e => L.nt x qs (g.nt x qs e)⟩
  obtain ⟨c, e1, e2⟩ := h3 pos cv hc
  exact ⟨c, e1, (kp c _ e2 (fun _ z => by unfold CodeO at z; cases z)).2⟩
/-- a step that leaves all as it is -/
theorem LS.idle (L : LS S Pt q M H k) (hh : Same H H') : LS S Pt q M H' k := by
  have m1 : Same M (S.cut H') := fun x o e => by
    have h1 := L.mh x o e
    rw [cut_on (on_of h1)]
    exact hh _ _ (of_cut h1)
  exact ⟨m1, L.at_.same hh, L.tb.ext hh, L.mp, L.nt⟩
theorem LS.put (L : LS S Pt q M H k) {p : Addr} {o : HO} {vs : List V} (hp : S.cut H p = some (.lst vs)) (hm : M p = none) : LS S Pt q M (upd H p o) k := by
  have no : ¬ S.off p := on_of hp
  have hp' := of_cut hp
  obtain ⟨ps, hP, ok, h3⟩ := L.tb
  have n1 : Pt ≠ p := fun z => by rw [z, hp'] at hP; cases hP
  refine ⟨by rw [cut_upd no]; exact same_mut L.mh hm, L.at_.upd no, ⟨ps, by rw [upd_ne n1]; exact hP, ok, fun pos cv hc => ?_⟩, L.mp, L.nt⟩
  obtain ⟨c, e1, e2⟩ := h3 pos cv hc
  have n2 : c ≠ p := fun z => by rw [z, hp'] at e2; unfold CodeO at e2; cases e2
  exact ⟨c, e1, by rw [upd_ne n2]; exact e2⟩
end
end L3

set_option Elab.async false
set_option linter.all false
set_option maxRecDepth 100000
set_option maxHeartbeats 1000000
namespace L3
open PySem PySem.Spec PyProof.Rows L2
/-! data among which an empty dict may stand -/
/-- data, or an empty dict -/
def DdF (K : PySem.W.Frag) : Rl PyData := fun d M v => Dd K d M v ∨ (d = .dict [] ∧ ∃ a, v = .ref a ∧ M a = some (.dK []))
/-- .. or a list of such -/
def DdE (K : PySem.W.Frag) : Rl PyData := fun d M v => DdF K d M v ∨ ∃ a ds vs, d = .list ds ∧ v = .ref a ∧ SqL K M a vs ∧ Pd (DdF K) M ds vs
instance {K : PySem.W.Frag} : Mon (DdF K) := ⟨fun e h => h.elim (fun h => .inl (dp_mono e h)) fun ⟨h1, a, h2, h3⟩ => .inr ⟨h1, a, h2, e _ _ h3⟩⟩
instance {K : PySem.W.Frag} : Mon (DdE K) := ⟨fun e h => h.elim (fun h => .inl (Mon.mono e h)) fun ⟨a, ds, vs, h1, h2, h3, h4⟩ => .inr ⟨a, ds, vs, h1, h2, sl_mono e h3, h4.mono e⟩⟩
theorem ty_F {K : PySem.W.Frag} {M : Hp} {d : PyData} {v : V} (h : DdF K d M v) : TyX K M v (.type (tyN d)) := by
  rcases h with h | ⟨rfl, a, rfl, h⟩
  · exact ty_of h
  · exact .base (.dK h)
section
variable {K : PySem.W.Frag} {σ : Sl} {M : Hp} {ta : TE}
theorem gv_isiF {d : PyData} {n : String} {b : Bool} (h : Gv ta σ M (DdF K d)) (hk : kitB (tyN d) n = some b) : Gv (tCB (rIsi K) (tCons ta (tCons (tC (.ty n)) tNil))) σ M (Bl b) := fun H mh Q q =>
  h H mh _ fun v M1 H1 g1 p => ⟨v, .ty n, _, _, b, rfl, .ty n, ty_F (Mon.mono g1.mh p), kit_ty hk, q _ M1 H1 g1 rfl⟩
end
end L3

set_option Elab.async false
set_option linter.all false
set_option maxRecDepth 100000
set_option maxHeartbeats 1000000
namespace L3
open PySem PySem.Spec PyProof.Rows L2
/-! a written dict of three texts, locked at the return: it can be walked -/
def Dc3F (a b c : Str) (R1 R2 R3 : Pr) : Pr := fun M v => ∃ p o u1 u2 u3, v = .ref p ∧ M p = some (.frz o (.dK [(Sum.inr a, u1), (Sum.inr b, u2), (Sum.inr c, u3)])) ∧ R1 M u1 ∧ R2 M u2 ∧ R3 M u3
section
variable {K : PySem.W.Frag} {σ : Sl} {M : Hp} {td ts t1 t2 t3 : TE} {P : Pr}
theorem gv_dgetF {R : Pr} {k : Str} (h : Gv td σ M P) (hr : ∀ M v, P M v → ∃ a o kvs u, v = .ref a ∧ M a = some (.frz o (.dK kvs)) ∧ valV kvs (Sum.inr k : Key) = some u ∧ R M u) : Gv (tDGet td (tC (.str k))) σ M R := fun H mh Q q => h H mh _ fun v M1 H1 g1 p1 => by
  obtain ⟨a, o, kvs, u, rfl, ha, hu, r⟩ := hr M1 v p1
  exact ⟨a, u, rfl, .inl ⟨kvs, Sum.inr k, .inr ⟨o, g1.mh _ _ ha⟩, rfl, hu.symm⟩, q u M1 H1 g1 r⟩
theorem gv_disp3F {a b c : Str} {R1 R2 R3 : Pr} [Mono R1] [Mono R2] [Mono R3] (h1 : Gv t1 σ M R1) (h2 : Gv t2 σ M R2) (h3 : Gv t3 σ M R3) (n1 : a ≠ b) (n2 : a ≠ c) (n3 : b ≠ c) :
    Gv (tFrz (tDisp [(tC (.str a), t1), (tC (.str b), t2), (tC (.str c), t3)])) σ M (Dc3F a b c R1 R2 R3) := fun H mh Q q p np => by
  have g0 := Gr.own (o := .dK []) mh np
  have m0 : M p = none := mh.free np
  have p0 : (upd H p (.dK [])) p = some (.dK []) := upd_same
  refine h1 _ g0.mh _ fun u1 M1 H1 g1 r1 => ?_
  refine h2.le g1.mm H1 g1.mh _ fun u2 M2 H2 g2 r2 => ?_
  refine h3.le (g1.mm.trans g2.mm) H2 g2.mh _ fun u3 M3 H3 g3 r3 => ?_
  have G := (g1.trans g2).trans g3
  have m3 : M3 p = none := G.keep m0 p0
  refine ⟨G.hh _ _ p0, [(Sum.inr a, u1), (Sum.inr b, u2), (Sum.inr c, u3)], rfl, by show 3 ≤ 15; decide, ?_⟩
  rw [merge3 n1 n2 n3]
  refine ⟨p, _, rfl, upd_same, trivial, fun o => ?_⟩
  have e3 := same_new (o := .frz o (.dK [(Sum.inr a, u1), (Sum.inr b, u2), (Sum.inr c, u3)])) m3
  exact q _ _ _ ((((g0.trans G).mut np m3).mut np m3).freeze np m3 upd_same) ⟨p, o, u1, u2, u3, rfl, upd_same, Mono.mono ((g2.mm.trans g3.mm).trans e3) r1, Mono.mono (g3.mm.trans e3) r2, Mono.mono e3 r3⟩
end
section
end
end L3
namespace L3
open PySem PySem.Spec PyProof.Rows L2 LamX
open Strm
end L3

set_option Elab.async false
set_option linter.all false
set_option maxRecDepth 100000
set_option maxHeartbeats 1000000
namespace L3
open PySem PySem.Spec PyProof.Rows L2 LamX
/-! the law's own end, a table of code objects at Pt tracked from the start, empty -/
section
end
end L3

set_option Elab.async false
set_option linter.all false
set_option maxRecDepth 100000
set_option maxHeartbeats 1000000
namespace L3
open PySem PySem.Spec PyProof.Rows L2
/-! a quiet def (one that raises nothing and walks no range) called while an exception is handled -/
structure FnQ (P : Program) (w : World) (K : PySem.W.Frag) (mg : Str → Option Value) (base : Heap) (k : Nat) (f : Addr) (fd : FuncData) (ps : List Str) (sp : Sp) : Prop where
  len (vs : List V) (H : Hp) (Q : VK) (E : XK) : sp vs H Q E → vs.length = ps.length
  run : ∀ (A : Around) (outer : List Env) (s : Shared) (H : Hp) (args : Args) (us : List Value) (vs : List V) (Q : VK) (E : XK) (p : Addr × Obj), A.guards = some [] → L2H.RoomH k A → L2H.PinOk outer H s p →
    Env0 P w K mg base A outer s H → BindsTo s fd args (ps.zip us) → Vals vs us → sp vs H Q E → codeAny (model P w) A (.call (.ref f) args) (CR CX0 outer P w H s Q E) s
section
end
end L3

set_option Elab.async false
set_option linter.all false
set_option maxRecDepth 100000
set_option maxHeartbeats 4000000
namespace My
open PySem PySem.Spec PyProof.Rows L2 L3
def topS (i : Nat) : Stmt := PySem.Challenge.pw_lastopen_k22_why_and_blame.main.body.getD i (.Pass ⟨0, 0, 0, 0⟩)
/-! the plain functions -/
def nameOf (x : Str) : Str := if cutS x none (some 1) = "-" then cutS x (some 1) none else x
def opp (x : Str) : Str := if cutS x none (some 1) = "-" then cutS x (some 1) none else "-" ++ x
def isListD : PyData → Bool
  | .list _ => true | .tuple _ => true | _ => false
def isLit (ns : List Str) : PyData → Bool
  | .str x => decide (nameOf x ∈ ns) | _ => false
def nameD : PyData → Str
  | .str x => nameOf x | _ => ""
def fwGo (ns : List Str) : List PyData → List Str → Nat → Option Nat
  | [], _, _ => none
  | d :: r, met, i => if isLit ns d = false ∨ nameD d ∈ met then some i else fwGo ns r (met ++ [nameD d]) (i + 1)
/-- the index of the first thing that is no literal, or whose name stood before -/
def firstWrong (ns : List Str) : PyData → Option Nat
  | .list ds => fwGo ns ds [] 0 | .tuple ds => fwGo ns ds [] 0 | _ => some 0
def shortD : PyData → Prop
  | .str x => x.length ≤ 1000 | _ => True
def shortL : PyData → Prop
  | .list ds => ds.length ≤ 1000000 ∧ ∀ d ∈ ds, shortD d | .tuple ds => ds.length ≤ 1000000 ∧ ∀ d ∈ ds, shortD d | _ => True
def asc (ls ns : List Str) : List Str := ns.flatMap fun n => [n, ("-" : Str) ++ n].filter fun l => decide (l ∈ ls)
/-- built-ins that the module does not shade -/
structure Bi (mg : Str → Option Value) : Prop where
  len : mg "len" = none
  tuple : mg "tuple" = none
  list : mg "list" = none
  str : mg "str" = none
  int : mg "int" = none
  all : mg "all" = none
  any : mg "any" = none
  isinstance : mg "isinstance" = none
  enumerate : mg "enumerate" = none
  range : mg "range" = none
  repr : mg "repr" = none
theorem sz1000 {n : Nat} (h : n ≤ 1000) : n ≤ sizeLine := Nat.le_trans h (by decide)
theorem szM {n : Nat} (h : n ≤ 16000000) : n ≤ sizeLine := Nat.le_trans h (by decide)
theorem szL {n : Nat} (h : n ≤ 16000000) : n < sizeLine := Nat.lt_of_le_of_lt h (by decide)
section
variable {P : Program} {w : World} {K : PySem.W.Frag} {mg : Str → Option Value} {base : Heap}
abbrev s_name_of : Stmt := topS 17
theorem sc_name_of : FnScope ["literal"] ["literal"] (defScope s_name_of) := ⟨rfl, rfl, rfl, by decide +kernel, rfl, by decide +kernel, by decide +kernel⟩
def sp_name_of (K : PySem.W.Frag) : Sp := sp1 Tx (fun x => x.length ≤ 1000) fun x => Tx (nameOf x)
theorem ok_name_of {f : Addr} {fd : FuncData} (F : Fun K "name_of" "name_of" s_name_of f fd) : FnOk P w K mg base CX0 1 f fd ["literal"] (sp_name_of K) := by
  refine F.ok sc_name_of (fun vs H Q E h => ?_) (fun cdv A outer s H vs Q E hr h => ?_)
  · obtain ⟨x, M, v, rfl, _⟩ := h
    rfl
  · obtain ⟨x, M, v, rfl, mh, r1, hp, q⟩ := h
    have hu := hr.units
    refine ⟨_, (pss_one (ps_ret (pe_ifExp (pt_cmpR (op_eqP hu) (pe_slice sl_X (pv 0) po_none (po_some pe_int)) pe_str (nomark _)) (pe_slice sl_X (pv 0) (po_some pe_int) po_none) (pv 0)))), ?_⟩
    have hv : Gv (tVar 0) (start ["literal"] [v]) M (Tx x) := gv_var rfl r1
    refine s_ret mh (gv_if (gt_test (gv_eqT py_str inj_str (gv_cutS hv (sz1000 hp) (fun _ _ h => h) (fun _ _ h => ⟨1, rfl, h⟩)) (gv_c rfl) (by simp [PyData.depth]))) (fun hb => gv_is (gv_cutS hv (sz1000 hp) (fun _ _ h => ⟨1, rfl, h⟩) fun _ _ h => h) fun M' v h => ?_) fun hb => gv_is hv fun M' v h => ?_) q
    · show Tx (nameOf x) M' v
      rw [show nameOf x = _ from if_pos (by simpa using hb)]; exact h
    · show Tx (nameOf x) M' v
      rw [show nameOf x = _ from if_neg (by simpa using hb)]; exact h
abbrev s_opposite : Stmt := topS 18
theorem sc_opposite : FnScope ["literal"] ["literal"] (defScope s_opposite) := ⟨rfl, rfl, rfl, by decide +kernel, rfl, by decide +kernel, by decide +kernel⟩
def sp_opposite (K : PySem.W.Frag) : Sp := sp1 Tx (fun x => x.length ≤ 1000) fun x => Tx (opp x)
theorem ok_opposite {f : Addr} {fd : FuncData} (F : Fun K "opposite" "opposite" s_opposite f fd) : FnOk P w K mg base CX0 1 f fd ["literal"] (sp_opposite K) := by
  refine F.ok sc_opposite (fun vs H Q E h => ?_) (fun cdv A outer s H vs Q E hr h => ?_)
  · obtain ⟨x, M, v, rfl, _⟩ := h
    rfl
  · obtain ⟨x, M, v, rfl, mh, r1, hp, q⟩ := h
    have hu := hr.units
    refine ⟨_, (pss_one (ps_ret (pe_ifExp (pt_cmpR (op_eqP hu) (pe_slice sl_X (pv 0) po_none (po_some pe_int)) pe_str (nomark _)) (pe_slice sl_X (pv 0) (po_some pe_int) po_none) (pe_op op_addA pe_str (pv 0))))), ?_⟩
    have hv : Gv (tVar 0) (start ["literal"] [v]) M (Tx x) := gv_var rfl r1
    refine s_ret mh (gv_if (gt_test (gv_eqT py_str inj_str (gv_cutS hv (sz1000 hp) (fun _ _ h => h) (fun _ _ h => ⟨1, rfl, h⟩)) (gv_c rfl) (by simp [PyData.depth]))) (fun hb => gv_is (gv_cutS hv (sz1000 hp) (fun _ _ h => ⟨1, rfl, h⟩) fun _ _ h => h) fun M' v h => ?_) fun hb => gv_is (gv_addSt (gv_c rfl) hv (szM (by show 1 + x.length ≤ _; omega))) fun M' v h => ?_) q
    · show Tx (opp x) M' v
      rw [show opp x = _ from if_pos (by simpa using hb)]; exact h
    · show Tx (opp x) M' v
      rw [show opp x = _ from if_neg (by simpa using hb)]; exact h
abbrev s_is_list : Stmt := topS 14
theorem sc_is_list : FnScope ["thing"] ["thing"] (defScope s_is_list) := ⟨rfl, rfl, rfl, by decide +kernel, rfl, by decide +kernel, by decide +kernel⟩
def sp_is_list (K : PySem.W.Frag) : Sp := sp1 (Dd K) (fun _ => True) fun d => Bl (isListD d)
theorem ok_is_list {f : Addr} {fd : FuncData} (F : Fun K "is_list" "is_list" s_is_list f fd) (T : Bi mg) : FnOk P w K mg base CX0 1 f fd ["thing"] (sp_is_list K) := by
  refine F.ok sc_is_list (fun vs H Q E h => ?_) (fun cdv A outer s H vs Q E hr h => ?_)
  · obtain ⟨x, M, v, rfl, _⟩ := h
    rfl
  · obtain ⟨d, M, v, rfl, mh, r1, hp, q⟩ := h
    refine ⟨_, (pss_one (ps_ret (pe_callB call_isiT (by rfl) T.isinstance boot_isinstance (pa_cons (pv 0) (pa_cons (pe_tup (pa_cons (pe_bltn (v := .ty "list") (u := .type "list") (by rfl) T.list (by decide +kernel) rfl) (pa_cons (pe_bltn (v := .ty "tuple") (u := .type "tuple") (by rfl) T.tuple (by decide +kernel) rfl) pa_nil))) pa_nil))))), ?_⟩
    have hv : Gv (tVar 0) (start ["thing"] [v]) M (Dd K d) := gv_var rfl r1
    cases d with
    | list _ => exact s_ret mh (gv_isi2 (b := true) (c := false) hv (by simp only [tyN]; decide +kernel) (by simp only [tyN]; decide +kernel)) q
    | tuple _ => exact s_ret mh (gv_isi2 (b := false) (c := true) hv (by simp only [tyN]; decide +kernel) (by simp only [tyN]; decide +kernel)) q
    | _ => exact s_ret mh (gv_isi2 (b := false) (c := false) hv (by simp only [tyN]; decide +kernel) (by simp only [tyN]; decide +kernel)) q
abbrev s_is_literal : Stmt := topS 19
theorem sc_is_literal : FnScope ["thing", "names"] ["thing", "names"] (defScope s_is_literal) := ⟨rfl, rfl, rfl, by decide +kernel, rfl, by decide +kernel, by decide +kernel⟩
def sp_is_literal (K : PySem.W.Frag) : Sp := sp2 (Dd K) (SqR K Tx) (fun d _ => shortD d) fun d ns => Bl (isLit ns d)
theorem ok_is_literal {f : Addr} {fd : FuncData} (F : Fun K "is_literal" "is_literal" s_is_literal f fd) (T : Bi mg) (c_name_of : Cal P w K mg base 1 "name_of" ["literal"] (sp_name_of K)) : FnOk P w K mg base CX0 2 f fd ["thing", "names"] (sp_is_literal K) := by
  refine F.ok sc_is_literal (fun vs H Q E h => ?_) (fun cdv A outer s H vs Q E hr h => ?_)
  · obtain ⟨x, y, M, v, w, rfl, _⟩ := h
    rfl
  · obtain ⟨d, ns, M, v, w, rfl, mh, r1, r2, hp, q⟩ := h
    have hu := hr.units
    refine ⟨_, (pss_one (ps_ret (pe_and (pe_callB call_isi (by rfl) T.isinstance boot_isinstance (pa_cons (pv 0) (pa_cons (pe_bltn (v := .ty "str") (u := .type "str") (by rfl) T.str (by decide +kernel) rfl) pa_nil))) (pe_one (pe_cmpR (op_inA hu) (pe_f c_name_of (hr.mono (by decide)) (pa_cons (pv 0) pa_nil)) (pv 1) (by rfl)))))), ?_⟩
    have hv : Gv (tVar 0) (start ["thing", "names"] [v, w]) M (Dd K d) := gv_var rfl r1
    cases d with
    | str x =>
      cases r1
      exact s_ret mh (gv_is (gv_andV (gv_isi (b := true) hv (by simp only [tyN]; decide +kernel)) fun _ => gv_inA (K := K) (gv_call1 (gv_var rfl rfl) hp) (gv_var rfl (.inl r2))) fun M' v h => by simpa [isLit] using h) q
    | _ => exact s_ret mh (gv_andV (c := false) (gv_isi (b := false) hv (by simp only [tyN]; decide +kernel)) fun h => nomatch h) q
end
end My

set_option Elab.async false
set_option linter.all false
set_option maxRecDepth 100000
set_option maxHeartbeats 4000000
namespace My
open PySem PySem.Spec PyProof.Rows L2 L3
section
variable {P : Program} {w : World} {K : PySem.W.Frag} {mg : Str → Option Value} {base : Heap}
abbrev s_first_wrong : Stmt := topS 20
theorem sc_first_wrong : FnScope ["things", "names", "met", "index", "thing"] ["things", "names"] (defScope s_first_wrong) := ⟨rfl, rfl, rfl, by decide +kernel, rfl, by decide +kernel, by decide +kernel⟩
def sp_first_wrong (K : PySem.W.Frag) : Sp := sp2 (Dd K) (SqR K Tx) (fun d _ => shortL d) fun d ns => OpN (firstWrong ns d)
theorem lit_shape {ns : List Str} {d : PyData} (h : isLit ns d = true) : ∃ x, d = .str x ∧ nameOf x ∈ ns := by
  cases d with
  | str x => exact ⟨x, rfl, by simpa [isLit] using h⟩
  | _ => exact absurd h (by simp [isLit])
theorem ok_first_wrong {f : Addr} {fd : FuncData} (F : Fun K "first_wrong" "first_wrong" s_first_wrong f fd) (T : Bi mg) (c_is_list : Cal P w K mg base 1 "is_list" ["thing"] (sp_is_list K)) (c_name_of : Cal P w K mg base 1 "name_of" ["literal"] (sp_name_of K))
    (c_is_literal : Cal P w K mg base 2 "is_literal" ["thing", "names"] (sp_is_literal K)) : FnOk P w K mg base CX0 3 f fd ["things", "names"] (sp_first_wrong K) := by
  refine F.ok sc_first_wrong (fun vs H Q E h => ?_) (fun cdv A outer s H vs Q E hr h => ?_)
  · obtain ⟨x, y, M, v, w, rfl, _⟩ := h
    rfl
  · obtain ⟨d, ns, M, v, w, rfl, mh, r1, r2, hp, q⟩ := h
    have hu := hr.units
    refine ⟨_, (pss_cons (ps_if (pt_not (pt_val (pe_f c_is_list (hr.mono (by decide)) (pa_cons (pv 0) pa_nil)))) (pss_one (ps_ret pe_int)) pss_nil)
      (pss_cons (ps_set (i := 2) sc_first_wrong.nd rfl (by first | exact .inl rfl | exact .inr rfl) (pe_lst pa_nil))
      (pss_cons (ps_for PassesOwn.never (by rfl) (pi_en (by rfl) T.enumerate (pa_cons (pv 0) pa_nil)) (pg_tup (by rfl) (pgs_cons (pg_name (i := 3) sc_first_wrong.nd rfl (by first | exact .inl rfl | exact .inr rfl)) (pgs_cons (pg_name (i := 4) sc_first_wrong.nd rfl (by first | exact .inl rfl | exact .inr rfl)) pgs_nil))) (pss_cons (ps_if (PW.pt (pw_or (pt_not (pt_val (pe_f c_is_literal (hr.mono (by decide)) (pa_cons (pv 4) (pa_cons (pv 1) pa_nil))))) (pw_or1 (pt_cmpR (op_inA hu) (pe_f c_name_of (hr.mono (by decide)) (pa_cons (pv 4) pa_nil)) (pv 2) (by rfl))))) (pss_one (ps_ret (pv 3))) pss_nil)
      (pss_one (ps_expr (pe_bm PySem.F.plainAttrs_list PySem.F.slot_list_append PySem.F.type_list_append mt_append (pv 2) (pa_cons (pe_f c_name_of (hr.mono (by decide)) (pa_cons (pv 4) pa_nil)) pa_nil))))))
      (pss_one (ps_ret pe_non))))), ?_⟩
    refine q_if mh (gt_not (gt_B (gv_call1 (gv_var rfl r1) trivial))) (fun hb H1 hh1 => ?_) (fun hb H1 hh1 => ?_)
    all_goals have g1 := Gr.idle mh hh1
    · refine s_ret g1.mh (P := It' 0) (gv_c rfl) fun v M' H' g r => q v M' H' (g1.trans g) ?_
      have : firstWrong ns d = some 0 := by
        cases d with
        | list _ => simp [isListD] at hb
        | tuple _ => simp [isListD] at hb
        | _ => rfl
      show v = match firstWrong ns d with | none => V.non | some i => V.int (i : Nat)
      rw [this]
      exact r
    · obtain ⟨ds, sq, efw, hlen, hsh⟩ : ∃ ds, SqR K (Dd K) ds M v ∧ firstWrong ns d = fwGo ns ds [] 0 ∧ ds.length ≤ 1000000 ∧ ∀ d ∈ ds, shortD d := by
        cases d with
        | list ds => exact ⟨ds, dp_sqL r1, rfl, hp.1, hp.2⟩
        | tuple ds => exact ⟨ds, dp_sqT r1, rfl, hp.1, hp.2⟩
        | _ => simp [isListD] at hb
      refine q_asgL g1.mh gl_nil fun p vs M2 H2 g2 h0 m0 hp2 hv => ?_
      subst hv
      have g02 := g1.trans g2
      refine q_forE (R1 := Dd K) (xs := ds) g2.mh (gv_var rfl (Mon.mono g02.mm sq))
        (fun M1' i σ' M' H' => ∃ y3 y4, Gr M H M' H' ∧ Same M1' M' ∧ Same M M' ∧ Own H M' H' p ((((ds.take i).map nameD)).map V.str) ∧ σ' = [some v, some w, some (.ref p), y3, y4] ∧ fwGo ns ds [] 0 = fwGo ns (ds.drop i) ((ds.take i).map nameD) i)
        (fun M3 H3 g3 => ⟨none, none, g02.trans g3, Same.refl _, (g02.trans g3).mm, Own.step ⟨g1.hh.free h0, m0, hp2⟩ g3, rfl, rfl⟩)
        (fun M3 i σ' M' H' ⟨_, _, g, s1, _⟩ => ⟨s1, g.mh⟩) ?_ ?_
      · rintro M3 i x v' σ' M' H' H'' sM hx ⟨y3, y4, g, s1, s2, ow, rfl, efw2⟩ gE rx
        have hxm : x ∈ ds := List.mem_of_getElem? hx
        have hil : i < ds.length := (List.getElem?_eq_some_iff.mp hx).1
        have g' := g.trans gE
        have ow' := ow.step gE
        have r2' : SqR K Tx ns M' w := Mon.mono s2 r2
        have et : ds.take (i + 1) = ds.take i ++ [x] := by rw [List.take_add_one, hx]; rfl
        have ed : ds.drop i = x :: ds.drop (i + 1) := by rw [List.drop_eq_getElem_cons hil]; congr 1; exact (List.getElem?_eq_some_iff.mp hx).2
        have up := ow'.up
        have pd := pd_of_tx (M := M') ((ds.take i).map nameD)
        refine q_if (ow'.fr g'.mh) (gt_or (c := decide (nameD x ∈ (ds.take i).map nameD)) (gt_not (gt_B (gv_call2 (R1 := Dd K) (R2 := SqR K Tx) (gv_var rfl (Mon.mono up rx)) (gv_var rfl (Mon.mono up r2')) (hsh x hxm)))) fun hl => ?_) (fun hb H4 hh4 => ?_) (fun hb H4 hh4 => ?_)
        · obtain ⟨y, rfl, _⟩ := lit_shape (d := x) (ns := ns) (by simpa using hl)
          cases rx
          exact gt_is (gt_test (gv_inA (K := K) (gv_call1 (gv_var rfl rfl) (hsh _ hxm)) (gv_var rfl (.inl (.inl (ow'.lst pd)))))) (by simp [nameD])
        · refine s_ret (P := It' (i : Nat)) (g'.mh.trans hh4) (gv_var rfl rfl) fun v5 M5 H5 g5 r5 => q v5 M5 H5 ((g'.trans (.idle g'.mh hh4)).trans g5) ?_
          show v5 = match firstWrong ns d with | none => V.non | some i => V.int (i : Nat)
          rw [efw, efw2, ed, fwGo, if_pos (by simpa using hb)]
          exact r5
        · obtain ⟨hb1, hb2⟩ : isLit ns x = true ∧ ¬ nameD x ∈ (ds.take i).map nameD := by simpa using hb
          obtain ⟨y, rfl, _⟩ := lit_shape hb1
          cases rx
          have g4 := g'.trans (.idle g'.mh hh4)
          have ow4 := ow'.idle hh4
          refine s_app (P := Tx (nameOf y)) g4.mh rfl ow4.h (szL (by simp; omega)) (gv_call1 (gv_var rfl rfl) (hsh _ hxm)) fun v5 M5 H5 g5 r5 => ?_
          cases r5
          have ow5 := ow4.step g5
          refine ⟨M5, _, _, (g4.trans g5).mut ow5.h0 ow5.m, s1.trans g5.mm, s2.trans g5.mm, ?_, rfl, ?_⟩
          · rw [et, List.map_append, List.map_append]
            exact ow5.put
          · rw [efw2, ed, fwGo, if_neg (by simpa using hb), et, List.map_append]
            rfl
      · rintro M3 σ' M' H' sM ⟨y3, y4, g, s1, s2, ow, rfl, efw2⟩
        refine s_ret g.mh (P := fun _ v => v = .non) (gv_c rfl) fun v M' H' g3 r => q v M' H' (g.trans g3) ?_
        show v = match firstWrong ns d with | none => V.non | some i => V.int (i : Nat)
        rw [efw, efw2, List.drop_length]
        exact r
end
end My

set_option Elab.async false
set_option linter.all false
set_option maxRecDepth 100000
set_option maxHeartbeats 4000000
namespace My
open PySem PySem.Spec PyProof.Rows L2 L3
section
variable {P : Program} {w : World} {K : PySem.W.Frag} {mg : Str → Option Value} {base : Heap}
def Shorts (ns : List Str) : Prop := ns.length ≤ 1000 ∧ ∀ n ∈ ns, n.length ≤ 900
abbrev s_ascending : Stmt := topS 21
theorem sc_ascending : FnScope ["literals", "names", "found", "name", "literal"] ["literals", "names"] (defScope s_ascending) := ⟨rfl, rfl, rfl, by decide +kernel, rfl, by decide +kernel, by decide +kernel⟩
def sp_ascending (K : PySem.W.Frag) : Sp := sp2 (CtR K) (SqR K Tx) (fun _ ns => Shorts ns) fun ls ns => TT (asc ls ns)
theorem asc_len (ls : List Str) : ∀ ns : List Str, (asc ls ns).length ≤ 2 * ns.length
  | [] => Nat.le_refl _
  | n :: ns => by
    have ih := asc_len ls ns
    have h2 := List.length_filter_le (fun l => decide (l ∈ ls)) [n, ("-" : Str) ++ n]
    unfold asc at ih ⊢
    rw [List.flatMap_cons, List.length_append, List.length_cons]
    simp only [List.length_cons, List.length_nil] at h2
    omega
theorem ok_ascending {f : Addr} {fd : FuncData} (F : Fun K "ascending" "ascending" s_ascending f fd) (T : Bi mg) : FnOk P w K mg base CX0 1 f fd ["literals", "names"] (sp_ascending K) := by
  refine F.ok sc_ascending (fun vs H Q E h => ?_) (fun cdv A outer s H vs Q E hr h => ?_)
  · obtain ⟨x, y, M, v, w, rfl, _⟩ := h
    rfl
  · obtain ⟨ls, ns, M, v, w, rfl, mh, r1, r2, hp, q⟩ := h
    have hu := hr.units
    refine ⟨_, (pss_cons (ps_set (i := 2) sc_ascending.nd rfl (by first | exact .inl rfl | exact .inr rfl) (pe_lst pa_nil))
      (pss_cons (ps_for PassesOwn.never (by rfl) (pi_sq (pv 1)) (pg_name (i := 3) sc_ascending.nd rfl (by first | exact .inl rfl | exact .inr rfl)) (pss_one (ps_expr (pe_bm PySem.F.plainAttrs_list PySem.F.slot_list_extend PySem.F.type_list_extend mt_extend (pv 2) (pa_cons (pe_lc (own := [("literal", 4)]) (g := (gName 4)) (tt := (tTest (tOp (rInA K false) (tVar 4) (tVar 0)))) (te := (tVar 4)) (by rfl) sc_ascending.nd (pi_sq (pe_tup (pa_cons (pv 3) (pa_cons (pe_op op_addA pe_str (pv 3)) pa_nil)))) (blkOk_by (by rfl)) (fun _ _ _ _ _ => (pg_name (i := 4) sc_ascending.nd rfl (by first | exact .inl rfl | exact .inr rfl))) (fun _ _ _ _ _ => (pts_one (pt_cmpR (op_inA hu) (pv 4) (pv 0) (by rfl)))) (fun _ _ _ _ _ => (pv 4))) pa_nil)))))
      (pss_one (ps_ret (pe_callTy call_tupA (by rfl) T.tuple boot_tuple (pa_cons (pv 2) pa_nil)))))), ?_⟩
    refine q_asgL mh gl_nil fun p vs M2 H2 g2 h0 m0 hp2 hv => ?_
    subst hv
    refine q_for (R1 := Tx) (xs := ns) g2.mh (gv_var rfl (Mon.mono g2.mm r2))
      (fun M1' i σ' M' H' => ∃ y3 y4, Gr M H M' H' ∧ Same M1' M' ∧ Same M M' ∧ Own H M' H' p ((asc ls (ns.take i)).map V.str) ∧ σ' = [some v, some w, some (.ref p), y3, y4])
      (fun M3 H3 g3 => ⟨none, none, g2.trans g3, Same.refl _, (g2.trans g3).mm, Own.step ⟨h0, m0, hp2⟩ g3, rfl⟩)
      (fun M3 i σ' M' H' ⟨_, _, g, s1, _⟩ => ⟨s1, g.mh⟩) ?_ ?_
    · rintro M3 i n v' σ' M' H' sM hx ⟨y3, y4, g, s1, s2, ow, rfl⟩ rx
      cases rx
      have hn : n.length ≤ 900 := hp.2 n (List.mem_of_getElem? hx)
      have hil : i < ns.length := (List.getElem?_eq_some_iff.mp hx).1
      have et : ns.take (i + 1) = ns.take i ++ [n] := by rw [List.take_add_one, hx]; rfl
      refine s_ext g.mh rfl ow.h (gl_lc (R := Tx) (S := Tx) (gv_is (gv_tup2 (K := K) (gv_var rfl rfl) (gv_addSt (gv_c rfl) (gv_var rfl rfl) (szM (by show 1 + n.length ≤ _; omega)))) fun _ _ h => .inr h) (by show 2 ≤ sizeLine; decide) (fun l => decide (l ∈ ls)) id
        (fun l _ M1 vl sm hl => gt_is (gt_test (gv_inA (K := K) (gv_var rfl hl) (gv_var rfl (Mon.mono (s2.trans sm) r1)))) (by simp)) (fun l _ _ M1 vl sm hl => gv_var rfl hl)) (fun M4 ws h => ?_) fun ws M4 H4 g4 h => ?_
      · have l1 := h.length
        have l2 := asc_len ls (ns.take i)
        have l3 := List.length_filter_le (fun l => decide (l ∈ ls)) [n, ("-" : Str) ++ n]
        have l4 := hp.1
        rw [List.length_map] at l1 ⊢
        rw [List.length_take] at l2
        simp only [List.length_cons, List.length_nil] at l3
        exact szM (by omega)
      · have e4 := pd_tx h
        subst e4
        have ow4 := ow.step g4
        refine ⟨M4, _, _, (g.trans g4).mut ow4.h0 ow4.m, s1.trans g4.mm, s2.trans g4.mm, ?_, rfl⟩
        have e5 : asc ls (ns.take (i + 1)) = asc ls (ns.take i) ++ ([n, ("-" : Str) ++ n].filter fun l => decide (l ∈ ls)).map id := by
          rw [et, List.map_id]; unfold asc; rw [List.flatMap_append]; simp
        rw [e5, List.map_append]
        exact ow4.put
    · rintro M3 σ' M' H' sM ⟨y3, y4, g, s1, s2, ow, rfl⟩
      rw [List.take_length] at ow
      exact s_retTup g.mh rfl ow.h fun l nl => q _ _ _ (g.trans (.new g.mh nl)) (TT.new _)
end
end My

set_option Elab.async false
set_option linter.all false
set_option maxRecDepth 100000
set_option maxHeartbeats 4000000
namespace My
open PySem PySem.Spec PyProof.Rows L2 L3
def g_LETTERS : Str := "abcdefghijklmnopqrstuvwxyz"
structure Gb (mg : Str → Option Value) : Prop extends Bi mg where
  g_LETTERS : ∃ t, mg "LETTERS" = some (.str My.g_LETTERS t)
def isNm (x : Str) : Bool := decide (1 ≤ x.length) && decide (x.length ≤ 8) && x.cps.toList.all fun c => decide (c ∈ g_LETTERS.cps.toList)
def isNmD : PyData → Bool
  | .str x => isNm x | _ => false
section
variable {P : Program} {w : World} {K : PySem.W.Frag} {mg : Str → Option Value} {base : Heap}
abbrev s_is_name : Stmt := topS 15
theorem sc_is_name : FnScope ["thing", "sign"] ["thing"] (defScope s_is_name) := ⟨rfl, rfl, rfl, by decide +kernel, rfl, by decide +kernel, by decide +kernel⟩
def sp_is_name (K : PySem.W.Frag) : Sp := sp1 (Dd K) (fun d => shortD d) fun d => Bl (isNmD d)
theorem ok_is_name {f : Addr} {fd : FuncData} (F : Fun K "is_name" "is_name" s_is_name f fd) (T : Gb mg) : FnOk P w K mg base CX0 1 f fd ["thing"] (sp_is_name K) := by
  refine F.ok sc_is_name (fun vs H Q E h => ?_) (fun cdv A outer s H vs Q E hr h => ?_)
  · obtain ⟨x, M, v, rfl, _⟩ := h
    rfl
  · obtain ⟨d, M, v, rfl, mh, r1, hp, q⟩ := h
    have hu := hr.units
    obtain ⟨tk, hL⟩ := T.g_LETTERS
    refine ⟨_, (pss_one (ps_ret (pe_and (pe_callB call_isi (by rfl) T.isinstance boot_isinstance (pa_cons (pv 0) (pa_cons (pe_bltn (v := .ty "str") (u := .type "str") (by rfl) T.str (by decide +kernel) rfl) pa_nil))) (pe_and (pe_chain op_le op_le pe_int (pe_callB call_lenA (by rfl) T.len boot_len (pa_cons (pv 0) pa_nil)) pe_int) (pe_one (pe_callB (cr_all rfl) (by rfl) T.all boot_all (pa_cons (pe_lc (own := [("sign", 1)]) (g := (gName 1)) (tt := tYes) (te := (tOp (rInA K false) (tVar 1) (tC (.str g_LETTERS)))) (by rfl) sc_is_name.nd (pi_str (pv 0)) (blkOk_by (by rfl)) (fun _ _ _ _ _ => (pg_name (i := 1) sc_is_name.nd rfl (by first | exact .inl rfl | exact .inr rfl))) (fun _ _ _ _ _ => pts_nil) (fun _ _ _ _ _ => (pe_cmpR (op_inA hu) (pv 1) (pe_glob (by rfl) hL ⟨_, rfl⟩) (by rfl)))) pa_nil))))))), ?_⟩
    have hv : Gv (tVar 0) (start ["thing", "sign"] [v]) M (Dd K d) := gv_var rfl r1
    cases d with
    | str x =>
      cases r1
      have hx : Gv (tVar 0) (start ["thing", "sign"] [.str x]) M (Tx x) := gv_var rfl rfl
      refine s_ret mh (gv_is (gv_andV (gv_isi (b := true) hv (by simp only [tyN]; decide +kernel)) fun _ => gv_andV (gv_chain (gv_c rfl) (gv_lenS (K := K) hx (sz1000 hp)) (gv_c rfl)) fun hb => gv_all (K := K)
        (gl_m1 (S := Bl) (gi_str hx) ?_ (fun c => decide (c ∈ g_LETTERS.cps.toList)) fun c _ M1 v sm r => gv_is (gv_sgn (K := K) (c := c) (gv_var rfl r) (gv_c rfl)) fun M' v h => by simpa using h)) fun M' v h => ?_) q
      · exact sz1000 (by rw [Array.length_toList]; exact hp)
      · show v = .bl (isNm x)
        rw [show v = _ from h]
        have e1 : ∀ n : Nat, decide ((1 : Int) ≤ (n : Int)) = decide (1 ≤ n) := fun n => by simp only [decide_eq_decide]; omega
        have e2 : ∀ n : Nat, decide ((n : Int) ≤ 8) = decide (n ≤ 8) := fun n => by simp only [decide_eq_decide]; omega
        simp only [isNm, List.all_map, Bool.true_and, e1, e2]
        rfl
    | _ => exact s_ret mh (gv_andV (c := false) (gv_isi (b := false) hv (by simp only [tyN]; decide +kernel)) fun h => nomatch h) q
abbrev s_checked_names : Stmt := topS 16
theorem sc_checked_names : FnScope ["things", "known", "found", "index", "thing"] ["things", "known"] (defScope s_checked_names) := ⟨rfl, rfl, rfl, by decide +kernel, rfl, by decide +kernel, by decide +kernel⟩
/-- names, no one twice, none known -/
def NamesOk (xs known : List Str) : Prop := xs.Nodup ∧ (∀ x ∈ xs, isNm x = true ∧ x ∉ known) ∧ xs.length ≤ 1000
theorem isNm_len {x : Str} (h : isNm x = true) : x.length ≤ 8 := by
  simp only [isNm, Bool.and_eq_true, decide_eq_true_eq] at h
  exact h.1.2
def sp_checked_names (K : PySem.W.Frag) : Sp := sp2 (SqR K Tx) (SqR K Tx) (fun xs known => NamesOk xs known) fun xs _ => TT xs
theorem ok_checked_names {f : Addr} {fd : FuncData} (F : Fun K "checked_names" "checked_names" s_checked_names f fd) (T : Gb mg) (c_is_name : Cal P w K mg base 1 "is_name" ["thing"] (sp_is_name K)) : FnOk P w K mg base CX0 2 f fd ["things", "known"] (sp_checked_names K) := by
  refine F.ok sc_checked_names (fun vs H Q E h => ?_) (fun cdv A outer s H vs Q E hr h => ?_)
  · obtain ⟨x, y, M, v, w, rfl, _⟩ := h
    rfl
  · obtain ⟨xs, kn, M, v, w, rfl, mh, r1, r2, hp, q⟩ := h
    have hu := hr.units
    refine ⟨_, (pss_cons (ps_set (i := 2) sc_checked_names.nd rfl (by first | exact .inl rfl | exact .inr rfl) (pe_lst pa_nil))
      (pss_cons (ps_for PassesOwn.never (by rfl) (pi_en (by rfl) T.enumerate (pa_cons (pv 0) pa_nil)) (pg_tup (by rfl) (pgs_cons (pg_name (i := 3) sc_checked_names.nd rfl (by first | exact .inl rfl | exact .inr rfl)) (pgs_cons (pg_name (i := 4) sc_checked_names.nd rfl (by first | exact .inl rfl | exact .inr rfl)) pgs_nil))) (pss_cons (ps_if (PW.pt (pw_or (pt_not (pt_val (pe_f c_is_name (hr.mono (by decide)) (pa_cons (pv 4) pa_nil)))) (pw_or (pt_cmpR (op_inA hu) (pv 4) (pv 2) (by rfl)) (pw_or1 (pt_cmpR (op_inA hu) (pv 4) (pv 1) (by rfl)))))) (pss_one ps_never) pss_nil)
      (pss_one (ps_expr (pe_bm PySem.F.plainAttrs_list PySem.F.slot_list_append PySem.F.type_list_append mt_append (pv 2) (pa_cons (pv 4) pa_nil))))))
      (pss_one (ps_ret (pe_callTy call_tupA (by rfl) T.tuple boot_tuple (pa_cons (pv 2) pa_nil)))))), ?_⟩
    obtain ⟨nd, ok, hl⟩ := hp
    refine q_asgL mh gl_nil fun p vs M2 H2 g2 h0 m0 hp2 hv => ?_
    subst hv
    refine q_forE (R1 := Tx) (xs := xs) g2.mh (gv_var rfl (Mon.mono g2.mm r1))
      (fun M1' i σ' M' H' => ∃ y3 y4, Gr M H M' H' ∧ Same M1' M' ∧ Same M M' ∧ Own H M' H' p ((xs.take i).map V.str) ∧ σ' = [some v, some w, some (.ref p), y3, y4])
      (fun M3 H3 g3 => ⟨none, none, g2.trans g3, Same.refl _, (g2.trans g3).mm, Own.step ⟨h0, m0, hp2⟩ g3, rfl⟩)
      (fun M3 i σ' M' H' ⟨_, _, g, s1, _⟩ => ⟨s1, g.mh⟩) ?_ ?_
    · rintro M3 i x v' σ' M' H' H'' sM hx ⟨y3, y4, g, s1, s2, ow, rfl⟩ gE rx
      cases rx
      have hxm : x ∈ xs := List.mem_of_getElem? hx
      have hil : i < xs.length := (List.getElem?_eq_some_iff.mp hx).1
      have et : xs.take (i + 1) = xs.take i ++ [x] := by rw [List.take_add_one, hx]; rfl
      have hnt : x ∉ xs.take i := fun hm => by
        obtain ⟨k, hk, ek⟩ := List.mem_take_iff_getElem.mp hm
        have e2 := (List.getElem?_eq_some_iff.mp hx).2
        have := (List.getElem_inj nd).mp (ek.trans e2.symm)
        omega
      have g' := g.trans gE
      have ow' := ow.step gE
      have up := ow'.up
      refine q_if (ow'.fr g'.mh) (b := false) (gt_is (gt_or (c := false) (gt_not (gt_B (gv_call1 (R1 := Dd K) (x := .str x) (gv_var rfl (.str x)) (Nat.le_trans (isNm_len (ok x hxm).1) (by decide))))) fun _ => gt_is (gt_or (c := false)
          (gt_test (gv_inA (K := K) (gv_var rfl rfl) (gv_var rfl (.inl (.inl (ow'.lst (pd_of_tx _))))))) fun _ => gt_is (gt_test (gv_inA (K := K) (gv_var rfl rfl) (gv_var rfl (.inl (Mon.mono (s2.trans up) r2))))) (by simp [(ok x hxm).2])) (by simp [hnt])) (by simp [isNmD, (ok x hxm).1]))
        (fun hb => nomatch hb) (fun _ H4 hh4 => ?_)
      have g4 := g'.trans (.idle g'.mh hh4)
      have ow4 := ow'.idle hh4
      refine s_app (P := Tx x) g4.mh rfl ow4.h (szL (by simp; omega)) (gv_var rfl rfl) fun v5 M5 H5 g5 r5 => ?_
      cases r5
      have ow5 := ow4.step g5
      refine ⟨M5, _, _, (g4.trans g5).mut ow5.h0 ow5.m, s1.trans g5.mm, s2.trans g5.mm, ?_, rfl⟩
      rw [et, List.map_append]
      exact ow5.put
    · rintro M3 σ' M' H' sM ⟨y3, y4, g, s1, s2, ow, rfl⟩
      rw [List.take_length] at ow
      exact s_retTup g.mh rfl ow.h fun l nl => q _ _ _ (g.trans (.new g.mh nl)) (TT.new _)
end
end My

set_option Elab.async false
set_option linter.all false
set_option maxRecDepth 100000
set_option maxHeartbeats 4000000
namespace My
open PySem PySem.Spec PyProof.Rows L2 L3
/-- a code: signs, helpers, clauses -/
structure CodeD where
  signs : List Str
  helpers : List Str
  clauses : List (List Str)
def CodeD.names (c : CodeD) : List Str := c.signs ++ c.helpers
def codeF (va vb vn vc : V) : List (Str × V) := putF "clause_row" vc (putF "names" vn (putF "helper_row" vb (putF "sign_row" va [])))
def CodeR (C : Addr) : Rl CodeD := fun c M v => ∃ a dx va vb vn vc, v = .ref a ∧ M a = some (.ins C dx (codeF va vb vn vc)) ∧ TT c.signs M va ∧ TT c.helpers M vb ∧ TT c.names M vn ∧ TuR TT c.clauses M vc
instance {C : Addr} : Mon (CodeR C) := ⟨fun e ⟨a, dx, va, vb, vn, vc, h1, h2, h3, h4, h5, h6⟩ => ⟨a, dx, va, vb, vn, vc, h1, e _ _ h2, Mon.mono e h3, Mon.mono e h4, Mon.mono e h5, Mon.mono e h6⟩⟩
/-- the class as the top has made it -/
structure CodeT (K : PySem.W.Frag) (mg : Str → Option Value) (C : Addr) : Prop where
  cl : Cls K C
  nS : NoAttr K C "sign_row"
  nH : NoAttr K C "helper_row"
  nN : NoAttr K C "names"
  nC : NoAttr K C "clause_row"
def mkCode (ss hs : List Str) (cs : List (List Str)) : CodeD := ⟨ss, hs, once (cs.map fun c => asc c (ss ++ hs))⟩
theorem codeF_sign (va vb vn vc : V) : (codeF va vb vn vc).lookup ("sign_row" : Str) = some va := by
  unfold codeF
  rw [lookup_putF, if_neg (by decide +kernel), lookup_putF, if_neg (by decide +kernel), lookup_putF, if_neg (by decide +kernel), lookup_putF, if_pos rfl]
theorem codeF_names (va vb vn vc : V) : (codeF va vb vn vc).lookup ("names" : Str) = some vn := by
  unfold codeF
  rw [lookup_putF, if_neg (by decide +kernel), lookup_putF, if_pos rfl]
theorem codeF_clause (va vb vn vc : V) : (codeF va vb vn vc).lookup ("clause_row" : Str) = some vc := by
  unfold codeF
  rw [lookup_putF, if_pos rfl]
section
variable {K : PySem.W.Frag} {mg : Str → Option Value} {σ : Sl} {M : Hp} {te : TE} {C : Addr} {c : CodeD}
theorem gv_sign (T : CodeT K mg C) (h : Gv te σ M (CodeR C c)) : Gv (tFld K te "sign_row") σ M (TT c.signs) := gv_fld h fun M' v ⟨a, dx, va, vb, vn, vc, h1, h2, h3, h4, h5, h6⟩ => ⟨a, C, dx, _, va, h1, h2, T.cl, T.nS, codeF_sign .., h3⟩
theorem gv_names (T : CodeT K mg C) (h : Gv te σ M (CodeR C c)) : Gv (tFld K te "names") σ M (TT c.names) := gv_fld h fun M' v ⟨a, dx, va, vb, vn, vc, h1, h2, h3, h4, h5, h6⟩ => ⟨a, C, dx, _, vn, h1, h2, T.cl, T.nN, codeF_names .., h5⟩
theorem gv_clause (T : CodeT K mg C) (h : Gv te σ M (CodeR C c)) : Gv (tFld K te "clause_row") σ M (TuR TT c.clauses) := gv_fld h fun M' v ⟨a, dx, va, vb, vn, vc, h1, h2, h3, h4, h5, h6⟩ => ⟨a, C, dx, _, vc, h1, h2, T.cl, T.nC, codeF_clause .., h6⟩
end
section
variable {P : Program} {w : World} {K : PySem.W.Frag} {mg : Str → Option Value} {base : Heap}
def ClOk (ns c : List Str) : Prop := fwGo ns (c.map PyData.str) [] 0 = none ∧ c.length ≤ 1000000 ∧ ∀ l ∈ c, l.length ≤ 1000
theorem cl_d {ns c : List Str} {M : Hp} {v : V} (h : SqR K Tx c M v) (ok : ClOk ns c) : ∃ d, Dp K M v d ∧ shortL d ∧ firstWrong ns d = none := by
  have hs : ∀ d ∈ c.map PyData.str, shortD d := fun d hd => by
    obtain ⟨l, hl, rfl⟩ := List.mem_map.mp hd
    exact ok.2.2 l hl
  rcases h with h | h
  · exact ⟨_, py_lst py_str _ _ _ h, ⟨by rw [List.length_map]; exact ok.2.1, hs⟩, ok.1⟩
  · exact ⟨_, py_tup py_str _ _ _ h, ⟨by rw [List.length_map]; exact ok.2.1, hs⟩, ok.1⟩
abbrev s_checked_clauses : Stmt := topS 29
theorem sc_checked_clauses : FnScope ["clauses", "names", "found", "index", "thing"] ["clauses", "names"] (defScope s_checked_clauses) := ⟨rfl, rfl, rfl, by decide +kernel, rfl, by decide +kernel, by decide +kernel⟩
def sp_checked_clauses (K : PySem.W.Frag) : Sp := sl2 (SqR K (SqR K Tx)) (SqR K Tx) (fun cs ns => Shorts ns ∧ cs.length ≤ 1000000 ∧ ∀ c ∈ cs, ClOk ns c) fun cs ns M ws => Pd TT M (cs.map fun c => asc c ns) ws
theorem ok_checked_clauses {f : Addr} {fd : FuncData} (F : Fun K "checked_clauses" "checked_clauses" s_checked_clauses f fd) (T : Gb mg) (c_first_wrong : Cal P w K mg base 3 "first_wrong" ["things", "names"] (sp_first_wrong K)) (c_ascending : Cal P w K mg base 1 "ascending" ["literals", "names"] (sp_ascending K)) :
    FnOk P w K mg base CX0 4 f fd ["clauses", "names"] (sp_checked_clauses K) := by
  refine F.ok sc_checked_clauses (fun vs H Q E h => ?_) (fun cdv A outer s H vs Q E hr h => ?_)
  · obtain ⟨x, y, M, v, w, rfl, _⟩ := h
    rfl
  · obtain ⟨cs, ns, M, v, w, rfl, mh, r1, r2, ⟨hsh, hcl, hok⟩, q⟩ := h
    have hu := hr.units
    refine ⟨_, (pss_cons (ps_set (i := 2) sc_checked_clauses.nd rfl (by first | exact .inl rfl | exact .inr rfl) (pe_lst pa_nil))
      (pss_cons (ps_for PassesOwn.never (by rfl) (pi_en (by rfl) T.enumerate (pa_cons (pv 0) pa_nil)) (pg_tup (by rfl) (pgs_cons (pg_name (i := 3) sc_checked_clauses.nd rfl (by first | exact .inl rfl | exact .inr rfl)) (pgs_cons (pg_name (i := 4) sc_checked_clauses.nd rfl (by first | exact .inl rfl | exact .inr rfl)) pgs_nil))) (pss_cons (ps_if (pt_cmp (pc_notN (pe_f c_first_wrong (hr.mono (by decide)) (pa_cons (pv 4) (pa_cons (pv 1) pa_nil))))) (pss_one ps_never) pss_nil)
      (pss_one (ps_expr (pe_bm PySem.F.plainAttrs_list PySem.F.slot_list_append PySem.F.type_list_append mt_append (pv 2) (pa_cons (pe_f c_ascending (hr.mono (by decide)) (pa_cons (pv 4) (pa_cons (pv 1) pa_nil))) pa_nil))))))
      (pss_one (ps_ret (pv 2))))), ?_⟩
    refine q_asgL mh gl_nil fun p vs M2 H2 g2 h0 m0 hp2 hv => ?_
    subst hv
    refine q_forE (R1 := SqR K Tx) (xs := cs) g2.mh (gv_var rfl (Mon.mono g2.mm r1))
      (fun M1' i σ' M' H' => ∃ y3 y4 ws, Gr M H M' H' ∧ Same M1' M' ∧ Same M M' ∧ Own H M' H' p ws ∧ Pd TT M' ((cs.take i).map fun c => asc c ns) ws ∧ σ' = [some v, some w, some (.ref p), y3, y4])
      (fun M3 H3 g3 => ⟨none, none, [], g2.trans g3, Same.refl _, (g2.trans g3).mm, Own.step ⟨h0, m0, hp2⟩ g3, .nil, rfl⟩)
      (fun M3 i σ' M' H' ⟨_, _, _, g, s1, _⟩ => ⟨s1, g.mh⟩) ?_ ?_
    · rintro M3 i c v' σ' M' H' H'' sM hx ⟨y3, y4, ws, g, s1, s2, ow, hpd, rfl⟩ gE rx
      have hxm : c ∈ cs := List.mem_of_getElem? hx
      have hil : i < cs.length := (List.getElem?_eq_some_iff.mp hx).1
      have et : cs.take (i + 1) = cs.take i ++ [c] := by rw [List.take_add_one, hx]; rfl
      obtain ⟨d, hd, hshd, hfw⟩ := cl_d rx (hok c hxm)
      have g' := g.trans gE
      have ow' := ow.step gE
      have r2' : SqR K Tx ns M' w := Mon.mono s2 r2
      refine q_if g'.mh (b := false) (gt_B (gv_is (gv_notN (b := true) (gv_call2 (R1 := Dd K) (R2 := SqR K Tx) (gv_var rfl hd) (gv_var rfl r2') hshd) fun M4 v4 h4 => ?_) fun _ _ h => h)) (fun hb => nomatch hb) (fun _ H4 hh4 => ?_)
      · have h4' : v4 = match firstWrong ns d with | none => V.non | some i => V.int (i : Nat) := h4
        rw [hfw] at h4'
        rw [h4']
        rfl
      · have g4 := g'.trans (.idle g'.mh hh4)
        have ow4 := ow'.idle hh4
        have hwl : ws.length = i := by rw [← hpd.length, List.length_map, List.length_take]; omega
        refine s_app (P := TT (asc c ns)) g4.mh rfl ow4.h (szL (by omega)) (gv_call2 (R1 := CtR K) (R2 := SqR K Tx) (gv_var rfl (.inl rx)) (gv_var rfl r2') hsh) fun v5 M5 H5 g5 r5 => ?_
        have ow5 := ow4.step g5
        refine ⟨M5, _, _, ws ++ [v5], (g4.trans g5).mut ow5.h0 ow5.m, s1.trans g5.mm, s2.trans g5.mm, ow5.put, ?_, rfl⟩
        rw [et, List.map_append]
        exact pd_app (hpd.mono g5.mm) (.cons r5 .nil)
    · rintro M3 σ' M' H' sM ⟨y3, y4, ws, g, s1, s2, ow, hpd, rfl⟩
      rw [List.take_length] at hpd
      exact ⟨.ref p, rfl, q p ws M' H' g ow.h0 ow.m ow.h hpd⟩
abbrev s_Code_init : Stmt := inClass (topS 30) 0
theorem sc_Code_init : FnScope ["self", "signs", "clauses", "helpers", "clause"] ["self", "signs", "clauses", "helpers"] (defScope s_Code_init) := ⟨rfl, rfl, rfl, by decide +kernel, rfl, by decide +kernel, by decide +kernel⟩
/-- names and clauses that a code takes -/
structure CodeOk (ss hs : List Str) (cs : List (List Str)) : Prop where
  s : NamesOk ss []
  h : NamesOk hs ss
  n : cs.length ≤ 1000000
  c : ∀ c ∈ cs, ClOk (ss ++ hs) c
  k : (ss ++ hs).length ≤ 1000
def sp_Code_init (K : PySem.W.Frag) (C : Addr) : Sp := fun vs H Q _ => ∃ ss hs cs M Hb x dx v1 v2 v3, vs = [.ref x, v1, v2, v3] ∧ Gr M Hb M H ∧ Hb x = none ∧ M x = none ∧ H x = some (.ins C dx []) ∧
  SqR K Tx ss M v1 ∧ SqR K (SqR K Tx) cs M v2 ∧ SqR K Tx hs M v3 ∧ CodeOk ss hs cs ∧ ∀ M' H', Gr M Hb M' H' → CodeR C (mkCode ss hs cs) M' (.ref x) → Q .non H'
theorem ok_Code_init {f C : Addr} {fd : FuncData} {dvs : List V} (F : FunD K "__init__" "Code.__init__" (defArgs s_Code_init) (defBody s_Code_init) (defScope s_Code_init) dvs [] f fd) (T : Gb mg) (TC : CodeT K mg C) (c_checked_names : Cal P w K mg base 2 "checked_names" ["things", "known"] (sp_checked_names K)) (c_checked_clauses : Cal P w K mg base 4 "checked_clauses" ["clauses", "names"] (sp_checked_clauses K)) :
    FnOk P w K mg base CX0 5 f fd ["self", "signs", "clauses", "helpers"] (sp_Code_init K C) := by
  refine funD_ok F sc_Code_init (fun vs H Q E h => ?_) (fun cdv A outer s H vs Q E hr h => ?_)
  · obtain ⟨_, _, _, _, _, _, _, _, _, _, rfl, _⟩ := h
    rfl
  · obtain ⟨ss, hs, cs, M, Hb, x, dx, v1, v2, v3, rfl, g0, hb, hm, hx, r1, r2, r3, ok, q⟩ := h
    have hu := hr.units
    refine ⟨_, (pss_cons (ps_fld (pv 0) (pe_f c_checked_names (hr.mono (by decide)) (pa_cons (pv 1) (pa_cons (pe_tup pa_nil) pa_nil))) rfl)
      (pss_cons (ps_fld (pv 0) (pe_f c_checked_names (hr.mono (by decide)) (pa_cons (pv 3) (pa_cons (pe_fld (pv 0) rfl) pa_nil))) rfl)
      (pss_cons (ps_fld (pv 0) (pe_op op_addA (pe_fld (pv 0) rfl) (pe_fld (pv 0) rfl)) rfl)
      (pss_one (ps_fld (pv 0) (pe_callTy (call_tupD (by rfl)) (by rfl) T.tuple boot_tuple (pa_cons (pe_dcT (own := [("clause", 4)]) (g := (gName 4)) (tt := tYes) (tk := (tVar 4)) (tv := (tC (.bl true))) hu (by rfl) sc_Code_init.nd (pi_sq (pe_f c_checked_clauses (hr.mono (by decide)) (pa_cons (pv 2) (pa_cons (pe_fld (pv 0) rfl) pa_nil)))) (blkOk_by (by rfl)) (fun _ _ _ _ _ => (pg_name (i := 4) sc_Code_init.nd rfl (by first | exact .inl rfl | exact .inr rfl))) (fun _ _ _ _ _ => pts_nil) (fun _ _ _ _ _ => (pv 4)) (fun _ _ _ _ _ => pe_bl)) pa_nil)) rfl))))), ?_⟩
    -- self.sign_row = checked_names(signs, ())
    refine q_fld (P := TT ss) g0.mh hm hx rfl TC.cl TC.nS (by decide) (gv_call2 (R1 := SqR K Tx) (R2 := SqR K Tx) (x := ss) (y := []) (gv_var rfl (Mon.mono (same_new hm) r1)) (gv_is gv_nilT fun _ _ h => h.sq) ok.s) fun va M1 H1 g1 m1 ra => ?_
    have G1 := (g0.trans g1).mut (o := .ins C dx (putF "sign_row" va [])) hb m1
    -- self.helper_row = checked_names(helpers, self.sign_row)
    have z1 : (putF "sign_row" va []).length ≤ 1 := putF_len (Nat.le_refl 0)
    have e1 := same_new (o := .ins C dx (putF "sign_row" va [])) m1
    refine q_fld (P := TT hs) G1.mh m1 upd_same rfl TC.cl TC.nH (lt1000 z1) (gv_call2 (R1 := SqR K Tx) (R2 := SqR K Tx) (x := hs) (y := ss) (gv_var rfl (Mon.mono (g1.mm.trans e1) r3))
      (gv_is (gv_self (P := TT ss) rfl upd_same TC.cl TC.nS (by rw [lookup_putF, if_pos rfl]) (Mon.mono e1 ra)) fun _ _ h => h.sq) ok.h) fun vb M2 H2 g2 m2 rb => ?_
    have G2 := (G1.trans g2).mut (o := .ins C dx (putF "helper_row" vb (putF "sign_row" va []))) hb m2
    -- self.names = self.sign_row + self.helper_row
    have z2 : (putF "helper_row" vb (putF "sign_row" va [])).length ≤ 2 := putF_len z1
    have e2 := same_new (o := .ins C dx (putF "helper_row" vb (putF "sign_row" va []))) m2
    refine q_fld (P := TT (ss ++ hs)) G2.mh m2 upd_same rfl TC.cl TC.nN (lt1000 z2) (gv_addTT
      (gv_self rfl upd_same TC.cl TC.nS (by rw [lookup_putF, if_neg (by decide +kernel), lookup_putF, if_pos rfl]) (Mon.mono (g2.mm.trans e2) ra)) (gv_self rfl upd_same TC.cl TC.nH (by rw [lookup_putF, if_pos rfl]) (Mon.mono e2 rb))
      (sz1000 (by have := ok.k; rw [List.length_append] at this; exact this))) fun vn M3 H3 g3 m3 rn => ?_
    have G3 := (G2.trans g3).mut (o := .ins C dx (putF "names" vn (putF "helper_row" vb (putF "sign_row" va [])))) hb m3
    -- self.clause_row = tuple({clause: True for clause in checked_clauses(clauses, self.names)})
    have z3 : (putF "names" vn (putF "helper_row" vb (putF "sign_row" va []))).length ≤ 3 := putF_len z2
    have e3 := same_new (o := .ins C dx (putF "names" vn (putF "helper_row" vb (putF "sign_row" va [])))) m3
    have hshort : Shorts (ss ++ hs) := ⟨ok.k, fun n hn => by
      rcases List.mem_append.mp hn with h | h
      · exact Nat.le_trans (isNm_len (ok.s.2.1 n h).1) (by decide)
      · exact Nat.le_trans (isNm_len (ok.h.2.1 n h).1) (by decide)⟩
    refine s_fld (P := TuR TT (once (cs.map fun c => asc c (ss ++ hs)))) G3.mh m3 upd_same rfl TC.cl TC.nC (lt1000 z3) (gv_once (by show 4 < 5; decide) (gi_sq (K := K) ((gl_call2 (R1 := SqR K (SqR K Tx)) (R2 := SqR K Tx) (x := cs) (y := ss ++ hs)
      (gv_var rfl (Mon.mono ((g1.mm.trans g2.mm).trans (g3.mm.trans e3)) r2)) (gv_is (gv_self (P := TT (ss ++ hs)) rfl upd_same TC.cl TC.nN (by rw [lookup_putF, if_pos rfl]) (Mon.mono e3 rn)) fun _ _ h => h.sq) ⟨hshort, ok.n, ok.c⟩).gv
        fun M' vs p r m0 => .inl ⟨p, vs, rfl, .inl (.inl upd_same), Pd.mono (R := TT) (same_new m0) r⟩)) (by rw [List.length_map]; exact szM (Nat.le_trans ok.n (by decide)))) fun vc M4 H4 g4 m4 rc => ?_
    have G4 := ((G3.trans g4).mut (o := .ins C dx (codeF va vb vn vc)) hb m4).freeze hb m4 upd_same
    have e4 := same_new (o := .ins C dx (codeF va vb vn vc)) m4
    exact q _ _ G4 ⟨x, dx, va, vb, vn, vc, rfl, upd_same, Mon.mono ((g2.mm.trans g3.mm).trans (g4.mm.trans e4)) ra, Mon.mono (g3.mm.trans (g4.mm.trans e4)) rb, Mon.mono (g4.mm.trans e4) rn, Mon.mono e4 rc⟩
end
end My

set_option Elab.async false
set_option linter.all false
set_option maxRecDepth 100000
set_option maxHeartbeats 4000000
namespace My
open PySem PySem.Spec PyProof.Rows L2 L3
/-! the literals of a clause that are not denied -/
def openGo (so : List Str) : List Str → List Str → Option (List Str)
  | [], acc => some acc
  | l :: r, acc => if l ∈ so then none else openGo so r (if opp l ∈ so then acc else acc ++ [l])
def openOnes (so c : List Str) : Option (List Str) := openGo so c []
theorem openGo_eq (so : List Str) : ∀ c acc : List Str, openGo so c acc = if c.any (fun l => decide (l ∈ so)) then none else some (acc ++ c.filter fun l => decide (opp l ∉ so))
  | [], acc => by simp [openGo]
  | l :: r, acc => by
    rw [openGo, openGo_eq so r]
    by_cases h : l ∈ so
    · simp [h]
    · by_cases h2 : opp l ∈ so
      · simp [h, h2]
      · simp [h, h2]
theorem openOnes_eq (so c : List Str) : openOnes so c = if c.any (fun l => decide (l ∈ so)) then none else some (c.filter fun l => decide (opp l ∉ so)) := by
  unfold openOnes; rw [openGo_eq]; simp
def shortT (c : List Str) : Prop := c.length ≤ 1000000 ∧ ∀ l ∈ c, l.length ≤ 1000
section
variable {P : Program} {w : World} {K : PySem.W.Frag} {mg : Str → Option Value} {base : Heap}
abbrev s_open_ones : Stmt := topS 23
theorem sc_open_ones : FnScope ["clause", "so", "found", "literal"] ["clause", "so"] (defScope s_open_ones) := ⟨rfl, rfl, rfl, by decide +kernel, rfl, by decide +kernel, by decide +kernel⟩
def sp_open_ones (K : PySem.W.Frag) : Sp := sp2 (SqR K Tx) (CtR K) (fun c _ => shortT c) fun c so => OpR' (LiR Tx) (openOnes so c)
theorem ok_open_ones {f : Addr} {fd : FuncData} (F : Fun K "open_ones" "open_ones" s_open_ones f fd) (c_opposite : Cal P w K mg base 1 "opposite" ["literal"] (sp_opposite K)) : FnOk P w K mg base CX0 2 f fd ["clause", "so"] (sp_open_ones K) := by
  refine F.ok sc_open_ones (fun vs H Q E h => ?_) (fun cdv A outer s H vs Q E hr h => ?_)
  · obtain ⟨x, y, M, v, w, rfl, _⟩ := h
    rfl
  · obtain ⟨c, so, M, v, w, rfl, mh, r1, r2, hp, q⟩ := h
    have hu := hr.units
    refine ⟨_, (pss_cons (ps_set (i := 2) sc_open_ones.nd rfl (by first | exact .inl rfl | exact .inr rfl) (pe_lst pa_nil))
      (pss_cons (ps_for PassesOwn.never (by rfl) (pi_sq (pv 0)) (pg_name (i := 3) sc_open_ones.nd rfl (by first | exact .inl rfl | exact .inr rfl)) (pss_cons (ps_if (pt_cmpR (op_inA hu) (pv 3) (pv 1) (by rfl)) (pss_one (ps_ret pe_non)) pss_nil)
      (pss_one (ps_if (pt_cmpR (op_niA hu) (pe_f c_opposite (hr.mono (by decide)) (pa_cons (pv 3) pa_nil)) (pv 1) (by rfl)) (pss_one (ps_expr (pe_bm PySem.F.plainAttrs_list PySem.F.slot_list_append PySem.F.type_list_append mt_append (pv 2) (pa_cons (pv 3) pa_nil)))) pss_nil))))
      (pss_one (ps_ret (pv 2))))), ?_⟩
    refine q_asgL mh gl_nil fun p vs M2 H2 g2 h0 m0 hp2 hv => ?_
    subst hv
    refine q_for (R1 := Tx) (xs := c) g2.mh (gv_var rfl (Mon.mono g2.mm r1))
      (fun M1' i σ' M' H' => ∃ y3 acc, Gr M H M' H' ∧ Same M1' M' ∧ Same M M' ∧ acc.length ≤ i ∧ Own H M' H' p (acc.map V.str) ∧ σ' = [some v, some w, some (.ref p), y3] ∧ openOnes so c = openGo so (c.drop i) acc)
      (fun M3 H3 g3 => ⟨none, [], g2.trans g3, Same.refl _, (g2.trans g3).mm, Nat.le_refl _, Own.step ⟨h0, m0, hp2⟩ g3, rfl, rfl⟩)
      (fun M3 i σ' M' H' ⟨_, _, g, s1, _⟩ => ⟨s1, g.mh⟩) ?_ ?_
    · rintro M3 i x v' σ' M' H' sM hx ⟨y3, acc, g, s1, s2, hl, ow, rfl, eo⟩ rx
      cases rx
      have hxm : x ∈ c := List.mem_of_getElem? hx
      have hil : i < c.length := (List.getElem?_eq_some_iff.mp hx).1
      have ed : c.drop i = x :: c.drop (i + 1) := by rw [List.drop_eq_getElem_cons hil]; congr 1; exact (List.getElem?_eq_some_iff.mp hx).2
      have r2' : CtR K so M' w := Mon.mono s2 r2
      refine q_if0 g.mh (gt_test (gv_inA (K := K) (gv_var rfl rfl) (gv_var rfl r2'))) (fun hb H4 hh4 => ?_) (fun hb H4 hh4 => ?_)
      · refine s_ret (P := fun _ v => v = .non) (g.mh.trans hh4) (gv_c rfl) fun v5 M5 H5 g5 r5 => q v5 M5 H5 ((g.trans (.idle g.mh hh4)).trans g5) ?_
        show OpR' (LiR Tx) (openOnes so c) _ _
        rw [eo, ed, openGo, if_pos (by simpa using hb)]
        exact r5
      · have g4 := g.trans (.idle g.mh hh4)
        have ow4 := ow.idle hh4
        refine s_if0 g4.mh (gt_test (gv_inA (K := K) (gv_call1 (gv_var rfl rfl) (hp.2 x hxm)) (gv_var rfl r2'))) (fun hb2 H5 hh5 => ?_) (fun hb2 H5 hh5 => ?_)
        · have g5 := g4.trans (.idle g4.mh hh5)
          have ow5 := ow4.idle hh5
          refine s_app (P := Tx x) g5.mh rfl ow5.h (szL (by rw [List.length_map]; have := hp.1; omega)) (gv_var rfl rfl) fun v6 M6 H6 g6 r6 => ?_
          cases r6
          have ow6 := ow5.step g6
          refine ⟨M6, _, acc ++ [x], (g5.trans g6).mut ow6.h0 ow6.m, s1.trans g6.mm, s2.trans g6.mm, by rw [List.length_append]; exact Nat.succ_le_succ hl, ?_, rfl, ?_⟩
          · rw [List.map_append]
            exact ow6.put
          · rw [eo, ed, openGo, if_neg (by simpa using hb), if_neg (by simpa using hb2)]
        · have g5 := g4.trans (.idle g4.mh hh5)
          refine ⟨M', _, acc, g5, s1, s2, Nat.le_succ_of_le hl, ow4.idle hh5, rfl, ?_⟩
          rw [eo, ed, openGo, if_neg (by simpa using hb), if_pos (by simpa using hb2)]
    · rintro M3 σ' M' H' sM ⟨y3, acc, g, s1, s2, hl, ow, rfl, eo⟩
      refine ⟨.ref p, rfl, q _ _ _ (g.freeze ow.h0 ow.m ow.h) ?_⟩
      show OpR' (LiR Tx) (openOnes so c) _ _
      rw [eo, List.drop_length]
      exact ⟨p, _, rfl, upd_same, pd_of_tx acc⟩
end
end My

set_option Elab.async false
set_option linter.all false
set_option maxRecDepth 100000
set_option maxHeartbeats 4000000
namespace My
open PySem PySem.Spec PyProof.Rows L2 L3
abbrev Stp := Nat × Option Str
def optV : Option Str → V
  | none => .non | some l => .str l
/-- a step: a tuple (index, literal or None) -/
def StepR : Rl Stp := fun s M v => ∃ a, v = .ref a ∧ M a = some (.tup [.int (s.1 : Nat), optV s.2])
instance : Mon StepR := ⟨fun e ⟨a, h, r⟩ => ⟨a, h, e _ _ r⟩⟩
instance : Stl StepR := ⟨fun hn hx ⟨a, e, r⟩ => ⟨a, e, by rw [L3.del_ne (tup_ne hn hx r)]; exact r⟩⟩
/-- one walk over all clauses -/
def passGo : List (List Str) → Nat → List Str → List Stp → Bool → Except (List Stp) (List Str × List Stp × Bool)
  | [], _, so, st, mv => .ok (so, st, mv)
  | c :: r, i, so, st, mv => match openOnes so c with
    | some [] => .error (st ++ [(i, none)])
    | some [l] => passGo r (i + 1) (so ++ [l]) (st ++ [(i, some l)]) true
    | _ => passGo r (i + 1) so st mv
abbrev Res := Option (List Str) × List Stp
/-- following to its end -/
inductive Chase (cs : List (List Str)) : List Str → List Stp → Res → Prop
  | dead {so st st'} : passGo cs 0 so st false = .error st' → Chase cs so st (none, st')
  | done {so st so' st'} : passGo cs 0 so st false = .ok (so', st', false) → Chase cs so st (some so', st')
  | more {so st so' st' r} : passGo cs 0 so st false = .ok (so', st', true) → Chase cs so' st' r → Chase cs so st r
theorem Chase.fn {cs : List (List Str)} {so : List Str} {st : List Stp} {r : Res} (h : Chase cs so st r) : ∀ {r'}, Chase cs so st r' → r = r' := by
  induction h with
  | dead e =>
    intro r' h'
    cases h' with
    | dead e' => rw [e] at e'; cases e'; rfl
    | done e' => rw [e] at e'; cases e'
    | more e' _ => rw [e] at e'; cases e'
  | done e =>
    intro r' h'
    cases h' with
    | dead e' => rw [e] at e'; cases e'
    | done e' => rw [e] at e'; cases e'; rfl
    | more e' _ => rw [e] at e'; cases e'
  | more e _ ih =>
    intro r' h'
    cases h' with
    | dead e' => rw [e] at e'; cases e'
    | done e' => rw [e] at e'; cases e'
    | more e' h2 => rw [e] at e'; cases e'; exact ih h2
/-- how many literals of the clauses are not so yet -/
def mu (cs : List (List Str)) (so : List Str) : Nat := (cs.flatten.filter fun l => decide (l ∉ so)).length
theorem filter_lt {l : Str} {p q : Str → Bool} : ∀ {xs : List Str}, (∀ x, q x = true → p x = true) → l ∈ xs → p l = true → q l = false → (xs.filter q).length < (xs.filter p).length
  | [], _, h, _, _ => by cases h
  | x :: xs, hi, h, hp, hq => by
    have le : ∀ ys : List Str, (ys.filter q).length ≤ (ys.filter p).length := fun ys => by
      induction ys with
      | nil => exact Nat.le_refl _
      | cons y ys ih =>
        rw [List.filter_cons, List.filter_cons]
        by_cases hy : q y = true
        · rw [if_pos hy, if_pos (hi y hy)]; exact Nat.succ_le_succ ih
        · rw [if_neg hy]
          by_cases hy' : p y = true
          · rw [if_pos hy']; exact Nat.le_succ_of_le ih
          · rw [if_neg hy']; exact ih
    rw [List.filter_cons, List.filter_cons]
    rcases List.mem_cons.mp h with rfl | h
    · rw [if_neg (by rw [hq]; simp), if_pos hp]
      exact Nat.lt_succ_of_le (le xs)
    · have ih := filter_lt hi h hp hq
      by_cases hy : q x = true
      · rw [if_pos hy, if_pos (hi x hy)]; exact Nat.succ_lt_succ ih
      · rw [if_neg hy]
        by_cases hy' : p x = true
        · rw [if_pos hy']; exact Nat.lt_succ_of_lt ih
        · rw [if_neg hy']; exact ih
theorem mu_put {cs : List (List Str)} {c so : List Str} {l : Str} (hc : c ∈ cs) (hl : l ∈ c) (hs : l ∉ so) : mu cs (so ++ [l]) < mu cs so := by
  refine filter_lt (l := l) (fun x h => ?_) (List.mem_flatten.mpr ⟨c, hc, hl⟩) (by simpa using hs) (by simp)
  simp only [List.mem_append, decide_eq_true_eq, not_or] at h ⊢
  exact h.1
theorem open_one {so c : List Str} {l : Str} (h : openOnes so c = some [l]) : l ∈ c ∧ l ∉ so := by
  rw [openOnes_eq] at h
  split at h
  · cases h
  · rename_i hn
    have e := Option.some.inj h
    have hm : l ∈ c.filter fun l => decide (opp l ∉ so) := by rw [e]; simp
    have h1 := List.mem_filter.mp hm
    refine ⟨h1.1, fun hs => hn ?_⟩
    rw [List.any_eq_true]
    exact ⟨l, h1.1, by simpa using hs⟩
theorem onceP_new {so : List Str} {l : Str} (h : l ∉ so) : onceP so l = so ++ [l] := by unfold onceP; rw [if_neg h]
def optD : Option (List Str) → PyData
  | none => .none | some ls => .list (ls.map .str)
theorem optD_eq (o : Option (List Str)) (xs : List Str) : PyData.eqv (optD o) (.list (xs.map .str)) = decide (o = some xs) := by
  cases o with
  | none => simp [optD, PyData.eqv]
  | some ls =>
    have h := inj_lst inj_str ls xs
    simp only [optD]
    rw [h]
    simp
theorem depthS : ∀ ls : List Str, PyData.depthAll (ls.map .str) = 0
  | [] => by simp [PyData.depthAll]
  | l :: r => by simp [PyData.depthAll, PyData.depth, depthS r]
theorem depthO (o : Option (List Str)) : (optD o).depth ≤ 60 := by
  cases o with
  | none => simp [optD, PyData.depth]
  | some ls => simp [optD, PyData.depth, depthS]
section
variable {K : PySem.W.Frag} {σ : Sl} {M : Hp} {ta tb : TE}
theorem py_opL : PyR K (OpR' (LiR Tx)) optD := fun o M v h => by
  cases o with
  | none => cases (show v = .non from h); exact .non
  | some ls => exact py_lst py_str _ _ _ (LiR.lst (K := K) (show LiR Tx ls M v from h))
theorem gv_nilD : Gv (tLst tNil) σ M (Dd K (.list [])) := gl_nil.gv fun M vs p h m => by subst h; exact .lst (.inl (.inl upd_same)) .nil
theorem gv_step {i : Nat} {l : Str} (ha : Gv ta σ M (It' (i : Int))) (hb : Gv tb σ M (Tx l)) : Gv (tTup (tCons ta (tCons tb tNil))) σ M (StepR (i, some l)) := fun H mh Q q =>
  ha H mh _ fun v M1 H1 g1 p1 => hb.le g1.mm H1 g1.mh _ fun w M2 H2 g2 p2 => ⟨by show 2 ≤ sizeLine; decide, fun p np => q _ _ _ ((g1.trans g2).trans (.new g2.mh np)) ⟨p, rfl, by rw [upd_same, show v = _ from p1, show w = _ from p2]; rfl⟩⟩
theorem opL_non {o : Option (List Str)} {M : Hp} {v : V} (h : OpR' (LiR Tx) o M v) : decide (v = .non) = o.isNone := by
  cases o with
  | none => cases (show v = .non from h); rfl
  | some ls => obtain ⟨a, vs, e, _⟩ := (show LiR Tx ls M v from h); subst e; rfl
end
section
variable {P : Program} {w : World} {K : PySem.W.Frag} {mg : Str → Option Value} {base : Heap}
abbrev s_chase : Stmt := topS 24
theorem sc_chase : FnScope ["clauses", "setting", "so", "steps", "is_moved", "index", "clause", "left", "literal"] ["clauses", "setting"] (defScope s_chase) := ⟨rfl, rfl, rfl, by decide +kernel, rfl, by decide +kernel, by decide +kernel⟩
structure ChOk (cs : List (List Str)) (hs : List Str) : Prop where
  c : ∀ c ∈ cs, shortT c
  n : cs.flatten.length ≤ 1000000
  k : cs.length ≤ 1000000
  h : hs.length ≤ 1000000
def sp_chase (K : PySem.W.Frag) : Sp := fun vs H Q _ => ∃ cs hs M v w, vs = [v, w] ∧ Same M H ∧ SqR K (SqR K Tx) cs M v ∧ SqR K Tx hs M w ∧ ChOk cs hs ∧
  ∀ r t u p ws M' H', Chase cs (once hs) [] r → Gr M H M' H' → H p = none → M' p = none → H' p = some (.lst ws) → Pd StepR M' r.2 ws → OpR' DcF r.1 M' u → M' t = some (.tup [u, .ref p]) → Q (.ref t) H'
theorem once_len' (hs : List Str) : (once hs).length ≤ hs.length := by
  have go : ∀ (xs acc : List Str), (xs.foldl onceP acc).length ≤ acc.length + xs.length := by
    intro xs
    induction xs with
    | nil => intro acc; exact Nat.le_refl _
    | cons x xs ih =>
      intro acc
      have h1 := ih (onceP acc x)
      have h2 := onceP_len acc x
      rw [List.foldl_cons, List.length_cons]
      omega
  have := go hs []
  simpa [once] using this
theorem ok_chase {f : Addr} {fd : FuncData} (F : Fun K "chase" "chase" s_chase f fd) (T : Gb mg) (c_open_ones : Cal P w K mg base 2 "open_ones" ["clause", "so"] (sp_open_ones K)) : FnOk P w K mg base CX0 3 f fd ["clauses", "setting"] (sp_chase K) := by
  refine F.ok sc_chase (fun vs H Q E h => ?_) (fun cdv A outer s H vs Q E hr h => ?_)
  · obtain ⟨x, y, M, v, w, rfl, _⟩ := h
    rfl
  · obtain ⟨cs, hs, M, v, w, rfl, mh, r1, r2, ok, q⟩ := h
    have hu := hr.units
    refine ⟨_, (pss_cons (ps_par3 (i := 2) (j := 3) (l := 4) (by rfl) sc_chase.nd rfl rfl rfl (by decide) (by decide) (by decide) rfl rfl rfl (pa_cons (pe_dc (own := [("literal", 8)]) (g := (gName 8)) (tt := tYes) (tk := (tVar 8)) (tv := (tC (.bl true))) (by rfl) sc_chase.nd (pi_sq (pv 1)) (blkOk_by (by rfl)) (fun _ _ _ _ _ => (pg_name (i := 8) sc_chase.nd rfl (by first | exact .inl rfl | exact .inr rfl))) (fun _ _ _ _ _ => pts_nil) (fun _ _ _ _ _ => (pv 8)) (fun _ _ _ _ _ => pe_bl)) (pa_cons (pe_lst pa_nil) (pa_cons pe_bl pa_nil))) (by rfl))
      (pss_cons (ps_while PassesOwn.never (pt_val (pv 4)) (pss_cons (ps_set (i := 4) sc_chase.nd rfl (by first | exact .inl rfl | exact .inr rfl) pe_bl)
      (pss_one (ps_for PassesOwn.never (by rfl) (pi_en (by rfl) T.enumerate (pa_cons (pv 0) pa_nil)) (pg_tup (by rfl) (pgs_cons (pg_name (i := 5) sc_chase.nd rfl (by first | exact .inl rfl | exact .inr rfl)) (pgs_cons (pg_name (i := 6) sc_chase.nd rfl (by first | exact .inl rfl | exact .inr rfl)) pgs_nil))) (pss_cons (ps_set (i := 7) sc_chase.nd rfl (by first | exact .inl rfl | exact .inr rfl) (pe_f c_open_ones (hr.mono (by decide)) (pa_cons (pv 6) (pa_cons (pv 2) pa_nil))))
      (pss_cons (ps_if (pt_cmpR (op_eqP hu) (pv 7) (pe_lst pa_nil) (nomark _)) (pss_one (ps_ret (pe_tup (pa_cons pe_non (pa_cons (pe_op op_addA (pv 3) (pe_lst (pa_cons (pe_tup (pa_cons (pv 5) (pa_cons pe_non pa_nil))) pa_nil))) pa_nil))))) pss_nil)
      (pss_one (ps_if (PW.pt (pw_and (pt_cmp (pc_notN (pv 7))) (pw_and1 (pt_cmpR (op_eqP hu) (pe_callB call_lenA (by rfl) T.len boot_len (pa_cons (pv 7) pa_nil)) pe_int (nomark _))))) (pss_cons (ps_dput (Nat.lt_of_le_of_lt (Nat.add_le_add_left (by decide) _) hu) (pv 2) (pe_ix ix_X (pv 7) pe_int (fun _ _ => rfl)) pe_bl rfl)
      (pss_cons (ps_expr (pe_bm PySem.F.plainAttrs_list PySem.F.slot_list_append PySem.F.type_list_append mt_append (pv 3) (pa_cons (pe_tup (pa_cons (pv 5) (pa_cons (pe_ix ix_X (pv 7) pe_int (fun _ _ => rfl)) pa_nil))) pa_nil)))
      (pss_one (ps_set (i := 4) sc_chase.nd rfl (by first | exact .inl rfl | exact .inr rfl) pe_bl)))) pss_nil))))))))
      (pss_one (ps_ret (pe_tup (pa_cons (pe_frz (pv 2)) (pa_cons (pv 3) pa_nil))))))), ?_⟩
    have hlo : (once hs).length ≤ 1000000 := Nat.le_trans (once_len' hs) ok.h
    -- so, steps, is_moved = {..}, [], True
    refine q_par3 (a_K mh (gk_dc (xs := hs) (by show 8 < 9; decide) (gi_sq (K := K) (gv_var rfl r2)) (szM (Nat.le_trans ok.h (by decide)))) fun p M1 H1 g1 hp0 hpm hpk => a_L g1.mh gl_nil fun p2 vs M2 H2 g2 h02 m02 hp2 ev => ?_)
    subst ev
    refine ⟨_, _, _, rfl, ?_⟩
    have k0 : OwnK H M2 H2 p (once hs) := OwnK.step ⟨hp0, hpm, hpk⟩ g2
    have w0 : Own H M2 H2 p2 [] := ⟨g1.hh.free h02, m02, hp2⟩
    have G2 := g1.trans g2
    have mul : mu cs (once hs) ≤ 1000000 := Nat.le_trans (List.length_filter_le _ _) ok.n
    refine q_while (M := M2) (m0 := 2 * mu cs (once hs) + 1) (fun m σ' M' H' => ∃ so st mv ws y5 y6 y7 y8, m = 2 * mu cs so + (if mv = true then 1 else 0) ∧ Gr M H M' H' ∧ OwnK H M' H' p so ∧ Own H M' H' p2 ws ∧ Pd StepR M' st ws ∧ σ' = [some v, some w, some (.ref p), some (.ref p2), some (.bl mv), y5, y6, y7, y8] ∧
      (∀ r, (if mv = true then Chase cs so st r else r = (some so, st)) → Chase cs (once hs) [] r) ∧ st.length + mu cs so ≤ mu cs (once hs) ∧ so.length ≤ (once hs).length + st.length)
      ⟨once hs, [], true, [], _, _, _, _, rfl, G2, k0, w0, .nil, rfl, fun r h => h, by simp, by simp⟩ ?_
    rintro m σ' M' H' ⟨so, st, mv, ws, y5, y6, y7, y8, rfl, g, ok1, ow1, hpd, rfl, hch, hmu, hso⟩
    refine ⟨mv, M', g.mh, gt_B (gv_var rfl rfl), fun hb H3 hh3 => ?_, fun hb H3 hh3 => ?_⟩
    · subst hb
      have g3 := g.trans (.idle g.mh hh3)
      refine q_asg (P := Bl false) g3.mh (gv_c rfl) fun v4 M4 H4 g4 r4 => ?_
      cases r4
      have G4 := g3.trans g4
      refine s_forE (R1 := SqR K Tx) (xs := cs) g4.mh (gv_var rfl (Mon.mono G4.mm r1))
        (fun M1' i σ' M' H' => ∃ so2 st2 mv2 ws2 y5 y6 y7, Gr M H M' H' ∧ Same M1' M' ∧ Same M M' ∧ OwnK H M' H' p so2 ∧ Own H M' H' p2 ws2 ∧ Pd StepR M' st2 ws2 ∧ σ' = [some v, some w, some (.ref p), some (.ref p2), some (.bl mv2), y5, y6, y7, y8] ∧
          passGo cs 0 so st false = passGo (cs.drop i) i so2 st2 mv2 ∧ (mv2 = false → so2 = so ∧ st2 = st) ∧ (mv2 = true → mu cs so2 < mu cs so) ∧ st2.length + mu cs so2 ≤ mu cs (once hs) ∧ so2.length ≤ (once hs).length + st2.length)
        (fun M5 H5 g5 => ⟨so, st, false, ws, _, _, _, G4.trans g5, Same.refl _, (G4.trans g5).mm, ((ok1.idle hh3).step g4).step g5, ((ow1.idle hh3).step g4).step g5, hpd.mono (g4.trans g5).mm, rfl, rfl, fun _ => ⟨rfl, rfl⟩, (fun h => nomatch h), hmu, hso⟩)
        (fun M5 i σ' M' H' ⟨_, _, _, _, _, _, _, g, s1, _⟩ => ⟨s1, g.mh⟩) ?_ ?_
      · rintro M5 i c v' σ' M' H' H'' sM hx ⟨so2, st2, mv2, ws2, y5, y6, y7, g, s1, s2, ok2, ow2, hpd2, rfl, ep, hf, ht, hmu2, hso2⟩ gE rx
        have hxm : c ∈ cs := List.mem_of_getElem? hx
        have hil : i < cs.length := (List.getElem?_eq_some_iff.mp hx).1
        have ed : cs.drop i = c :: cs.drop (i + 1) := by rw [List.drop_eq_getElem_cons hil]; congr 1; exact (List.getElem?_eq_some_iff.mp hx).2
        have g' := g.trans gE
        have ok2' := ok2.step gE
        have ow2' := ow2.step gE
        refine q_asgK (P := OpR' (LiR Tx) (openOnes so2 c)) g'.mh ok2'.m ok2'.h (gv_call2 (R1 := SqR K Tx) (R2 := CtR K) (gv_var rfl (Mon.mono (same_new ok2'.m) rx)) (gv_var rfl OwnK.ct) (ok.c c hxm)) fun v7 M7 H7 g7 r7 => ?_
        have G7 := g'.trans g7
        have ok7 := ok2'.step g7
        have ow7 := ow2'.step g7
        have hpd7 := hpd2.mono g7.mm
        have hwl : ws2.length = st2.length := hpd7.length.symm
        refine q_if0 (b := decide (openOnes so2 c = some [])) g7.mh (gt_test (gv_is (gv_eq (K := K) (neg := false) (d := optD (openOnes so2 c)) (e := .list []) (gv_var rfl (py_opL _ _ _ r7)) gv_nilD (depthO _)) fun M v h => by
            rw [show v = _ from h]
            have := optD_eq (openOnes so2 c) []
            simp only [List.map_nil] at this
            rw [this]; simp)) (fun hb H8 hh8 => ?_) (fun hb H8 hh8 => ?_)
        · -- a dead end
          have e0 : openOnes so2 c = some [] := by simpa using hb
          have g8 : Gr M7 H7 M7 H8 := .idle g7.mh hh8
          have ow8 := ow7.idle hh8
          refine ⟨.ref p2, rfl, .int (i : Nat), rfl, by show 2 ≤ sizeLine; decide, fun t1 nt1 => ⟨by show 1 ≤ sizeLine; decide, fun l1 nl1 => .inr (.inr (.inr ⟨p2, l1, ws2, [.ref t1], rfl, rfl, ?_, upd_same, szM (by simp; omega), fun p3 np3 => ⟨by show 2 ≤ sizeLine; decide, fun t nt => ?_⟩⟩))⟩⟩
          · have nt1' : H8 t1 = none := nt1
            have n1 : (upd H8 t1 (.tup [V.int (i : Nat), .non])) p2 = some (.lst ws2) := same_new nt1' _ _ ow8.h
            rw [upd_ne (ne_of_none n1 nl1)]
            exact n1
          · have nt1' : H8 t1 = none := nt1
            have G8 := G7.trans g8
            have ga := G8.trans (.new (o := .tup [V.int (i : Nat), .non]) G8.mh nt1')
            have gb := ga.trans (.own (o := .lst [.ref t1]) ga.mh nl1)
            have gc := gb.trans (.own (o := .lst (ws2 ++ [.ref t1])) gb.mh np3)
            have o3 := Own.new' (vs := ws2 ++ [.ref t1]) gb np3
            have gd := Gr.new (o := .tup [.non, .ref p3]) gc.mh nt
            have o4 := o3.step gd
            refine q (none, st2 ++ [(i, none)]) t .non p3 _ _ _ (hch _ ?_) (gc.trans gd) o4.h0 o4.m o4.h ?_ rfl upd_same
            · rw [if_pos rfl]
              refine .dead ?_
              rw [ep, ed, passGo, e0]
            · exact pd_app (hpd7.mono ((same_new (G8.mh.free nt1')).trans gd.mm)) (.cons ⟨t1, rfl, gd.mm _ _ upd_same⟩ .nil)
        · have hne : openOnes so2 c ≠ some [] := by simpa using hb
          have g8 := G7.trans (.idle G7.mh hh8)
          have ok8 := ok7.idle hh8
          have ow8 := ow7.idle hh8
          have m78 : Same M7 H8 := g7.mh.trans hh8
          cases eo : openOnes so2 c with
          | none =>
            rw [eo] at r7
            refine s_if0 (b := false) m78 (gt_and (c := false) (gt_B (gv_notN (b := true) (gv_var (P := OpR' (LiR Tx) none) rfl r7) fun M v h => opL_non h)) fun h => nomatch h) (fun h => nomatch h) fun _ H9 hh9 => ?_
            refine ⟨M7, so2, st2, mv2, ws2, _, _, _, g8.trans (.idle g8.mh hh9), s1.trans g7.mm, s2.trans g7.mm, ok8.idle hh9, ow8.idle hh9, hpd7, rfl, ?_, hf, ht, hmu2, hso2⟩
            rw [ep, ed, passGo, eo]
          | some ls =>
            rw [eo] at r7 hne
            have r7' : LiR Tx ls M7 v7 := r7
            refine s_if0 (b := decide (ls.length = 1)) m78 (gt_is (gt_and (c := decide (ls.length = 1)) (gt_B (gv_notN (b := false) (gv_var (P := OpR' (LiR Tx) (some ls)) rfl r7) fun M v h => opL_non h)) fun _ => gt_test (gv_is (gv_eqT (K := K) (neg := false) py_int inj_int (gv_lenA (K := K) (gv_var rfl (r7'.sq (K := K)))) (gv_c rfl) (by simp [PyData.depth])) fun M v h => ?_)) (by simp)) (fun hb2 H9 hh9 => ?_) (fun hb2 H9 hh9 => ?_)
            · rw [show v = _ from h]
              simp only [Bool.false_bne, V.bl.injEq, decide_eq_decide]
              omega
            · obtain ⟨l, rfl⟩ : ∃ l, ls = [l] := by
                match ls, hb2 with
                | [l], _ => exact ⟨l, rfl⟩
                | [], h => simp at h
                | _ :: _ :: _, h => simp at h
              obtain ⟨hlc, hls⟩ := open_one eo
              have hml := mu_put hxm hlc hls
              have g9 := g8.trans (.idle g8.mh hh9)
              have ok9 := ok8.idle hh9
              have ow9 := ow8.idle hh9
              refine q_dputT (l := l) (g9.mh) rfl ok9.h (szL (by omega)) (gv_ix (K := K) (R := Tx) (xs := [l]) (i := 0) (gv_var rfl (r7'.sq (K := K))) (gv_c rfl) rfl) fun M10 H10 g10 => ?_
              rw [onceP_new hls]
              have ok10 := ok9.step g10
              have ow10 := ow9.step g10
              have g10' := (g9.trans g10).mut (o := .dK (kvT (so2 ++ [l]))) ok10.h0 ok10.m
              have ok11 := ok10.put (ls := so2 ++ [l])
              have ow11 := ow10.off (u := .dK (kvT (so2 ++ [l]))) (Ne.symm (ok10.ne ow10))
              have r10 : LiR Tx [l] M10 v7 := Mon.mono g10.mm r7'
              refine q_app (P := StepR (i, some l)) g10'.mh rfl ow11.h (szL (by omega)) (gv_step (gv_var rfl rfl) (gv_ix (K := K) (R := Tx) (xs := [l]) (i := 0) (gv_var rfl (r10.sq (K := K))) (gv_c rfl) rfl)) fun v12 M12 H12 g12 r12 => ?_
              have ok12 := ok11.step g12
              have ow12 := ow11.step g12
              have g12' := (g10'.trans g12).mut (o := .lst (ws2 ++ [v12])) ow12.h0 ow12.m
              have ok13 := ok12.off (u := .lst (ws2 ++ [v12])) (ok12.ne ow12)
              have ow13 := ow12.put (ws := ws2 ++ [v12])
              refine s_asg (P := Bl true) g12'.mh (gv_c rfl) fun v14 M14 H14 g14 r14 => ?_
              cases r14
              have g710 := (g10.mm.trans g12.mm).trans g14.mm
              refine ⟨M14, so2 ++ [l], st2 ++ [(i, some l)], true, ws2 ++ [v12], _, _, _, g12'.trans g14, s1.trans (g7.mm.trans g710), s2.trans (g7.mm.trans g710), ok13.step g14, ow13.step g14, pd_app (hpd7.mono g710) (.cons (Mon.mono g14.mm r12) .nil), rfl, ?_, (fun h => nomatch h), fun _ => ?_, ?_, ?_⟩
              · rw [ep, ed, passGo, eo]
              · cases mv2 with
                | true => have := ht rfl; omega
                | false => rw [(hf rfl).1] at hml ⊢; exact hml
              · rw [List.length_append, List.length_singleton]; omega
              · rw [List.length_append, List.length_append, List.length_singleton, List.length_singleton]; omega
            · refine ⟨M7, so2, st2, mv2, ws2, _, _, _, g8.trans (.idle g8.mh hh9), s1.trans g7.mm, s2.trans g7.mm, ok8.idle hh9, ow8.idle hh9, hpd7, rfl, ?_, hf, ht, hmu2, hso2⟩
              rw [ep, ed, passGo, eo]
              match ls, hne, hb2 with
              | [], h, _ => exact absurd rfl h
              | [l], _, h => simp at h
              | _ :: _ :: _, _, _ => rfl
      · rintro M5 σ' M' H' sM ⟨so2, st2, mv2, ws2, y5, y6, y7, g, s1, s2, ok2, ow2, hpd2, rfl, ep, hf, ht, hmu2, hso2⟩
        rw [List.drop_length, passGo] at ep
        refine ⟨_, M', ?_, so2, st2, mv2, ws2, y5, y6, y7, y8, rfl, g, ok2, ow2, hpd2, rfl, fun r hr => hch r ?_, hmu2, hso2⟩
        · rw [if_pos rfl]
          cases mv2 with
          | true => have := ht rfl; simp only [if_true]; omega
          | false => rw [(hf rfl).1]; simp
        · rw [if_pos rfl]
          cases mv2 with
          | true => rw [if_pos rfl] at hr; exact .more ep hr
          | false => rw [if_neg (by decide)] at hr; subst hr; exact .done ep
    · subst hb
      have g3 := g.trans (.idle g.mh hh3)
      have ok3 := ok1.idle hh3
      have ow3 := ow1.idle hh3
      refine ⟨.ref p, rfl, p, _, rfl, ok3.h, trivial, fun o => ⟨.ref p2, rfl, by show 2 ≤ sizeLine; decide, fun t nt => ?_⟩⟩
      have ga := (g3.mut (o := .frz o (.dK (kvT so))) ok3.h0 ok3.m).freeze ok3.h0 ok3.m upd_same
      have ow4 := ow3.both (u := .frz o (.dK (kvT so))) (Ne.symm (ok3.ne ow3))
      have gd := Gr.new (o := .tup [.ref p, .ref p2]) ga.mh nt
      have ow5 := ow4.step gd
      refine q (some so, st) t (.ref p) p2 _ _ _ (hch _ (by rw [if_neg (by decide)])) (ga.trans gd) ow5.h0 ow5.m ow5.h (hpd.mono ((same_new ok3.m).trans gd.mm)) ⟨p, o, rfl, gd.mm _ _ upd_same⟩ upd_same
end
end My

set_option Elab.async false
set_option linter.all false
set_option maxRecDepth 100000
set_option maxHeartbeats 4000000
namespace My
open PySem PySem.Spec PyProof.Rows L2 L3
structure Gc (mg : Str → Option Value) : Prop extends Gb mg where
  bool : mg "bool" = none
structure CodeW (cd : CodeD) : Prop where
  c : ∀ x ∈ cd.clauses, shortT x
  n : cd.clauses.flatten.length ≤ 1000000
  k : cd.clauses.length ≤ 1000000
  s : Shorts cd.names
section
end
section
end
end My

set_option Elab.async false
set_option linter.all false
set_option maxRecDepth 100000
set_option maxHeartbeats 4000000
namespace My
open PySem PySem.Spec PyProof.Rows L2 L3
open L3.Strm
section
variable {K : PySem.W.Frag} {σ : Sl} {M : Hp} {ta tb te : TE} {i j : Int}
theorem gv_mul (ha : Gv ta σ M (It' i)) (hb : Gv tb σ M (It' j)) (hc : CMul i j) : Gv (tOp (rI CMul fun i j => .int (i * j)) ta tb) σ M (It' (i * j)) := gv_op ha hb fun M' u w px py => rv_pure (fun H mh Q q => ⟨i, j, px, py, hc, q⟩) rfl
theorem gv_mod (ha : Gv ta σ M (It' i)) (hb : Gv tb σ M (It' j)) (hc : 0 < j) : Gv (tOp (rI (fun _ j => 0 < j) fun i j => .int (i % j)) ta tb) σ M (It' (i % j)) := gv_op ha hb fun M' u w px py => rv_pure (fun H mh Q q => ⟨i, j, px, py, hc, q⟩) rfl
theorem gv_fdiv (ha : Gv ta σ M (It' i)) (hb : Gv tb σ M (It' j)) (hc : CDiv i j) : Gv (tOp (rI CDiv fun i j => .int (i / j)) ta tb) σ M (It' (i / j)) := gv_op ha hb fun M' u w px py => rv_pure (fun H mh Q q => ⟨i, j, px, py, hc, q⟩) rfl
theorem gv_pow (ha : Gv ta σ M (It' i)) (hb : Gv tb σ M (It' j)) (hc : CPow i j) : Gv (tOp (rI CPow fun i j => .int (i ^ j.toNat)) ta tb) σ M (It' (i ^ j.toNat)) := gv_op ha hb fun M' u w px py => rv_pure (fun H mh Q q => ⟨i, j, px, py, hc, q⟩) rfl
theorem gv_lt (ha : Gv ta σ M (It' i)) (hb : Gv tb σ M (It' j)) : Gv (tOp (rI0 fun i j => .bl (decide (i < j))) ta tb) σ M (Bl (decide (i < j))) := gv_op ha hb fun M' u w px py => rv_pure (fun H mh Q q => ⟨i, j, px, py, q⟩) rfl
theorem gv_gt {g : Int → Int → V} (ha : Gv ta σ M (It' i)) (hb : Gv tb σ M (It' j)) : Gv (tOp (rI0 g) ta tb) σ M (fun _ v => v = g i j) := gv_op ha hb fun M' u w px py => rv_pure (fun H mh Q q => ⟨i, j, px, py, q⟩) rfl
theorem gv_int1 (ha : Gv ta σ M (It' i)) : Gv (tCB (fun xs H Q => (∃ i, xs = [V.int i] ∧ Q (.int i) H) ∨ ∃ k, xs = [V.bl k] ∧ Q (.int (if k then 1 else 0)) H) (tCons ta tNil)) σ M (It' i) := gv_cb1 ha fun M' v hv H mh Q q => .inl ⟨i, by rw [hv], q _ M' H (.refl mh) rfl⟩
theorem gv_int1b {b : Bool} (ha : Gv ta σ M (Bl b)) : Gv (tCB (fun xs H Q => (∃ i, xs = [V.int i] ∧ Q (.int i) H) ∨ ∃ k, xs = [V.bl k] ∧ Q (.int (if k then 1 else 0)) H) (tCons ta tNil)) σ M (It' (if b then 1 else 0)) := gv_cb1 ha fun M' v hv H mh Q q => .inr ⟨b, by rw [hv], q _ M' H (.refl mh) rfl⟩
/-- an int of a mixed list -/
theorem gv_ixI {ds : List PyData} {z : Int} (ha : Gv ta σ M (SqR K (Dd K) ds)) (hb : Gv tb σ M (It' i)) (hx : atI ds i = some (.int z)) : Gv (tOp (rIxX K) ta tb) σ M (It' z) := gv_is (gv_ix (K := K) (R := Dd K) ha hb hx) fun M v h => by cases h; rfl
end
theorem depthI (cs : List Int) : (PyData.list (cs.map .int)).depth ≤ 60 := by
  have : ∀ cs : List Int, PyData.depthAll (cs.map .int) = 0 := fun cs => by
    induction cs with
    | nil => simp [PyData.depthAll]
    | cons c r ih => simp [PyData.depthAll, PyData.depth, ih]
  simp [PyData.depth, this]
theorem nilI (cs : List Int) : PyData.eqv (.list (cs.map .int)) (.list []) = decide (cs = []) := by
  cases cs <;> simp [PyData.eqv, PyData.eqvAll]
section
variable {P : Program} {w : World} {K : PySem.W.Frag} {mg : Str → Option Value} {base : Heap}
abbrev s__law_draw : Stmt := topS 33
theorem sc__law_draw : FnScope ["_law_stream", "_law_many", "_law_mixed_here", "_law_digit"] ["_law_stream", "_law_many"] (defScope s__law_draw) := ⟨rfl, rfl, rfl, by decide +kernel, rfl, by decide +kernel, by decide +kernel⟩
def sp__law_draw (K : PySem.W.Frag) : Sp := spS1 It' (fun n => 0 < n ∧ n < 1073741824) (fun _ => 1) fun n => Ex It' fun i => 0 ≤ i ∧ i < n
theorem ok__law_draw {f : Addr} {fd : FuncData} (F : Fun K "_law_draw" "_law_draw" s__law_draw f fd) (T : Gc mg) : FnOk P w K mg base CX0 1 f fd ["_law_stream", "_law_many"] (sp__law_draw K) := by
  refine F.ok sc__law_draw (fun vs H Q E h => ?_) (fun cdv A outer s H vs Q E hr h => ?_)
  · obtain ⟨S, x, M, v, k, rfl, _⟩ := h
    rfl
  · obtain ⟨S, many, M, v, k, rfl, mh, at_, r1, ⟨hm1, hm2⟩, q⟩ := h
    cases r1
    have hu := hr.units
    refine ⟨_, (pss_cons (ps_asg (pe_op op_addA (pe_ix ix_X (pv 0) pe_int (fun _ _ => rfl)) pe_int) (pg_sub (pv 0) pe_int set_list))
      (pss_cons (ps_if (PW.pt (pw_and (pt_cmpR (op_eqP hu) (pe_ix ix_X (pv 0) pe_int (fun _ _ => rfl)) pe_int (nomark _)) (pw_and1 (pt_cmpR (op_neP hu) (pe_ix ix_X (pv 0) pe_int (fun _ _ => rfl)) (pe_lst pa_nil) (nomark _))))) (pss_cons (ps_asg (pe_bm PySem.F.plainAttrs_list PySem.F.slot_list_pop PySem.F.type_list_pop mt_popAt (pe_ix ix_X (pv 0) pe_int (fun _ _ => rfl)) (pa_cons pe_int pa_nil)) (pg_sub (pv 0) pe_int set_list))
      (pss_one (ps_if (pt_cmpR op_lt (pe_ix ix_X (pv 0) pe_int (fun _ _ => rfl)) (pe_op op_pow pe_int pe_int) (nomark _)) (pss_cons (ps_asg (pe_op op_mod (pe_callTy call_int1 (by rfl) T.int boot_int (pa_cons (pe_op op_addA (pe_op op_addA (pe_op op_mul (pe_ix ix_X (pv 0) pe_int (fun _ _ => rfl)) pe_int) (pe_ix ix_X (pv 0) pe_int (fun _ _ => rfl))) pe_int) pa_nil)) pe_int) (pg_sub (pv 0) pe_int set_list))
      (pss_one (ps_asg pe_int (pg_sub (pv 0) pe_int set_list)))) pss_nil))) pss_nil)
      (pss_cons (ps_if (pt_cmpR op_gt (pe_ix ix_X (pv 0) pe_int (fun _ _ => rfl)) pe_int (nomark _)) (pss_cons (ps_set (i := 3) sc__law_draw.nd rfl (by first | exact .inl rfl | exact .inr rfl) (pe_op op_mod (pe_callTy call_int1 (by rfl) T.int boot_int (pa_cons (pe_ix ix_X (pv 0) pe_int (fun _ _ => rfl)) pa_nil)) (pv 1)))
      (pss_cons (ps_asg (pe_op op_fdiv (pe_ix ix_X (pv 0) pe_int (fun _ _ => rfl)) (pv 1)) (pg_sub (pv 0) pe_int set_list))
      (pss_one (ps_ret (pv 3))))) pss_nil)
      (pss_cons (ps_set (i := 2) sc__law_draw.nd rfl (by first | exact .inl rfl | exact .inr rfl) (pe_op op_mod (pe_op op_pow (pe_op op_addA (pe_op op_addA (pe_ix ix_X (pv 0) pe_int (fun _ _ => rfl)) (pe_op op_mul pe_int (pe_ix ix_X (pv 0) pe_int (fun _ _ => rfl)))) pe_int) pe_int) pe_int))
      (pss_one (ps_ret (pe_op op_mod (pe_op op_mod (pe_op op_pow (pe_op op_addA (pe_op op_addA (pe_op op_mul (pv 2) pe_int) (pe_op op_mul (pe_op op_mul pe_int (pe_ix ix_X (pv 0) pe_int (fun _ _ => rfl))) (pe_ix ix_X (pv 0) pe_int (fun _ _ => rfl)))) pe_int) pe_int) pe_int) (pv 1)))))))), ?_⟩
    obtain ⟨hne, cells, x, n, m, h1, h2, hx, hn, hk, hm0, hm⟩ := at_
    have hk : n + ((k + 1 : Nat) : Int) ≤ 10000000 := hk
    have st0 : StAt S H cells x n m := ⟨hne, h1, h2⟩
    -- stream[2] = stream[2] + 1
    refine z_sub (j := 2) (jn := 2) (z := n + 1) rfl mh st0 rfl (gv_addIn (K := K) (gv_ixI (K := K) (i := 2) (gv_var rfl st0.sq) (gv_c rfl) rfl) (gv_c rfl)) fun M1 H1 g1 ha1 hb1 => ?_
    have st1 : StAt S H1 cells x (n + 1) m := ⟨hne, ha1, hb1⟩
    have hp18 : ((10 : Int) ^ (18 : Int).toNat) = 1000000000000000000 := by decide
    refine q_cut (fun σ' H2 => ∃ M2 cells x m, σ' = [some (.ref S.a), some (.int many), none, none] ∧ Gr M (S.cut H) M2 (S.cut H2) ∧ StAt S H2 cells x (n + 1) m ∧ 0 ≤ x ∧ 0 ≤ m ∧ m < 2147483647) (fun nx hnx => ?_) ?_
    · refine s_if0 (b := decide (x = 0) && !decide (cells = [])) (full_same g1.mh) (gt_and (gt_test (gv_is (gv_eqT (K := K) (neg := false) py_int inj_int (gv_ixI (K := K) (i := 1) (gv_var rfl st1.sq) (gv_c rfl) rfl) (gv_c rfl) (by simp [PyData.depth])) fun M v h => by simpa using h)) fun _ =>
          gt_test (gv_is (gv_eq (K := K) (neg := true) (d := .list (cells.map .int)) (e := .list []) (gv_ix (K := K) (R := Dd K) (i := 0) (gv_var rfl st1.sq) (gv_c rfl) rfl) gv_nilD (depthI cells)) fun M v h => ?_)) (fun hb H2 hh2 => ?_) (fun hb H2 hh2 => ?_)
      · rw [show v = _ from h, nilI]; simp
      · -- a cell is taken
        obtain ⟨ex, hc⟩ : x = 0 ∧ cells ≠ [] := by simpa using hb
        have st2 := st1.same hh2
        have g2 : Gr M (S.cut H) M1 (S.cut H2) := g1.trans (.idle g1.mh fun y u e => by rw [cut_on (on_of e)]; exact hh2 y u (of_cut e))
        obtain ⟨cell, rest, rfl⟩ : ∃ c r, cells = c :: r := by cases cells with | nil => exact absurd rfl hc | cons c r => exact ⟨c, r, rfl⟩
        refine ⟨.ref S.a, rfl, .inl ⟨S.a, _, 0, .ref S.b, rfl, rfl, .inl (.inl st2.a), rfl, .inl ⟨rfl, _, .inl (.inl st2.b)⟩, S.b, _, 0, 0, .int cell, rfl, rfl, st2.b, by decide, by decide, ?_, rfl, .ref S.a, rfl, S.a, _, 1, 1, rfl, rfl, (by rw [upd_ne hne]; exact st2.a), rfl, ?_⟩⟩
        · simp [seqIndex?]
        · have st3 : StAt S (upd (upd H2 S.b (.lst (((cell :: rest).map V.int).eraseIdx 0))) S.a (.lst ([V.ref S.b, .int x, .int (n + 1), .int m].set 1 (.int cell)))) rest cell (n + 1) m := ⟨hne, upd_same, by rw [upd_ne (Ne.symm hne), upd_same]; rfl⟩
          have g3 : Gr M (S.cut H) M1 (S.cut (upd (upd H2 S.b (.lst (((cell :: rest).map V.int).eraseIdx 0))) S.a (.lst ([V.ref S.b, .int x, .int (n + 1), .int m].set 1 (.int cell))))) := by rw [cut_updo (.inl rfl), cut_updo (.inr rfl)]; exact g2
          revert st3 g3
          generalize upd (upd H2 S.b (.lst (((cell :: rest).map V.int).eraseIdx 0))) S.a (.lst ([V.ref S.b, .int x, .int (n + 1), .int m].set 1 (.int cell))) = H3
          intro st3 g3
          refine s_if0 (b := decide (cell < 1000000000000000000)) (full_same g3.mh) (gt_test (gv_is (gv_lt (gv_ixI (K := K) (i := 1) (gv_var rfl st3.sq) (gv_c rfl) rfl) (gv_pow (i := 10) (j := 18) (gv_c rfl) (gv_c rfl) ⟨by decide, by decide, by decide⟩)) fun M v h => by rw [hp18] at h; exact h)) (fun hb4 H4 hh4 => ?_) (fun hb4 H4 hh4 => ?_)
          · have st4 := st3.same hh4
            have g4 : Gr M (S.cut H) M1 (S.cut H4) := g3.trans (.idle g3.mh fun y u e => by rw [cut_on (on_of e)]; exact hh4 y u (of_cut e))
            refine z_sub (j := 3) (jn := 3) (z := (m * 31 + cell + 7) % 2147483647) rfl g4.mh st4 rfl (gv_mod (gv_int1 (gv_addIn (K := K) (gv_addIn (K := K) (gv_mul (gv_ixI (K := K) (i := 3) (gv_var rfl st4.sq) (gv_c rfl) rfl) (gv_c rfl) (.inr ⟨by decide, by decide⟩)) (gv_ixI (K := K) (i := 1) (gv_var rfl st4.sq) (gv_c rfl) rfl)) (gv_c rfl))) (gv_c rfl) (by decide)) fun M5 H5 g5 ha5 hb5 => ?_
            have st5 : StAt S H5 rest cell (n + 1) ((m * 31 + cell + 7) % 2147483647) := ⟨hne, ha5, hb5⟩
            refine z_subE (j := 1) (jn := 1) (z := 0) rfl g5.mh st5 rfl (gv_c rfl) fun M6 H6 g6 ha6 hb6 => ?_
            exact hnx _ _ ⟨M6, rest, 0, _, rfl, (g4.trans g5).trans g6, ⟨hne, ha6, hb6⟩, Int.le_refl _, Int.emod_nonneg _ (by decide), Int.emod_lt_of_pos _ (by decide)⟩
          · have hc : (1000000000000000000 : Int) ≤ cell := by simpa using hb4
            exact hnx _ _ ⟨M1, rest, cell, m, rfl, g3.trans (.idle g3.mh fun y u e => by rw [cut_on (on_of e)]; exact hh4 y u (of_cut e)), st3.same hh4, by omega, hm0, hm⟩
      · exact hnx _ _ ⟨M1, cells, x, m, rfl, g1.trans (.idle g1.mh fun y u e => by rw [cut_on (on_of e)]; exact hh2 y u (of_cut e)), st1.same hh2, hx, hm0, hm⟩
    · rintro σ' H2 ⟨M2, cells, x, m, rfl, g2, st2, hx, hm0, hm⟩
      have hk' : n + 1 + (k : Int) ≤ 10000000 := by omega
      refine q_if0 (b := decide (0 < x)) (full_same g2.mh) (gt_test (gv_is (gv_gt (gv_ixI (K := K) (i := 1) (gv_var rfl st2.sq) (gv_c rfl) rfl) (gv_c rfl)) fun M v h => h)) (fun hb3 H3 hh3 => ?_) (fun hb3 H3 hh3 => ?_)
      · have st3 := st2.same hh3
        have g3 : Gr M (S.cut H) M2 (S.cut H3) := g2.trans (.idle g2.mh fun y u e => by rw [cut_on (on_of e)]; exact hh3 y u (of_cut e))
        refine q_asg (M := S.full M2 H3) (P := It' (x % many)) (full_same g3.mh) (gv_mod (gv_int1 (gv_ixI (K := K) (i := 1) (gv_var rfl st3.sq) (gv_c rfl) rfl)) (gv_var rfl rfl) hm1) fun v4 M4 H4 g4 r4 => ?_
        cases r4
        have st4 := st3.same g4.hh
        have G4 := g3.trans (unfull g3.mh g4)
        refine z_sub (j := 1) (jn := 1) (z := x / many) rfl G4.mh st4 rfl (gv_fdiv (gv_ixI (K := K) (i := 1) (gv_var rfl st4.sq) (gv_c rfl) rfl) (gv_var rfl rfl) ⟨hm1, hm2⟩) fun M5 H5 g5 ha5 hb5 => ?_
        refine ⟨.int (x % many), rfl, q _ M5 H5 (G4.trans g5) ⟨hne, cells, x / many, n + 1, m, ha5, hb5, Int.ediv_nonneg hx (by omega), by omega, hk', hm0, hm⟩ ⟨x % many, ⟨Int.emod_nonneg _ (by omega), Int.emod_lt_of_pos _ hm1⟩, rfl⟩⟩
      · have st3 := st2.same hh3
        have g3 : Gr M (S.cut H) M2 (S.cut H3) := g2.trans (.idle g2.mh fun y u e => by rw [cut_on (on_of e)]; exact hh3 y u (of_cut e))
        refine q_asg (M := S.full M2 H3) (P := It' ((m + 104729 * (n + 1) + 17) ^ (5 : Int).toNat % 2147483629)) (full_same g3.mh) (gv_mod (gv_pow (gv_addIn (K := K) (gv_addIn (K := K) (gv_ixI (K := K) (i := 3) (gv_var rfl st3.sq) (gv_c rfl) rfl) (gv_mul (gv_c rfl) (gv_ixI (K := K) (i := 2) (gv_var rfl st3.sq) (gv_c rfl) rfl) (.inl ⟨by decide, by decide⟩))) (gv_c rfl)) (gv_c rfl) ⟨by decide, by decide, by omega⟩) (gv_c rfl) (by decide)) fun v4 M4 H4 g4 r4 => ?_
        have st4 := st3.same g4.hh
        have G4 := g3.trans (unfull g3.mh g4)
        have hz0 := Int.emod_nonneg ((m + 104729 * (n + 1) + 17) ^ (5 : Int).toNat) (show (2147483629 : Int) ≠ 0 by decide)
        have hz1 := Int.emod_lt_of_pos ((m + 104729 * (n + 1) + 17) ^ (5 : Int).toNat) (show (0 : Int) < 2147483629 by decide)
        revert r4 hz0 hz1
        generalize (m + 104729 * (n + 1) + 17) ^ (5 : Int).toNat % 2147483629 = z
        intro r4 hz0 hz1
        have hnn : (n + 1) * (n + 1) ≤ 10000000 * 10000000 := Int.mul_le_mul (by omega) (by omega) (by omega) (by omega)
        have hnn0 : 0 ≤ (n + 1) * (n + 1) := Int.mul_nonneg (by omega) (by omega)
        have hass : 40503 * (n + 1) * (n + 1) = 40503 * ((n + 1) * (n + 1)) := Int.mul_assoc _ _ _
        refine s_ret (M := S.full (S.cut M4) H4) (P := It' ((z * 48271 + 40503 * (n + 1) * (n + 1) + 13) ^ (3 : Int).toNat % 1000000007 % many)) (full_same G4.mh) (gv_mod (gv_mod (gv_pow (gv_addIn (K := K) (gv_addIn (K := K) (gv_mul (gv_var rfl r4) (gv_c rfl) (.inr ⟨by decide, by decide⟩)) (gv_mul (gv_mul (gv_c rfl) (gv_ixI (K := K) (i := 2) (gv_var rfl st4.sq) (gv_c rfl) rfl) (.inl ⟨by decide, by decide⟩)) (gv_ixI (K := K) (i := 2) (gv_var rfl st4.sq) (gv_c rfl) rfl) (.inr ⟨by omega, by omega⟩))) (gv_c rfl)) (gv_c rfl) ⟨by decide, by decide, by omega⟩) (gv_c rfl) (by decide)) (gv_var rfl rfl) hm1) fun v5 M5 H5 g5 r5 => ?_
        have st5 := st4.same g5.hh
        exact q _ _ H5 (G4.trans (unfull G4.mh g5)) ⟨hne, cells, x, n + 1, m, st5.a, st5.b, hx, by omega, hk', hm0, hm⟩ ⟨_, ⟨Int.emod_nonneg _ (by omega), Int.emod_lt_of_pos _ hm1⟩, r5⟩
end
end My

set_option Elab.async false
set_option linter.all false
set_option maxRecDepth 100000
set_option maxHeartbeats 4000000
namespace My
open PySem PySem.Spec PyProof.Rows L2 L3
open L3.Strm
theorem rv_ix {K : PySem.W.Frag} {α : Type} {R : Rl α} [Mon R] {xs : List α} {i : Int} {x : α} {M : Hp} {u w : V} (hu : SqR K R xs M u) (hw : It' i M w) (hx : atI xs i = some x) : RV (rIxX K u w) M (R x) :=
  fun H mh Q q => gv_ix (K := K) (σ := []) (M := M) (ta := tC u) (tb := tC w) (gv_c hu) (gv_c hw) hx H mh Q q
theorem rv_ixS {K : PySem.W.Frag} {x : Str} {i : Int} {c : Nat} {M : Hp} {u w : V} (hu : Tx x M u) (hw : It' i M w) (hz : x.length ≤ sizeLine) (hx : atI x.cps.toList i = some c) : RV (rIxX K u w) M (Tx ⟨#[c]⟩) :=
  fun H mh Q q => gv_ixS (K := K) (σ := []) (M := M) (ta := tC u) (tb := tC w) (gv_c hu) (gv_c hw) hz hx H mh Q q
theorem atI_in {α : Type} {xs : List α} {i : Int} (h0 : 0 ≤ i) (h1 : i < xs.length) : ∃ x ∈ xs, atI xs i = some x := by
  have hi : i.toNat < xs.length := by omega
  refine ⟨xs[i.toNat], List.getElem_mem _, ?_⟩
  have := atI_nat (xs := xs) (j := i.toNat) (List.getElem?_eq_getElem hi)
  rw [Int.toNat_of_nonneg h0] at this
  exact this
theorem erase_map {α β : Type} (f : α → β) : ∀ (l : List α) (i : Nat), (l.map f).eraseIdx i = (l.eraseIdx i).map f
  | [], _ => rfl
  | _ :: _, 0 => rfl
  | a :: l, i + 1 => by show f a :: (l.map f).eraseIdx i = f a :: (l.eraseIdx i).map f; rw [erase_map f l i]
theorem erase_perm {α : Type} : ∀ {l : List α} {i : Nat} (h : i < l.length), (l[i] :: l.eraseIdx i).Perm l
  | _ :: _, 0, _ => List.Perm.refl _
  | a :: l, i + 1, h => (List.Perm.swap _ _ _).trans (List.Perm.cons a (erase_perm (l := l) (i := i) (Nat.lt_of_succ_lt_succ h)))
section
variable {P : Program} {w : World} {K : PySem.W.Frag} {mg : Str → Option Value} {base : Heap}
abbrev s__law_pick : Stmt := topS 34
theorem sc__law_pick : FnScope ["_law_stream", "_law_things"] ["_law_stream", "_law_things"] (defScope s__law_pick) := ⟨rfl, rfl, rfl, by decide +kernel, rfl, by decide +kernel, by decide +kernel⟩
def sp__law_pick (K : PySem.W.Frag) : Sp := spS1 (SqR K Tx) (fun xs => 0 < xs.length ∧ xs.length ≤ 1000000) (fun _ => 1) fun xs => Ex Tx fun x => x ∈ xs
theorem ok__law_pick {f : Addr} {fd : FuncData} (F : Fun K "_law_pick" "_law_pick" s__law_pick f fd) (T : Gc mg) (c__law_draw : Cal P w K mg base 1 "_law_draw" ["_law_stream", "_law_many"] (sp__law_draw K)) : FnOk P w K mg base CX0 2 f fd ["_law_stream", "_law_things"] (sp__law_pick K) := by
  refine F.ok sc__law_pick (fun vs H Q E h => ?_) (fun cdv A outer s H vs Q E hr h => ?_)
  · obtain ⟨S, x, M, v, k, rfl, _⟩ := h
    rfl
  · obtain ⟨S, xs, M, v, k, rfl, mh, at_, r1, ⟨h1, h2⟩, q⟩ := h
    refine ⟨_, (pss_one (ps_ret (pe_ix ix_X (pv 1) (pe_f c__law_draw (hr.mono (by decide)) (pa_cons (pv 0) (pa_cons (pe_callB call_lenA (by rfl) T.len boot_len (pa_cons (pv 1) pa_nil)) pa_nil))) (fun _ _ => rfl)))), ?_⟩
    refine z_ret (S := S) (c := 0 + 1) mh at_ (gs_op (P := SqR K Tx xs) (P1 := Ex It' fun i => 0 ≤ i ∧ i < (xs.length : Int)) (gv_var rfl r1).s (gs_call1 (S := S) (R1 := It') (pre := fun n => 0 < n ∧ n < 1073741824) (cs := fun _ => 1) (R := fun n => Ex It' fun i => 0 ≤ i ∧ i < n) (x := (xs.length : Int)) rfl (gv_lenA (K := K) (R := Tx) (gv_var rfl r1)) ⟨by omega, by omega⟩) fun M' u w pu ⟨i, hi, pw⟩ => ?_) q
    obtain ⟨x, hx, ha⟩ := atI_in hi.1 hi.2
    exact fun H mh Q q => rv_ix pu pw ha H mh Q fun v M' H' g r => q v M' H' g ⟨x, hx, r⟩
abbrev s__law_mixed : Stmt := topS 35
theorem sc__law_mixed : FnScope ["_law_stream", "_law_things", "_law_left", "_law_k"] ["_law_stream", "_law_things"] (defScope s__law_mixed) := ⟨rfl, rfl, rfl, by decide +kernel, rfl, by decide +kernel, by decide +kernel⟩
def sp__law_mixed (K : PySem.W.Frag) : Sp := slS1 (SqR K Tx) (fun xs => xs.length ≤ 1000000) (fun xs => xs.length) fun xs M ws => ∃ ys : List Str, ys.Perm xs ∧ Pd Tx M ys ws
theorem ok__law_mixed {f : Addr} {fd : FuncData} (F : Fun K "_law_mixed" "_law_mixed" s__law_mixed f fd) (T : Gc mg) (c__law_draw : Cal P w K mg base 1 "_law_draw" ["_law_stream", "_law_many"] (sp__law_draw K)) : FnOk P w K mg base CX0 2 f fd ["_law_stream", "_law_things"] (sp__law_mixed K) := by
  refine F.ok sc__law_mixed (fun vs H Q E h => ?_) (fun cdv A outer s H vs Q E hr h => ?_)
  · obtain ⟨S, x, M, v, k, rfl, _⟩ := h
    rfl
  · obtain ⟨S, xs, M, v, k, rfl, mh, at_, r1, h1, q⟩ := h
    refine ⟨_, (pss_cons (ps_set (i := 2) sc__law_mixed.nd rfl (by first | exact .inl rfl | exact .inr rfl) (pe_callTy call_lstA (by rfl) T.list boot_list (pa_cons (pv 1) pa_nil)))
      (pss_one (ps_ret (pe_lc (own := [("_law_k", 3)]) (g := (gName 3)) (tt := tYes) (te := (tBM K "list" rPopAt (tVar 2) (tCons (tCall (sp__law_draw K) [] E0 (tCons (tVar 0) (tCons (tCB (rLenA K) (tCons (tVar 2) tNil)) tNil))) tNil))) (by rfl) sc__law_mixed.nd (pi_range1 (by rfl) T.range (pa_cons (pe_callB call_lenA (by rfl) T.len boot_len (pa_cons (pv 2) pa_nil)) pa_nil)) (blkOk_by (by rfl)) (fun _ _ _ _ _ => (pg_name (i := 3) sc__law_mixed.nd rfl (by first | exact .inl rfl | exact .inr rfl))) (fun _ _ _ _ _ => pts_nil) (fun _ _ _ _ _ => (pe_bm PySem.F.plainAttrs_list PySem.F.slot_list_pop PySem.F.type_list_pop mt_popAt (pv 2) (pa_cons (pe_f c__law_draw (hr.mono (by decide)) (pa_cons (pv 0) (pa_cons (pe_callB call_lenA (by rfl) T.len boot_len (pa_cons (pv 2) pa_nil)) pa_nil))) pa_nil))))))), ?_⟩
    refine z_asgL (S := S) (c := 0) mh at_ (gl_lstOf (K := K) (R1 := Tx) (gv_var rfl r1)).s fun p vs M1 H1 g1 a1 hp0 hpm hpw hpd => ?_
    have evs := pd_tx hpd
    subst evs
    -- the comprehension
    have hlen : Gv (tCB (rLenA K) (tCons (tVar 2) tNil)) [some (.ref S.a), some v, some (.ref p), none] (upd M1 p (.lst (xs.map V.str))) (It' (xs.length : Nat)) := gv_lenA (K := K) (R := Tx) (gv_var rfl (.inl ⟨p, _, rfl, .inl (.inl upd_same), pd_of_tx xs⟩))
    have hdis : ∀ {D : Addr} {H2 : Hp} {o : HO}, H2 D = none → S.cut H2 p = some o → p ≠ D := fun hD hp z => by subst z; have := of_cut hp; rw [hD] at this; cases this
    refine lc_rngL hlen hpm (g1.mh.trans cut_same) (of_cut hpw) (Nat.le_trans h1 (by decide)) ls_nt
      (fun D i M' H' => ∃ L zs : List Str, Gr M (S.cut H) M' (S.cut H') ∧ S.At (k + (xs.length - i)) H' ∧ S.cut H D = none ∧ M' D = none ∧ M' p = none ∧ p ≠ D ∧ S.cut H' D = some (.lst (zs.map V.str)) ∧ S.cut H' p = some (.lst (L.map V.str)) ∧ (zs ++ L).Perm xs ∧ zs.length = i) (fun M2 H2 D g2 hD => ?_) (fun D i M' H' hi => ?_) (fun D M' H' => ?_)
    · have g2' := lift g1.mh a1 g2
      have a2 := a1.same g2.hh
      have nD := a2.fresh hD
      have hp2 := g2'.hh _ _ hpw
      have hpD := hdis hD hp2
      have G2 := g1.trans g2'
      refine ⟨xs, [], by rw [cut_upd nD]; exact G2.trans (.own G2.mh (a2.cutn hD)), a2.upd nD, G2.hh.free (a2.cutn hD), G2.mh.free (a2.cutn hD), g2'.keep hpm hpw, hpD, by rw [cut_upd nD, upd_same]; rfl, by rw [cut_upd nD, upd_ne hpD]; exact hp2, List.Perm.refl _, rfl⟩
    · rintro ⟨L, zs, g, a', hD0, mD, mp, hpD, hwD, hwp, hper, hzl⟩
      have hLl : L.length = xs.length - i := by have := hper.length_eq; rw [List.length_append] at this; omega
      have e1 : k + (xs.length - i) = (k + (xs.length - (i + 1))) + 1 := by omega
      rw [e1] at a'
      refine ⟨.ref p, rfl, .inl ⟨rfl, _, .inl (.inl (of_cut hwp))⟩, ?_⟩
      refine GvS.lend (S := S) (c := 1) (P := Ex It' fun z => 0 ≤ z ∧ z < (L.length : Int)) (gs_call1 (S := S) (R1 := It') (pre := fun n => 0 < n ∧ n < 1073741824) (cs := fun _ => 1) (R := fun n => Ex It' fun i => 0 ≤ i ∧ i < n) (x := (L.length : Int)) rfl
        (gv_lenA (K := K) (R := Tx) (gv_var rfl (.inl ⟨p, _, rfl, .inl (.inl upd_same), pd_of_tx L⟩))) ⟨by omega, by omega⟩) mp g.mh a' hwp ls_nt fun v3 M3 H3 g3 a3 ⟨z, hz, rz⟩ => ?_
      cases rz
      have hp3 := g3.hh _ _ hwp
      have hD3 := g3.hh _ _ hwD
      have hzn : z.toNat < L.length := by omega
      refine ⟨p, L.map V.str, z, z.toNat, .str L[z.toNat], rfl, rfl, of_cut hp3, by omega, by omega, ?_, ?_, ?_⟩
      · unfold seqIndex?
        rw [List.length_map]
        simp only [if_neg (show ¬ z < 0 by omega)]
        rw [if_pos (by simp; omega)]
      · rw [List.getElem?_map, List.getElem?_eq_getElem hzn]; rfl
      · have np := on_of hp3
        have nD := on_of hD3
        refine ⟨zs.map V.str, by rw [upd_ne (Ne.symm hpD)]; exact of_cut hD3, szL (by rw [List.length_map]; omega), M3, L.eraseIdx z.toNat, zs ++ [L[z.toNat]], ?_, (a3.upd np).upd nD, hD0, g3.keep mD hwD, g3.keep mp hwp, hpD, ?_, ?_, ?_, by rw [List.length_append, hzl]; rfl⟩
        · rw [cut_upd nD, cut_upd np]
          exact ((g.trans g3).mut hp0 (g3.keep mp hwp)).mut hD0 (g3.keep mD hwD)
        · rw [cut_upd nD, upd_same, List.map_append]; rfl
        · rw [cut_upd nD, cut_upd np, upd_ne hpD, upd_same, erase_map]
        · refine List.Perm.trans ?_ hper
          rw [List.append_assoc]
          exact List.Perm.append_left zs (erase_perm hzn)
    · rintro ⟨L, zs, g, a', hD0, mD, mp, hpD, hwD, hwp, hper, hzl⟩
      have hL : L = [] := by
        have := hper.length_eq; rw [List.length_append] at this
        exact List.eq_nil_of_length_eq_zero (by omega)
      subst hL
      rw [List.append_nil] at hper
      exact q D _ M' H' g (a'.le (by omega)) hD0 mD hwD ⟨zs, hper, pd_of_tx zs⟩
end
end My

set_option Elab.async false
set_option linter.all false
set_option maxRecDepth 100000
set_option maxHeartbeats 4000000
namespace My
open PySem PySem.Spec PyProof.Rows L2 L3
open L3.Strm
section
variable {K : PySem.W.Frag} {S : Strm} {σ : Sl} {M : Hp} {te : TE} {i : Nat} {n : Int}
theorem gs_draw (hi : σ[i]? = some (some (.ref S.a))) (h : Gv te σ M (It' n)) (h0 : 0 < n) (h1 : n < 1073741824) : GvS S 1 (tCall (sp__law_draw K) [] E0 (tCons (tVar i) (tCons te tNil))) σ M (Ex It' fun z => 0 ≤ z ∧ z < n) :=
  gs_call1 (S := S) (R1 := It') (pre := fun n => 0 < n ∧ n < 1073741824) (cs := fun _ => 1) (R := fun n => Ex It' fun i => 0 ≤ i ∧ i < n) (x := n) hi h ⟨h0, h1⟩
theorem gts_zero (hi : σ[i]? = some (some (.ref S.a))) (h : Gv te σ M (It' n)) (h0 : 0 < n) (h1 : n < 1073741824) : GvTS S 1 (tTest (tOp (rEqP K false) (tCall (sp__law_draw K) [] E0 (tCons (tVar i) (tCons te tNil))) (tC (.int 0)))) σ M fun _ => True :=
  (gts_test (P := fun _ v => ∃ b, v = .bl b) (gs_op (c2 := 0) (P1 := It' 0) (gs_draw (K := K) hi h h0 h1) (gv_c rfl).s fun M' x y ⟨z, _, rz⟩ py => fun H mh Q q =>
    gv_eqT (K := K) (neg := false) (σ := []) (M := M') (ta := tC x) (tb := tC y) py_int inj_int (gv_c rz) (gv_c py) (by simp [PyData.depth]) H mh Q fun v M' H' g r => q v M' H' g ⟨_, r⟩) fun M v ⟨b, e⟩ => ⟨b, e, trivial⟩)
end
def sgn (c : Nat) : Str := ⟨#[c]⟩
theorem join_sgn (cs : List Nat) : Txt.join "" (cs.map sgn) = ⟨cs.toArray⟩ := by
  have h := SX.join_S [] (cs.map fun c => [c])
  rw [List.map_map] at h
  have e : ∀ cs : List Nat, TL.joinL [] (cs.map fun c => [c]) = cs := fun cs => by
    induction cs with
    | nil => rfl
    | cons c r ih =>
      cases r with
      | nil => rfl
      | cons d r => show [c] ++ ([] ++ TL.joinL [] ((d :: r).map fun c => [c])) = c :: d :: r; rw [ih]; rfl
  rw [e] at h
  exact h
theorem letter_at : ∀ j, j < 26 → g_LETTERS.cps.toList[j]? = some (97 + j) := by decide +kernel
theorem atI_letter {z : Int} (h0 : 0 ≤ z) (h1 : z < 26) : atI g_LETTERS.cps.toList z = some (97 + z.toNat) := by
  have := atI_nat (letter_at z.toNat (by omega))
  rw [Int.toNat_of_nonneg h0] at this
  exact this
theorem isNm_of {cs : List Nat} (h1 : 1 ≤ cs.length) (h2 : cs.length ≤ 8) (h : ∀ c ∈ cs, ∃ j, j < 26 ∧ c = 97 + j) : isNm ⟨cs.toArray⟩ = true := by
  simp only [isNm, Bool.and_eq_true, decide_eq_true_eq, List.all_eq_true]
  refine ⟨⟨by simpa [Str.length] using h1, by simpa [Str.length] using h2⟩, fun c hc => ?_⟩
  obtain ⟨j, hj, rfl⟩ := h c (by simpa using hc)
  exact List.mem_of_getElem? (letter_at j hj)
def words : List Str := ["sign", "helper", "clause", "dead", "forced", "all", "found"]
theorem words_nm : ∀ x ∈ words, isNm x = true := by decide +kernel
def spare (i : Nat) : Str := ⟨#[113, 97 + i / 26, 97 + i % 26]⟩
theorem spare_nm {i : Nat} (h : i < 676) : isNm (spare i) = true := isNm_of (cs := [113, 97 + i / 26, 97 + i % 26]) (by simp) (by simp) fun c hc => by
  simp only [List.mem_cons, List.not_mem_nil, or_false] at hc
  rcases hc with rfl | rfl | rfl
  · exact ⟨16, by decide, rfl⟩
  · exact ⟨i / 26, by omega, rfl⟩
  · exact ⟨i % 26, by omega, rfl⟩
theorem spare_inj {i j : Nat} (h : spare i = spare j) : i = j := by
  have h1 := congrArg (fun x : Str => x.cps.toList) h
  simp only [spare, List.cons.injEq, and_true, true_and] at h1
  omega
theorem spare_eq (i : Nat) : ("q" : Str) ++ sgn (97 + i / 26) ++ sgn (97 + i % 26) = spare i := rfl
theorem nodup_le {ys : List Str} : ∀ {xs : List Str}, xs.Nodup → (∀ x ∈ xs, x ∈ ys) → xs.length ≤ ys.length := by
  intro xs
  induction xs generalizing ys with
  | nil => intro _ _; exact Nat.zero_le _
  | cons x xs ih =>
    intro nd h
    obtain ⟨hx, nd⟩ := List.nodup_cons.mp nd
    have h1 := ih (ys := ys.filter fun y => decide (y ≠ x)) nd fun z hz => List.mem_filter.mpr ⟨h z (List.mem_cons_of_mem _ hz), decide_eq_true fun e => hx (e ▸ hz)⟩
    have h2 := filter_lt (l := x) (p := fun _ => true) (q := fun y => decide (y ≠ x)) (xs := ys) (fun _ _ => rfl) (h x (List.mem_cons_self ..)) rfl (by simp)
    rw [List.filter_eq_self.mpr fun _ _ => rfl] at h2
    rw [List.length_cons]
    omega
theorem spare_free {taken : List Str} (h : ∀ i, i < 676 → spare i ∈ taken) : 676 ≤ taken.length := by
  have nd : ((List.range 676).map spare).Nodup := by
    show List.Pairwise _ _
    rw [List.pairwise_map]
    exact List.Pairwise.imp (fun hne e => hne (spare_inj e)) (List.nodup_range (n := 676))
  have := nodup_le nd fun x hx => by
    obtain ⟨i, hi, rfl⟩ := List.mem_map.mp hx
    exact h i (List.mem_range.mp hi)
  simpa using this
theorem sgns_of {α : Type} {xs : List α} {ys : List Str} (h : Paired (fun _ x => ∃ j, j < 26 ∧ x = sgn (97 + j)) xs ys) : ∃ cs : List Nat, ys = cs.map sgn ∧ cs.length = xs.length ∧ ∀ c ∈ cs, ∃ j, j < 26 ∧ c = 97 + j := by
  induction h with
  | nil => exact ⟨[], rfl, rfl, fun c h => nomatch h⟩
  | cons q _ ih =>
    obtain ⟨j, hj, e⟩ := q
    obtain ⟨cs, h1, h2, h3⟩ := ih
    refine ⟨(97 + j) :: cs, by rw [e, h1]; rfl, by simp [h2], fun c hc => ?_⟩
    rcases List.mem_cons.mp hc with rfl | hc
    · exact ⟨j, hj, rfl⟩
    · exact h3 c hc
theorem sgn_sum (cs : List Nat) : ((cs.map sgn).map (·.length)).sum = cs.length := by
  induction cs with
  | nil => rfl
  | cons c r ih => simp only [List.map_cons, List.sum_cons, ih, List.length_cons]; show 1 + r.length = _; omega
section
variable {P : Program} {w : World} {K : PySem.W.Frag} {mg : Str → Option Value} {base : Heap}
abbrev s__law_fresh : Stmt := topS 37
theorem sc__law_fresh : FnScope ["_law_stream", "_law_taken", "_law_name", "_law_k", "_law_letters", "_law_words", "_law_spare"] ["_law_stream", "_law_taken"] (defScope s__law_fresh) := ⟨rfl, rfl, rfl, by decide +kernel, rfl, by decide +kernel, by decide +kernel⟩
def sp__law_fresh (K : PySem.W.Frag) : Sp := spS1 (SqR K Tx) (fun xs => xs.length ≤ 600) (fun _ => 12) fun xs => Ex Tx fun x => isNm x = true ∧ x ∉ xs
theorem ok__law_fresh {f : Addr} {fd : FuncData} (F : Fun K "_law_fresh" "_law_fresh" s__law_fresh f fd) (T : Gc mg) (c__law_draw : Cal P w K mg base 1 "_law_draw" ["_law_stream", "_law_many"] (sp__law_draw K)) (c__law_pick : Cal P w K mg base 2 "_law_pick" ["_law_stream", "_law_things"] (sp__law_pick K)) :
    FnOk P w K mg base CX0 3 f fd ["_law_stream", "_law_taken"] (sp__law_fresh K) := by
  refine F.ok sc__law_fresh (fun vs H Q E h => ?_) (fun cdv A outer s H vs Q E hr h => ?_)
  · obtain ⟨S, x, M, v, k, rfl, _⟩ := h
    rfl
  · obtain ⟨S, tk, M, v, k, rfl, mh, at_, r1, h1, q⟩ := h
    have hu := hr.units
    refine ⟨_, (pss_cons (ps_asg (pe_tup (pa_cons pe_str (pa_cons (pe_lst (pa_cons pe_str (pa_cons pe_str (pa_cons pe_str (pa_cons pe_str (pa_cons pe_str (pa_cons pe_str (pa_cons pe_str pa_nil)))))))) pa_nil))) (pg_tup (by rfl) (pgs_cons (pg_name (i := 4) sc__law_fresh.nd rfl (by first | exact .inl rfl | exact .inr rfl)) (pgs_cons (pg_name (i := 5) sc__law_fresh.nd rfl (by first | exact .inl rfl | exact .inr rfl)) pgs_nil))))
      (pss_cons (ps_set (i := 2) sc__law_fresh.nd rfl (by first | exact .inl rfl | exact .inr rfl) (pe_join pe_str (pe_lc (own := [("_law_k", 3)]) (g := (gName 3)) (tt := tYes) (te := (tOp (rIxX K) (tVar 4) (tCall (sp__law_draw K) [] E0 (tCons (tVar 0) (tCons (tC (.int 26)) tNil))))) (by rfl) sc__law_fresh.nd (pi_range1 (by rfl) T.range (pa_cons (pe_ix ix_X (pe_lst (pa_cons pe_int (pa_cons pe_int (pa_cons pe_int (pa_cons pe_int (pa_cons pe_int (pa_cons pe_int pa_nil))))))) (pe_f c__law_draw (hr.mono (by decide)) (pa_cons (pv 0) (pa_cons pe_int pa_nil))) (fun _ _ => rfl)) pa_nil)) (blkOk_by (by rfl)) (fun _ _ _ _ _ => (pg_name (i := 3) sc__law_fresh.nd rfl (by first | exact .inl rfl | exact .inr rfl))) (fun _ _ _ _ _ => pts_nil) (fun _ _ _ _ _ => (pe_ix ix_X (pv 4) (pe_f c__law_draw (hr.mono (by decide)) (pa_cons (pv 0) (pa_cons pe_int pa_nil))) (fun _ _ => rfl))))))
      (pss_cons (ps_set (i := 2) sc__law_fresh.nd rfl (by first | exact .inl rfl | exact .inr rfl) (pe_ifExp (pt_cmpR (op_eqP hu) (pe_f c__law_draw (hr.mono (by decide)) (pa_cons (pv 0) (pa_cons pe_int pa_nil))) pe_int (nomark _)) (pe_f c__law_pick (hr.mono (by decide)) (pa_cons (pv 0) (pa_cons (pv 5) pa_nil))) (pv 2)))
      (pss_cons (ps_for PassesOwn.never (by rfl) (pi_range1 (by rfl) T.range (pa_cons (pe_op op_mul pe_int (pe_callTy call_int1 (by rfl) T.int boot_int (pa_cons (pe_cmpR (op_inA hu) (pv 2) (pv 1) (by rfl)) pa_nil))) pa_nil)) (pg_name (i := 3) sc__law_fresh.nd rfl (by first | exact .inl rfl | exact .inr rfl)) (pss_cons (ps_set (i := 6) sc__law_fresh.nd rfl (by first | exact .inl rfl | exact .inr rfl) (pe_op op_addA (pe_op op_addA pe_str (pe_ix ix_X (pv 4) (pe_op op_fdiv (pv 3) pe_int) (fun _ _ => rfl))) (pe_ix ix_X (pv 4) (pe_op op_mod (pv 3) pe_int) (fun _ _ => rfl))))
      (pss_one (ps_if (pt_cmpR (op_niA hu) (pv 6) (pv 1) (by rfl)) (pss_one (ps_ret (pv 6))) pss_nil))))
      (pss_one (ps_ret (pv 2))))))), ?_⟩
    refine z_asgT (S := S) (k := k + 12) (c := 0) (R := PrR K Tx (LiR Tx)) (x := (g_LETTERS, words)) mh at_ (gv_pair (gv_c rfl) (gv_strs words (by decide))).s tg_2 fun σ1 M1 H1 g1 a1 ⟨vl, vw, rl, rw', e⟩ => ?_
    cases rl
    subst e
    -- name = "".join([..])
    refine z_asg (S := S) (k := k + 3) (c := 9) (P := Ex Tx fun x => isNm x = true) g1.mh a1 ((gs_join (K := K) (good := fun ys => ∃ cs : List Nat, ys = cs.map sgn ∧ 1 ≤ cs.length ∧ cs.length ≤ 8 ∧ ∀ c ∈ cs, ∃ j, j < 26 ∧ c = 97 + j) ((gls_m1 (R := fun i : Nat => It' (i : Nat)) (T := Tx) (n := 8) (c1 := 1) (c2 := 1) (G := fun xs => ∃ n, (1 ≤ n ∧ n ≤ 8) ∧ xs = List.range n) (good := fun _ x => ∃ j, j < 26 ∧ x = sgn (97 + j)) ?_ ?_ (by decide) ?_).is ?_) ?_).is ?_) fun v2 M2 H2 g2 a2 ⟨nm, hnm, r2⟩ => ?_
    · refine gis_rng1 (good := fun n => 1 ≤ n ∧ n ≤ 8) (gs_op (c1 := 0) (c2 := 1) (P := SqR K It' [1, 1, 1, 2, 3, 8]) (gv_is (gv_ints [1, 1, 1, 2, 3, 8] (by decide)) fun _ _ h => h.sq).s (gs_draw (K := K) rfl (gv_c rfl) (by decide) (by decide)) fun M' u w pu ⟨z, hz, pw⟩ => ?_) fun n hn => by omega
      obtain ⟨x, hx, ha⟩ := atI_in (xs := ([1, 1, 1, 2, 3, 8] : List Int)) hz.1 hz.2
      refine fun H mh Q q => rv_ix pu pw ha H mh Q fun v M' H' g r => q v M' H' g ⟨x.toNat, ?_, ?_⟩
      · simp only [List.mem_cons, List.not_mem_nil, or_false] at hx
        omega
      · have : ((x.toNat : Nat) : Int) = x := by simp only [List.mem_cons, List.not_mem_nil, or_false] at hx; omega
        show v = .int _
        rw [this]; exact r
    · rintro xs ⟨n, hn, rfl⟩
      rw [List.length_range]; exact hn.2
    · intro xs _ i _ M2 v2 sm ri
      refine gs_op (c1 := 0) (c2 := 1) (P := Tx g_LETTERS) (gv_var rfl rfl).s (gs_draw (K := K) rfl (gv_c rfl) (by decide) (by decide)) fun M' u w pu ⟨z, hz, pw⟩ => ?_
      exact fun H mh Q q => rv_ixS pu pw (by decide) (atI_letter hz.1 hz.2) H mh Q fun v M' H' g r => q v M' H' g ⟨_, ⟨z.toNat, by omega, rfl⟩, r⟩
    · rintro M2 ws ⟨xs, ys, ⟨n, hn, rfl⟩, hp, hpd⟩
      obtain ⟨cs, h2, h3, h4⟩ := sgns_of hp
      rw [List.length_range] at h3
      exact ⟨ys, ⟨cs, h2, by omega, by omega, h4⟩, hpd⟩
    · rintro ys ⟨cs, rfl, h2, h3, h4⟩
      rw [sgn_sum]
      have e0 : (Str.ofString "").length = 0 := rfl
      rw [e0]
      omega
    · rintro M2 v2 ⟨ys, ⟨cs, rfl, h2, h3, h4⟩, r⟩
      rw [join_sgn] at r
      exact ⟨_, isNm_of h2 h3 h4, r⟩
    -- name = pick(..) if draw(9) == 0 else name
    cases r2
    have G2 := g1.trans g2
    have rw2 : LiR Tx words M2 vw := Mon.mono g2.mm rw'
    refine z_asg (S := S) (k := k + 1) (c := 1 + 1) (P := Ex Tx fun x => isNm x = true) g2.mh a2 (gs_if (c1 := 1) (c2 := 1) (gts_zero (K := K) rfl (gv_c rfl) (by decide) (by decide)) (fun _ => (gs_call1 (S := S) (R1 := SqR K Tx) (pre := fun xs => 0 < xs.length ∧ xs.length ≤ 1000000) (cs := fun _ => 1) (R := fun xs => Ex Tx fun x => x ∈ xs) (x := words) rfl (gv_var rfl (rw2.sq (K := K))) ⟨by decide, by decide⟩).is fun M v ⟨x, hx, r⟩ => ⟨x, words_nm x hx, r⟩) fun _ => (gv_var (P := Ex Tx fun x => isNm x = true) rfl ⟨nm, hnm, rfl⟩).s.cost (Nat.zero_le _)) fun v3 M3 H3 g3 a3 ⟨nm3, hnm3, r3⟩ => ?_
    cases r3
    have G3 := G2.trans g3
    have r1' : SqR K Tx tk M3 v := Mon.mono G3.mm r1
    have fin : ∀ (x : Str) (M' H' : Hp), isNm x = true → x ∉ tk → Gr M3 H3 M' H' → Q (.str x) H' := fun x M' H' hx ht g => q _ M' H' (G3.trans (lift G3.mh a3 g)) ((a3.same g.hh).le (by omega)) ⟨x, ⟨hx, ht⟩, rfl⟩
    have hmul : (676 : Int) * (if decide (nm3 ∈ tk) = true then 1 else 0) = ((if nm3 ∈ tk then 676 else 0 : Nat) : Int) := by by_cases h : nm3 ∈ tk <;> simp [h]
    refine q_forG (M := M3) (xs := List.range (if nm3 ∈ tk then 676 else 0)) (R := fun i : Nat => It' (i : Nat)) (G3.mh.trans cut_same) (gi_rng1 (n := if nm3 ∈ tk then 676 else 0) (gv_is (gv_mul (gv_c rfl) (gv_int1b (gv_inA (K := K) (neg := false) (gv_var rfl rfl) (gv_var rfl (.inl r1')))) (.inl ⟨by decide, by decide⟩)) fun M v h => by
        rw [show v = _ from h]; rw [Bool.false_xor]; show V.int _ = V.int _; rw [hmul]) (by split <;> decide)) tg_1
      (fun M1' i σ' M' H' => ∃ y3 y6, Gr M3 H3 M' H' ∧ Same M1' M' ∧ Same M3 M' ∧ σ' = [some (.ref S.a), some v, some (.str nm3), y3, some (.str g_LETTERS), some vw, y6] ∧ ∀ j, j < i → spare j ∈ tk)
      (fun M4 H4 g4 => ⟨_, _, g4, Same.refl _, g4.mm, rfl, fun j h => nomatch h⟩) (fun M4 i σ' M' H' ⟨_, _, g, s1, _⟩ => ⟨s1, g.mh⟩) ?_ ?_
    · rintro M4 i x σ' M' H' M5 H5 σ2 sM hx ⟨y3, y6, g, s1, s2, rfl, hall⟩ g5 ⟨v5, r5, rfl⟩
      cases r5
      have hix : i < (if nm3 ∈ tk then 676 else 0) := by have := (List.getElem?_eq_some_iff.mp hx).1; rwa [List.length_range] at this
      obtain rfl : i = x := by rw [List.getElem?_range hix] at hx; exact Option.some.inj hx
      have hi : i < 676 := by split at hix; exact hix; omega
      have G5 := g.trans g5
      refine q_asg (P := Tx (spare i)) G5.mh (gv_is (gv_addSt (K := K) (gv_addSt (K := K) (gv_c rfl) (gv_ixS (K := K) (i := (i : Int) / 26) (c := 97 + i / 26) (x := g_LETTERS) (gv_var rfl rfl) (gv_fdiv (gv_var rfl rfl) (gv_c rfl) ⟨by decide, by decide⟩) (by decide) ?_) (by show 1 + 1 ≤ sizeLine; decide))
        (gv_ixS (K := K) (i := (i : Int) % 26) (c := 97 + i % 26) (x := g_LETTERS) (gv_var rfl rfl) (gv_mod (gv_var rfl rfl) (gv_c rfl) (by decide)) (by decide) ?_) (by show 2 + 1 ≤ sizeLine; decide)) fun M v h => by rw [show v = _ from h]; exact congrArg V.str (spare_eq i)) fun v6 M6 H6 g6 r6 => ?_
      · have := atI_letter (z := (i : Int) / 26) (by omega) (by omega)
        rw [this]; congr 2
      · have := atI_letter (z := (i : Int) % 26) (by omega) (by omega)
        rw [this]; congr 2
      cases r6
      have G6 := G5.trans g6
      refine s_if0 G6.mh (gt_test (gv_inA (K := K) (neg := true) (gv_var rfl rfl) (gv_var rfl (.inl (Mon.mono (s2.trans (g5.mm.trans g6.mm)) r1'))))) (fun hb H7 hh7 => ?_) (fun hb H7 hh7 => ?_)
      · exact ⟨_, rfl, fin _ _ _ (spare_nm hi) (by simpa using hb) (G6.trans (.idle G6.mh hh7))⟩
      · refine ⟨M6, _, _, G6.trans (.idle G6.mh hh7), s1.trans (g5.mm.trans g6.mm), s2.trans (g5.mm.trans g6.mm), rfl, fun j hj => ?_⟩
        by_cases e : j = i
        · subst e; simpa using hb
        · exact hall j (by omega)
    · rintro M4 σ' M' H' sM ⟨y3, y6, g, s1, s2, rfl, hall⟩
      rw [List.length_range] at hall
      refine ⟨_, rfl, fin nm3 M' H' hnm3 (fun ht => ?_) g⟩
      rw [if_pos ht] at hall
      have := spare_free hall
      omega
end
end My

set_option Elab.async false
set_option linter.all false
set_option maxRecDepth 100000
set_option maxHeartbeats 4000000
namespace My
open PySem PySem.Spec PyProof.Rows L2 L3
open L3.Strm
/-- unlike names -/
structure NmL (ns : List Str) : Prop where
  nd : ns.Nodup
  nm : ∀ n ∈ ns, isNm n = true
  n : ns.length ≤ 500
/-- literals of names, no name twice -/
structure Lits (ns ys : List Str) : Prop where
  nd : (ys.map nameOf).Nodup
  of : ∀ y ∈ ys, ∃ n ∈ ns, y = n ∨ y = ("-" : Str) ++ n
section
variable {P : Program} {w : World} {K : PySem.W.Frag} {mg : Str → Option Value} {base : Heap}
abbrev s__law_names : Stmt := topS 38
theorem sc__law_names : FnScope ["_law_stream", "_law_many", "_law_found", "_law_k"] ["_law_stream", "_law_many"] (defScope s__law_names) := ⟨rfl, rfl, rfl, by decide +kernel, rfl, by decide +kernel, by decide +kernel⟩
def sp__law_names (K : PySem.W.Frag) : Sp := slS1 It' (fun n => 0 ≤ n ∧ n ≤ 500) (fun n => 12 * n.toNat) fun n M ws => ∃ ys : List Str, NmL ys ∧ ys.length = n.toNat ∧ Pd Tx M ys ws
theorem ok__law_names {f : Addr} {fd : FuncData} (F : Fun K "_law_names" "_law_names" s__law_names f fd) (T : Gc mg) (c__law_fresh : Cal P w K mg base 3 "_law_fresh" ["_law_stream", "_law_taken"] (sp__law_fresh K)) : FnOk P w K mg base CX0 4 f fd ["_law_stream", "_law_many"] (sp__law_names K) := by
  refine F.ok sc__law_names (fun vs H Q E h => ?_) (fun cdv A outer s H vs Q E hr h => ?_)
  · obtain ⟨S, x, M, v, k, rfl, _⟩ := h
    rfl
  · obtain ⟨S, n, M, v, k, rfl, mh, at_, r1, ⟨h1, h2⟩, q⟩ := h
    obtain ⟨n, rfl⟩ : ∃ m : Nat, n = (m : Int) := ⟨n.toNat, by omega⟩
    cases r1
    have at_ : S.At (k + 12 * n) H := at_
    refine ⟨_, (pss_cons (ps_set (i := 2) sc__law_names.nd rfl (by first | exact .inl rfl | exact .inr rfl) (pe_lst pa_nil))
      (pss_cons (ps_for PassesOwn.never (by rfl) (pi_range1 (by rfl) T.range (pa_cons (pv 1) pa_nil)) (pg_name (i := 3) sc__law_names.nd rfl (by first | exact .inl rfl | exact .inr rfl)) (pss_one (ps_expr (pe_bm PySem.F.plainAttrs_list PySem.F.slot_list_append PySem.F.type_list_append mt_append (pv 2) (pa_cons (pe_f c__law_fresh (hr.mono (by decide)) (pa_cons (pv 0) (pa_cons (pv 2) pa_nil))) pa_nil)))))
      (pss_one (ps_ret (pv 2))))), ?_⟩
    refine z_asgL (S := S) (k := k + 12 * n) (c := 0) mh at_ gl_nil.s fun p vs M1 H1 g1 a1 hp0 hpm hpw ev => ?_
    subst ev
    refine z_for (S := S) (k := k + 12 * n) (c := 0) (G := (· = List.range n)) (R := fun i : Nat => It' (i : Nat)) g1.mh a1 (gi_rng1 (n := n) (gv_var rfl rfl) (by omega)).s tg_1
      (fun _ M1' i σ' M' H' => ∃ ys y3, Gr M (S.cut H) M' (S.cut H') ∧ S.At (k + 12 * (n - i)) H' ∧ Same M1' M' ∧ OwS S H M' H' p (ys.map V.str) ∧ NmL ys ∧ ys.length = i ∧ σ' = [some (.ref S.a), some (.int (n : Nat)), some (.ref p), y3])
      (fun xs M2 H2 _ g2 a2 => ⟨[], _, g1.trans g2, a2, Same.refl _, OwS.step ⟨⟨hp0, hpm, hpw⟩⟩ g2, ⟨List.nodup_nil, (fun _ h => nomatch h), by simp⟩, rfl, rfl⟩)
      (fun xs M2 i σ' M' H' ⟨ys, y3, g, a, s1, _⟩ => ⟨s1, g.mh, a.le (Nat.zero_le _)⟩) ?_ ?_
    · rintro xs M2 i x σ' M' H' M3 H3 σ2 rfl sM hx ⟨ys, y3, g, a, s1, ow, hn, hl, rfl⟩ g3 ⟨v3, r3, rfl⟩
      have hi : i < n := by have := (List.getElem?_eq_some_iff.mp hx).1; rwa [List.length_range] at this
      have g3' := lift g.mh a g3
      have a3 := a.same g3.hh
      have ow3 := ow.step g3'
      have G3 := g.trans g3'
      have e1 : k + 12 * (n - i) = (k + 12 * (n - (i + 1))) + 12 := by omega
      rw [e1] at a3
      have hn5 := hn.n
      refine z_appL (S := S) (c := 12) (P := Ex Tx fun x => isNm x = true ∧ x ∉ ys) G3.mh a3 rfl ow3.o.m ow3.o.h (szL (by rw [List.length_map]; omega)) (gs_call1 (S := S) (R1 := SqR K Tx) (pre := fun xs => xs.length ≤ 600) (cs := fun _ => 12) (R := fun xs => Ex Tx fun x => isNm x = true ∧ x ∉ xs) (x := ys) rfl (gv_var rfl (.inl ⟨p, _, rfl, .inl (.inl upd_same), pd_of_tx ys⟩)) (by omega)) fun v4 M4 H4 g4 a4 ⟨x4, ⟨h4, h5⟩, r4⟩ => ?_
      cases r4
      have ow4 := ow3.step g4
      refine ⟨M4, ys ++ [x4], _, ow4.mut (G3.trans g4), a4.upd ow4.on, s1.trans (g3.mm.trans g4.mm), ?_, ⟨?_, ?_, ?_⟩, by rw [List.length_append, hl]; rfl, rfl⟩
      · rw [List.map_append]; exact ow4.put
      · rw [List.nodup_append]
        exact ⟨hn.nd, by simp, fun a ha b hb => by rw [List.mem_singleton] at hb; subst hb; exact fun e => h5 (e ▸ ha)⟩
      · intro z hz
        rcases List.mem_append.mp hz with hz | hz
        · exact hn.nm z hz
        · rw [List.mem_singleton] at hz; subst hz; exact h4
      · rw [List.length_append, List.length_singleton]; omega
    · rintro xs M2 σ' M' H' rfl sM ⟨ys, y3, g, a, s1, ow, hn, hl, rfl⟩
      rw [List.length_range] at hl
      exact ⟨.ref p, rfl, q p _ M' H' g (a.le (by omega)) ow.o.h0 ow.o.m ow.o.h ⟨ys, hn, hl, pd_of_tx ys⟩⟩
end
end My

set_option Elab.async false
set_option linter.all false
set_option maxRecDepth 100000
set_option maxHeartbeats 4000000
namespace My
open PySem PySem.Spec PyProof.Rows L2 L3
open L3.Strm
theorem Lits.sub {ns ys zs : List Str} (h : Lits ns ys) (p : zs.Sublist ys) : Lits ns zs := ⟨h.nd.sublist (p.map nameOf), fun y hy => h.of y (p.subset hy)⟩
theorem Lits.nil {ns : List Str} : Lits ns [] := ⟨List.nodup_nil, fun _ h => nomatch h⟩
/-! texts by their signs -/
theorem head1 (c : Nat) (r : List Nat) : cutS (SX.S (c :: r)) none (some 1) = SX.S [c] := by
  show SX.S _ = SX.S _
  have e : HT.sIx (SX.S (c :: r)).length (SX.S (c :: r)).length (some ((1 : Nat) : Int)) = 1 := by rw [HT.sIx_nat, SX.S_len, List.length_cons]; omega
  have e' : HT.sIx (SX.S (c :: r)).length (SX.S (c :: r)).length (some 1) = 1 := e
  rw [e']
  rfl
theorem tail1 (c : Nat) (r : List Nat) : cutS (SX.S (c :: r)) (some 1) none = SX.S r := by
  have e : HT.sIx (SX.S (c :: r)).length 0 (some ((1 : Nat) : Int)) = 1 := by rw [HT.sIx_nat, SX.S_len, List.length_cons]; omega
  have e' : HT.sIx (SX.S (c :: r)).length 0 (some 1) = 1 := e
  have e2 : HT.sIx (SX.S (c :: r)).length (SX.S (c :: r)).length none = r.length + 1 := by rw [HT.sIx_none, SX.S_len, List.length_cons]
  show SX.S _ = SX.S _
  rw [e', e2]
  congr 1
  show (r.take (r.length + 1 - 1)) = r
  simp
theorem minus : ("-" : Str) = SX.S [45] := rfl
theorem neg_S (l : List Nat) : ("-" : Str) ++ SX.S l = SX.S (45 :: l) := SX.S_cat [45] l
theorem nm_S {n : Str} (h : isNm n = true) : ∃ c r, n = SX.S (c :: r) ∧ c ≠ 45 := by
  simp only [isNm, Bool.and_eq_true, decide_eq_true_eq, List.all_eq_true] at h
  obtain ⟨⟨h1, h2⟩, h3⟩ := h
  cases hl : n.cps.toList with
  | nil =>
    have : n.length = 0 := by rw [show n.length = n.cps.toList.length from rfl, hl]; rfl
    exact absurd h1 (by omega)
  | cons c r =>
    refine ⟨c, r, by rw [← hl], fun e => ?_⟩
    have := h3 c (by rw [hl]; exact List.mem_cons_self ..)
    subst e
    revert this
    decide +kernel
theorem nameOf_nm {n : Str} (h : isNm n = true) : nameOf n = n := by
  obtain ⟨c, r, rfl, hc⟩ := nm_S h
  unfold nameOf
  rw [head1, minus, if_neg (fun e => hc (by have := SX.S_inj e; simpa using this))]
theorem nameOf_neg {n : Str} (h : isNm n = true) : nameOf (("-" : Str) ++ n) = n := by
  obtain ⟨c, r, rfl, hc⟩ := nm_S h
  unfold nameOf
  rw [neg_S, head1, minus, if_pos rfl, tail1]
theorem opp_nm {n : Str} (h : isNm n = true) : opp n = ("-" : Str) ++ n := by
  obtain ⟨c, r, rfl, hc⟩ := nm_S h
  unfold opp
  rw [head1, minus, if_neg (fun e => hc (by have := SX.S_inj e; simpa using this))]
theorem opp_neg {n : Str} (h : isNm n = true) : opp (("-" : Str) ++ n) = n := by
  obtain ⟨c, r, rfl, hc⟩ := nm_S h
  unfold opp
  rw [neg_S, head1, minus, if_pos rfl, tail1]
theorem neg_ne {n m : Str} (h : isNm n = true) : n ≠ ("-" : Str) ++ m := fun e => by
  obtain ⟨c, r, rfl, hc⟩ := nm_S h
  rw [← SX.S_tl m, neg_S] at e
  have := SX.S_inj e
  simp at this
  exact hc this.1
theorem nm_ne {n : Str} (h : isNm n = true) : n ≠ "" := fun e => by
  obtain ⟨c, r, rfl, hc⟩ := nm_S h
  have : SX.S (c :: r) = SX.S [] := e
  have := SX.S_inj this
  cases this
theorem neg_ne0 {n : Str} : ("-" : Str) ++ n ≠ "" := fun e => by
  rw [← SX.S_tl n, neg_S] at e
  have : SX.S (45 :: n.cps.toList) = SX.S [] := e
  have := SX.S_inj this
  cases this
def nonE (y : Str) : Bool := decide (y ≠ ("" : Str))
/-- a selection of literals -/
theorem lits_of {ns : List Str} (hn : NmL ns) : ∀ {ms ys : List Str}, ms.Nodup → (∀ m ∈ ms, m ∈ ns) → Paired (fun n y => y = n ∨ y = ("-" : Str) ++ n ∨ y = "") ms ys → Lits ns (ys.filter nonE) ∧ ∀ z ∈ (ys.filter nonE).map nameOf, z ∈ ms := by
  intro ms ys nd hm h
  induction h with
  | nil => exact ⟨.nil, fun z h => by cases h⟩
  | @cons m y ms ys q _ ih =>
    obtain ⟨hx, nd⟩ := List.nodup_cons.mp nd
    obtain ⟨ih1, ih2⟩ := ih nd fun z hz => hm z (List.mem_cons_of_mem _ hz)
    have hmn := hm m (List.mem_cons_self ..)
    have hnm := hn.nm m hmn
    have key : ∀ y : Str, nameOf y = m → (y = m ∨ y = ("-" : Str) ++ m) → y ≠ "" → Lits ns ((y :: ys).filter nonE) ∧ ∀ z ∈ ((y :: ys).filter nonE).map nameOf, z ∈ m :: ms := by
      intro y e1 e2 e3
      rw [List.filter_cons, if_pos (show nonE y = true from decide_eq_true e3), List.map_cons, e1]
      refine ⟨⟨?_, fun z hz => ?_⟩, fun z hz => ?_⟩
      · rw [List.map_cons, e1]
        exact List.nodup_cons.mpr ⟨fun z => hx (ih2 m z), ih1.nd⟩
      · rcases List.mem_cons.mp hz with rfl | hz
        · exact ⟨m, hmn, e2⟩
        · exact ih1.of z hz
      · rcases List.mem_cons.mp hz with rfl | hz
        · exact List.mem_cons_self ..
        · exact List.mem_cons_of_mem _ (ih2 z hz)
    rcases q with rfl | rfl | rfl
    · exact key _ (nameOf_nm hnm) (.inl rfl) (nm_ne hnm)
    · exact key _ (nameOf_neg hnm) (.inr rfl) neg_ne0
    · rw [List.filter_cons, if_neg (by simp [nonE])]
      exact ⟨ih1, fun z hz => List.mem_cons_of_mem _ (ih2 z hz)⟩
theorem all_nonE {α : Type} {F : α → Str → Prop} {xs : List α} {ys : List Str} (h : Paired (fun n y => F n y ∧ nonE y = true) xs ys) : ∀ y ∈ ys, nonE y = true := by
  induction h with
  | nil => intro y hy; cases hy
  | cons q _ ih =>
    intro y hy
    rcases List.mem_cons.mp hy with rfl | hy
    · exact q.2
    · exact ih y hy
section
variable {P : Program} {w : World} {K : PySem.W.Frag} {mg : Str → Option Value} {base : Heap}
theorem nm_len {n : Str} (h : isNm n = true) : n.length ≤ 8 := isNm_len h
abbrev s__law_sided : Stmt := topS 46
theorem sc__law_sided : FnScope ["_law_stream", "_law_names_here", "_law_name"] ["_law_stream", "_law_names_here"] (defScope s__law_sided) := ⟨rfl, rfl, rfl, by decide +kernel, rfl, by decide +kernel, by decide +kernel⟩
def sp__law_sided (K : PySem.W.Frag) : Sp := slS1 (SqR K Tx) NmL (fun ns => 2 * ns.length) fun ns M ws => ∃ ys : List Str, Lits ns ys ∧ Pd Tx M ys ws
theorem ok__law_sided {f : Addr} {fd : FuncData} (F : Fun K "_law_sided" "_law_sided" s__law_sided f fd) (T : Gc mg) (c__law_draw : Cal P w K mg base 1 "_law_draw" ["_law_stream", "_law_many"] (sp__law_draw K)) (c__law_mixed : Cal P w K mg base 2 "_law_mixed" ["_law_stream", "_law_things"] (sp__law_mixed K)) :
    FnOk P w K mg base CX0 3 f fd ["_law_stream", "_law_names_here"] (sp__law_sided K) := by
  refine F.ok sc__law_sided (fun vs H Q E h => ?_) (fun cdv A outer s H vs Q E hr h => ?_)
  · obtain ⟨S, x, M, v, k, rfl, _⟩ := h
    rfl
  · obtain ⟨S, ns, M, v, k, rfl, mh, at_, r1, hn, q⟩ := h
    have hu := hr.units
    have hn5 := hn.n
    have at_ : S.At (k + 2 * ns.length) H := at_
    refine ⟨_, (pss_one (ps_ret (pe_lc (own := [("_law_name", 2)]) (g := (gName 2)) (tt := tYes) (te := (tOp (rAddA K) (tIf (tTest (tOp (rEqP K false) (tCall (sp__law_draw K) [] E0 (tCons (tVar 0) (tCons (tC (.int 2)) tNil))) (tC (.int 0)))) (tC (.str "")) (tC (.str "-"))) (tVar 2))) (by rfl) sc__law_sided.nd (pi_sq (pe_f c__law_mixed (hr.mono (by decide)) (pa_cons (pv 0) (pa_cons (pv 1) pa_nil)))) (blkOk_by (by rfl)) (fun _ _ _ _ _ => (pg_name (i := 2) sc__law_sided.nd rfl (by first | exact .inl rfl | exact .inr rfl))) (fun _ _ _ _ _ => pts_nil) (fun _ _ _ _ _ => (pe_op op_addA (pe_ifExp (pt_cmpR (op_eqP hu) (pe_f c__law_draw (hr.mono (by decide)) (pa_cons (pv 0) (pa_cons pe_int pa_nil))) pe_int (nomark _)) pe_str pe_str) (pv 2)))))), ?_⟩
    refine z_retL (S := S) (k := k) (c := ns.length + ns.length * 1) mh (at_.le (by omega)) (gls_m1 (c1 := ns.length) (n := ns.length) (c2 := 1) (T := Tx) (R := Tx) (G := fun xs => xs.Perm ns) (good := fun n y => (y = n ∨ y = ("-" : Str) ++ n ∨ y = "") ∧ nonE y = true)
      (gis_sq (K := K) ((gls_call1 (S := S) (R1 := SqR K Tx) (pre := fun xs => xs.length ≤ 1000000) (cs := fun xs => xs.length) (R := fun xs M ws => ∃ ys : List Str, ys.Perm xs ∧ Pd Tx M ys ws) (x := ns) rfl (gv_var rfl r1) (by omega)).gv fun M' vs p ⟨ys, hp, hpd⟩ m => ⟨ys, hp, .inl ⟨p, vs, rfl, .inl (.inl upd_same), hpd.mono (same_new m)⟩⟩))
      (fun xs hp => by rw [hp.length_eq]; exact Nat.le_refl _) (szM (by omega)) ?_) fun p ws M' H' g a' h0 m0 hw ⟨xs, ys, hper, hp, hpd⟩ => ?_
    · intro xs hper n hnm M1 vn sm rn
      cases rn
      have hnn : isNm n = true := hn.nm n (hper.mem_iff.mp hnm)
      have hl := nm_len hnn
      refine gs_op (c1 := 1) (c2 := 0) (P := Ex Tx fun x => x = "" ∨ x = "-") (P1 := Tx n) ((gs_if (c1 := 1) (c2 := 0) (gts_zero (K := K) rfl (gv_c rfl) (by decide) (by decide)) (fun _ => (gv_c ⟨"", .inl rfl, rfl⟩).s) fun _ => (gv_c ⟨"-", .inr rfl, rfl⟩).s)) (gv_var rfl rfl).s fun M' u w ⟨x, hx, pu⟩ pw => ?_
      have hxl : x.length ≤ 1 := by rcases hx with rfl | rfl <;> decide
      refine fun H mh Q q => gv_addSt (K := K) (σ := []) (M := M') (ta := tC u) (tb := tC w) (gv_c pu) (gv_c pw) (szM (by omega)) H mh Q fun v M' H' g r => q v M' H' g ⟨x ++ n, ?_, r⟩
      rcases hx with rfl | rfl
      · have e : (("" : Str) ++ n) = n := by rw [← SX.S_tl n]; exact SX.S_cat [] _
        rw [e]; exact ⟨.inl rfl, decide_eq_true (nm_ne hnn)⟩
      · exact ⟨.inr (.inl rfl), decide_eq_true neg_ne0⟩
    · obtain ⟨hL, _⟩ := lits_of hn (hper.nodup_iff.mpr hn.nd) (fun m h => hper.mem_iff.mp h) (Paired.mapP hp fun _ _ q => q.1)
      have hall := all_nonE hp
      rw [List.filter_eq_self.mpr hall] at hL
      refine q p ws M' H' g (a'.le (Nat.le_refl _)) h0 m0 hw ⟨ys, hL, hpd⟩
end
end My

set_option Elab.async false
set_option linter.all false
set_option maxRecDepth 100000
set_option maxHeartbeats 4000000
namespace My
open PySem PySem.Spec PyProof.Rows L2 L3
open L3.Strm
section
variable {P : Program} {w : World} {K : PySem.W.Frag} {mg : Str → Option Value} {base : Heap}
abbrev s__law_neg : Stmt := topS 39
theorem sc__law_neg : FnScope ["_law_one"] ["_law_one"] (defScope s__law_neg) := ⟨rfl, rfl, rfl, by decide +kernel, rfl, by decide +kernel, by decide +kernel⟩
def sp__law_neg (K : PySem.W.Frag) : Sp := sp1 Tx (fun x => x.length ≤ 1000) fun x => Tx (opp x)
theorem ok__law_neg {f : Addr} {fd : FuncData} (F : Fun K "_law_neg" "_law_neg" s__law_neg f fd) : FnOk P w K mg base CX0 1 f fd ["_law_one"] (sp__law_neg K) := by
  refine F.ok sc__law_neg (fun vs H Q E h => ?_) (fun cdv A outer s H vs Q E hr h => ?_)
  · obtain ⟨x, M, v, rfl, _⟩ := h
    rfl
  · obtain ⟨x, M, v, rfl, mh, r1, hp, q⟩ := h
    have hu := hr.units
    refine ⟨_, (pss_one (ps_ret (pe_ifExp (pt_cmpR (op_eqP hu) (pe_slice sl_X (pv 0) po_none (po_some pe_int)) pe_str (nomark _)) (pe_slice sl_X (pv 0) (po_some pe_int) po_none) (pe_op op_addA pe_str (pv 0))))), ?_⟩
    have hv : Gv (tVar 0) (start ["_law_one"] [v]) M (Tx x) := gv_var rfl r1
    refine s_ret mh (gv_if (gt_test (gv_eqT py_str inj_str (gv_cutS hv (sz1000 hp) (fun _ _ h => h) (fun _ _ h => ⟨1, rfl, h⟩)) (gv_c rfl) (by simp [PyData.depth]))) (fun hb => gv_is (gv_cutS hv (sz1000 hp) (fun _ _ h => ⟨1, rfl, h⟩) fun _ _ h => h) fun M' v h => ?_) fun hb => gv_is (gv_addSt (gv_c rfl) hv (szM (by show 1 + x.length ≤ _; omega))) fun M' v h => ?_) q
    · show Tx (opp x) M' v
      rw [show opp x = _ from if_pos (by simpa using hb)]; exact h
    · show Tx (opp x) M' v
      rw [show opp x = _ from if_neg (by simpa using hb)]; exact h
abbrev s__law_up : Stmt := topS 40
theorem sc__law_up : FnScope ["_law_some", "_law_names_here", "_law_found", "_law_name", "_law_one"] ["_law_some", "_law_names_here"] (defScope s__law_up) := ⟨rfl, rfl, rfl, by decide +kernel, rfl, by decide +kernel, by decide +kernel⟩
def sp__law_up (K : PySem.W.Frag) : Sp := sp2 (CtR K) (SqR K Tx) (fun _ ns => Shorts ns) fun ls ns => TT (asc ls ns)
theorem ok__law_up {f : Addr} {fd : FuncData} (F : Fun K "_law_up" "_law_up" s__law_up f fd) (T : Bi mg) : FnOk P w K mg base CX0 1 f fd ["_law_some", "_law_names_here"] (sp__law_up K) := by
  refine F.ok sc__law_up (fun vs H Q E h => ?_) (fun cdv A outer s H vs Q E hr h => ?_)
  · obtain ⟨x, y, M, v, w, rfl, _⟩ := h
    rfl
  · obtain ⟨ls, ns, M, v, w, rfl, mh, r1, r2, hp, q⟩ := h
    have hu := hr.units
    refine ⟨_, (pss_cons (ps_set (i := 2) sc__law_up.nd rfl (by first | exact .inl rfl | exact .inr rfl) (pe_lst pa_nil))
      (pss_cons (ps_for PassesOwn.never (by rfl) (pi_sq (pv 1)) (pg_name (i := 3) sc__law_up.nd rfl (by first | exact .inl rfl | exact .inr rfl)) (pss_one (ps_expr (pe_bm PySem.F.plainAttrs_list PySem.F.slot_list_extend PySem.F.type_list_extend mt_extend (pv 2) (pa_cons (pe_lc (own := [("_law_one", 4)]) (g := (gName 4)) (tt := (tTest (tOp (rInA K false) (tVar 4) (tVar 0)))) (te := (tVar 4)) (by rfl) sc__law_up.nd (pi_sq (pe_tup (pa_cons (pv 3) (pa_cons (pe_op op_addA pe_str (pv 3)) pa_nil)))) (blkOk_by (by rfl)) (fun _ _ _ _ _ => (pg_name (i := 4) sc__law_up.nd rfl (by first | exact .inl rfl | exact .inr rfl))) (fun _ _ _ _ _ => (pts_one (pt_cmpR (op_inA hu) (pv 4) (pv 0) (by rfl)))) (fun _ _ _ _ _ => (pv 4))) pa_nil)))))
      (pss_one (ps_ret (pe_callTy call_tupA (by rfl) T.tuple boot_tuple (pa_cons (pv 2) pa_nil)))))), ?_⟩
    refine q_asgL mh gl_nil fun p vs M2 H2 g2 h0 m0 hp2 hv => ?_
    subst hv
    refine q_for (R1 := Tx) (xs := ns) g2.mh (gv_var rfl (Mon.mono g2.mm r2))
      (fun M1' i σ' M' H' => ∃ y3 y4, Gr M H M' H' ∧ Same M1' M' ∧ Same M M' ∧ Own H M' H' p ((asc ls (ns.take i)).map V.str) ∧ σ' = [some v, some w, some (.ref p), y3, y4])
      (fun M3 H3 g3 => ⟨none, none, g2.trans g3, Same.refl _, (g2.trans g3).mm, Own.step ⟨h0, m0, hp2⟩ g3, rfl⟩)
      (fun M3 i σ' M' H' ⟨_, _, g, s1, _⟩ => ⟨s1, g.mh⟩) ?_ ?_
    · rintro M3 i n v' σ' M' H' sM hx ⟨y3, y4, g, s1, s2, ow, rfl⟩ rx
      cases rx
      have hn : n.length ≤ 900 := hp.2 n (List.mem_of_getElem? hx)
      have hil : i < ns.length := (List.getElem?_eq_some_iff.mp hx).1
      have et : ns.take (i + 1) = ns.take i ++ [n] := by rw [List.take_add_one, hx]; rfl
      refine s_ext g.mh rfl ow.h (gl_lc (R := Tx) (S := Tx) (gv_is (gv_tup2 (K := K) (gv_var rfl rfl) (gv_addSt (gv_c rfl) (gv_var rfl rfl) (szM (by show 1 + n.length ≤ _; omega)))) fun _ _ h => .inr h) (by show 2 ≤ sizeLine; decide) (fun l => decide (l ∈ ls)) id
        (fun l _ M1 vl sm hl => gt_is (gt_test (gv_inA (K := K) (gv_var rfl hl) (gv_var rfl (Mon.mono (s2.trans sm) r1)))) (by simp)) (fun l _ _ M1 vl sm hl => gv_var rfl hl)) (fun M4 ws h => ?_) fun ws M4 H4 g4 h => ?_
      · have l1 := h.length
        have l2 := asc_len ls (ns.take i)
        have l3 := List.length_filter_le (fun l => decide (l ∈ ls)) [n, ("-" : Str) ++ n]
        have l4 := hp.1
        rw [List.length_map] at l1 ⊢
        rw [List.length_take] at l2
        simp only [List.length_cons, List.length_nil] at l3
        exact szM (by omega)
      · have e4 := pd_tx h
        subst e4
        have ow4 := ow.step g4
        refine ⟨M4, _, _, (g.trans g4).mut ow4.h0 ow4.m, s1.trans g4.mm, s2.trans g4.mm, ?_, rfl⟩
        have e5 : asc ls (ns.take (i + 1)) = asc ls (ns.take i) ++ ([n, ("-" : Str) ++ n].filter fun l => decide (l ∈ ls)).map id := by
          rw [et, List.map_id]; unfold asc; rw [List.flatMap_append]; simp
        rw [e5, List.map_append]
        exact ow4.put
    · rintro M3 σ' M' H' sM ⟨y3, y4, g, s1, s2, ow, rfl⟩
      rw [List.take_length] at ow
      exact s_retTup g.mh rfl ow.h fun l nl => q _ _ _ (g.trans (.new g.mh nl)) (TT.new _)
abbrev s__law_clause : Stmt := topS 47
theorem sc__law_clause : FnScope ["_law_stream", "_law_names_here", "_law_most"] ["_law_stream", "_law_names_here", "_law_most"] (defScope s__law_clause) := ⟨rfl, rfl, rfl, by decide +kernel, rfl, by decide +kernel, by decide +kernel⟩
def sp__law_clause (K : PySem.W.Frag) : Sp := slS2 (LstR K Tx) It' (fun ns m => NmL ns ∧ 0 < m ∧ m < 1000) (fun ns _ => 2 + 2 * ns.length) fun ns _ M ws => ∃ ys : List Str, Lits ns ys ∧ Pd Tx M ys ws
theorem ok__law_clause {f : Addr} {fd : FuncData} (F : Fun K "_law_clause" "_law_clause" s__law_clause f fd) (T : Gc mg) (c__law_draw : Cal P w K mg base 1 "_law_draw" ["_law_stream", "_law_many"] (sp__law_draw K)) (c__law_sided : Cal P w K mg base 3 "_law_sided" ["_law_stream", "_law_names_here"] (sp__law_sided K)) :
    FnOk P w K mg base CX0 4 f fd ["_law_stream", "_law_names_here", "_law_most"] (sp__law_clause K) := by
  refine F.ok sc__law_clause (fun vs H Q E h => ?_) (fun cdv A outer s H vs Q E hr h => ?_)
  · obtain ⟨S, x, y, M, v, w, k, rfl, _⟩ := h
    rfl
  · obtain ⟨S, ns, m, M, v, w, k, rfl, mh, at_, r1, r2, ⟨hn, hm0, hm1⟩, q⟩ := h
    cases r2
    have hu := hr.units
    have at_ : S.At (k + (2 + 2 * ns.length)) H := at_
    refine ⟨_, (pss_cons (ps_if (PW.pt (pw_or (pt_cmpR (op_eqP hu) (pv 1) (pe_lst pa_nil) (nomark _)) (pw_or1 (pt_cmpR (op_eqP hu) (pe_f c__law_draw (hr.mono (by decide)) (pa_cons (pv 0) (pa_cons pe_int pa_nil))) pe_int (nomark _))))) (pss_one (ps_ret (pe_lst pa_nil))) pss_nil)
      (pss_one (ps_ret (pe_slice sl_X (pe_f c__law_sided (hr.mono (by decide)) (pa_cons (pv 0) (pa_cons (pv 1) pa_nil))) po_none (po_some (pe_op op_addA pe_int (pe_f c__law_draw (hr.mono (by decide)) (pa_cons (pv 0) (pa_cons (pv 2) pa_nil))))))))), ?_⟩
    refine z_if (S := S) (k := k + (1 + 2 * ns.length)) (c := 0 + 1) (B := fun _ => True) mh (at_.le (by omega)) ((gts_or (c1 := 0) (c2 := 1) (B := fun _ => True) (C := fun _ => True) ((gt_test (b := decide (ns = [])) (gv_is (gv_eq (K := K) (neg := false) (d := .list (ns.map .str)) (e := .list []) (gv_var rfl (py_lst py_str _ _ _ r1)) gv_nilD ?_) fun M v h => ?_)).s.is fun _ _ => trivial) fun _ => gts_zero (K := K) rfl (gv_c rfl) (by decide) (by decide)).is fun _ _ => trivial) (fun _ M1 H1 g1 a1 => ?_) fun _ M1 H1 g1 a1 => ?_
    · simp [PyData.depth, depthS]
    · rw [show v = _ from h]
      have := optD_eq (some ns) []
      simp only [optD, List.map_nil] at this
      rw [this]; simp
    · refine z_retL (S := S) (k := k) (c := 0) g1.mh (a1.le (by omega)) gl_nil.s fun p ws M' H' g a' h0 m0 hw e => ?_
      subst e
      exact q p [] M' H' (g1.trans g) a' (g1.hh.free h0) m0 hw ⟨[], .nil, .nil⟩
    · refine z_retL (S := S) (k := k) (c := 2 * ns.length + 1) g1.mh (a1.le (by omega)) (gls_cut (K := K) (R := Tx) (good := Lits ns) (c1 := 2 * ns.length) (c2 := 1) ((gls_call1 (S := S) (R1 := SqR K Tx) (pre := NmL) (cs := fun ns => 2 * ns.length) (R := fun ns M ws => ∃ ys : List Str, Lits ns ys ∧ Pd Tx M ys ws) (x := ns) rfl (gv_var rfl (.inl (Mon.mono g1.mm r1))) hn).gv fun M' vs p ⟨ys, hp, hpd⟩ m => ⟨ys, hp, p, vs, rfl, upd_same, hpd.mono (same_new m)⟩)
        (gs_op (c1 := 0) (c2 := 1) (P := It' 1) (gv_c rfl).s (gs_draw (K := K) rfl (gv_var rfl rfl) hm0 (by omega)) fun M' u w pu ⟨z, hz, pw⟩ => fun H mh Q q => gv_addIn (K := K) (σ := []) (M := M') (ta := tC u) (tb := tC w) (gv_c pu) (gv_c pw) H mh Q fun v M' H' g r => q v M' H' g ⟨_, trivial, r⟩)) fun p ws M' H' g a' h0 m0 hw ⟨xs, i, hL, hpd⟩ => ?_
      exact q p ws M' H' (g1.trans g) a' (g1.hh.free h0) m0 hw ⟨_, hL.sub (cut_sub _ _ _), hpd⟩
abbrev s__law_once : Stmt := topS 49
theorem sc__law_once : FnScope ["_law_clauses", "_law_names_here", "_law_found", "_law_clause_here"] ["_law_clauses", "_law_names_here"] (defScope s__law_once) := ⟨rfl, rfl, rfl, by decide +kernel, rfl, by decide +kernel, by decide +kernel⟩
def onceUp (cs : List (List Str)) (ns : List Str) : List (List Str) := once (cs.map fun c => asc c ns)
def sp__law_once (K : PySem.W.Frag) : Sp := sl2 (SqR K (CtR K)) (SqR K Tx) (fun cs ns => Shorts ns ∧ cs.length ≤ 1000000) fun cs ns M ws => Pd TT M (onceUp cs ns) ws
theorem ok__law_once {f : Addr} {fd : FuncData} (F : Fun K "_law_once" "_law_once" s__law_once f fd) (T : Gc mg) (c__law_up : Cal P w K mg base 1 "_law_up" ["_law_some", "_law_names_here"] (sp__law_up K)) : FnOk P w K mg base CX0 2 f fd ["_law_clauses", "_law_names_here"] (sp__law_once K) := by
  refine F.ok sc__law_once (fun vs H Q E h => ?_) (fun cdv A outer s H vs Q E hr h => ?_)
  · obtain ⟨x, y, M, v, w, rfl, _⟩ := h
    rfl
  · obtain ⟨cs, ns, M, v, w, rfl, mh, r1, r2, ⟨hsh, hcl⟩, q⟩ := h
    have hu := hr.units
    refine ⟨_, (pss_cons (ps_set (i := 2) sc__law_once.nd rfl (by first | exact .inl rfl | exact .inr rfl) (pe_lst pa_nil))
      (pss_cons (ps_for PassesOwn.never (by rfl) (pi_sq (pv 0)) (pg_name (i := 3) sc__law_once.nd rfl (by first | exact .inl rfl | exact .inr rfl)) (pss_one (ps_if (pt_cmpR (op_niA hu) (pe_f c__law_up (hr.mono (by decide)) (pa_cons (pv 3) (pa_cons (pv 1) pa_nil))) (pv 2) (by rfl)) (pss_one (ps_expr (pe_bm PySem.F.plainAttrs_list PySem.F.slot_list_append PySem.F.type_list_append mt_append (pv 2) (pa_cons (pe_f c__law_up (hr.mono (by decide)) (pa_cons (pv 3) (pa_cons (pv 1) pa_nil))) pa_nil)))) pss_nil)))
      (pss_one (ps_ret (pv 2))))), ?_⟩
    refine q_asgL mh gl_nil fun p vs M2 H2 g2 h0 m0 hp2 hv => ?_
    subst hv
    refine q_for (R1 := CtR K) (xs := cs) g2.mh (gv_var rfl (Mon.mono g2.mm r1))
      (fun M1' i σ' M' H' => ∃ y3 ws, Gr M H M' H' ∧ Same M1' M' ∧ Same M M' ∧ Own H M' H' p ws ∧ Pd TT M' (onceUp (cs.take i) ns) ws ∧ (onceUp (cs.take i) ns).length ≤ i ∧ σ' = [some v, some w, some (.ref p), y3])
      (fun M3 H3 g3 => ⟨none, [], g2.trans g3, Same.refl _, (g2.trans g3).mm, Own.step ⟨h0, m0, hp2⟩ g3, .nil, Nat.le_refl _, rfl⟩)
      (fun M3 i σ' M' H' ⟨_, _, g, s1, _⟩ => ⟨s1, g.mh⟩) ?_ ?_
    · rintro M3 i c v' σ' M' H' sM hx ⟨y3, ws, g, s1, s2, ow, hpd, hl, rfl⟩ rx
      have hil : i < cs.length := (List.getElem?_eq_some_iff.mp hx).1
      have et : cs.take (i + 1) = cs.take i ++ [c] := by rw [List.take_add_one, hx]; rfl
      have eo : onceUp (cs.take (i + 1)) ns = onceP (onceUp (cs.take i) ns) (asc c ns) := by
        rw [et]; unfold onceUp once; rw [List.map_append, List.foldl_append]; rfl
      have r2' : SqR K Tx ns M' w := Mon.mono s2 r2
      have up := ow.up
      refine s_if0 (ow.fr g.mh) (gt_test (gv_inD (K := K) (R := TT) (neg := true) py_TT inj_TT (gv_call2 (R1 := CtR K) (R2 := SqR K Tx) (gv_var rfl (Mon.mono up rx)) (gv_var rfl (Mon.mono up r2')) hsh) (gv_var rfl (.inl (ow.lst hpd))) (by simp [PyData.depth, depthS]))) (fun hb H4 hh4 => ?_) (fun hb H4 hh4 => ?_)
      · have g4 := g.trans (.idle g.mh hh4)
        have ow4 := ow.idle hh4
        have hwl : ws.length ≤ i := by rw [← hpd.length]; exact hl
        refine s_app (P := TT (asc c ns)) g4.mh rfl ow4.h (szL (by omega)) (gv_call2 (R1 := CtR K) (R2 := SqR K Tx) (gv_var rfl rx) (gv_var rfl r2') hsh) fun v5 M5 H5 g5 r5 => ?_
        have ow5 := ow4.step g5
        refine ⟨M5, _, ws ++ [v5], (g4.trans g5).mut ow5.h0 ow5.m, s1.trans g5.mm, s2.trans g5.mm, ow5.put, ?_, ?_, rfl⟩
        · rw [eo, onceP, if_neg (by simpa using hb)]
          exact pd_app (hpd.mono g5.mm) (.cons r5 .nil)
        · rw [eo]; exact Nat.le_trans (onceP_len _ _) (Nat.succ_le_succ hl)
      · have hin : asc c ns ∈ onceUp (cs.take i) ns := by simpa using hb
        refine ⟨M', _, ws, g.trans (.idle g.mh hh4), s1, s2, ow.idle hh4, ?_, ?_, rfl⟩
        · rw [eo, onceP, if_pos hin]; exact hpd
        · rw [eo]; exact Nat.le_trans (onceP_len _ _) (Nat.succ_le_succ hl)
    · rintro M3 σ' M' H' sM ⟨y3, ws, g, s1, s2, ow, hpd, hl, rfl⟩
      rw [List.take_length] at hpd
      exact ⟨.ref p, rfl, q p ws M' H' g ow.h0 ow.m ow.h hpd⟩
end
end My

set_option Elab.async false
set_option linter.all false
set_option maxRecDepth 100000
set_option maxHeartbeats 4000000
namespace My
open PySem PySem.Spec PyProof.Rows L2 L3
open L3.Strm
/-- the law's own code: a dict -/
def LawR (c : CodeD) : Pr := Dc3F "signs" "helpers" "clauses" (LiR Tx c.signs) (LiR Tx c.helpers) (LiR TT c.clauses)
instance : Mon LawR := ⟨fun e ⟨p, o, u1, u2, u3, h1, h2, h3, h4, h5⟩ => ⟨p, o, u1, u2, u3, h1, e _ _ h2, Mon.mono e h3, Mon.mono e h4, Mon.mono e h5⟩⟩
theorem once_len7 {α : Type} [DecidableEq α] (hs : List α) : (once hs).length ≤ hs.length := by
  have go : ∀ (hs acc : List α), (hs.foldl onceP acc).length ≤ acc.length + hs.length := by
    intro hs
    induction hs with
    | nil => intro acc; simp
    | cons h hs ih =>
      intro acc
      rw [List.foldl_cons, List.length_cons]
      refine Nat.le_trans (ih _) ?_
      unfold onceP
      split
      · omega
      · rw [List.length_append, List.length_singleton]; omega
  have h := go hs []
  rw [List.length_nil, Nat.zero_add] at h
  exact h
structure Good (c : CodeD) : Prop where
  nm : NmL c.names
  n : c.names.length ≤ 60
  cl : ∃ cs, c.clauses = onceUp cs c.names ∧ (∀ x ∈ cs, Lits c.names x) ∧ cs.length ≤ 100
section
variable {K : PySem.W.Frag} {σ : Sl} {M : Hp} {td : TE} {c : CodeD}
theorem gv_cS (h : Gv td σ M (LawR c)) : Gv (tDGet td (tC (.str "signs"))) σ M (LiR Tx c.signs) := gv_dgetF h fun M v ⟨p, o, u1, u2, u3, h1, h2, h3, h4, h5⟩ => ⟨p, o, _, u1, h1, h2, rfl, h3⟩
theorem gv_cH (h : Gv td σ M (LawR c)) : Gv (tDGet td (tC (.str "helpers"))) σ M (LiR Tx c.helpers) := gv_dgetF h fun M v ⟨p, o, u1, u2, u3, h1, h2, h3, h4, h5⟩ => ⟨p, o, _, u2, h1, h2, rfl, h4⟩
theorem gv_cC (h : Gv td σ M (LawR c)) : Gv (tDGet td (tC (.str "clauses"))) σ M (LiR TT c.clauses) := gv_dgetF h fun M v ⟨p, o, u1, u2, u3, h1, h2, h3, h4, h5⟩ => ⟨p, o, _, u3, h1, h2, rfl, h5⟩
end
section
variable {P : Program} {w : World} {K : PySem.W.Frag} {mg : Str → Option Value} {base : Heap}
abbrev s__law_code : Stmt := topS 48
theorem sc__law_code : FnScope ["_law_stream", "_law_signs", "_law_helpers", "_law_many", "_law_names_here", "_law_clauses", "_law_count", "_law_more", "_law_k"] ["_law_stream", "_law_signs", "_law_helpers", "_law_many"] (defScope s__law_code) := ⟨rfl, rfl, rfl, by decide +kernel, rfl, by decide +kernel, by decide +kernel⟩
def codeCost (s h m : Nat) : Nat := 3 + 12 * (s + h) + m * (2 + 2 * (s + h))
def sp__law_code (K : PySem.W.Frag) : Sp := fun vs H Q _ => ∃ (S : Strm) (s h m : Nat) (M : Hp) (k : Nat), vs = [.ref S.a, .int (s : Nat), .int (h : Nat), .int (m : Nat)] ∧ Same M (S.cut H) ∧ S.At (k + codeCost s h m) H ∧ (0 < s ∧ s + h ≤ 60 ∧ m ≤ 100) ∧
  ∀ c v M' H', Gr M (S.cut H) M' (S.cut H') → S.At k H' → Good c ∧ c.names.length ≤ s + h ∧ c.clauses.length ≤ m ∧ c.signs.length ≤ s ∧ 1 ≤ c.signs.length ∧ c.helpers.length ≤ h → LawR c M' v → Q v H'
theorem paired_lits {ns : List Str} {xs : List Nat} {cs : List (List Str)} (h : Paired (fun (_ : Nat) y => Lits ns y) xs cs) : cs.length = xs.length ∧ ∀ c ∈ cs, Lits ns c := by
  induction h with
  | nil => exact ⟨rfl, fun c hc => by cases hc⟩
  | cons q _ ih =>
    refine ⟨by rw [List.length_cons, List.length_cons, ih.1], fun c hc => ?_⟩
    rcases List.mem_cons.mp hc with rfl | hc
    · exact q
    · exact ih.2 c hc
theorem nm_shorts {ns : List Str} (h : NmL ns) : Shorts ns := ⟨Nat.le_trans h.n (by decide), fun n hn => Nat.le_trans (nm_len (h.nm n hn)) (by decide)⟩
theorem ok__law_code {f : Addr} {fd : FuncData} (F : Fun K "_law_code" "_law_code" s__law_code f fd) (T : Gc mg) (c__law_draw : Cal P w K mg base 1 "_law_draw" ["_law_stream", "_law_many"] (sp__law_draw K)) (c__law_names : Cal P w K mg base 4 "_law_names" ["_law_stream", "_law_many"] (sp__law_names K))
    (c__law_clause : Cal P w K mg base 4 "_law_clause" ["_law_stream", "_law_names_here", "_law_most"] (sp__law_clause K)) (c__law_once : Cal P w K mg base 2 "_law_once" ["_law_clauses", "_law_names_here"] (sp__law_once K)) : FnOk P w K mg base CX0 5 f fd ["_law_stream", "_law_signs", "_law_helpers", "_law_many"] (sp__law_code K) := by
  refine F.ok sc__law_code (fun vs H Q E h => ?_) (fun cdv A outer s H vs Q E hr h => ?_)
  · obtain ⟨S, a, b, c, M, k, rfl, _⟩ := h
    rfl
  · obtain ⟨S, s, h, m, M, k, rfl, mh, at_, ⟨h1, h2, h3⟩, q⟩ := h
    have hu := hr.units
    have at_ : S.At (k + (3 + 12 * (s + h) + m * (2 + 2 * (s + h)))) H := at_
    refine ⟨_, (pss_cons (ps_par (i := 6) (j := 7) (by rfl) sc__law_code.nd rfl rfl (by decide) rfl rfl (pa_cons (pe_op op_addA pe_int (pe_f c__law_draw (hr.mono (by decide)) (pa_cons (pv 0) (pa_cons (pv 1) pa_nil)))) (pa_cons (pe_f c__law_draw (hr.mono (by decide)) (pa_cons (pv 0) (pa_cons (pe_op op_addA (pv 2) pe_int) pa_nil))) pa_nil)) (by rfl))
      (pss_cons (ps_set (i := 4) sc__law_code.nd rfl (by first | exact .inl rfl | exact .inr rfl) (pe_f c__law_names (hr.mono (by decide)) (pa_cons (pv 0) (pa_cons (pe_op op_addA (pv 6) (pv 7)) pa_nil))))
      (pss_cons (ps_setLc (i := 5) (own := [("_law_k", 8)]) (g := (gName 8)) (tt := tYes) (te := (tCall (sp__law_clause K) [] E0 (tCons (tVar 0) (tCons (tVar 4) (tCons (tC (.int 3)) tNil))))) (by rfl) sc__law_code.nd rfl rfl (sw_true rfl rfl rfl (by decide +kernel)) (pi_range1 (by rfl) T.range (pa_cons (pe_f c__law_draw (hr.mono (by decide)) (pa_cons (pv 0) (pa_cons (pe_op op_addA (pv 3) pe_int) pa_nil))) pa_nil)) (blkOk_by (by rfl)) (fun _ _ _ _ _ => (pg_name (i := 8) sc__law_code.nd rfl (by first | exact .inl rfl | exact .inr rfl))) (fun _ _ _ _ _ => pts_nil) (fun _ _ _ _ _ => (pe_f c__law_clause (hr.mono (by decide)) (pa_cons (pv 0) (pa_cons (pv 4) (pa_cons pe_int pa_nil))))))
      (pss_one (ps_ret (pe_frz (pe_disp (pps_cons pe_str (pe_slice sl_X (pv 4) po_none (po_some (pv 6))) (pps_cons pe_str (pe_slice sl_X (pv 4) (po_some (pv 6)) po_none) (pps_cons pe_str (pe_f c__law_once (hr.mono (by decide)) (pa_cons (pv 5) (pa_cons (pv 4) pa_nil))) pps_nil))) (by rfl) (by rfl) (by intro z; cases z) (by decide)))))))), ?_⟩
    -- count, more
    refine q_par2 (z_V (S := S) (k := k + (2 + 12 * (s + h) + m * (2 + 2 * (s + h)))) (c := 0 + 1) (P := Ex (fun n : Nat => It' (n : Nat)) fun n => 1 ≤ n ∧ n ≤ s) mh (at_.le (by omega)) (gs_op (c1 := 0) (c2 := 1) (P := It' 1) (gv_c rfl).s (gs_draw (K := K) (n := (s : Int)) rfl (gv_var rfl rfl) (by omega) (by omega)) fun M' u w pu ⟨z, hz, pw⟩ => fun H mh Q q => gv_addIn (K := K) (σ := []) (M := M') (ta := tC u) (tb := tC w) (gv_c pu) (gv_c pw) H mh Q fun v M' H' g r => q v M' H' g ⟨1 + z.toNat, by omega, ?_⟩) fun v1 M1 H1 g1 a1 ⟨n1, hn1, r1⟩ =>
      z_V (S := S) (k := k + (1 + 12 * (s + h) + m * (2 + 2 * (s + h)))) (c := 1) (P := Ex (fun n : Nat => It' (n : Nat)) fun n => n ≤ h) g1.mh (a1.le (by omega)) ((gs_draw (K := K) (n := (h : Int) + 1) rfl (gv_addIn (K := K) (gv_var rfl rfl) (gv_c rfl)) (by omega) (by omega)).is fun M v ⟨z, hz, r⟩ => ⟨z.toNat, by omega, ?_⟩) fun v2 M2 H2 g2 a2 ⟨n2, hn2, r2⟩ => ⟨_, _, rfl, ?_⟩)
    · show v = .int _
      rw [show v = _ from r]; congr 1; omega
    · show v = .int _
      rw [show v = _ from r]; congr 1; omega
    cases r1
    cases r2
    have G2 := g1.trans g2
    -- names
    have e12 : (12 * ((n1 : Int) + (n2 : Int)).toNat) ≤ 12 * (s + h) := by omega
    refine z_asg (S := S) (k := k + (1 + m * (2 + 2 * (s + h)))) (c := 12 * ((n1 : Int) + (n2 : Int)).toNat) (P := Ex (LiR Tx) fun ns => NmL ns ∧ ns.length = n1 + n2) g2.mh (a2.le (by omega)) ((gls_call1 (S := S) (R1 := It') (pre := fun n => 0 ≤ n ∧ n ≤ 500) (cs := fun n => 12 * n.toNat) (R := fun n M ws => ∃ ys : List Str, NmL ys ∧ ys.length = n.toNat ∧ Pd Tx M ys ws) (x := (n1 : Int) + (n2 : Int)) rfl (gv_addIn (K := K) (gv_var rfl rfl) (gv_var rfl rfl)) ⟨by omega, by omega⟩).gv fun M' vs p ⟨ys, hp, hl, hpd⟩ m => ⟨ys, ⟨hp, by omega⟩, p, vs, rfl, upd_same, hpd.mono (same_new m)⟩) fun v3 M3 H3 g3 a3 ⟨ns, ⟨hn, hnl⟩, r3⟩ => ?_
    have G3 := G2.trans g3
    have hcc : 2 + 2 * ns.length ≤ 2 + 2 * (s + h) := by omega
    have hmm : m * (2 + 2 * ns.length) ≤ m * (2 + 2 * (s + h)) := Nat.mul_le_mul_left m hcc
    -- clauses
    refine z_asg (S := S) (k := k) (c := 1 + m * (2 + 2 * ns.length)) (P := Ex (LiR (LiR Tx)) fun cs => (∀ x ∈ cs, Lits ns x) ∧ cs.length ≤ m) g3.mh (a3.le (by omega)) ((gls_m1 (c1 := 1) (n := m) (c2 := 2 + 2 * ns.length) (T := LiR Tx) (R := fun i : Nat => It' (i : Nat)) (G := fun xs => ∃ n, n ≤ m ∧ xs = List.range n) (good := fun _ y => Lits ns y)
      (gis_rng1 (good := fun n => n ≤ m) ((gs_draw (K := K) (n := (m : Int) + 1) rfl (gv_addIn (K := K) (gv_var rfl rfl) (gv_c rfl)) (by omega) (by omega)).is fun M v ⟨z, hz, r⟩ => ⟨z.toNat, by omega, ?_⟩) fun n hn => by omega)
      (fun xs ⟨n, hn, e⟩ => by rw [e, List.length_range]; exact hn) (szM (by omega)) ?_).gv fun M' vs p ⟨xs, cs, ⟨n, hn, e⟩, hp, hpd⟩ m => ?_) fun v4 M4 H4 g4 a4 ⟨cs, ⟨hcs, hcl⟩, r4⟩ => ?_
    · show v = .int _
      rw [show v = _ from r]; congr 1; omega
    · intro xs _ i _ M' v' sm _
      exact (gls_call2 (S := S) (R1 := LstR K Tx) (R2 := It') (pre := fun ns m => NmL ns ∧ 0 < m ∧ m < 1000) (cs := fun ns _ => 2 + 2 * ns.length) (R := fun ns _ M ws => ∃ ys : List Str, Lits ns ys ∧ Pd Tx M ys ws) (x := ns) (y := 3) rfl (gv_var rfl (Mon.mono sm r3).lst) (gv_c rfl) ⟨hn, by decide, by decide⟩).gv fun M' vs p ⟨ys, hp, hpd⟩ m => ⟨ys, hp, p, vs, rfl, upd_same, hpd.mono (same_new m)⟩
    · obtain ⟨e1, e2⟩ := paired_lits hp
      subst e
      rw [List.length_range] at e1
      exact ⟨cs, ⟨e2, by omega⟩, p, vs, rfl, upd_same, hpd.mono (same_new m)⟩
    have G4 := G3.trans g4
    have r3' : LiR Tx ns M4 v3 := Mon.mono g4.mm r3
    -- the dict
    refine z_ret (S := S) (k := k) (c := 0) G4.mh a4 (gv_disp3F (R1 := LiR Tx (ns.take n1)) (R2 := LiR Tx (ns.drop n1)) (R3 := LiR TT (onceUp cs ns)) ((gl_cut (K := K) (lo := none) (hi := some (n1 : Int)) (gv_var rfl r3'.lst) (fun _ _ h => h) (fun _ _ h => ⟨_, rfl, _, rfl, h⟩)).gv fun M' vs p hp m => ?_)
      ((gl_cut (K := K) (lo := some (n1 : Int)) (hi := none) (gv_var rfl r3'.lst) (fun _ _ h => ⟨_, rfl, _, rfl, h⟩) (fun _ _ h => h)).gv fun M' vs p hp m => ?_)
      ((gl_call2 (R1 := SqR K (CtR K)) (R2 := SqR K Tx) (x := cs) (y := ns) (gv_var rfl ?_) (gv_var rfl r3'.sq) ⟨nm_shorts hn, by omega⟩).gv fun M' vs p hp m => ⟨p, vs, rfl, upd_same, hp.mono (same_new m)⟩) (by decide) (by decide) (by decide)).s fun v5 M5 H5 g5 a5 r5 => ?_
    · rw [cut_take] at hp; exact ⟨p, vs, rfl, upd_same, hp.mono (same_new m)⟩
    · rw [cut_drop] at hp; exact ⟨p, vs, rfl, upd_same, hp.mono (same_new m)⟩
    · obtain ⟨a, vs, e, hs, hp⟩ := r4
      exact .inl ⟨a, vs, e, .inl (.inl hs), Paired.mapP hp fun _ _ q => .inl (LiR.sq q)⟩
    · refine q ⟨ns.take n1, ns.drop n1, onceUp cs ns⟩ v5 M5 H5 (G4.trans g5) a5 ?_ r5
      have e : CodeD.names ⟨ns.take n1, ns.drop n1, onceUp cs ns⟩ = ns := List.take_append_drop n1 ns
      exact ⟨⟨by rw [e]; exact hn, by rw [e]; omega, cs, by rw [e], by rw [e]; exact hcs, Nat.le_trans hcl h3⟩, by rw [e]; omega, Nat.le_trans (once_len7 _) (by rw [List.length_map]; exact hcl), by show (ns.take n1).length ≤ s; rw [List.length_take]; omega, by show 1 ≤ (ns.take n1).length; rw [List.length_take]; omega, by show (ns.drop n1).length ≤ h; rw [List.length_drop]; omega⟩
end
end My

set_option Elab.async false
set_option linter.all false
set_option maxRecDepth 100000
set_option maxHeartbeats 4000000
namespace My
open PySem PySem.Spec PyProof.Rows L2 L3
theorem mem_asc {l ns : List Str} {x : Str} : x ∈ asc l ns ↔ ∃ n ∈ ns, (x = n ∨ x = ("-" : Str) ++ n) ∧ x ∈ l := by
  unfold asc
  rw [List.mem_flatMap]
  constructor
  · rintro ⟨n, hn, h⟩
    obtain ⟨h1, h2⟩ := List.mem_filter.mp h
    exact ⟨n, hn, by simpa using h1, by simpa using h2⟩
  · rintro ⟨n, hn, h1, h2⟩
    exact ⟨n, hn, List.mem_filter.mpr ⟨by simpa using h1, by simpa using h2⟩⟩
theorem asc_congr {l l' ns : List Str} (h : ∀ n ∈ ns, ∀ x, (x = n ∨ x = ("-" : Str) ++ n) → (x ∈ l ↔ x ∈ l')) : asc l ns = asc l' ns := by
  unfold asc
  induction ns with
  | nil => rfl
  | cons n ns ih =>
    rw [List.flatMap_cons, List.flatMap_cons, ih fun m hm => h m (List.mem_cons_of_mem _ hm)]
    congr 1
    refine List.filter_congr fun x hx => ?_
    have := h n (List.mem_cons_self ..) x (by simpa using hx)
    simp [this]
theorem asc_asc (l ns : List Str) : asc (asc l ns) ns = asc l ns := asc_congr fun n hn x hx => by
  rw [mem_asc]
  exact ⟨fun ⟨_, _, _, h⟩ => h, fun h => ⟨n, hn, hx, h⟩⟩
theorem Lits.name {ns ys : List Str} (hn : NmL ns) (h : Lits ns ys) {y : Str} (hy : y ∈ ys) : nameOf y ∈ ns ∧ (y = nameOf y ∨ y = ("-" : Str) ++ nameOf y) ∧ isNm (nameOf y) = true := by
  obtain ⟨n, hnn, h1 | h1⟩ := h.of y hy
  · subst h1
    have e := nameOf_nm (hn.nm y hnn)
    rw [e]
    exact ⟨hnn, .inl rfl, hn.nm y hnn⟩
  · subst h1
    rw [nameOf_neg (hn.nm n hnn)]
    exact ⟨hnn, .inr rfl, hn.nm n hnn⟩
theorem nodup_inj {α β : Type} {f : α → β} : ∀ {xs : List α}, (xs.map f).Nodup → ∀ x ∈ xs, ∀ y ∈ xs, f x = f y → x = y
  | [], _, _, h, _, _, _ => by cases h
  | a :: xs, nd, x, hx, y, hy, e => by
    rw [List.map_cons] at nd
    obtain ⟨h1, h2⟩ := List.nodup_cons.mp nd
    rcases List.mem_cons.mp hx with ex | hx'
    · rcases List.mem_cons.mp hy with ey | hy'
      · rw [ex, ey]
      · exact absurd (List.mem_map.mpr ⟨y, hy', by rw [← e, ex]⟩) h1
    · rcases List.mem_cons.mp hy with ey | hy'
      · exact absurd (List.mem_map.mpr ⟨x, hx', by rw [e, ey]⟩) h1
      · exact nodup_inj h2 x hx' y hy' e
/-- literals in the order of the names are literals -/
theorem Lits.asc {ns ys : List Str} (hn : NmL ns) (h : Lits ns ys) : Lits ns (asc ys ns) := by
  refine ⟨?_, fun y hy => let ⟨n, h1, h2, _⟩ := mem_asc.mp hy; ⟨n, h1, h2⟩⟩
  have sub : ∀ ms : List Str, (∀ m ∈ ms, m ∈ ns) → ((My.asc ys ms).map nameOf).Sublist ms := by
    intro ms
    induction ms with
    | nil => intro _; exact List.Sublist.refl _
    | cons m ms ih =>
      intro hm
      have ih := ih fun z hz => hm z (List.mem_cons_of_mem _ hz)
      have hnm := hn.nm m (hm m (List.mem_cons_self ..))
      have e1 := nameOf_nm hnm
      have e2 := nameOf_neg hnm
      have hboth : ¬ (m ∈ ys ∧ ("-" : Str) ++ m ∈ ys) := fun ⟨a, b⟩ => neg_ne hnm (nodup_inj h.nd m a _ b (by rw [e1, e2]))
      show (((m :: ms).flatMap fun n => [n, ("-" : Str) ++ n].filter fun l => decide (l ∈ ys)).map nameOf).Sublist (m :: ms)
      rw [List.flatMap_cons, List.map_append]
      have : (([m, ("-" : Str) ++ m].filter fun l => decide (l ∈ ys)).map nameOf).Sublist [m] := by
        by_cases ha : m ∈ ys
        · have hb : ¬ ("-" : Str) ++ m ∈ ys := fun b => hboth ⟨ha, b⟩
          simp [ha, hb, e1]
        · by_cases hb : ("-" : Str) ++ m ∈ ys
          · simp [ha, hb, e2]
          · simp [ha, hb]
      exact List.Sublist.append this ih
  exact hn.nd.sublist (sub ns fun _ h => h)
theorem fw_lits {ns : List Str} : ∀ {ys met : List Str} {i : Nat}, (∀ y ∈ ys, nameOf y ∈ ns) → (ys.map nameOf).Nodup → (∀ y ∈ ys, nameOf y ∉ met) → fwGo ns (ys.map PyData.str) met i = none
  | [], _, _, _, _, _ => rfl
  | y :: ys, met, i, h1, h2, h3 => by
    rw [List.map_cons] at h2
    obtain ⟨h4, h5⟩ := List.nodup_cons.mp h2
    rw [List.map_cons, fwGo, if_neg]
    · refine fw_lits (fun z hz => h1 z (List.mem_cons_of_mem _ hz)) h5 fun z hz hm => ?_
      rcases List.mem_append.mp hm with hm | hm
      · exact h3 z (List.mem_cons_of_mem _ hz) hm
      · rw [List.mem_singleton] at hm
        exact h4 (List.mem_map.mpr ⟨z, hz, hm⟩)
    · rintro (h | h)
      · simp [isLit, h1 y (List.mem_cons_self ..)] at h
      · exact h3 y (List.mem_cons_self ..) h
theorem lits_len {ns ys : List Str} (h : Lits ns ys) (hn : NmL ns) : ys.length ≤ ns.length := by
  have := nodup_le h.nd (ys := ns) fun z hz => by
    obtain ⟨y, hy, rfl⟩ := List.mem_map.mp hz
    exact (h.name hn hy).1
  rwa [List.length_map] at this
theorem lits_short {ns ys : List Str} (h : Lits ns ys) (hn : NmL ns) : ∀ l ∈ ys, l.length ≤ 9 := fun l hl => by
  obtain ⟨h1, h2, h3⟩ := h.name hn hl
  have h4 := nm_len h3
  rcases h2 with e | e
  · rw [e]; omega
  · rw [e]
    show (("-" : Str) ++ nameOf l).length ≤ 9
    rw [← SX.S_tl (nameOf l), neg_S, SX.S_len, List.length_cons]
    have : (nameOf l).cps.toList.length = (nameOf l).length := rfl
    omega
theorem clOk_lits {ns ys : List Str} (hn : NmL ns) (h : Lits ns ys) : ClOk ns ys := ⟨fw_lits (fun y hy => (h.name hn hy).1) h.nd (fun _ _ z => by cases z), Nat.le_trans (lits_len h hn) (Nat.le_trans hn.n (by decide)), fun l hl => Nat.le_trans (lits_short h hn l hl) (by decide)⟩
section
variable {α : Type} [DecidableEq α]
theorem once_inv : ∀ (xs acc : List α), acc.Nodup → (xs.foldl onceP acc).Nodup ∧ ∀ x, x ∈ xs.foldl onceP acc ↔ x ∈ acc ∨ x ∈ xs
  | [], acc, h => ⟨h, fun x => by simp⟩
  | y :: xs, acc, h => by
    rw [List.foldl_cons]
    by_cases hy : y ∈ acc
    · have e : onceP acc y = acc := by unfold onceP; rw [if_pos hy]
      rw [e]
      obtain ⟨h1, h2⟩ := once_inv xs acc h
      refine ⟨h1, fun x => ?_⟩
      rw [h2, List.mem_cons]
      constructor
      · rintro (h | h)
        · exact .inl h
        · exact .inr (.inr h)
      · rintro (h | rfl | h)
        · exact .inl h
        · exact .inl hy
        · exact .inr h
    · have e : onceP acc y = acc ++ [y] := by unfold onceP; rw [if_neg hy]
      rw [e]
      obtain ⟨h1, h2⟩ := once_inv xs (acc ++ [y]) (List.nodup_append.mpr ⟨h, by simp, fun a ha b hb => by rw [List.mem_singleton] at hb; subst hb; exact fun e => hy (e ▸ ha)⟩)
      refine ⟨h1, fun x => ?_⟩
      rw [h2, List.mem_cons, List.mem_append, List.mem_singleton]
      constructor
      · rintro ((h | h) | h)
        · exact .inl h
        · exact .inr (.inl h)
        · exact .inr (.inr h)
      · rintro (h | h | h)
        · exact .inl (.inl h)
        · exact .inl (.inr h)
        · exact .inr h
theorem once_nodup (xs : List α) : (once xs).Nodup := (once_inv xs [] List.nodup_nil).1
theorem mem_once {xs : List α} {x : α} : x ∈ once xs ↔ x ∈ xs := by unfold once; rw [(once_inv xs [] List.nodup_nil).2]; simp
theorem once_self {xs : List α} (h : xs.Nodup) : once xs = xs := by
  have go : ∀ (xs acc : List α), (acc ++ xs).Nodup → xs.foldl onceP acc = acc ++ xs := by
    intro xs
    induction xs with
    | nil => intro acc _; simp
    | cons y xs ih =>
      intro acc h
      have hy : y ∉ acc := fun hy => (List.nodup_append.mp h).2.2 y hy y (List.mem_cons_self ..) rfl
      rw [List.foldl_cons, onceP, if_neg hy, ih (acc ++ [y]) (by simpa using h)]
      simp
  have := go xs [] (by simpa using h)
  simpa [once] using this
end
theorem onceUp_idem (cs : List (List Str)) (ns : List Str) : once ((onceUp cs ns).map fun c => asc c ns) = onceUp cs ns := by
  have e : (onceUp cs ns).map (fun c => asc c ns) = onceUp cs ns := by
    have : ∀ c ∈ onceUp cs ns, asc c ns = c := fun c hc => by
      obtain ⟨d, _, rfl⟩ := List.mem_map.mp (mem_once.mp hc)
      exact asc_asc d ns
    have h2 := List.map_congr_left (l := onceUp cs ns) (f := fun c => asc c ns) (g := id) this
    rw [h2, List.map_id]
  rw [e]
  exact once_self (once_nodup _)
theorem Good.lits {c : CodeD} (g : Good c) : ∀ x ∈ c.clauses, Lits c.names x := fun x hx => by
  obtain ⟨cs, e, h, _⟩ := g.cl
  rw [e] at hx
  obtain ⟨d, hd, rfl⟩ := List.mem_map.mp (mem_once.mp hx)
  exact (h d hd).asc g.nm
theorem Good.made {c : CodeD} (g : Good c) : mkCode c.signs c.helpers c.clauses = c := by
  obtain ⟨cs, e, h, _⟩ := g.cl
  obtain ⟨ss, hs, cl⟩ := c
  have e : cl = onceUp cs (ss ++ hs) := e
  unfold mkCode
  rw [e]
  show CodeD.mk ss hs (once ((onceUp cs (ss ++ hs)).map fun c => asc c (ss ++ hs))) = _
  rw [onceUp_idem]
theorem once_len2 {α : Type} [DecidableEq α] (hs : List α) : (once hs).length ≤ hs.length := by
  have go : ∀ (xs acc : List α), (xs.foldl onceP acc).length ≤ acc.length + xs.length := by
    intro xs
    induction xs with
    | nil => intro acc; exact Nat.le_refl _
    | cons x xs ih =>
      intro acc
      have h1 := ih (onceP acc x)
      have h2 := onceP_len acc x
      rw [List.foldl_cons, List.length_cons]
      omega
  simpa [once] using go hs []
theorem Good.few {c : CodeD} (g : Good c) : c.clauses.length ≤ 100 := by
  obtain ⟨cs, e, h, hl⟩ := g.cl
  rw [e]
  exact Nat.le_trans (once_len2 _) (by rw [List.length_map]; exact hl)
theorem Good.ok {c : CodeD} (g : Good c) : CodeOk c.signs c.helpers c.clauses := by
  have nd := g.nm.nd
  have hn := g.n
  have hl : c.names.length = c.signs.length + c.helpers.length := List.length_append
  obtain ⟨n1, n2, n3⟩ := List.nodup_append.mp (show (c.signs ++ c.helpers).Nodup from nd)
  refine ⟨⟨n1, fun x hx => ⟨g.nm.nm x (List.mem_append_left _ hx), fun h => by cases h⟩, by omega⟩, ⟨n2, fun x hx => ⟨g.nm.nm x (List.mem_append_right _ hx), fun h => n3 x h x hx rfl⟩, by omega⟩, Nat.le_trans g.few (by decide), fun x hx => clOk_lits g.nm (g.lits x hx), ?_⟩
  show c.names.length ≤ 1000
  omega
theorem flat_len : ∀ {xs : List (List Str)} {n : Nat}, (∀ x ∈ xs, x.length ≤ n) → xs.flatten.length ≤ xs.length * n
  | [], _, _ => by simp
  | x :: xs, n, h => by
    rw [List.flatten_cons, List.length_append, List.length_cons, Nat.succ_mul]
    have h1 := h x (List.mem_cons_self ..)
    have h2 := flat_len (xs := xs) fun y hy => h y (List.mem_cons_of_mem _ hy)
    omega
theorem Good.w {c : CodeD} (g : Good c) : CodeW c := by
  have h1 : ∀ x ∈ c.clauses, x.length ≤ 60 := fun x hx => Nat.le_trans (lits_len (g.lits x hx) g.nm) g.n
  have h2 := flat_len h1
  have h3 := g.few
  have h4 : c.clauses.length * 60 ≤ 100 * 60 := Nat.mul_le_mul_right _ h3
  exact ⟨fun x hx => ⟨Nat.le_trans (h1 x hx) (by decide), fun l hl => Nat.le_trans (lits_short (g.lits x hx) g.nm l hl) (by decide)⟩, by omega, by omega, nm_shorts g.nm⟩
end My

set_option Elab.async false
set_option linter.all false
set_option maxRecDepth 100000
set_option maxHeartbeats 4000000
namespace My
open PySem PySem.Spec PyProof.Rows L2 L3
open L3.Strm
structure Gd (mg : Str → Option Value) : Prop extends Gc mg where
  dict : mg "dict" = none
def lpass : List (List Str) → List Str → Option (List Str)
  | [], so => some so
  | c :: r, so => match c.filter (fun l => decide (opp l ∉ so)) with
    | [] => none
    | [l] => lpass r (onceP so l)
    | _ => lpass r so
inductive LChase (cs : List (List Str)) : List Str → Option (List Str) → Prop
  | dead {so} : lpass cs so = none → LChase cs so none
  | done {so so'} : lpass cs so = some so' → ¬ so.length < so'.length → LChase cs so (some so')
  | more {so so' r} : lpass cs so = some so' → so.length < so'.length → LChase cs so' r → LChase cs so r
section
variable {P : Program} {w : World} {K : PySem.W.Frag} {mg : Str → Option Value} {base : Heap}
abbrev s__law_made : Stmt := topS 50
theorem sc__law_made : FnScope ["_law_c"] ["_law_c"] (defScope s__law_made) := ⟨rfl, rfl, rfl, by decide +kernel, rfl, by decide +kernel, by decide +kernel⟩
def sp__law_made (K : PySem.W.Frag) (C : Addr) : Sp := sp1 LawR Good fun c => CodeR C c
theorem ok__law_made {f C : Addr} {fd : FuncData} (F : Fun K "_law_made" "_law_made" s__law_made f fd) (k_Code : Mak P w K mg base 5 "Code" C ["self", "signs", "clauses", "helpers"] (sp_Code_init K C)) : FnOk P w K mg base CX0 7 f fd ["_law_c"] (sp__law_made K C) := by
  refine F.ok sc__law_made (fun vs H Q E h => ?_) (fun cdv A outer s H vs Q E hr h => ?_)
  · obtain ⟨x, M, v, rfl, _⟩ := h
    rfl
  · obtain ⟨c, M, v, rfl, mh, r1, hg, q⟩ := h
    have hu := hr.units
    refine ⟨_, (pss_one (ps_ret (pe_mk k_Code (hr.mono (by decide)) (pa_cons (pe_dget (Nat.lt_of_le_of_lt (Nat.add_le_add_left (by decide) _) hu) (pv 0) pe_str (fun _ _ => rfl)) (pa_cons (pe_dget (Nat.lt_of_le_of_lt (Nat.add_le_add_left (by decide) _) hu) (pv 0) pe_str (fun _ _ => rfl)) (pa_cons (pe_dget (Nat.lt_of_le_of_lt (Nat.add_le_add_left (by decide) _) hu) (pv 0) pe_str (fun _ _ => rfl)) pa_nil)))))), ?_⟩
    refine gv_cS (gv_var rfl r1) H mh _ fun v1 M1 H1 g1 q1 => ?_
    refine gv_cC (gv_var (P := LawR c) rfl (Mon.mono g1.mm r1)) H1 g1.mh _ fun v2 M2 H2 g2 q2 => ?_
    refine gv_cH (gv_var (P := LawR c) rfl (Mon.mono (g1.trans g2).mm r1)) H2 g2.mh _ fun v3 M3 H3 g3 q3 => ?_
    intro x dx hx hdx hne
    have G := (g1.trans g2).trans g3
    have m3 : Same M3 H3 := g3.mh
    have gN : Gr M3 H3 M3 (upd (upd H3 dx (.own x)) x (.ins C dx [])) := (Gr.own m3 hdx).trans (.own (m3.trans (same_new hdx)) (by rw [upd_ne (Ne.symm hne)]; exact hx))
    have q2' : LiR TT c.clauses M3 v2 := Mon.mono g3.mm q2
    refine ⟨c.signs, c.helpers, c.clauses, M3, H3, x, dx, v1, v2, v3, rfl, gN, hx, m3.free hx, upd_same, (Mon.mono (g2.mm.trans g3.mm) q1 : LiR Tx c.signs M3 v1).sq, ?_, q3.sq, hg.ok, fun M' H' g r => ⟨rfl, ?_⟩⟩
    · obtain ⟨a, vs, e, hs, hp⟩ := q2'
      exact .inl ⟨a, vs, e, .inl (.inl hs), Paired.mapP hp fun _ _ q => TT.sq q⟩
    · rw [hg.made] at r
      exact q _ M' H' (G.trans g) r
end
end My

set_option Elab.async false
set_option linter.all false
set_option maxRecDepth 100000
set_option maxHeartbeats 4000000
namespace My
open PySem PySem.Spec PyProof.Rows L2 L3
open L3.Strm
/-- a pair (text, True) in a tuple -/
def PtR : Rl Str := fun x M v => ∃ a, v = .ref a ∧ M a = some (.tup [.str x, .bl true])
instance : Mon PtR := ⟨fun e ⟨a, h, r⟩ => ⟨a, h, e _ _ r⟩⟩
theorem merge_kvT : ∀ (xs acc : List Str), mergeK (kvT acc) (xs.map fun x => ((Sum.inr x : Key), V.bl true)) = kvT (xs.foldl onceP acc)
  | [], acc => rfl
  | x :: xs, acc => by
    have := merge_kvT xs (onceP acc x)
    rw [List.foldl_cons, ← this, ← putK_kvT]
    rfl
/-- dict of a new list of pairs -/
theorem pd_refs {xs : List Str} {M : Hp} {vs : List V} (h : Pd PtR M xs vs) : ∃ ps : List Addr, vs = ps.map V.ref ∧ Paired (fun p x => M p = some (.tup [V.str x, V.bl true])) ps xs := by
  induction h with
  | nil => exact ⟨[], rfl, .nil⟩
  | cons q _ ih =>
    obtain ⟨a, e, r⟩ := q
    obtain ⟨ps, h1, h2⟩ := ih
    exact ⟨a :: ps, by rw [e, h1]; rfl, .cons r h2⟩
section
variable {K : PySem.W.Frag} {σ : Sl} {M : Hp} {te : TE}
theorem gk_dict {xs : List Str} (h : GvL te σ M fun M vs => Pd PtR M xs vs) : GvK (tCB (fun xs H Q => ∃ (a : Addr) (ps : List Addr) (kvs : List (Key × V)), xs = [V.ref a] ∧ SqL K H a (ps.map V.ref) ∧ Paired (fun p kv => SqT K H p [kV kv.1, kv.2]) ps kvs ∧
    ∀ p, H p = none → Q (.ref p) (upd H p (.dK (mergeK [] kvs)))) (tCons te tNil)) σ M (once xs) := fun H mh Q q => h H mh _ fun p vs M' H' g h0 m0 hw r => by
  obtain ⟨ps, e, hp⟩ := pd_refs r
  refine ⟨p, ps, xs.map fun x => ((Sum.inr x : Key), V.bl true), rfl, .inl (.inl (by rw [← e]; exact hw)), ?_, fun D hD => ?_⟩
  · clear q r hw e h
    induction hp with
    | nil => exact .nil
    | cons q _ ih => exact .cons (.inl (.inl (g.mh _ _ q))) ih
  · have e1 := merge_kvT xs []
    have e2 : kvT [] = [] := rfl
    rw [e2] at e1
    rw [e1]
    exact q D M' _ (g.trans (.own g.mh hD)) (g.hh.free hD) (g.mh.free hD) upd_same
theorem gv_neg {i : Int} (h : Gv te σ M (It' i)) : Gv (tUn (rU fun i => .int (-i)) te) σ M (It' (-i)) := fun H mh Q q => h H mh _ fun v M1 H1 g1 p1 => ⟨i, p1, q _ M1 H1 g1 rfl⟩
theorem gv_pt {x : Str} (h : Gv te σ M (Tx x)) : Gv (tTup (tCons te (tCons (tC (.bl true)) tNil))) σ M (PtR x) := fun H mh Q q => h H mh _ fun v M1 H1 g1 p1 => ⟨by show 2 ≤ sizeLine; decide, fun p np => q _ _ _ (g1.trans (.new g1.mh np)) ⟨p, rfl, by rw [upd_same, show v = _ from p1]⟩⟩
theorem gv_lenK {ks : List Str} {p : Addr} {i : Nat} (hi : σ[i]? = some (some (.ref p))) (hp : M p = some (.dK (kvT ks))) : Gv (tCB (rLenA K) (tCons (tVar i) tNil)) σ M (It' (ks.length : Nat)) := fun H mh Q q => ⟨_, hi, .inr (.inr ⟨p, _, rfl, mh _ _ hp, by rw [kvT_len]; exact q _ M H (.refl mh) rfl⟩)⟩
end
theorem boot_dict : bootBuiltins "dict" = some (.type "dict") := by decide +kernel
def leftOf (so c : List Str) : List Str := c.filter fun l => decide (opp l ∉ so)
section
variable {P : Program} {w : World} {K : PySem.W.Frag} {mg : Str → Option Value} {base : Heap}
abbrev s__law_chase : Stmt := topS 45
theorem sc__law_chase : FnScope ["_law_clauses", "_law_half", "_law_so", "_law_many", "_law_clause_here", "_law_left", "_law_one"] ["_law_clauses", "_law_half"] (defScope s__law_chase) := ⟨rfl, rfl, rfl, by decide +kernel, rfl, by decide +kernel, by decide +kernel⟩
def sp__law_chase (K : PySem.W.Frag) : Sp := sp2 (SqR K (SqR K Tx)) (SqR K Tx) ChOk fun cs hs M v => ∃ r, LChase cs (once hs) r ∧ OpR' (LiR Tx) r M v
theorem ok__law_chase {f : Addr} {fd : FuncData} (F : Fun K "_law_chase" "_law_chase" s__law_chase f fd) (T : Gd mg) (c__law_neg : Cal P w K mg base 1 "_law_neg" ["_law_one"] (sp__law_neg K)) : FnOk P w K mg base CX0 2 f fd ["_law_clauses", "_law_half"] (sp__law_chase K) := by
  refine F.ok sc__law_chase (fun vs H Q E h => ?_) (fun cdv A outer s H vs Q E hr h => ?_)
  · obtain ⟨x, y, M, v, w, rfl, _⟩ := h
    rfl
  · obtain ⟨cs, hs, M, v, w, rfl, mh, r1, r2, ok, q⟩ := h
    have hu := hr.units
    refine ⟨_, (pss_cons (ps_asg (pe_tup (pa_cons (pe_callTy (call_dictP (by rfl)) (by rfl) T.dict boot_dict (pa_cons (pe_lc (own := [("_law_one", 6)]) (g := (gName 6)) (tt := tYes) (te := (tTup (tCons (tVar 6) (tCons (tC (.bl true)) tNil)))) (by rfl) sc__law_chase.nd (pi_sq (pv 1)) (blkOk_by (by rfl)) (fun _ _ _ _ _ => (pg_name (i := 6) sc__law_chase.nd rfl (by first | exact .inl rfl | exact .inr rfl))) (fun _ _ _ _ _ => pts_nil) (fun _ _ _ _ _ => (pe_tup (pa_cons (pv 6) (pa_cons pe_bl pa_nil))))) pa_nil)) (pa_cons (pe_un un_neg pe_int) pa_nil))) (pg_tup (by rfl) (pgs_cons (pg_name (i := 2) sc__law_chase.nd rfl (by first | exact .inl rfl | exact .inr rfl)) (pgs_cons (pg_name (i := 3) sc__law_chase.nd rfl (by first | exact .inl rfl | exact .inr rfl)) pgs_nil))))
      (pss_cons (ps_while PassesOwn.never (pt_cmpR op_lt (pv 3) (pe_callB call_lenA (by rfl) T.len boot_len (pa_cons (pv 2) pa_nil)) (nomark _)) (pss_cons (ps_set (i := 3) sc__law_chase.nd rfl (by first | exact .inl rfl | exact .inr rfl) (pe_callB call_lenA (by rfl) T.len boot_len (pa_cons (pv 2) pa_nil)))
      (pss_one (ps_for PassesOwn.never (by rfl) (pi_sq (pv 0)) (pg_name (i := 4) sc__law_chase.nd rfl (by first | exact .inl rfl | exact .inr rfl)) (pss_cons (ps_setLc (i := 5) (own := [("_law_one", 6)]) (g := (gName 6)) (tt := (tTest (tOp (rInA K true) (tCall (sp__law_neg K) [] E0 (tCons (tVar 6) tNil)) (tVar 2)))) (te := (tVar 6)) (by rfl) sc__law_chase.nd rfl rfl (sw_true rfl rfl rfl (by decide +kernel)) (pi_sq (pv 4)) (blkOk_by (by rfl)) (fun _ _ _ _ _ => (pg_name (i := 6) sc__law_chase.nd rfl (by first | exact .inl rfl | exact .inr rfl))) (fun _ _ _ _ _ => (pts_one (pt_cmpR (op_niA hu) (pe_f c__law_neg (hr.mono (by decide)) (pa_cons (pv 6) pa_nil)) (pv 2) (by rfl)))) (fun _ _ _ _ _ => (pv 6)))
      (pss_cons (ps_if (pt_cmpR (op_eqP hu) (pv 5) (pe_lst pa_nil) (nomark _)) (pss_one (ps_ret pe_non)) pss_nil)
      (pss_one (ps_if (pt_cmpR (op_eqP hu) (pe_callB call_lenA (by rfl) T.len boot_len (pa_cons (pv 5) pa_nil)) pe_int (nomark _)) (pss_one (ps_dput (Nat.lt_of_le_of_lt (Nat.add_le_add_left (by decide) _) hu) (pv 2) (pe_ix ix_X (pv 5) pe_int (fun _ _ => rfl)) pe_bl rfl)) pss_nil))))))))
      (pss_one (ps_ret (pe_callTy (call_listD (by rfl)) (by rfl) T.list boot_list (pa_cons (pv 2) pa_nil)))))), ?_⟩
    have hlo : (once hs).length ≤ 1000000 := Nat.le_trans (once_len' hs) ok.h
    have mul : mu cs (once hs) ≤ 1000000 := Nat.le_trans (List.length_filter_le _ _) ok.n
    -- so, many = dict([..]), -1
    have hgl : GvL (tLc (iSq K (tVar 1)) (gName 6) tYes (tTup (tCons (tVar 6) (tCons (tC (.bl true)) tNil))) [6]) (start ["_law_clauses", "_law_half", "_law_so", "_law_many", "_law_clause_here", "_law_left", "_law_one"] [v, w]) M fun M ws => Pd PtR M hs ws := by
      have := gl_m1 (R := Tx) (S := PtR) (j := 6) (σ := start ["_law_clauses", "_law_half", "_law_so", "_law_many", "_law_clause_here", "_law_left", "_law_one"] [v, w]) (M := M) (te := tTup (tCons (tVar 6) (tCons (tC (.bl true)) tNil))) (xs := hs) (gi_sq (K := K) (ts := tVar 1) (gv_var rfl r2)) (szM (Nat.le_trans ok.h (by decide))) id fun x _ M1 v sm r => gv_pt (gv_var rfl r)
      rw [List.map_id] at this
      exact this
    refine q_asg2 (a_K mh (gk_dict (K := K) hgl) fun p M1 H1 g1 hp0 hpm hpk => a_V (P := It' (-1)) g1.mh (gv_neg (gv_c rfl)) fun vm M2 H2 g2 r2m => a_nil (fin2 fun t nt => ?_))
    cases r2m
    have G2 := (g1.trans g2).trans (.own (o := .tup [.ref p, .int (-1)]) g2.mh nt)
    have k2 : OwnK H M2 (upd H2 t (.tup [.ref p, .int (-1)])) p (once hs) := (OwnK.step (H0 := H) ⟨hp0, hpm, hpk⟩ g2).step (.own g2.mh nt)
    revert G2 k2
    generalize upd H2 t (.tup [.ref p, .int (-1)]) = H3
    intro G2 k2
    refine q_while (M := M2) (m0 := 2 * mu cs (once hs) + 1) (fun m σ' M' H' => ∃ (so : List Str) (many : Int) (y4 y5 : Option V), m = 2 * mu cs so + (if many < so.length then 1 else 0) ∧ Gr M H M' H' ∧ OwnK H M' H' p so ∧ σ' = [some v, some w, some (.ref p), some (.int many), y4, y5, none] ∧
      (∀ r, (if many < so.length then LChase cs so r else r = some so) → LChase cs (once hs) r) ∧ so.length + mu cs so ≤ (once hs).length + mu cs (once hs))
      ⟨once hs, -1, _, _, by rw [if_pos (by omega)], G2, k2, rfl, fun r h => by rw [if_pos (by omega)] at h; exact h, Nat.le_refl _⟩ ?_
    rintro m σ' M' H' ⟨so, many, y4, y5, rfl, g, k, rfl, hch, hmu⟩
    refine ⟨decide (many < so.length), _, k.lent g.mh, gt_test (gv_lt (gv_var rfl rfl) (gv_lenK (K := K) rfl upd_same)), fun hb H4 hh4 => ?_, fun hb H4 hh4 => ?_⟩
    · have hlt : many < so.length := by simpa using hb
      have hch : ∀ r, LChase cs so r → LChase cs (once hs) r := fun r h => hch r (by rw [if_pos hlt]; exact h)
      have g4 := g.trans (.idle g.mh hh4)
      have k4 := k.idle hh4
      refine q_asgK (P := It' (so.length : Nat)) g4.mh k4.m k4.h (gv_lenK (K := K) rfl upd_same) fun v5 M5 H5 g5 r5 => ?_
      cases r5
      have G5 := g4.trans g5
      have k5 := k4.step g5
      refine s_for (R1 := SqR K Tx) (xs := cs) g5.mh (gv_var rfl (Mon.mono G5.mm r1))
        (fun M1' i σ' M' H' => ∃ so2 y4 y5, Gr M H M' H' ∧ Same M1' M' ∧ Same M M' ∧ OwnK H M' H' p so2 ∧ σ' = [some v, some w, some (.ref p), some (.int (so.length : Nat)), y4, y5, none] ∧
          lpass cs so = lpass (cs.drop i) so2 ∧ (so2 = so ∨ (so.length < so2.length ∧ mu cs so2 < mu cs so)) ∧ so2.length + mu cs so2 ≤ (once hs).length + mu cs (once hs))
        (fun M6 H6 g6 => ⟨so, _, _, G5.trans g6, Same.refl _, (G5.trans g6).mm, k5.step g6, rfl, rfl, .inl rfl, hmu⟩)
        (fun M6 i σ' M' H' ⟨_, _, _, g, s1, _⟩ => ⟨s1, g.mh⟩) ?_ ?_
      · rintro M6 i c v' σ' M' H' sM hx ⟨so2, y4, y5, g, s1, s2, k2, rfl, el, hor, hmu2⟩ rx
        have hxm : c ∈ cs := List.mem_of_getElem? hx
        have hil : i < cs.length := (List.getElem?_eq_some_iff.mp hx).1
        have ed : cs.drop i = c :: cs.drop (i + 1) := by rw [List.drop_eq_getElem_cons hil]; congr 1; exact (List.getElem?_eq_some_iff.mp hx).2
        have hsh := ok.c c hxm
        have up : Same M' (upd M' p (.dK (kvT so2))) := same_new k2.m
        -- left = [..]
        refine q_asgK (P := LiR Tx (leftOf so2 c)) g.mh k2.m k2.h ((gl_lc (K := K) (R := Tx) (S := Tx) (gv_var rfl (Mon.mono up rx)) (szM (Nat.le_trans hsh.1 (by decide))) (fun l => decide (opp l ∉ so2)) id
          (fun l hl M1 vl sm rl => gt_is (gt_test (gv_inA (K := K) (neg := true) (gv_call1 (R1 := Tx) (pre := fun x => x.length ≤ 1000) (R := fun x => Tx (opp x)) (gv_var rfl rl) (hsh.2 l hl)) (gv_var rfl (Mon.mono sm OwnK.ct)))) (by simp)) fun l _ _ M1 vl sm rl => gv_var rfl rl).gv fun M' vs p hp m => ?_) fun v7 M7 H7 g7 r7 => ?_
        · rw [List.map_id] at hp
          exact ⟨p, vs, rfl, upd_same, hp.mono (same_new m)⟩
        have G7 := g.trans g7
        have k7 := k2.step g7
        have hd7 : Dp K M7 v7 (.list ((leftOf so2 c).map .str)) := py_lst py_str _ _ _ r7.lst
        refine q_if0 (b := decide (leftOf so2 c = [])) G7.mh (gt_test (gv_is (gv_eq (K := K) (neg := false) (d := .list ((leftOf so2 c).map .str)) (e := .list []) (gv_var rfl hd7) gv_nilD (depthO (some _))) fun M v h => by
            rw [show v = _ from h]
            have := optD_eq (some (leftOf so2 c)) []
            simp only [optD, List.map_nil] at this
            rw [this]; simp)) (fun hb8 H8 hh8 => ?_) (fun hb8 H8 hh8 => ?_)
        · have e0 : leftOf so2 c = [] := by simpa using hb8
          have g8 := G7.trans (.idle G7.mh hh8)
          refine s_ret (P := fun _ v => v = .non) g8.mh (gv_c rfl) fun v9 M9 H9 g9 r9 => q v9 M9 H9 (g8.trans g9) ⟨none, hch _ (.dead ?_), r9⟩
          rw [el, ed, lpass]
          unfold leftOf at e0
          rw [e0]
        · have hne : leftOf so2 c ≠ [] := by simpa using hb8
          have g8 := G7.trans (.idle G7.mh hh8)
          have k8 := k7.idle hh8
          refine s_if0 (b := decide ((leftOf so2 c).length = 1)) g8.mh (gt_test (gv_is (gv_eqT (K := K) (neg := false) py_int inj_int (gv_lenA (K := K) (gv_var rfl (r7.sq (K := K)))) (gv_c rfl) (by simp [PyData.depth])) fun M v h => ?_)) (fun hb9 H9 hh9 => ?_) (fun hb9 H9 hh9 => ?_)
          · rw [show v = _ from h]
            simp only [Bool.false_bne, V.bl.injEq, decide_eq_decide]
            omega
          · obtain ⟨l, hl⟩ : ∃ l, leftOf so2 c = [l] := by
              match leftOf so2 c, hb9 with
              | [l], _ => exact ⟨l, rfl⟩
              | [], h => simp at h
              | _ :: _ :: _, h => simp at h
            have g9 := g8.trans (.idle g8.mh hh9)
            have k9 := k8.idle hh9
            rw [hl] at r7
            have hlc : l ∈ c := by
              have : l ∈ leftOf so2 c := by rw [hl]; simp
              exact (List.mem_filter.mp this).1
            refine s_dputT (l := l) g9.mh rfl k9.h (szL (by omega)) (gv_ix (K := K) (R := Tx) (xs := [l]) (i := 0) (gv_var rfl (r7.sq (K := K))) (gv_c rfl) rfl) fun M10 H10 g10 => ?_
            have k10 := k9.step g10
            refine ⟨M10, onceP so2 l, _, _, (g9.trans g10).mut k10.h0 k10.m, s1.trans (g7.mm.trans g10.mm), s2.trans (g7.mm.trans g10.mm), k10.put, rfl, ?_, ?_, ?_⟩
            · rw [el, ed, lpass]
              unfold leftOf at hl
              rw [hl]
            · by_cases hin : l ∈ so2
              · rw [show onceP so2 l = so2 from if_pos hin]; exact hor
              · have h1 := mu_put hxm hlc hin
                rw [onceP_new hin]
                refine .inr ?_
                rw [List.length_append, List.length_singleton]
                rcases hor with rfl | hor
                · exact ⟨by omega, h1⟩
                · exact ⟨by omega, by omega⟩
            · by_cases hin : l ∈ so2
              · rw [show onceP so2 l = so2 from if_pos hin]; exact hmu2
              · have h1 := mu_put hxm hlc hin
                rw [onceP_new hin, List.length_append, List.length_singleton]
                omega
          · refine ⟨M7, so2, _, _, g8.trans (.idle g8.mh hh9), s1.trans g7.mm, s2.trans g7.mm, k8.idle hh9, rfl, ?_, hor, hmu2⟩
            rw [el, ed, lpass]
            unfold leftOf at hne hb9
            match hm : c.filter (fun l => decide (opp l ∉ so2)), hne, hb9 with
            | [], h, _ => exact absurd rfl h
            | [l], _, h => simp at h
            | _ :: _ :: _, _, _ => rfl
      · rintro M6 σ' M' H' sM ⟨so2, y4, y5, g, s1, s2, k2, rfl, el, hor, hmu2⟩
        rw [List.drop_length, lpass] at el
        refine ⟨_, M', ?_, so2, (so.length : Int), y4, y5, rfl, g, k2, rfl, fun r hr => hch r ?_, hmu2⟩
        · rw [if_pos hlt]
          rcases hor with rfl | ⟨h1, h2⟩
          · rw [if_neg (by omega)]; omega
          · rw [if_pos (by omega)]; omega
        · by_cases hl2 : so.length < so2.length
          · rw [if_pos (by omega)] at hr; exact .more el hl2 hr
          · rw [if_neg (by omega)] at hr; subst hr; exact .done el hl2
    · have hge : ¬ many < so.length := by simpa using hb
      have hch : ∀ r, r = some so → LChase cs (once hs) r := fun r h => hch r (by rw [if_neg hge]; exact h)
      have g4 := g.trans (.idle g.mh hh4)
      have k4 := k.idle hh4
      refine ⟨.ref p, rfl, p, kvT so, rfl, .inl k4.h, fun t nt => ?_⟩
      have ek : (kvT so).map (fun kv => kV kv.1) = so.map V.str := by unfold kvT; rw [List.map_map]; rfl
      rw [ek]
      exact q _ _ _ (g4.trans (.new g4.mh nt)) ⟨some so, hch _ rfl, t, _, rfl, upd_same, pd_of_tx so⟩
end
end My

set_option Elab.async false
set_option linter.all false
set_option maxRecDepth 100000
set_option maxHeartbeats 4000000
namespace My
open PySem PySem.Spec PyProof.Rows L2 L3
/-! following as a least closed set -/
inductive Der (cs : List (List Str)) (hs : List Str) : Str → Prop
  | base {x} : x ∈ hs → Der cs hs x
  | step {c l} : c ∈ cs → l ∈ c → (∀ m ∈ c, m ≠ l → Der cs hs (opp m)) → Der cs hs l
def Dead (cs : List (List Str)) (hs : List Str) : Prop := ∃ c ∈ cs, ∀ m ∈ c, Der cs hs (opp m)
/-- a literal of names -/
def LitN (ns : List Str) (x : Str) : Prop := ∃ n ∈ ns, x = n ∨ x = ("-" : Str) ++ n
theorem opp_opp {ns : List Str} (hn : NmL ns) {x : Str} (h : LitN ns x) : opp (opp x) = x ∧ opp x ≠ x := by
  obtain ⟨n, hnn, h | h⟩ := h
  · subst h
    have hm := hn.nm x hnn
    rw [opp_nm hm, opp_neg hm]
    exact ⟨rfl, fun e => neg_ne hm e.symm⟩
  · subst h
    have hm := hn.nm n hnn
    rw [opp_neg hm, opp_nm hm]
    exact ⟨rfl, fun e => neg_ne hm e⟩
structure Ctx (ns : List Str) (cs : List (List Str)) (hs : List Str) : Prop where
  nm : NmL ns
  c : ∀ c ∈ cs, Lits ns c
  h : Lits ns hs
theorem lits_nodup {ns ys : List Str} (h : Lits ns ys) : ys.Nodup := by
  have := h.nd
  rw [List.Nodup, List.pairwise_map] at this
  exact List.Pairwise.imp (fun hne e => hne (by rw [e])) this
/-- what is so -/
structure So (ns : List Str) (cs : List (List Str)) (hs so : List Str) : Prop where
  sub : ∀ x ∈ hs, x ∈ so
  snd : ∀ x ∈ so, Der cs hs x
  lit : ∀ x ∈ so, LitN ns x
  con : ∀ x ∈ so, opp x ∉ so
  nd : so.Nodup
variable {ns : List Str} {cs : List (List Str)} {hs so c : List Str} {l : Str}
theorem So.init (X : Ctx ns cs hs) : So ns cs hs hs := by
  refine ⟨fun _ h => h, fun _ h => .base h, fun x hx => X.h.of x hx, fun x hx ho => ?_, lits_nodup X.h⟩
  obtain ⟨h1, h2, h3⟩ := X.h.name X.nm hx
  obtain ⟨h4, h5, h6⟩ := X.h.name X.nm ho
  have hne := (opp_opp X.nm (X.h.of x hx)).2
  have e : nameOf (opp x) = nameOf x := by
    rcases h2 with e | e
    · rw [e, opp_nm h3, nameOf_neg h3, nameOf_nm h3]
    · rw [e, opp_neg h3, nameOf_nm h3, nameOf_neg h3]
  exact hne (nodup_inj X.h.nd _ ho _ hx e)
theorem mem_left {so c : List Str} {l : Str} : l ∈ leftOf so c ↔ l ∈ c ∧ opp l ∉ so := by unfold leftOf; rw [List.mem_filter]; simp
theorem left_one (X : Ctx ns cs hs) (S : ∀ x ∈ so, Der cs hs x) (hc : c ∈ cs) (h : leftOf so c = [l]) : Der cs hs l := by
  have hl : l ∈ leftOf so c := by rw [h]; simp
  refine .step hc (mem_left.mp hl).1 fun m hm hne => ?_
  by_cases ho : opp m ∈ so
  · exact S _ ho
  · have : m ∈ leftOf so c := mem_left.mpr ⟨hm, ho⟩
    rw [h, List.mem_singleton] at this
    exact absurd this hne
theorem left_none (S : ∀ x ∈ so, Der cs hs x) (hc : c ∈ cs) (h : leftOf so c = []) : Dead cs hs := ⟨c, hc, fun m hm => by
  by_cases ho : opp m ∈ so
  · exact S _ ho
  · have : m ∈ leftOf so c := mem_left.mpr ⟨hm, ho⟩
    rw [h] at this
    cases this⟩
theorem So.put (X : Ctx ns cs hs) (S : So ns cs hs so) (hc : c ∈ cs) (h : leftOf so c = [l]) (hl : l ∉ so) : So ns cs hs (so ++ [l]) := by
  have hm : l ∈ leftOf so c := by rw [h]; simp
  obtain ⟨h1, h2⟩ := mem_left.mp hm
  have hlit : LitN ns l := (X.c c hc).of l h1
  have hoo := opp_opp X.nm hlit
  refine ⟨fun x hx => List.mem_append_left _ (S.sub x hx), fun x hx => ?_, fun x hx => ?_, fun x hx ho => ?_, ?_⟩
  · rcases List.mem_append.mp hx with hx | hx
    · exact S.snd x hx
    · rw [List.mem_singleton] at hx; subst hx; exact left_one X S.snd hc h
  · rcases List.mem_append.mp hx with hx | hx
    · exact S.lit x hx
    · rw [List.mem_singleton] at hx; subst hx; exact hlit
  · rcases List.mem_append.mp hx with hx | hx
    · rcases List.mem_append.mp ho with ho | ho
      · exact S.con x hx ho
      · rw [List.mem_singleton] at ho
        have := (opp_opp X.nm (S.lit x hx)).1
        rw [ho] at this
        exact h2 (by rw [this]; exact hx)
    · rw [List.mem_singleton] at hx
      subst hx
      rcases List.mem_append.mp ho with ho | ho
      · exact h2 ho
      · rw [List.mem_singleton] at ho; exact hoo.2 ho
  · exact List.nodup_append.mpr ⟨S.nd, by simp, fun a ha b hb => by rw [List.mem_singleton] at hb; subst hb; exact fun e => hl (e ▸ ha)⟩
/-- closed -/
def Closed (cs : List (List Str)) (so : List Str) : Prop := ∀ c ∈ cs, leftOf so c ≠ [] ∧ ∀ l, leftOf so c = [l] → l ∈ so
theorem nodup_one {l : Str} : ∀ {xs : List Str}, xs.Nodup → (∀ x ∈ xs, x = l) → xs = [] ∨ xs = [l]
  | [], _, _ => .inl rfl
  | [x], _, h => .inr (by rw [h x (by simp)])
  | x :: y :: r, nd, h => by
    have h1 := h x (by simp)
    have h2 := h y (by simp)
    rw [h1, h2] at nd
    simp at nd
theorem der_in (X : Ctx ns cs hs) (hsub : ∀ x ∈ hs, x ∈ so) (hcl : Closed cs so) {x : Str} (h : Der cs hs x) : x ∈ so := by
  induction h with
  | base h => exact hsub _ h
  | @step c l hc hl _ ih =>
    obtain ⟨h1, h2⟩ := hcl c hc
    have : ∀ m ∈ leftOf so c, m = l := fun m hm => by
      obtain ⟨h3, h4⟩ := mem_left.mp hm
      by_cases e : m = l
      · exact e
      · exact absurd (ih m h3 e) h4
    have nd : (leftOf so c).Nodup := (lits_nodup (X.c c hc)).sublist List.filter_sublist
    rcases nodup_one nd this with e | e
    · exact absurd e h1
    · exact h2 l e
theorem not_dead (X : Ctx ns cs hs) (hsub : ∀ x ∈ hs, x ∈ so) (hcl : Closed cs so) : ¬ Dead cs hs := fun ⟨c, hc, h⟩ => by
  refine (hcl c hc).1 ?_
  have : ∀ m, m ∉ leftOf so c := fun m hm => by
    obtain ⟨h3, h4⟩ := mem_left.mp hm
    exact h4 (der_in X hsub hcl (h m h3))
  exact List.eq_nil_iff_forall_not_mem.mpr this
/-! the law's following -/
theorem lpass_ok (X : Ctx ns cs hs) : ∀ (rest : List (List Str)) (so : List Str), (∀ c ∈ rest, c ∈ cs) → So ns cs hs so → match lpass rest so with
    | none => Dead cs hs
    | some so' => So ns cs hs so' ∧ so.length ≤ so'.length ∧ (¬ so.length < so'.length → so' = so ∧ ∀ c ∈ rest, leftOf so c ≠ [] ∧ ∀ l, leftOf so c = [l] → l ∈ so)
  | [], so, _, S => ⟨S, Nat.le_refl _, fun _ => ⟨rfl, fun c hc => by cases hc⟩⟩
  | c :: rest, so, hr, S => by
    have hc := hr c (List.mem_cons_self ..)
    have hr' := fun d hd => hr d (List.mem_cons_of_mem _ hd)
    rw [lpass]
    match hl : c.filter (fun l => decide (opp l ∉ so)) with
    | [] => exact left_none S.snd hc hl
    | [l] =>
      have hl' : leftOf so c = [l] := hl
      by_cases hin : l ∈ so
      · have e : onceP so l = so := if_pos hin
        simp only [e]
        have ih := lpass_ok X rest so hr' S
        revert ih
        cases lpass rest so with
        | none => exact fun h => h
        | some so' =>
          rintro ⟨h1, h2, h3⟩
          refine ⟨h1, h2, fun h => ⟨(h3 h).1, fun d hd => ?_⟩⟩
          rcases List.mem_cons.mp hd with rfl | hd
          · rw [hl']; exact ⟨by simp, fun m hm => by cases hm; exact hin⟩
          · exact (h3 h).2 d hd
      · have e : onceP so l = so ++ [l] := if_neg hin
        simp only [e]
        have ih := lpass_ok X rest (so ++ [l]) hr' (S.put X hc hl' hin)
        revert ih
        cases lpass rest (so ++ [l]) with
        | none => exact fun h => h
        | some so' =>
          rintro ⟨h1, h2, _⟩
          rw [List.length_append, List.length_singleton] at h2
          exact ⟨h1, by omega, fun h => absurd (by omega) h⟩
    | a :: b :: r =>
      have hl' : leftOf so c = a :: b :: r := hl
      simp only
      have ih := lpass_ok X rest so hr' S
      revert ih
      cases lpass rest so with
      | none => exact fun h => h
      | some so' =>
        rintro ⟨h1, h2, h3⟩
        refine ⟨h1, h2, fun h => ⟨(h3 h).1, fun d hd => ?_⟩⟩
        rcases List.mem_cons.mp hd with rfl | hd
        · rw [hl']; exact ⟨by simp, fun m hm => by simp at hm⟩
        · exact (h3 h).2 d hd
/-- how a following ends -/
def EndsOk (ns : List Str) (cs : List (List Str)) (hs : List Str) : Option (List Str) → Prop
  | none => Dead cs hs
  | some so => ¬ Dead cs hs ∧ (∀ x, x ∈ so ↔ Der cs hs x) ∧ So ns cs hs so
theorem ends_some (X : Ctx ns cs hs) (S : So ns cs hs so) (hcl : Closed cs so) : EndsOk ns cs hs (some so) := ⟨not_dead X S.sub hcl, fun x => ⟨S.snd x, der_in X S.sub hcl⟩, S⟩
theorem lchase_ok (X : Ctx ns cs hs) {r : Option (List Str)} (h : LChase cs so r) (S : So ns cs hs so) : EndsOk ns cs hs r := by
  induction h with
  | @dead so e =>
    have := lpass_ok X cs so (fun _ h => h) S
    rw [e] at this
    exact this
  | @done so so' e hn =>
    have := lpass_ok X cs so (fun _ h => h) S
    rw [e] at this
    obtain ⟨h1, h2, h3⟩ := this
    obtain ⟨e1, h4⟩ := h3 hn
    rw [e1]
    exact ends_some X S h4
  | @more so so' r e _ _ ih =>
    have := lpass_ok X cs so (fun _ h => h) S
    rw [e] at this
    exact ih this.1
/-! the program's following -/
theorem open_left {ls : List Str} (h : openOnes so c = some ls) : leftOf so c = ls ∧ ∀ l ∈ c, l ∉ so := by
  rw [openOnes_eq] at h
  split at h
  · cases h
  · rename_i hn
    refine ⟨Option.some.inj h, fun l hl hs => hn ?_⟩
    rw [List.any_eq_true]
    exact ⟨l, hl, by simpa using hs⟩
theorem open_none (h : openOnes so c = none) : ∃ l ∈ c, l ∈ so := by
  rw [openOnes_eq] at h
  split at h
  · rename_i hn
    rw [List.any_eq_true] at hn
    obtain ⟨l, hl, hs⟩ := hn
    exact ⟨l, hl, by simpa using hs⟩
  · cases h
/-- steps that are right one behind the other -/
inductive Steps (cs : List (List Str)) : List Str → List Stp → List Str → Prop
  | nil {so : List Str} : Steps cs so [] so
  | cons {so : List Str} {i : Nat} {l : Str} {r : List Stp} {so' : List Str} : i < cs.length → openOnes so (cs.getD i []) = some [l] → Steps cs (so ++ [l]) r so' → Steps cs so ((i, some l) :: r) so'
theorem Steps.snoc {so so' : List Str} {st : List Stp} {i : Nat} (h : Steps cs so st so') (hi : i < cs.length) (ho : openOnes so' (cs.getD i []) = some [l]) : Steps cs so (st ++ [(i, some l)]) (so' ++ [l]) := by
  induction h with
  | nil => exact .cons hi ho .nil
  | cons h1 h2 _ ih => exact .cons h1 h2 (ih ho)
theorem Steps.take {so so' : List Str} {st : List Stp} (h : Steps cs so st so') : ∀ n, ∃ so'', Steps cs so (st.take n) so'' := by
  induction h with
  | nil => intro n; exact ⟨_, by rw [List.take_nil]; exact .nil⟩
  | cons h1 h2 _ ih =>
    intro n
    cases n with
    | zero => exact ⟨_, .nil⟩
    | succ n => obtain ⟨s, hs⟩ := ih n; exact ⟨s, .cons h1 h2 hs⟩
/-- right drawings to a result -/
def RightTo (cs : List (List Str)) (hs : List Str) : Res → Prop
  | (some so, st) => Steps cs hs st so
  | (none, st) => ∃ st0 i so, st = st0 ++ [(i, none)] ∧ Steps cs hs st0 so ∧ i < cs.length ∧ openOnes so (cs.getD i []) = some []
theorem pass_ok (X : Ctx ns cs hs) : ∀ (rest : List (List Str)) (i : Nat) (so : List Str) (st : List Stp) (mv : Bool), cs.drop i = rest → So ns cs hs so → Steps cs hs st so → match passGo rest i so st mv with
    | .error st' => Dead cs hs ∧ RightTo cs hs (none, st')
    | .ok (so', st', mv') => So ns cs hs so' ∧ Steps cs hs st' so' ∧ (mv' = false → mv = false ∧ so' = so ∧ st' = st ∧ ∀ c ∈ rest, leftOf so c ≠ [] ∧ ∀ l, leftOf so c = [l] → l ∈ so)
  | [], i, so, st, mv, _, S, T => ⟨S, T, fun h => ⟨h, rfl, rfl, fun c hc => by cases hc⟩⟩
  | c :: rest, i, so, st, mv, hd, S, T => by
    have hil : i < cs.length := by
      by_cases h : i < cs.length
      · exact h
      · rw [List.drop_of_length_le (by omega)] at hd; cases hd
    have hgd : cs.getD i [] = c := by
      rw [List.drop_eq_getElem_cons hil] at hd
      rw [List.getD_eq_getElem?_getD, List.getElem?_eq_getElem hil]
      exact (List.cons.inj hd).1
    have hdr : cs.drop (i + 1) = rest := by
      rw [List.drop_eq_getElem_cons hil] at hd
      exact (List.cons.inj hd).2
    have hc : c ∈ cs := by rw [← hgd, List.getD_eq_getElem?_getD, List.getElem?_eq_getElem hil]; exact List.getElem_mem _
    rw [passGo]
    have other : (leftOf so c ≠ [] ∧ ∀ l, leftOf so c = [l] → l ∈ so) → match passGo rest (i + 1) so st mv with
        | .error st' => Dead cs hs ∧ RightTo cs hs (none, st')
        | .ok (so', st', mv') => So ns cs hs so' ∧ Steps cs hs st' so' ∧ (mv' = false → mv = false ∧ so' = so ∧ st' = st ∧ ∀ d ∈ c :: rest, leftOf so d ≠ [] ∧ ∀ l, leftOf so d = [l] → l ∈ so) := by
      intro hcl
      have ih := pass_ok X rest (i + 1) so st mv hdr S T
      revert ih
      cases passGo rest (i + 1) so st mv with
      | error st' => exact fun h => h
      | ok x =>
        obtain ⟨so', st', mv'⟩ := x
        rintro ⟨h1, h2, h3⟩
        refine ⟨h1, h2, fun h => ?_⟩
        obtain ⟨h4, h5, h6, h7⟩ := h3 h
        refine ⟨h4, h5, h6, fun d hd => ?_⟩
        rcases List.mem_cons.mp hd with rfl | hd
        · exact hcl
        · exact h7 d hd
    match ho : openOnes so c with
    | none =>
      refine other ?_
      obtain ⟨l, hl, hls⟩ := open_none ho
      have hm : l ∈ leftOf so c := mem_left.mpr ⟨hl, S.con l hls⟩
      refine ⟨(fun e => by rw [e] at hm; cases hm), fun m e => ?_⟩
      rw [e, List.mem_singleton] at hm
      rw [← hm]; exact hls
    | some [] => exact ⟨left_none S.snd hc (open_left ho).1, st, i, so, rfl, T, hil, by rw [hgd]; exact ho⟩
    | some [l] =>
      have hl := (open_left ho).1
      obtain ⟨h1, h2⟩ := open_one ho
      have ih := pass_ok X rest (i + 1) (so ++ [l]) (st ++ [(i, some l)]) true hdr (S.put X hc hl h2) (T.snoc hil (by rw [hgd]; exact ho))
      simp only
      revert ih
      cases passGo rest (i + 1) (so ++ [l]) (st ++ [(i, some l)]) true with
      | error st' => exact fun h => h
      | ok x =>
        obtain ⟨so', st', mv'⟩ := x
        rintro ⟨h1, h2, h3⟩
        exact ⟨h1, h2, fun h => by have := (h3 h).1; cases this⟩
    | some (a :: b :: r) =>
      refine other ?_
      have hl := (open_left ho).1
      rw [hl]
      exact ⟨by simp, fun l e => by simp at e⟩
theorem chase_ok (X : Ctx ns cs hs) {st : List Stp} {r : Res} (h : Chase cs so st r) (S : So ns cs hs so) (T : Steps cs hs st so) : EndsOk ns cs hs r.1 ∧ RightTo cs hs r := by
  induction h with
  | @dead so st st' e =>
    have := pass_ok X cs 0 so st false rfl S T
    rw [e] at this
    exact this
  | @done so st so' st' e =>
    have := pass_ok X cs 0 so st false rfl S T
    rw [e] at this
    obtain ⟨h1, h2, h3⟩ := this
    obtain ⟨_, e1, e2, h4⟩ := h3 rfl
    exact ⟨by rw [e1]; exact ends_some X S h4, h2⟩
  | @more so st so' st' r e _ ih =>
    have := pass_ok X cs 0 so st false rfl S T
    rw [e] at this
    exact ih this.1 this.2.1
end My

set_option Elab.async false
set_option linter.all false
set_option maxRecDepth 100000
set_option maxHeartbeats 4000000
namespace My
open PySem PySem.Spec PyProof.Rows L2 L3
/-! the plain functions -/
def fullP (acc : List (List Str)) (n : Str) : List (List Str) := acc.flatMap fun s => [n, ("-" : Str) ++ n].map fun l => s ++ [l]
def fulls (ns : List Str) : List (List Str) := ns.foldl fullP [[]]
def liesIn (p c : List Str) : Bool := p.all fun l => decide (l ∈ c)
def meets (c s : List Str) : Bool := c.any fun l => decide (l ∈ s)
def isCons (c : List Str) (ss : List (List Str)) : Bool := ss.all fun s => meets c s
def fits (ss : List (List Str)) (h : List Str) : List (List Str) := ss.filter fun s => liesIn h s
def stepH (ns : List Str) (p : List Str × Nat) : List (List Str × Nat) := (List.range' p.2 (ns.length - p.2)).flatMap fun a => [ns.getD a "", ("-" : Str) ++ ns.getD a ""].map fun l => (p.1 ++ [l], a + 1)
def nextH (ns : List Str) (lv : List (List Str × Nat)) : List (List Str × Nat) := lv.flatMap (stepH ns)
def halfGo (ns : List Str) : Nat → List (List Str × Nat) → List (List Str) → List (List Str)
  | 0, _, found => found
  | m + 1, lv, found => halfGo ns m (nextH ns lv) (found ++ (nextH ns lv).map (·.1))
def halves (ns : List Str) : List (List Str) := halfGo ns ns.length [([], 0)] [[]]
def shortP (ss : List (List Str)) (found : List (List Str)) (c : List Str) : List (List Str) := if (!found.any fun o => liesIn o c) && isCons c ss then found ++ [c] else found
def shortestL (ns : List Str) (ss : List (List Str)) : List (List Str) := (halves ns).foldl (shortP ss) []
section
variable {K : PySem.W.Frag} {σ : Sl} {M : Hp} {te ta tb : TE} {α : Type} {R : Rl α}
theorem _root_.L3.GvL.li [Mon R] {xs : List α} (h : GvL te σ M fun M ws => Pd R M xs ws) : Gv te σ M (LiR R xs) := h.gv fun M vs p r m => ⟨p, vs, rfl, upd_same, r.mono (same_new m)⟩
theorem _root_.L3.GvK.gv {ks : List Str} (h : GvK te σ M ks) : Gv te σ M (DcR ks) := fun H mh Q q => h H mh Q fun p M' H' g h0 m0 hw => q _ _ H' (g.freeze h0 m0 hw) ⟨p, rfl, .inl upd_same⟩
theorem gl_one [Mon R] {x : α} (h : Gv te σ M (R x)) : GvL (tLst (tCons te tNil)) σ M fun M ws => Pd R M [x] ws := fun H mh Q q =>
  h H mh _ fun v M1 H1 g1 p1 => ⟨by show 1 ≤ sizeLine; decide, fun p np => q p [v] M1 _ (g1.trans (.own g1.mh np)) (g1.hh.free np) (g1.mh.free np) upd_same (.cons p1 .nil)⟩
theorem gl_twoL [Mon R] {x y : α} (h1 : Gv ta σ M (R x)) (h2 : Gv tb σ M (R y)) : GvL (tLst (tCons ta (tCons tb tNil))) σ M fun M ws => Pd R M [x, y] ws := fun H mh Q q =>
  h1 H mh _ fun v M1 H1 g1 p1 => h2.le g1.mm H1 g1.mh _ fun u M2 H2 g2 p2 => ⟨by show 2 ≤ sizeLine; decide, fun p np => q p [v, u] M2 _ ((g1.trans g2).trans (.own g2.mh np)) ((g1.trans g2).hh.free np) (g2.mh.free np) upd_same (.cons (Mon.mono g2.mm p1) (.cons p2 .nil))⟩
theorem gv_tup1 {x : Str} (h : Gv te σ M (Tx x)) : Gv (tTup (tCons te tNil)) σ M (TT [x]) := fun H mh Q q =>
  h H mh _ fun v M1 H1 g1 p1 => ⟨by show 1 ≤ sizeLine; decide, fun p np => q _ _ _ (g1.trans (.new g1.mh np)) (by cases (show v = _ from p1); exact TT.new [x])⟩
theorem szK {n : Nat} (h : n ≤ 1000000) : n ≤ sizeLine := szM (Nat.le_trans h (by decide))
theorem flat2_len {α β : Type} (xs : List α) (f : α → β) (g : α → β) : (xs.flatMap fun x => [f x, g x]).length = 2 * xs.length := by
  induction xs with
  | nil => rfl
  | cons x xs ih => rw [List.flatMap_cons, List.length_append, ih]; simp only [List.length_cons, List.length_nil]; omega
theorem gv_nilL {R : Rl α} : Gv (tLst tNil) σ M (LiR R []) := gl_nil.gv fun M vs p h m => by subst h; exact ⟨p, [], rfl, upd_same, .nil⟩
end
end My

set_option Elab.async false
set_option linter.all false
set_option maxRecDepth 100000
set_option maxHeartbeats 4000000
namespace My
open PySem PySem.Spec PyProof.Rows L2 L3
theorem depthT : ∀ xs : List (List Str), PyData.depthAll (xs.map fun c => .tuple (c.map .str)) ≤ 1
  | [] => by simp [PyData.depthAll]
  | c :: r => by
    have := depthT r
    simp only [List.map_cons, PyData.depthAll, PyData.depth, depthS]
    omega
section
variable {P : Program} {w : World} {K : PySem.W.Frag} {mg : Str → Option Value} {base : Heap}
theorem fulls_len (ns : List Str) : (fulls ns).length = 2 ^ ns.length := by
  have go : ∀ (ns : List Str) (acc : List (List Str)), (ns.foldl fullP acc).length = acc.length * 2 ^ ns.length := by
    intro ns
    induction ns with
    | nil => intro acc; simp
    | cons n ns ih =>
      intro acc
      rw [List.foldl_cons, ih, List.length_cons, Nat.pow_succ]
      have : (fullP acc n).length = acc.length * 2 := by
        unfold fullP
        induction acc with
        | nil => rfl
        | cons a acc ih => rw [List.flatMap_cons, List.length_append, ih, List.length_cons]; simp; omega
      rw [this, Nat.mul_assoc, Nat.mul_comm 2]
  have := go ns [[]]
  simpa [fulls] using this
theorem fulls_take {ns : List Str} {i : Nat} {n : Str} (h : ns[i]? = some n) : fulls (ns.take (i + 1)) = fullP (fulls (ns.take i)) n := by
  unfold fulls
  rw [List.take_add_one, h, List.foldl_append]
  rfl
theorem fulls_each : ∀ (ns : List Str), ∀ s ∈ fulls ns, s.length = ns.length := by
  have go : ∀ (ns : List Str) (acc : List (List Str)) (k : Nat), (∀ s ∈ acc, s.length = k) → ∀ s ∈ ns.foldl fullP acc, s.length = k + ns.length := by
    intro ns
    induction ns with
    | nil => intro acc k h s hs; exact h s hs
    | cons n ns ih =>
      intro acc k h s hs
      rw [List.foldl_cons] at hs
      have := ih (fullP acc n) (k + 1) (fun z hz => by
        obtain ⟨y, hy, hz⟩ := List.mem_flatMap.mp hz
        obtain ⟨l, _, rfl⟩ := List.mem_map.mp hz
        rw [List.length_append, h y hy]; rfl) s hs
      rw [this, List.length_cons]; omega
  intro ns s hs
  have := go ns [[]] 0 (by simp) s hs
  omega
end
end My

set_option Elab.async false
set_option linter.all false
set_option maxRecDepth 100000
set_option maxHeartbeats 8000000
namespace My
open PySem PySem.Spec PyProof.Rows L2 L3
abbrev NtR : Rl Nat := fun i => It' (i : Nat)
instance : Mon NtR := ⟨fun _ h => h⟩
/-- the state between two levels; m levels are still to come -/
structure HvI (ns : List Str) (lv : List (List Str × Nat)) (found : List (List Str)) (m : Nat) : Prop where
  lo : ∀ p ∈ lv, ns.length ≤ p.2 + m
  up : ∀ p ∈ lv, p.2 ≤ ns.length ∧ p.1.length ≤ p.2
  go : halfGo ns m lv found = halves ns
  sz : lv.length * 12 ^ m ≤ 2985984
  fz : 11 * found.length * 12 ^ m ≤ 35831808
theorem mem_stepH {ns : List Str} {p q : List Str × Nat} (h : q ∈ stepH ns p) : ∃ a l, p.2 ≤ a ∧ a < ns.length ∧ (l = ns.getD a "" ∨ l = ("-" : Str) ++ ns.getD a "") ∧ q = (p.1 ++ [l], a + 1) := by
  obtain ⟨a, ha, hq⟩ := List.mem_flatMap.mp h
  obtain ⟨l, hl, rfl⟩ := List.mem_map.mp hq
  have := List.mem_range'_1.mp ha
  exact ⟨a, l, this.1, by omega, by simpa using hl, rfl⟩
theorem flat_le {α β : Type} {f : α → List β} {c : Nat} : ∀ {xs : List α}, (∀ x ∈ xs, (f x).length ≤ c) → (xs.flatMap f).length ≤ c * xs.length
  | [], _ => Nat.zero_le _
  | x :: xs, h => by
    have h1 := h x (List.mem_cons_self ..)
    have h2 := flat_le (xs := xs) fun z hz => h z (List.mem_cons_of_mem _ hz)
    rw [List.flatMap_cons, List.length_append, List.length_cons, Nat.mul_succ]
    omega
theorem stepH_len (ns : List Str) (p : List Str × Nat) : (stepH ns p).length = 2 * (ns.length - p.2) := by
  unfold stepH
  have := flat2_len (List.range' p.2 (ns.length - p.2)) (fun a => (p.1 ++ [ns.getD a ""], a + 1)) (fun a => (p.1 ++ [("-" : Str) ++ ns.getD a ""], a + 1))
  rw [List.length_range'] at this
  exact this
theorem nextH_len {ns : List Str} {lv : List (List Str × Nat)} (n6 : ns.length ≤ 6) : (nextH ns lv).length ≤ 12 * lv.length := flat_le fun p _ => by rw [stepH_len]; omega
theorem HvI.init {ns : List Str} (n6 : ns.length ≤ 6) : HvI ns [([], 0)] [[]] ns.length := by
  have h : 12 ^ ns.length ≤ 12 ^ 6 := Nat.pow_le_pow_right (by decide) n6
  refine ⟨fun p hp => ?_, fun p hp => ?_, rfl, ?_, ?_⟩
  · rw [List.mem_singleton.mp hp]; exact Nat.le_of_eq (Nat.zero_add _).symm
  · rw [List.mem_singleton.mp hp]; exact ⟨Nat.zero_le _, Nat.le_refl _⟩
  · simp only [List.length_singleton]; omega
  · simp only [List.length_singleton]; omega
theorem HvI.step1 {ns : List Str} {lv : List (List Str × Nat)} {found : List (List Str)} {m : Nat} (n6 : ns.length ≤ 6) (h : HvI ns lv found (m + 1)) : HvI ns (nextH ns lv) (found ++ (nextH ns lv).map (·.1)) m := by
  have up : ∀ p ∈ nextH ns lv, p.2 ≤ ns.length ∧ p.1.length ≤ p.2 := fun p hp => by
    obtain ⟨r, hr, hp⟩ := List.mem_flatMap.mp hp
    obtain ⟨a, l, h1, h2, _, rfl⟩ := mem_stepH hp
    have := (h.up r hr).2
    refine ⟨h2, ?_⟩
    show (r.1 ++ [l]).length ≤ a + 1
    rw [List.length_append]
    show r.1.length + 1 ≤ a + 1
    omega
  have l1 := nextH_len (lv := lv) n6
  have s1 := h.sz
  have f1 := h.fz
  rw [Nat.pow_succ] at s1 f1
  have s2 : (nextH ns lv).length * 12 ^ m ≤ 2985984 := by
    refine Nat.le_trans (Nat.mul_le_mul_right _ l1) ?_
    rw [Nat.mul_comm 12, Nat.mul_assoc, Nat.mul_comm 12]
    exact s1
  refine ⟨fun p hp => ?_, up, h.go, s2, ?_⟩
  · obtain ⟨r, hr, hp⟩ := List.mem_flatMap.mp hp
    obtain ⟨a, l, h1, h2, _, rfl⟩ := mem_stepH hp
    have := h.lo r hr
    show ns.length ≤ a + 1 + m
    omega
  · rw [List.length_append, List.length_map, Nat.mul_add, Nat.add_mul]
    have f2 : 11 * found.length * 12 ^ m * 12 ≤ 35831808 := by rw [Nat.mul_assoc]; exact f1
    have f3 : 11 * (nextH ns lv).length * 12 ^ m ≤ 11 * 2985984 := by rw [Nat.mul_assoc]; exact Nat.mul_le_mul_left _ s2
    omega
theorem HvI.step {ns : List Str} {lv : List (List Str × Nat)} {found : List (List Str)} {m : Nat} (n6 : ns.length ≤ 6) (h : HvI ns lv found m) :
    ∃ m', (m' < m ∨ nextH ns lv = []) ∧ HvI ns (nextH ns lv) (found ++ (nextH ns lv).map (·.1)) m' := by
  cases m with
  | zero =>
    have e : nextH ns lv = [] := List.flatMap_eq_nil_iff.mpr fun p hp => by
      have := h.lo p hp
      apply List.eq_nil_of_length_eq_zero
      rw [stepH_len]
      omega
    refine ⟨0, .inr e, ?_⟩
    rw [e]
    refine ⟨fun p hp => (List.not_mem_nil hp).elim, fun p hp => (List.not_mem_nil hp).elim, ?_, by simp, ?_⟩
    · rw [List.map_nil, List.append_nil]; exact h.go
    · rw [List.map_nil, List.append_nil]; exact h.fz
  | succ m => exact ⟨m, .inl (Nat.lt_succ_self m), h.step1 n6⟩
theorem HvI.end_ {ns : List Str} {found : List (List Str)} {m : Nat} (h : HvI ns [] found m) : found = halves ns := by
  have go : ∀ m found, halfGo ns m [] found = found := by
    intro m
    induction m with
    | zero => intro f; rfl
    | succ m ih => intro f; rw [halfGo]; show halfGo ns m [] (f ++ []) = f; rw [List.append_nil, ih]
  rw [← h.go, go]
section
end
end My

set_option Elab.async false
set_option linter.all false
set_option maxRecDepth 100000
set_option maxHeartbeats 8000000
namespace My
open PySem PySem.Spec PyProof.Rows L2 L3
/-- a rule: names, allowed settings -/
structure RuleD where
  names : List Str
  allowed : List (List Str)
def RuleD.settings (r : RuleD) : List (List Str) := (fulls r.names).filter fun s => decide (s ∈ r.allowed)
def mkRule (ns : List Str) (ss : List (List Str)) : RuleD := ⟨ns, once (ss.map fun s => asc s ns)⟩
def ruleF (vn va : V) : List (Str × V) := putF "allowed" va (putF "names" vn [])
def RuleR (C : Addr) : Rl RuleD := fun r M v => ∃ a dx vn va, v = .ref a ∧ M a = some (.ins C dx (ruleF vn va)) ∧ TT r.names M vn ∧ DtR r.allowed M va
instance {C : Addr} : Mon (RuleR C) := ⟨fun e ⟨a, dx, vn, va, h1, h2, h3, h4⟩ => ⟨a, dx, vn, va, h1, e _ _ h2, Mon.mono e h3, Mon.mono e h4⟩⟩
structure RuleT (K : PySem.W.Frag) (mg : Str → Option Value) (C : Addr) : Prop where
  cl : Cls K C
  nN : NoAttr K C "names"
  nA : NoAttr K C "allowed"
section
end
section
variable {P : Program} {w : World} {K : PySem.W.Frag} {mg : Str → Option Value} {base : Heap}
structure RuleOk (ns : List Str) (ss : List (List Str)) : Prop where
  s : NamesOk ns []
  k : ns.length ≤ 6
  n : ss.length ≤ 1000000
  c : ∀ c ∈ ss, ClOk ns c ∧ c.length = ns.length
structure RuleW (r : RuleD) : Prop where
  k : r.names.length ≤ 6
  s : Shorts r.names
theorem shortP_len (ss found : List (List Str)) (c : List Str) : (shortP ss found c).length ≤ found.length + 1 := by
  unfold shortP
  split
  · simp
  · omega
theorem short_len (ss xs : List (List Str)) : (xs.foldl (shortP ss) []).length ≤ xs.length := by
  have go : ∀ (xs acc : List (List Str)), (xs.foldl (shortP ss) acc).length ≤ acc.length + xs.length := by
    intro xs
    induction xs with
    | nil => intro acc; exact Nat.le_refl _
    | cons x xs ih =>
      intro acc
      have h1 := ih (shortP ss acc x)
      have h2 := shortP_len ss acc x
      rw [List.foldl_cons, List.length_cons]
      omega
  simpa using go xs []
theorem short_sub (ss xs : List (List Str)) : ∀ c ∈ xs.foldl (shortP ss) [], c ∈ xs := by
  have go : ∀ (xs acc : List (List Str)), ∀ c ∈ xs.foldl (shortP ss) acc, c ∈ acc ∨ c ∈ xs := by
    intro xs
    induction xs with
    | nil => intro acc c h; exact .inl h
    | cons x xs ih =>
      intro acc c h
      rw [List.foldl_cons] at h
      rcases ih _ c h with h | h
      · unfold shortP at h
        split at h
        · rcases List.mem_append.mp h with h | h
          · exact .inl h
          · rw [List.mem_singleton.mp h]; exact .inr (List.mem_cons_self ..)
        · exact .inl h
      · exact .inr (List.mem_cons_of_mem _ h)
  intro c h
  rcases go xs [] c h with h | h
  · cases h
  · exact h
theorem halves_each {ns : List Str} (n6 : ns.length ≤ 6) : ∀ c ∈ halves ns, c.length ≤ 6 := by
  have go : ∀ (m : Nat) (lv : List (List Str × Nat)) (found : List (List Str)), HvI ns lv found m → (∀ c ∈ found, c.length ≤ 6) → ∀ c ∈ halves ns, c.length ≤ 6 := by
    intro m
    induction m using Nat.strongRecOn with
    | ind m ih =>
      intro lv found h hf
      obtain ⟨m', h1, h2⟩ := h.step n6
      have hf' : ∀ c ∈ found ++ (nextH ns lv).map (·.1), c.length ≤ 6 := fun c hc => by
        rcases List.mem_append.mp hc with hc | hc
        · exact hf c hc
        · obtain ⟨p, hp, rfl⟩ := List.mem_map.mp hc
          have := h2.up p hp
          omega
      rcases h1 with h1 | h1
      · exact ih m' h1 _ _ h2 hf'
      · rw [h1] at h2 hf'
        rw [← h2.end_]
        exact hf'
  exact go _ _ _ (HvI.init n6) (by simp)
end
end My

set_option Elab.async false
set_option linter.all false
set_option maxRecDepth 100000
set_option maxHeartbeats 8000000
namespace My
open PySem PySem.Spec PyProof.Rows L2 L3
theorem getD_at {ns : List Str} {a : Nat} (h : a < ns.length) : ns[a]? = some (ns.getD a "") := by rw [List.getD_eq_getElem?_getD, List.getElem?_eq_getElem h]; rfl
section
variable {P : Program} {w : World} {K : PySem.W.Frag} {mg : Str → Option Value} {base : Heap}
abbrev s__law_meets : Stmt := topS 43
theorem sc__law_meets : FnScope ["_law_clause_here", "_law_some", "_law_one"] ["_law_clause_here", "_law_some"] (defScope s__law_meets) := ⟨rfl, rfl, rfl, by decide +kernel, rfl, by decide +kernel, by decide +kernel⟩
def sp__law_meets (K : PySem.W.Frag) : Sp := sp2 (SqR K Tx) (CtR K) (fun p _ => p.length ≤ 1000000) fun p c => Bl (meets p c)
theorem ok__law_meets {f : Addr} {fd : FuncData} (F : Fun K "_law_meets" "_law_meets" s__law_meets f fd) (T : Gc mg) : FnOk P w K mg base CX0 1 f fd ["_law_clause_here", "_law_some"] (sp__law_meets K) := by
  refine F.ok sc__law_meets (fun vs H Q E h => ?_) (fun cdv A outer s H vs Q E hr h => ?_)
  · obtain ⟨x, y, M, v, w, rfl, _⟩ := h
    rfl
  · obtain ⟨p, c, M, v, w, rfl, mh, r1, r2, hp, q⟩ := h
    have hu := hr.units
    refine ⟨_, (pss_one (ps_ret (pe_callB (cr_any rfl) (by rfl) T.any boot_any (pa_cons (pe_lc (own := [("_law_one", 2)]) (g := (gName 2)) (tt := tYes) (te := (tOp (rInA K false) (tVar 2) (tVar 1))) (by rfl) sc__law_meets.nd (pi_sq (pv 0)) (blkOk_by (by rfl)) (fun _ _ _ _ _ => (pg_name (i := 2) sc__law_meets.nd rfl (by first | exact .inl rfl | exact .inr rfl))) (fun _ _ _ _ _ => pts_nil) (fun _ _ _ _ _ => (pe_cmpR (op_inA hu) (pv 2) (pv 1) (by rfl)))) pa_nil)))), ?_⟩
    refine s_ret mh (gv_is (gv_any (K := K) (gl_m1 (S := Bl) (R := Tx) (xs := p) (gi_sq (K := K) (gv_var rfl r1)) (szK hp) (fun l => decide (l ∈ c)) fun l _ M1 u sm ru => gv_is (gv_inA (K := K) (gv_var rfl ru) (gv_var rfl (Mon.mono sm r2))) fun _ _ h => by simpa using h)) fun M' v h => ?_) q
    rw [show v = _ from h, List.any_map]
    rfl
end
end My

set_option Elab.async false
set_option linter.all false
set_option maxRecDepth 100000
set_option maxHeartbeats 8000000
namespace My
open PySem PySem.Spec PyProof.Rows L2 L3
theorem fullP_take {acc : List (List Str)} {i : Nat} {s n : Str} {z : List Str} (h : acc[i]? = some z) : fullP (acc.take (i + 1)) n = fullP (acc.take i) n ++ [z ++ [n], z ++ [("-" : Str) ++ n]] := by
  unfold fullP
  rw [take_flat _ h]
  rfl
theorem fullP_len (acc : List (List Str)) (n : Str) : (fullP acc n).length = 2 * acc.length := flat2_len acc (fun s => s ++ [n]) (fun s => s ++ [("-" : Str) ++ n])
section
variable {K : PySem.W.Frag} {σ : Sl} {M : Hp} {ta tb : TE}
/-- [z + (n,), z + ("-" + n,)] -/
theorem gl_both {i j : Nat} {z : List Str} {n : Str} (hz : Gv (tVar i) σ M (TT z)) (hn : Gv (tVar j) σ M (Tx n)) (l1 : z.length ≤ 1000000) (l2 : n.length ≤ 1000000) :
    GvL (tLst (tCons (tOp (rAddA K) (tVar i) (tTup (tCons (tVar j) tNil))) (tCons (tOp (rAddA K) (tVar i) (tTup (tCons (tOp (rAddA K) (tC (.str "-")) (tVar j)) tNil))) tNil))) σ M fun M ws => Pd TT M [z ++ [n], z ++ [("-" : Str) ++ n]] ws :=
  gl_twoL (R := TT) (gv_addTT (K := K) hz (gv_tup1 hn) (szM (by simp only [List.length_cons, List.length_nil]; omega))) (gv_addTT (K := K) hz (gv_tup1 (gv_addSt (K := K) (gv_c rfl) hn (szM (by show 1 + n.length ≤ _; omega)))) (szM (by simp only [List.length_cons, List.length_nil]; omega)))
end
section
variable {P : Program} {w : World} {K : PySem.W.Frag} {mg : Str → Option Value} {base : Heap}
abbrev s__law_fulls : Stmt := topS 41
theorem sc__law_fulls : FnScope ["_law_names_here", "_law_found", "_law_name", "_law_longer", "_law_one"] ["_law_names_here"] (defScope s__law_fulls) := ⟨rfl, rfl, rfl, by decide +kernel, rfl, by decide +kernel, by decide +kernel⟩
end
end My

set_option Elab.async false
set_option linter.all false
set_option maxRecDepth 100000
set_option maxHeartbeats 8000000
namespace My
open PySem PySem.Spec PyProof.Rows L2 L3
open L3.Strm
/-- a value as it is -/
abbrev VR : Rl V := fun x _ v => v = x
instance : Mon VR := ⟨fun _ h => h⟩
section
end
section
end
end My

set_option Elab.async false
set_option linter.all false
set_option maxRecDepth 100000
set_option maxHeartbeats 8000000
namespace My
open PySem PySem.Spec PyProof.Rows L2 L3
open L3.Strm
section
end
end My

set_option Elab.async false
set_option linter.all false
set_option maxRecDepth 100000
set_option maxHeartbeats 4000000
namespace My
open PySem PySem.Spec PyProof.Rows L2 L3
/-! full settings -/
def Side (n l : Str) : Prop := l = n ∨ l = ("-" : Str) ++ n
theorem fulls_paired {ns s : List Str} (h : s ∈ fulls ns) : Paired Side ns s := by
  have go : ∀ (ns : List Str) (acc : List (List Str)) (done : List Str), (∀ s ∈ acc, Paired Side done s) → ∀ s ∈ ns.foldl fullP acc, Paired Side (done ++ ns) s := by
    intro ns
    induction ns with
    | nil => intro acc done h s hs; rw [List.append_nil]; exact h s hs
    | cons n ns ih =>
      intro acc done h s hs
      rw [List.foldl_cons] at hs
      have := ih (fullP acc n) (done ++ [n]) (fun z hz => by
        obtain ⟨y, hy, hz⟩ := List.mem_flatMap.mp hz
        obtain ⟨l, hl, rfl⟩ := List.mem_map.mp hz
        exact pd_app (h y hy) (.cons (by show l = _ ∨ l = _; simpa using hl) .nil)) s hs
      rwa [List.append_assoc] at this
  exact go ns [[]] [] (fun s hs => by rw [List.mem_singleton.mp hs]; exact .nil) s h
theorem fulls_nodup {ns : List Str} (hn : ∀ n ∈ ns, isNm n = true) : (fulls ns).Nodup := by
  have go : ∀ (ns : List Str) (acc : List (List Str)), (∀ n ∈ ns, isNm n = true) → acc.Nodup → (ns.foldl fullP acc).Nodup := by
    intro ns
    induction ns with
    | nil => intro acc _ h; exact h
    | cons n ns ih =>
      intro acc hn h
      rw [List.foldl_cons]
      refine ih _ (fun m hm => hn m (List.mem_cons_of_mem _ hm)) ?_
      have hne := neg_ne (m := n) (hn n (List.mem_cons_self ..))
      unfold fullP
      induction acc with
      | nil => exact List.nodup_nil
      | cons a acc ih2 =>
        obtain ⟨h1, h2⟩ := List.nodup_cons.mp h
        rw [List.flatMap_cons, List.nodup_append]
        refine ⟨by simp [hne], ih2 h2, fun x hx y hy e => ?_⟩
        subst e
        obtain ⟨b, hb, hy⟩ := List.mem_flatMap.mp hy
        obtain ⟨l, _, e1⟩ := List.mem_map.mp hx
        obtain ⟨l', _, e2⟩ := List.mem_map.mp hy
        have := List.append_inj_left' (e1.trans e2.symm) rfl
        rw [this] at h1
        exact h1 hb
  exact go ns [[]] hn (by simp)
/-- what a setting says of each name -/
theorem side_name {n l : Str} (hn : isNm n = true) (h : Side n l) : nameOf l = n := by
  rcases h with e | e
  · rw [e, nameOf_nm hn]
  · rw [e, nameOf_neg hn]
theorem paired_side {ns s : List Str} (hn : ∀ n ∈ ns, isNm n = true) (h : Paired Side ns s) : s.map nameOf = ns := by
  induction h with
  | nil => rfl
  | cons r t ih =>
    rw [List.map_cons, side_name (hn _ (List.mem_cons_self ..)) r, ih fun m hm => hn m (List.mem_cons_of_mem _ hm)]
theorem side_lits {ns s : List Str} (nm : NmL ns) (h : Paired Side ns s) : Lits ns s := by
  refine ⟨by rw [paired_side nm.nm h]; exact nm.nd, ?_⟩
  have : ∀ {ms s : List Str}, Paired Side ms s → ∀ y ∈ s, ∃ n ∈ ms, y = n ∨ y = ("-" : Str) ++ n := by
    intro ms s h
    induction h with
    | nil => intro y hy; cases hy
    | cons r t ih =>
      intro y hy
      rcases List.mem_cons.mp hy with rfl | hy
      · exact ⟨_, List.mem_cons_self .., r⟩
      · obtain ⟨n, h1, h2⟩ := ih y hy
        exact ⟨n, List.mem_cons_of_mem _ h1, h2⟩
  exact this h
/-- one side of each name -/
theorem paired_mem {ns s : List Str} (h : Paired Side ns s) {n : Str} (hn : n ∈ ns) : n ∈ s ∨ ("-" : Str) ++ n ∈ s := by
  induction h with
  | nil => cases hn
  | cons r t ih =>
    rcases List.mem_cons.mp hn with e | hn
    · subst e
      rcases r with e | e
      · exact .inl (by rw [e]; exact List.mem_cons_self ..)
      · exact .inr (by rw [e]; exact List.mem_cons_self ..)
    · rcases ih hn with h | h
      · exact .inl (List.mem_cons_of_mem _ h)
      · exact .inr (List.mem_cons_of_mem _ h)
theorem lits_one {ns s : List Str} (nm : NmL ns) (h : Lits ns s) {n : Str} (hn : n ∈ ns) : ¬ (n ∈ s ∧ ("-" : Str) ++ n ∈ s) := fun ⟨a, b⟩ => by
  have hm := nm.nm n hn
  exact neg_ne hm (nodup_inj h.nd _ a _ b (by rw [nameOf_nm hm, nameOf_neg hm]))
theorem full_opp {ns s : List Str} (nm : NmL ns) (h : Paired Side ns s) {x : Str} (hx : ∃ n ∈ ns, x = n ∨ x = ("-" : Str) ++ n) : opp x ∈ s ↔ x ∉ s := by
  obtain ⟨n, hn, e⟩ := hx
  have hm := nm.nm n hn
  have one := lits_one nm (side_lits nm h) hn
  have two := paired_mem h hn
  rcases e with e | e
  · rw [e, opp_nm hm]
    exact ⟨fun a b => one ⟨b, a⟩, fun a => two.resolve_left a⟩
  · rw [e, opp_neg hm]
    exact ⟨fun a b => one ⟨a, b⟩, fun a => two.resolve_right a⟩
/-- literals in their order stay -/
theorem asc_paired {ns s : List Str} (nm : NmL ns) (h : Paired Side ns s) : asc s ns = s := by
  have L := side_lits nm h
  have go : ∀ {ms t : List Str}, Paired Side ms t → (∀ m ∈ ms, m ∈ ns) → (∀ x ∈ t, x ∈ s) → asc s ms = t := by
    intro ms t h
    induction h with
    | nil => intro _ _; rfl
    | @cons m l ms t r _ ih =>
      intro hm ht
      have ih := ih (fun z hz => hm z (List.mem_cons_of_mem _ hz)) fun z hz => ht z (List.mem_cons_of_mem _ hz)
      have hl := ht l (List.mem_cons_self ..)
      have one := lits_one nm L (hm m (List.mem_cons_self ..))
      show ((m :: ms).flatMap fun n => [n, ("-" : Str) ++ n].filter fun l => decide (l ∈ s)) = _
      rw [List.flatMap_cons]
      have e : ([m, ("-" : Str) ++ m].filter fun l => decide (l ∈ s)) = [l] := by
        rcases r with e | e
        · subst e
          have : ¬ ("-" : Str) ++ l ∈ s := fun b => one ⟨hl, b⟩
          simp [hl, this]
        · subst e
          have : ¬ m ∈ s := fun b => one ⟨b, hl⟩
          simp [hl, this]
      rw [e]
      exact congrArg (l :: ·) ih
  exact go h (fun _ h => h) fun _ h => h
theorem sub_filter {α : Type} [DecidableEq α] : ∀ {xs ys : List α}, ys.Sublist xs → xs.Nodup → (xs.filter fun x => decide (x ∈ ys)) = ys
  | _, _, .slnil, _ => rfl
  | _, ys, .cons a (l₂ := xs) h, nd => by
    obtain ⟨h1, h2⟩ := List.nodup_cons.mp nd
    have : a ∉ ys := fun z => h1 (h.subset z)
    rw [List.filter_cons, if_neg (by simpa using this)]
    exact sub_filter h h2
  | _, _, .cons₂ a (l₁ := ys) (l₂ := xs) h, nd => by
    obtain ⟨h1, h2⟩ := List.nodup_cons.mp nd
    rw [List.filter_cons, if_pos (by simp)]
    congr 1
    rw [← sub_filter h h2]
    refine List.filter_congr fun x hx => ?_
    have : x ≠ a := fun e => h1 (e ▸ hx)
    have e2 := sub_filter h h2
    simp [this, e2]
/-! half-filled settings -/
structure HalfOk (ns : List Str) (p : List Str × Nat) : Prop where
  le : p.2 ≤ ns.length
  nm : ∀ x ∈ p.1, ∃ a, a < p.2 ∧ Side (ns.getD a "") x
  nd : (p.1.map nameOf).Nodup
theorem half_next {ns : List Str} (nm : NmL ns) {lv : List (List Str × Nat)} (h : ∀ p ∈ lv, HalfOk ns p) : ∀ p ∈ nextH ns lv, HalfOk ns p := fun q hq => by
  obtain ⟨p, hp, hq⟩ := List.mem_flatMap.mp hq
  obtain ⟨a, l, h1, h2, h3, rfl⟩ := mem_stepH hq
  have hok := h p hp
  have han := nm.nm _ (List.mem_of_getElem? (getD_at h2))
  refine ⟨h2, fun x hx => ?_, ?_⟩
  · rcases List.mem_append.mp hx with hx | hx
    · obtain ⟨b, hb, hs⟩ := hok.nm x hx
      exact ⟨b, by show b < a + 1; omega, hs⟩
    · rw [List.mem_singleton.mp hx]
      exact ⟨a, Nat.lt_succ_self a, h3⟩
  · show ((p.1 ++ [l]).map nameOf).Nodup
    rw [List.map_append, List.nodup_append]
    refine ⟨hok.nd, by simp, fun x hx y hy e => ?_⟩
    have hy' : y = nameOf l := by simpa using hy
    rw [hy', side_name han h3] at e
    obtain ⟨z, hz, rfl⟩ := List.mem_map.mp hx
    obtain ⟨b, hb, hs⟩ := hok.nm z hz
    have hbn : b < ns.length := by omega
    rw [side_name (nm.nm _ (List.mem_of_getElem? (getD_at hbn))) hs] at e
    have i1 := List.getElem?_eq_some_iff.mp (getD_at hbn)
    have i2 := List.getElem?_eq_some_iff.mp (getD_at h2)
    have := (List.getElem_inj nm.nd).mp (i1.2.trans (e.trans i2.2.symm))
    omega
theorem HalfOk.lits {ns : List Str} {p : List Str × Nat} (nm : NmL ns) (h : HalfOk ns p) : Lits ns p.1 :=
  ⟨h.nd, fun x hx => let ⟨a, ha, hs⟩ := h.nm x hx; ⟨_, List.mem_of_getElem? (getD_at (show a < ns.length by have := h.le; omega)), hs⟩⟩
theorem halves_lits {ns : List Str} (nm : NmL ns) : ∀ c ∈ halves ns, Lits ns c := by
  have go : ∀ (m : Nat) (lv : List (List Str × Nat)) (found : List (List Str)), (∀ p ∈ lv, HalfOk ns p) → (∀ c ∈ found, Lits ns c) → ∀ c ∈ halfGo ns m lv found, Lits ns c := by
    intro m
    induction m with
    | zero => intro lv found _ hf; exact hf
    | succ m ih =>
      intro lv found hl hf
      have hn := half_next nm hl
      refine ih _ _ hn fun c hc => ?_
      rcases List.mem_append.mp hc with hc | hc
      · exact hf c hc
      · obtain ⟨p, hp, rfl⟩ := List.mem_map.mp hc
        exact (hn p hp).lits nm
  refine go _ _ _ (fun p hp => ?_) fun c hc => ?_
  · rw [List.mem_singleton.mp hp]
    exact ⟨Nat.zero_le _, fun x hx => (List.not_mem_nil hx).elim, List.nodup_nil⟩
  · rw [List.mem_singleton.mp hc]
    exact ⟨List.nodup_nil, fun x hx => (List.not_mem_nil hx).elim⟩
/-! shortest consequences -/
/-! what is forced -/
structure Set_ (ns : List Str) (ss : List (List Str)) (h : List Str) : Prop where
  nm : NmL ns
  s : ∀ s ∈ ss, Paired Side ns s
  h : Lits ns h
end My

set_option Elab.async false
set_option linter.all false
set_option maxRecDepth 100000
set_option maxHeartbeats 8000000
namespace My
open PySem PySem.Spec PyProof.Rows L2 L3
open L3.Strm
/-! sizes -/
def wH (n : Nat) (lv : List (List Str × Nat)) : Nat := (lv.map fun p => 3 ^ (n - p.2)).sum
theorem wH_app (n : Nat) (a b : List (List Str × Nat)) : wH n (a ++ b) = wH n a + wH n b := by unfold wH; rw [List.map_append, List.sum_append]
theorem wH_ge (n : Nat) : ∀ lv : List (List Str × Nat), lv.length ≤ wH n lv
  | [] => Nat.le_refl _
  | p :: r => by
    have h1 : 1 ≤ 3 ^ (n - p.2) := Nat.one_le_pow _ _ (by decide)
    have h2 := wH_ge n r
    unfold wH at h2 ⊢
    rw [List.length_cons, List.map_cons, List.sum_cons]
    omega
theorem wH_step (ns : List Str) (p : List Str × Nat) : wH ns.length (stepH ns p) + 1 = 3 ^ (ns.length - p.2) := by
  have go : ∀ (k s : Nat), s + k = ns.length → wH ns.length ((List.range' s k).flatMap fun a => [ns.getD a "", ("-" : Str) ++ ns.getD a ""].map fun l => (p.1 ++ [l], a + 1)) + 1 = 3 ^ k := by
    intro k
    induction k with
    | zero => intro s _; rfl
    | succ k ih =>
      intro s e
      rw [List.range'_succ, List.flatMap_cons, wH_app]
      have h1 := ih (s + 1) (by omega)
      have h2 : wH ns.length ([ns.getD s "", ("-" : Str) ++ ns.getD s ""].map fun l => (p.1 ++ [l], s + 1)) = 3 ^ k + 3 ^ k := by
        show 3 ^ (ns.length - (s + 1)) + (3 ^ (ns.length - (s + 1)) + 0) = _
        rw [show ns.length - (s + 1) = k by omega]
        omega
      rw [h2, Nat.pow_succ]
      omega
  by_cases h : p.2 ≤ ns.length
  · exact go (ns.length - p.2) p.2 (by omega)
  · have e : ns.length - p.2 = 0 := by omega
    unfold stepH
    rw [e]
    rfl
theorem wH_next (ns : List Str) : ∀ lv : List (List Str × Nat), wH ns.length (nextH ns lv) + lv.length = wH ns.length lv
  | [] => rfl
  | p :: r => by
    have h1 := wH_step ns p
    have h2 := wH_next ns r
    have e : nextH ns (p :: r) = stepH ns p ++ nextH ns r := rfl
    rw [e, wH_app, List.length_cons]
    have e2 : wH ns.length (p :: r) = 3 ^ (ns.length - p.2) + wH ns.length r := by unfold wH; rw [List.map_cons, List.sum_cons]
    omega
theorem halves_few (ns : List Str) : (halves ns).length ≤ 3 ^ ns.length := by
  have go : ∀ (m : Nat) (lv : List (List Str × Nat)) (found : List (List Str)), found.length + wH ns.length lv = 3 ^ ns.length + lv.length → (halfGo ns m lv found).length ≤ 3 ^ ns.length := by
    intro m
    induction m with
    | zero =>
      intro lv found h
      have := wH_ge ns.length lv
      show found.length ≤ _
      omega
    | succ m ih =>
      intro lv found h
      refine ih _ _ ?_
      have := wH_next ns lv
      rw [List.length_append, List.length_map]
      omega
  refine go _ _ _ ?_
  show 1 + (3 ^ (ns.length - 0) + 0) = _
  rw [Nat.sub_zero]
  show 1 + (3 ^ ns.length + 0) = 3 ^ ns.length + 1
  omega
theorem lit_signs {ns : List Str} (hn : NmL ns) {l : Str} (h : LitN ns l) : l.length ≤ 9 ∧ ∀ c ∈ l.cps.toList, c < 16 ^ 8 := by
  have nm : ∀ n : Str, isNm n = true → n.length ≤ 8 ∧ ∀ c ∈ n.cps.toList, c < 16 ^ 8 := fun n h => by
    refine ⟨nm_len h, fun c hc => ?_⟩
    simp only [isNm, Bool.and_eq_true, decide_eq_true_eq, List.all_eq_true] at h
    have h1 := h.2 c hc
    have : ∀ c ∈ g_LETTERS.cps.toList, c < 16 ^ 8 := by decide +kernel
    exact this c h1
  obtain ⟨n, hnn, h | h⟩ := h
  · subst h
    have := nm l (hn.nm l hnn)
    exact ⟨by omega, this.2⟩
  · subst h
    have := nm n (hn.nm n hnn)
    rw [← SX.S_tl n, neg_S]
    refine ⟨by rw [SX.S_len, List.length_cons]; have : n.cps.toList.length = n.length := rfl; omega, fun c hc => ?_⟩
    have hc : c ∈ 45 :: n.cps.toList := hc
    rcases List.mem_cons.mp hc with rfl | hc
    · decide
    · exact this.2 c hc
def FitD (d : PyData) : Prop := d.showable = true ∧ d.depth ≤ 64 ∧ d.shown.length ≤ sizeLine
theorem strs_small {ns : List Str} (hn : NmL ns) : ∀ ls : List Str, (∀ l ∈ ls, LitN ns l) → PyData.leavesShortAll 13 (ls.map .str) = true ∧ PyData.showableAll (ls.map .str) = true ∧ PyData.weightAll (ls.map .str) ≤ 10 * ls.length
  | [], _ => by simp [PyData.leavesShortAll, PyData.showableAll, PyData.weightAll]
  | l :: ls, h => by
    obtain ⟨h1, h2, h3⟩ := strs_small hn ls fun x hx => h x (List.mem_cons_of_mem _ hx)
    obtain ⟨h4, h5⟩ := lit_signs hn (h l (List.mem_cons_self ..))
    have h4' : l.cps.size ≤ 9 := h4
    rw [List.map_cons]
    refine ⟨?_, ?_, ?_⟩
    · simp only [PyData.leavesShortAll, PyData.leavesShort, h1, Bool.and_true, List.all_eq_true, decide_eq_true_eq]
      exact fun c hc => h5 c hc
    · simp only [PyData.showableAll, PyData.showable, h2, Bool.and_true]
    · simp only [PyData.weightAll, PyData.weight, List.length_cons]
      omega
theorem tups_small {ns : List Str} (hn : NmL ns) : ∀ cs : List (List Str), (∀ c ∈ cs, c.length ≤ 6 ∧ ∀ l ∈ c, LitN ns l) → PyData.leavesShortAll 13 (cs.map fun c => .tuple (c.map .str)) = true ∧ PyData.showableAll (cs.map fun c => .tuple (c.map .str)) = true ∧ PyData.weightAll (cs.map fun c => .tuple (c.map .str)) ≤ 61 * cs.length
  | [], _ => by simp [PyData.leavesShortAll, PyData.showableAll, PyData.weightAll]
  | c :: cs, h => by
    obtain ⟨h1, h2, h3⟩ := tups_small hn cs fun x hx => h x (List.mem_cons_of_mem _ hx)
    have hc := h c (List.mem_cons_self ..)
    obtain ⟨k1, k2, k3⟩ := strs_small hn c hc.2
    rw [List.map_cons]
    refine ⟨?_, ?_, ?_⟩
    · rw [PyData.leavesShortAll, PyData.leavesShort, k1, h1]; rfl
    · rw [PyData.showableAll, PyData.showable, k2, h2]; rfl
    · rw [PyData.weightAll, PyData.weight, List.length_cons]
      omega
theorem fit_lits {ns ls : List Str} (hn : NmL ns) (h : ∀ l ∈ ls, LitN ns l) (hl : ls.length ≤ 1000) : FitD (.list (ls.map .str)) := by
  obtain ⟨h1, h2, h3⟩ := strs_small hn ls h
  refine ⟨by rw [PyData.showable]; exact h2, by rw [PyData.depth, depthS]; decide, PyData.shown_fits (B := 13) (by decide) (by decide) (by rw [PyData.leavesShort]; exact h1) (by rw [PyData.weight]; omega)⟩
theorem fit_tups {ns : List Str} {cs : List (List Str)} (hn : NmL ns) (h : ∀ c ∈ cs, c.length ≤ 6 ∧ ∀ l ∈ c, LitN ns l) (hl : cs.length ≤ 1000) : FitD (.list (cs.map fun c => .tuple (c.map .str))) := by
  obtain ⟨h1, h2, h3⟩ := tups_small hn cs h
  have h4 := depthT cs
  refine ⟨by rw [PyData.showable]; exact h2, by rw [PyData.depth]; omega, PyData.shown_fits (B := 13) (by decide) (by decide) (by rw [PyData.leavesShort]; exact h1) (by rw [PyData.weight]; omega)⟩
theorem gv_repr {K : PySem.W.Frag} {σ : Sl} {M : Hp} {te : TE} {d : PyData} (h : Gv te σ M (Dd K d)) (h1 : d.showable = true) (h2 : d.depth ≤ 64) (h3 : d.shown.length ≤ sizeLine) : Gv (tCB (rRepr K) (tCons te tNil)) σ M (Tx d.shown) := gv_cb1 h fun M' v hv H mh Q q => ⟨v, d, rfl, dp_mono mh hv, h1, h2, h3, q _ M' H (.refl mh) rfl⟩
section
variable {P : Program} {w : World} {K : PySem.W.Frag} {mg : Str → Option Value} {base : Heap}
abbrev s__law_same : Stmt := topS 36
theorem sc__law_same : FnScope ["_law_found", "_law_due"] ["_law_found", "_law_due"] (defScope s__law_same) := ⟨rfl, rfl, rfl, by decide +kernel, rfl, by decide +kernel, by decide +kernel⟩
def sp__law_same (K : PySem.W.Frag) : Sp := sp2 (Dd K) (Dd K) (fun d e => FitD d ∧ FitD e) fun d e => Bl (decide (d.shown = e.shown))
theorem ok__law_same {f : Addr} {fd : FuncData} (F : Fun K "_law_same" "_law_same" s__law_same f fd) (T : Gc mg) : FnG P w K mg base CX0 1 f fd ["_law_found", "_law_due"] (sp__law_same K) := by
  refine fun_okG F sc__law_same (fun vs H Q E h => ?_) (fun cdv A outer s H vs Q E hgu hr h => ?_)
  · obtain ⟨x, y, M, v, w, rfl, _⟩ := h
    rfl
  · obtain ⟨d, e, M, v, w, rfl, mh, r1, r2, ⟨⟨h1, h2, h3⟩, h4, h5, h6⟩, q⟩ := h
    have hu := hr.units
    have hgu : (A.deeper (envOfC "_law_same" (defScope s__law_same) s.heap.objs.size f cdv)).guards = some [] := hgu
    have hu7 : (A.deeper (envOfC "_law_same" (defScope s__law_same) s.heap.objs.size f cdv)).units + 70 < cLine := by have := hr.un; omega
    refine ⟨_, (pss_one (ps_ret (pe_cmpR (op_eqP hu) (pe_callB (call_repr hgu hu7) (by rfl) T.repr boot_repr (pa_cons (pv 0) pa_nil)) (pe_callB (call_repr hgu hu7) (by rfl) T.repr boot_repr (pa_cons (pv 1) pa_nil)) (nomark _)))), ?_⟩
    exact s_ret mh (gv_is (gv_eqT (K := K) (neg := false) py_str inj_str (gv_repr (K := K) (gv_var rfl r1) h1 h2 h3) (gv_repr (K := K) (gv_var rfl r2) h4 h5 h6) (by simp [PyData.depth])) fun M v h => by simpa using h) q
end
end My

set_option Elab.async false
set_option linter.all false
set_option maxRecDepth 100000
set_option maxHeartbeats 4000000
namespace My
open PySem PySem.Spec PyProof.Rows L2 L3
/-! full settings that fit all clauses -/
def Fits (cs : List (List Str)) (s : List Str) : Prop := ∀ c ∈ cs, ∃ l ∈ c, l ∈ s
def Sat (ns : List Str) (cs : List (List Str)) (hs : List Str) : Prop := ∃ s, Paired Side ns s ∧ (∀ x ∈ hs, x ∈ s) ∧ Fits cs s
/-- the names that are open -/
def opn (ns hs : List Str) : List Str := ns.filter fun n => decide (n ∉ hs) && decide (("-" : Str) ++ n ∉ hs)
theorem mem_opn {ns hs : List Str} {n : Str} : n ∈ opn ns hs ↔ n ∈ ns ∧ n ∉ hs ∧ ("-" : Str) ++ n ∉ hs := by unfold opn; rw [List.mem_filter]; simp
section
variable {ns : List Str} {cs : List (List Str)} {hs so s : List Str}
theorem fit_der (X : Ctx ns cs hs) (p : Paired Side ns s) (hsub : ∀ x ∈ hs, x ∈ s) (hf : Fits cs s) {x : Str} (h : Der cs hs x) : x ∈ s := by
  induction h with
  | base h => exact hsub _ h
  | @step c l hc hl _ ih =>
    obtain ⟨m, hm, hms⟩ := hf c hc
    by_cases e : m = l
    · rw [← e]; exact hms
    · exact absurd hms ((full_opp X.nm p ((X.c c hc).of m hm)).mp (ih m hm e))
theorem so_lits (nm : NmL ns) (h : So ns cs hs so) : Lits ns so := by
  refine ⟨?_, fun x hx => h.lit x hx⟩
  rw [List.Nodup, List.pairwise_map]
  refine List.Pairwise.imp_of_mem (fun {a b} ha hb hab e => ?_) h.nd
  obtain ⟨n, hn, e1⟩ := h.lit a ha
  obtain ⟨m, hm, e2⟩ := h.lit b hb
  have k1 := nm.nm n hn
  have k2 := nm.nm m hm
  rw [side_name k1 e1, side_name k2 e2] at e
  subst e
  rcases e1 with e1 | e1 <;> rcases e2 with e2 | e2
  · exact hab (e1.trans e2.symm)
  · refine h.con a ha ?_
    rw [e1, opp_nm k1, ← e2]; exact hb
  · refine h.con a ha ?_
    rw [e1, opp_neg k1, ← e2]; exact hb
  · exact hab (e1.trans e2.symm)
theorem lits_put {n l : Str} (nm : NmL ns) (L : Lits ns so) (hn : n ∈ opn ns so) (e : Side n l) : Lits ns (so ++ [l]) := by
  obtain ⟨h1, h2, h3⟩ := mem_opn.mp hn
  have hm := nm.nm n h1
  refine ⟨?_, fun x hx => ?_⟩
  · rw [List.map_append, List.nodup_append]
    refine ⟨L.nd, by simp, fun a ha b hb e' => ?_⟩
    have hb : b = nameOf l := by simpa using hb
    rw [hb, side_name hm e] at e'
    obtain ⟨x, hx, rfl⟩ := List.mem_map.mp ha
    obtain ⟨m, hmm, em⟩ := L.of x hx
    rw [side_name (nm.nm m hmm) em] at e'
    subst e'
    rcases em with em | em
    · exact h2 (em ▸ hx)
    · exact h3 (em ▸ hx)
  · rcases List.mem_append.mp hx with hx | hx
    · exact L.of x hx
    · rw [List.mem_singleton.mp hx]; exact ⟨n, h1, e⟩
theorem so_few (X : Ctx ns cs hs) (h : So ns cs hs so) : so.length ≤ ns.length := lits_len (so_lits X.nm h) X.nm
end
end My

set_option Elab.async false
set_option linter.all false
set_option maxRecDepth 100000
set_option maxHeartbeats 8000000
namespace My
open PySem PySem.Spec PyProof.Rows L2 L3
structure CodeX (c : CodeD) : Prop where
  nm : NmL c.names
  l : ∀ x ∈ c.clauses, Lits c.names x
  w : CodeW c
  n6 : c.names.length ≤ 6
theorem CodeX.sg {c : CodeD} (X : CodeX c) : NmL c.signs ∧ c.signs.length ≤ 6 := by
  have e : c.names.length = c.signs.length + c.helpers.length := List.length_append
  have := X.n6
  have nd := X.nm.nd
  refine ⟨⟨(List.nodup_append.mp nd).1, fun n hn => X.nm.nm n (List.mem_append_left _ hn), ?_⟩, by omega⟩
  have := X.nm.n
  omega
/-- codes that are asked in a level -/
structure CodeZ (c : CodeD) : Prop where
  nm : NmL c.names
  l : ∀ x ∈ c.clauses, Lits c.names x
  w : CodeW c
  s6 : c.signs.length ≤ 6
  n14 : c.names.length ≤ 14
theorem CodeX.z {c : CodeD} (X : CodeX c) : CodeZ c := ⟨X.nm, X.l, X.w, X.sg.2, Nat.le_trans X.n6 (by decide)⟩
theorem CodeZ.sg {c : CodeD} (X : CodeZ c) : NmL c.signs ∧ c.signs.length ≤ 6 := by
  have nd := X.nm.nd
  refine ⟨⟨(List.nodup_append.mp nd).1, fun n hn => X.nm.nm n (List.mem_append_left _ hn), ?_⟩, X.s6⟩
  have := X.s6
  omega
theorem CodeZ.x {c : CodeD} (X : CodeZ c) (h : c.names.length ≤ 6) : CodeX c := ⟨X.nm, X.l, X.w, h⟩
def ChW (cs : List (List Str)) : Prop := (∀ c ∈ cs, shortT c) ∧ cs.flatten.length ≤ 1000000 ∧ cs.length ≤ 1000000
theorem gv_starK {σ : Sl} {M : Hp} {te t1 : TE} {ks : List Str} {l : Str} (h1 : Gv te σ M (DcR ks)) (h2 : Gv t1 σ M (Tx l)) (hz : ks.length ≤ 1000000) : Gv (tLst (tStarK te (tCons t1 tNil))) σ M (LiR Tx (ks ++ [l])) := fun H mh Q q =>
  h1 H mh _ fun v M1 H1 g1 ⟨d, e, r⟩ => ⟨d, ks, e, rd_mono g1.mh r, h2.le g1.mm H1 g1.mh _ fun u M2 H2 g2 e2 => ⟨by rw [List.length_append, List.length_map]; exact szM (by simp only [List.length_cons, List.length_nil]; omega), fun p np => q _ _ _ ((g1.trans g2).trans (.new g2.mh np)) ⟨p, _, rfl, upd_same, by
    cases (show u = _ from e2)
    have := pd_of_tx (M := upd M2 p (.lst (ks.map V.str ++ [.str l]))) (ks ++ [l])
    rw [List.map_append] at this
    exact this⟩⟩⟩
theorem opD_non {o : Option (List Str)} {M : Hp} {v : V} (h : OpR' DcF o M v) : decide (v = .non) = o.isNone := by
  cases o with
  | none => cases (show v = .non from h); rfl
  | some ls => obtain ⟨a, _, e, _⟩ := (show DcF ls M v from h); subst e; rfl
/-- so, steps = chase(clauses, setting) -/
theorem q_chase {K : PySem.W.Frag} {σ : Sl} {M H : Hp} {ta tb : TE} {D : Ends} {tz : TS} {i j : Nat} {ns hs : List Str} {cs : List (List Str)} (mh : Same M H) (h1 : Gv ta σ M (SqR K (SqR K Tx) cs)) (h2 : Gv tb σ M (SqR K Tx hs)) (X : Ctx ns cs hs) (hw : ChW cs)
    (k : ∀ o u v M' H', Gr M H M' H' → EndsOk ns cs hs o → OpR' DcF o M' u → tz D ((σ.set i (some u)).set j (some v)) H') : tSeq (tAsg (tCall (sp_chase K) [] E0 (tCons ta (tCons tb tNil))) (gTup K 2 (gCons (gName i) (gCons (gName j) gNil)))) tz D σ H := by
  have hl : hs.length ≤ 1000000 := Nat.le_trans (lits_len X.h X.nm) (Nat.le_trans X.nm.n (by decide))
  refine q_asgC (a_V mh h1 fun v1 M1 H1 g1 r1 => a_V g1.mh (h2.le g1.mm) fun v2 M2 H2 g2 r2 => a_nil ⟨cs, hs, M2, v1, v2, rfl, g2.mh, Mon.mono g2.mm r1, r2, ⟨hw.1, hw.2.1, hw.2.2, hl⟩, ?_⟩)
  intro r t u p ws M4 H4 hch g4 hp0 hpm hpw hpd hru ht
  have G := (g1.trans g2).trans g4
  rw [once_self (lits_nodup X.h)] at hch
  exact ⟨t, [u, .ref p], rfl, .inl (.inl (G.mh _ _ ht)), rfl, u, _, rfl, .ref p, _, rfl, rfl, k r.1 u _ M4 H4 G (chase_ok X hch (.init X) .nil).1 hru⟩
section
variable {P : Program} {w : World} {K : PySem.W.Frag} {mg : Str → Option Value} {base : Heap}
def FilR (ns : List Str) (cs : List (List Str)) (hs : List Str) : Pr := fun M v => ∃ o, OpR' TT o M v ∧ (o.isSome = true ↔ Sat ns cs hs)
end
end My

set_option Elab.async false
set_option linter.all false
set_option maxRecDepth 100000
set_option maxHeartbeats 8000000
namespace My
open PySem PySem.Spec PyProof.Rows L2 L3
open L3.Strm
section
variable {K : PySem.W.Frag} {S : Strm} {c c' : Nat} {σ : Sl} {M : Hp} {t1 t2 to te : TE} {P : Pr} {C : Addr} {α β : Type} {R1 : Rl α} {R2 : Rl β} {m : Str}
theorem _root_.L3.GvS.up (h : GvS S c te σ M P) (e : c ≤ c') : GvS S c' te σ M P := fun H k mh a Q q => h H k mh (a.le (by omega)) Q q
end
/-- what the law has drawn -/
structure RuleX (ns : List Str) (ss : List (List Str)) : Prop where
  nm : NmL ns
  n6 : ns.length ≤ 6
  sub : ss.Sublist (fulls ns)
theorem RuleX.side {ns : List Str} {ss : List (List Str)} (X : RuleX ns ss) : ∀ s ∈ ss, Paired Side ns s := fun s hs => fulls_paired (X.sub.subset hs)
theorem RuleX.len {ns : List Str} {ss : List (List Str)} (X : RuleX ns ss) : ss.length ≤ 64 := by
  refine Nat.le_trans X.sub.length_le ?_
  rw [fulls_len]
  exact Nat.le_trans (Nat.pow_le_pow_right (by decide) X.n6) (by decide)
theorem RuleX.each {ns : List Str} {ss : List (List Str)} (X : RuleX ns ss) : ∀ s ∈ ss, s.length = ns.length := fun s hs => fulls_each _ s (X.sub.subset hs)
theorem RuleX.made {ns : List Str} {ss : List (List Str)} (X : RuleX ns ss) : mkRule ns ss = ⟨ns, ss⟩ := by
  have e : (ss.map fun s => asc s ns) = ss := by
    conv => rhs; rw [← List.map_id ss]
    exact List.map_congr_left fun s hs => asc_paired X.nm (X.side s hs)
  unfold mkRule
  rw [e, once_self ((fulls_nodup X.nm.nm).sublist X.sub)]
theorem RuleX.set {ns : List Str} {ss : List (List Str)} (X : RuleX ns ss) : (mkRule ns ss).settings = ss := by
  rw [X.made]
  refine Eq.trans (List.filter_congr fun x _ => ?_) (sub_filter X.sub (fulls_nodup X.nm.nm))
  simp
theorem RuleX.ok {ns : List Str} {ss : List (List Str)} (X : RuleX ns ss) : RuleOk ns ss :=
  ⟨⟨X.nm.nd, fun x hx => ⟨X.nm.nm x hx, by simp⟩, Nat.le_trans X.n6 (by decide)⟩, X.n6, Nat.le_trans X.len (by decide), fun s hs => ⟨clOk_lits X.nm (side_lits X.nm (X.side s hs)), X.each s hs⟩⟩
theorem RuleX.w {ns : List Str} {ss : List (List Str)} (X : RuleX ns ss) : RuleW (mkRule ns ss) := ⟨X.n6, nm_shorts X.nm⟩
theorem RuleX.due {ns : List Str} {ss : List (List Str)} (X : RuleX ns ss) : (shortestL ns ss).length ≤ 729 ∧ ∀ c ∈ shortestL ns ss, c.length ≤ 6 ∧ ∀ l ∈ c, LitN ns l := by
  refine ⟨Nat.le_trans (short_len _ _) (Nat.le_trans (halves_few ns) (Nat.le_trans (Nat.pow_le_pow_right (by decide) X.n6) (by decide))), fun c hc => ?_⟩
  have := short_sub _ _ c hc
  exact ⟨halves_each X.n6 c this, (halves_lits X.nm c this).of⟩
theorem RuleX.fit {ns : List Str} {ss : List (List Str)} (X : RuleX ns ss) : FitD (.list ((shortestL ns ss).map fun c => .tuple (c.map .str))) := fit_tups X.nm X.due.2 (Nat.le_trans X.due.1 (by decide))
end My

set_option Elab.async false
set_option linter.all false
set_option maxRecDepth 100000
set_option maxHeartbeats 8000000
namespace My
open PySem PySem.Spec PyProof.Rows L2 L3
def IsLv (l : Str) : Prop := l = "dead" ∨ l = "forced" ∨ l = "all"
def lvNames (c : CodeD) (l : Str) : List Str := if l = ("all" : Str) then c.names else c.signs
theorem CodeX.lv {c : CodeD} (X : CodeX c) (l : Str) : NmL (lvNames c l) ∧ (lvNames c l).length ≤ 6 ∧ ∀ n ∈ lvNames c l, n ∈ c.names := by
  unfold lvNames
  split
  · exact ⟨X.nm, X.n6, fun _ h => h⟩
  · exact ⟨X.sg.1, X.sg.2, fun n h => List.mem_append_left _ h⟩
structure LvX (c : CodeD) (l : Str) : Prop where
  z : CodeZ c
  is : IsLv l
  all : l = ("all" : Str) → c.names.length ≤ 6
theorem LvX.lv {c : CodeD} {l : Str} (X : LvX c l) : NmL (lvNames c l) ∧ (lvNames c l).length ≤ 6 ∧ ∀ n ∈ lvNames c l, n ∈ c.names := by
  unfold lvNames
  split
  · rename_i h
    exact ⟨X.z.nm, X.all h, fun _ h => h⟩
  · exact ⟨X.z.sg.1, X.z.sg.2, fun n h => List.mem_append_left _ h⟩
theorem Lits.wide {ns ms s : List Str} (L : Lits ns s) (h : ∀ n ∈ ns, n ∈ ms) : Lits ms s := ⟨L.nd, fun x hx => let ⟨n, hn, e⟩ := L.of x hx; ⟨n, h n hn, e⟩⟩
theorem CodeX.full {c : CodeD} (X : CodeX c) {l : Str} {s : List Str} (h : s ∈ fulls (lvNames c l)) : Lits c.names s := (side_lits (X.lv l).1 (fulls_paired h)).wide (X.lv l).2.2
instance {ns : List Str} {cs : List (List Str)} {hs : List Str} : Mono (FilR ns cs hs) := ⟨fun e ⟨o, r, h⟩ => ⟨o, Mon.mono e r, h⟩⟩
section
end
end My

set_option Elab.async false
set_option linter.all false
set_option maxRecDepth 100000
set_option maxHeartbeats 8000000
namespace My
open PySem PySem.Spec PyProof.Rows L2 L3
noncomputable def derB (cs : List (List Str)) (hs : List Str) (x : Str) : Bool := @decide (Der cs hs x) (Classical.propDecidable _)
noncomputable def deadB (cs : List (List Str)) (hs : List Str) : Bool := @decide (Dead cs hs) (Classical.propDecidable _)
theorem derB_iff {cs : List (List Str)} {hs : List Str} {x : Str} : derB cs hs x = true ↔ Der cs hs x := by unfold derB; simp
theorem deadB_iff {cs : List (List Str)} {hs : List Str} : deadB cs hs = true ↔ Dead cs hs := by unfold deadB; simp
theorem deadB_no {cs : List (List Str)} {hs : List Str} (h : ¬ Dead cs hs) : deadB cs hs = false := by unfold deadB; simp [h]
def BlR (K : PySem.W.Frag) : Rl (List Str × Option Str) := PrR K TT (OpR' Tx)
instance {K : PySem.W.Frag} : Mon (BlR K) := inferInstanceAs (Mon (PrR K TT (OpR' Tx)))
section
end
section
variable {P : Program} {w : World} {K : PySem.W.Frag} {mg : Str → Option Value} {base : Heap}
structure BlPre (c : CodeD) (ss : List (List Str)) (h : List Str) : Prop where
  X : CodeZ c
  L : Lits c.names h
  n : ss.length ≤ 1000000
  e : ∀ s ∈ ss, s.length ≤ 1000000
end
end My

set_option Elab.async false
set_option linter.all false
set_option maxRecDepth 100000
set_option maxHeartbeats 4000000
namespace My
open PySem PySem.Spec PyProof.Rows L2 L3
/-! what the law takes for allowed -/
def fitB (cs : List (List Str)) (s : List Str) : Bool := cs.all fun d => meets d s
theorem fitB_iff {cs : List (List Str)} {s : List Str} : fitB cs s = true ↔ Fits cs s := by unfold fitB Fits meets; simp
/-! the law's codes -/
structure LawX (c : CodeD) : Prop where
  nm : NmL c.names
  n6 : c.names.length ≤ 6
  l : ∀ x ∈ c.clauses, Lits c.names x
  k : c.clauses.length ≤ 1000
theorem LawX.len {c : CodeD} (X : LawX c) : ∀ x ∈ c.clauses, x.length ≤ 6 := fun x hx => Nat.le_trans (lits_len (X.l x hx) X.nm) X.n6
theorem LawX.x {c : CodeD} (X : LawX c) : CodeX c := by
  have h2 := flat_len X.len
  have h3 := X.k
  have h4 : c.clauses.length * 6 ≤ 1000 * 6 := Nat.mul_le_mul_right _ h3
  exact ⟨X.nm, X.l, ⟨fun x hx => ⟨Nat.le_trans (X.len x hx) (by decide), fun l hl => Nat.le_trans (lits_short (X.l x hx) X.nm l hl) (by decide)⟩, by omega, by omega, nm_shorts X.nm⟩, X.n6⟩
theorem LawX.ok {c : CodeD} (X : LawX c) : CodeOk c.signs c.helpers c.clauses := by
  have nd := X.nm.nd
  have hn := X.n6
  have hl : c.names.length = c.signs.length + c.helpers.length := List.length_append
  obtain ⟨n1, n2, n3⟩ := List.nodup_append.mp (show (c.signs ++ c.helpers).Nodup from nd)
  refine ⟨⟨n1, fun x hx => ⟨X.nm.nm x (List.mem_append_left _ hx), fun h => by cases h⟩, by omega⟩, ⟨n2, fun x hx => ⟨X.nm.nm x (List.mem_append_right _ hx), fun h => n3 x h x hx rfl⟩, by omega⟩, Nat.le_trans X.k (by decide), fun x hx => clOk_lits X.nm (X.l x hx), ?_⟩
  show c.names.length ≤ 1000
  omega
abbrev madeOf (c : CodeD) : CodeD := mkCode c.signs c.helpers c.clauses
theorem LawX.made {c : CodeD} (X : LawX c) : LawX (madeOf c) := by
  refine ⟨X.nm, X.n6, fun x hx => ?_, ?_⟩
  · obtain ⟨d, hd, rfl⟩ := List.mem_map.mp (mem_once.mp (show x ∈ once (c.clauses.map fun d => asc d c.names) from hx))
    exact (X.l d hd).asc X.nm
  · refine Nat.le_trans (once_len2 _) ?_
    rw [List.length_map]
    exact X.k
end My

set_option Elab.async false
set_option linter.all false
set_option maxRecDepth 100000
set_option maxHeartbeats 8000000
namespace My
open PySem PySem.Spec PyProof.Rows L2 L3
section
variable {P : Program} {w : World} {K : PySem.W.Frag} {mg : Str → Option Value} {base : Heap}
abbrev s__law_fits : Stmt := topS 44
theorem sc__law_fits : FnScope ["_law_clauses", "_law_some", "_law_clause_here"] ["_law_clauses", "_law_some"] (defScope s__law_fits) := ⟨rfl, rfl, rfl, by decide +kernel, rfl, by decide +kernel, by decide +kernel⟩
def sp__law_fits (K : PySem.W.Frag) : Sp := sp2 (SqR K (SqR K Tx)) (CtR K) (fun cs _ => cs.length ≤ 1000000 ∧ ∀ c ∈ cs, c.length ≤ 1000000) fun cs s => Bl (fitB cs s)
theorem ok__law_fits {f : Addr} {fd : FuncData} (F : Fun K "_law_fits" "_law_fits" s__law_fits f fd) (T : Gc mg) (c__law_meets : Cal P w K mg base 1 "_law_meets" ["_law_clause_here", "_law_some"] (sp__law_meets K)) : FnOk P w K mg base CX0 2 f fd ["_law_clauses", "_law_some"] (sp__law_fits K) := by
  refine F.ok sc__law_fits (fun vs H Q E h => ?_) (fun cdv A outer s H vs Q E hr h => ?_)
  · obtain ⟨x, y, M, v, w, rfl, _⟩ := h
    rfl
  · obtain ⟨cs, s, M, v, w, rfl, mh, r1, r2, ⟨h1, h2⟩, q⟩ := h
    have hu := hr.units
    refine ⟨_, (pss_one (ps_ret (pe_callB (cr_all rfl) (by rfl) T.all boot_all (pa_cons (pe_lc (own := [("_law_clause_here", 2)]) (g := (gName 2)) (tt := tYes) (te := (tCall (sp__law_meets K) [] E0 (tCons (tVar 2) (tCons (tVar 1) tNil)))) (by rfl) sc__law_fits.nd (pi_sq (pv 0)) (blkOk_by (by rfl)) (fun _ _ _ _ _ => (pg_name (i := 2) sc__law_fits.nd rfl (by first | exact .inl rfl | exact .inr rfl))) (fun _ _ _ _ _ => pts_nil) (fun _ _ _ _ _ => (pe_f c__law_meets (hr.mono (by decide)) (pa_cons (pv 2) (pa_cons (pv 1) pa_nil))))) pa_nil)))), ?_⟩
    refine s_ret mh (gv_is (gv_all (K := K) (gl_m1 (S := Bl) (R := SqR K Tx) (xs := cs) (gi_sq (K := K) (gv_var rfl r1)) (szK h1) (fun c => meets c s) fun c hc M1 u sm ru => gv_call2 (R1 := SqR K Tx) (R2 := CtR K) (pre := fun p _ => p.length ≤ 1000000) (R := fun p c => Bl (meets p c)) (x := c) (y := s) (gv_var rfl ru) (gv_var rfl (Mon.mono sm r2)) (h2 c hc))) fun M' v h => ?_) q
    rw [show v = _ from h, List.all_map]
    rfl
structure AlPre (sg : List Str) (cs : List (List Str)) (hp : List Str) : Prop where
  s6 : sg.length ≤ 6
  ss : Shorts sg
  h6 : hp.length ≤ 6
  hs : Shorts hp
  n : cs.length ≤ 1000000
  e : ∀ c ∈ cs, c.length ≤ 1000000
theorem CodeX.hp {c : CodeD} (X : CodeX c) : c.helpers.length ≤ 6 ∧ Shorts c.helpers := by
  have e : c.names.length = c.signs.length + c.helpers.length := List.length_append
  have := X.n6
  have sh := nm_shorts X.nm
  exact ⟨by omega, by omega, fun n hn => sh.2 n (List.mem_append_right _ hn)⟩
end
end My

set_option Elab.async false
set_option linter.all false
set_option maxRecDepth 100000
set_option maxHeartbeats 4000000
namespace My
open PySem PySem.Spec PyProof.Rows L2 L3
/-! codes whose clauses stand as the program keeps them -/
structure Nf (c : CodeD) : Prop where
  a : ∀ x ∈ c.clauses, asc x c.names = x
  nd : c.clauses.Nodup
theorem map_self {α : Type} {f : α → α} {xs : List α} (h : ∀ x ∈ xs, f x = x) : xs.map f = xs := by
  have := List.map_congr_left (l := xs) (f := f) (g := id) h
  rw [this, List.map_id]
theorem Nf.made {c : CodeD} (h : Nf c) : madeOf c = c := by
  obtain ⟨ss, hs, cl⟩ := c
  show CodeD.mk ss hs (once (cl.map fun d => asc d (ss ++ hs))) = _
  rw [map_self (f := fun d => asc d (ss ++ hs)) h.a, once_self h.nd]
def litsOf (ns : List Str) : List Str := ns.flatMap fun n => [n, ("-" : Str) ++ n]
theorem mem_litsOf {ns : List Str} {x : Str} : x ∈ litsOf ns ↔ LitN ns x := by
  unfold litsOf
  rw [List.mem_flatMap]
  constructor
  · rintro ⟨n, hn, h⟩; exact ⟨n, hn, by simpa using h⟩
  · rintro ⟨n, hn, h⟩; exact ⟨n, hn, by simpa using h⟩
theorem litsOf_app (xs ys : List Str) : litsOf (xs ++ ys) = litsOf xs ++ litsOf ys := by unfold litsOf; rw [List.flatMap_append]
structure HalfS (ns : List Str) (p : List Str × Nat) : Prop where
  le : p.2 ≤ ns.length
  s : p.1.Sublist (litsOf (ns.take p.2))
end My

set_option Elab.async false
set_option linter.all false
set_option maxRecDepth 100000
set_option maxHeartbeats 4000000
namespace My
open PySem PySem.Spec PyProof.Rows L2 L3
section
variable {ns : List Str} {cs P : List (List Str)} {hs so : List Str}
theorem der_trans {h2 : List Str} {x : Str} (h : ∀ y ∈ hs, Der cs h2 y) (d : Der cs hs x) : Der cs h2 x := by
  induction d with
  | base hx => exact h _ hx
  | step hc hl _ ih => exact .step hc hl ih
theorem dead_trans {h2 : List Str} (h : ∀ y ∈ hs, Der cs h2 y) (d : Dead cs hs) : Dead cs h2 := by
  obtain ⟨c, hc, hd⟩ := d
  exact ⟨c, hc, fun m hm => der_trans h (hd m hm)⟩
/-! a name put out -/
def Rsv (n : Str) (c d : List Str) (x : Str) : Prop := (x ∈ c ∨ x ∈ d) ∧ nameOf x ≠ n
structure Out (ns : List Str) (cs : List (List Str)) (n : Str) (P : List (List Str)) : Prop where
  keep : ∀ c ∈ cs, n ∉ c → ("-" : Str) ++ n ∉ c → ∃ r ∈ P, ∀ x, x ∈ r ↔ x ∈ c
  res : ∀ c ∈ cs, ∀ d ∈ cs, n ∈ c → ("-" : Str) ++ n ∈ d → (∃ k, Rsv n c d k ∧ Rsv n c d (opp k)) ∨ ∃ r ∈ P, ∀ x, x ∈ r ↔ Rsv n c d x
  only : ∀ r ∈ P, (∃ c ∈ cs, n ∉ c ∧ ("-" : Str) ++ n ∉ c ∧ ∀ x, x ∈ r ↔ x ∈ c) ∨ ∃ c ∈ cs, ∃ d ∈ cs, n ∈ c ∧ ("-" : Str) ++ n ∈ d ∧ ∀ x, x ∈ r ↔ Rsv n c d x
structure Two (n a b : Str) (cs P : List (List Str)) : Prop where
  ab : opp a = b
  na : nameOf a = n
  nb : nameOf b = n
  ne : a ≠ b
  only : ∀ x, nameOf x = n → (∃ m, x = m ∨ x = ("-" : Str) ++ m) → True
  res : ∀ c ∈ cs, ∀ d ∈ cs, a ∈ c → b ∈ d → (∃ k, Rsv n c d k ∧ Rsv n c d (opp k)) ∨ ∃ r ∈ P, ∀ x, x ∈ r ↔ Rsv n c d x
/-! clauses that are found -/
end
end My

set_option Elab.async false
set_option linter.all false
set_option maxRecDepth 100000
set_option maxHeartbeats 8000000
namespace My
open PySem PySem.Spec PyProof.Rows L2 L3
open L3.Strm
section
end
end My

set_option Elab.async false
set_option linter.all false
set_option maxRecDepth 100000
set_option maxHeartbeats 1000000
namespace L3
open PySem PySem.Spec PyProof.Rows L2 MeetsSeq
open AutoSeq1 (wpAny_loadPart')
/-! an empty dict beside texts: not in a tuple of texts; repr of (text, thing) -/
section
end
/-- a tuple of a text and a thing -/
def TxF (K : PySem.W.Frag) : Rl (Str × PyData) := fun t M v => ∃ p w, v = .ref p ∧ M p = some (.tup [.str t.1, w]) ∧ DdF K t.2 M w
instance {K : PySem.W.Frag} : Mon (TxF K) := ⟨fun e ⟨p, w, h1, h2, h3⟩ => ⟨p, w, h1, e _ _ h2, Mon.mono e h3⟩⟩
def txD (t : Str × PyData) : PyData := .tuple [.str t.1, t.2]
def rReprF (K : PySem.W.Frag) : List V → Hp → VK → Prop := fun xs H Q => ∃ v t, xs = [v] ∧ TxF K t H v ∧ (txD t).showable = true ∧ (txD t).depth ≤ 64 ∧ (txD t).shown.length ≤ sizeLine ∧ Q (.str (txD t).shown) H
theorem call_reprF {X : Cx} (hgu : X.A.guards = some []) (hu : X.A.units + 70 < cLine) : CallR X (.builtin "repr") (rReprF X.K) := by
  rintro pins s σ H _ us Q I r ⟨v, ⟨x, d⟩, rfl, ⟨p, w, rfl, hp, hw⟩, hs, hdp, hz, q⟩
  have ⟨u, eu, ru⟩ := vals1 r
  subst eu
  cases (show u = Value.ref p from ru)
  obtain ⟨its, rv, ⟨o, ho, hc, n, hd⟩, _⟩ := I.tuple (show SqT X.K H p [.str x, w] from .inl (.inl hp))
  have fin : ∀ h' u' tk, (∀ b o, s.heap.get? b = some o → h'.get? b = some o) → EP X pins σ Q (.str (txD (x, d)).shown u') { s with heap := h', toks := tk } :=
    fun h' u' tk k => ⟨.str (txD (x, d)).shown, H, I.kept k, ⟨_, rfl⟩, q⟩
  cases rv with
  | @cons _ u1 _ _ r1 rv =>
    cases rv with
    | @cons _ u2 _ _ r2 rv =>
      cases rv
      obtain ⟨t1, rfl⟩ := r1
      obtain ⟨as, rd, hsm⟩ : ∃ as, Reads s.heap u2 d as ∧ (d.hasDict = true → sysModules ∉ as) := by
        rcases (show Dp X.K H w d ∨ (d = .dict [] ∧ ∃ a, w = .ref a ∧ H a = some (.dK [])) from hw) with hw | ⟨ed, a, ew, ha⟩
        · obtain ⟨as, rd⟩ := Dp.reads I d w _ hw r2
          exact ⟨as, rd, PyData.noDict_hsm (dp_nodict hw)⟩
        · subst ed ew
          cases (show _ = Value.ref a from r2)
          obtain ⟨_, hn, vs, rk, o2, es, ep, ho2, hc2, hd2, _, pp, _⟩ := dk_of I.hok ha
          cases rk
          have ees : es.toList = [] := by cases h : es.toList with
            | nil => rfl
            | cons e r => rw [h] at pp; cases pp
          refine ⟨_, Reads.dict (kvs := []) ho2 hc2.1 hd2 (by rw [ees]; exact .nil) (by rw [ees]; exact .nil), fun _ z => ?_⟩
          have : sysModules = a := by simpa using z
          rw [← this] at hn
          simp at hn
      have rt : Reads s.heap (.ref p) (txD (x, d)) ([] ++ (as ++ [])) := Reads.tuple ho hc hd (.cons (.str x t1) (.cons rd .nil))
      refine repr_of_reads' rt hs (fun h => ?_) hgu (by omega) (fun _ _ e => e) fin hz
      have h : d.hasDict = true := by simpa [txD, PyData.hasDict, PyData.hasDictAll] using h
      simpa using hsm h
section
variable {K : PySem.W.Frag} {σ : Sl} {M : Hp} {ta tb te : TE}
theorem gv_reprF {t : Str × PyData} (h : Gv te σ M (TxF K t)) (h1 : (txD t).showable = true) (h2 : (txD t).depth ≤ 64) (h3 : (txD t).shown.length ≤ sizeLine) : Gv (tCB (rReprF K) (tCons te tNil)) σ M (Tx (txD t).shown) :=
  gv_cb1 h fun M' v hv H mh Q q => ⟨v, t, rfl, Mon.mono mh hv, h1, h2, h3, q _ M' H (.refl mh) rfl⟩
/-- (text, thing) -/
theorem gv_tupF {x : Str} {d : PyData} (h1 : Gv ta σ M (Tx x)) (h2 : Gv tb σ M (DdF K d)) : Gv (tTup (tCons ta (tCons tb tNil))) σ M (TxF K (x, d)) := fun H mh Q q =>
  h1 H mh _ fun v M1 H1 g1 p1 => h2.le g1.mm H1 g1.mh _ fun w M2 H2 g2 p2 => ⟨by show 2 ≤ sizeLine; decide, fun l nl => by
    cases (show v = _ from p1)
    exact q _ _ _ ((g1.trans g2).trans (.new g2.mh nl)) ⟨l, w, rfl, upd_same, Mon.mono (same_new (g2.mh.free nl)) p2⟩⟩
end
end L3

set_option Elab.async false
set_option linter.all false
set_option maxRecDepth 100000
set_option maxHeartbeats 8000000
namespace My
open PySem PySem.Spec PyProof.Rows L2 L3 LamX
open L3.Strm
/-! statement rules that carry the state of a law with a table; lists of data among which an empty dict may stand -/
section
variable {S : Strm} {Pt : Addr} {q : Str} {M H : Hp} {k j c : Nat} {σ : Sl} {te : TE} {P : Pr} {D : Ends} {tz tb : TS} {tt : L2.TT}
theorem _root_.L3.LS.plain {M' H' : Hp} (L : LS S Pt q M H k) (g : Gr M H M' H') : LS S Pt q M' H' k := L.step (lift L.mh L.at_ g) (L.at_.same g.hh)
/-- a list of ours is known from now on -/
theorem _root_.L3.LS.freeze {p : Addr} {vs : List V} (L : LS S Pt q M H k) (hp : S.cut H p = some (.lst vs)) : LS S Pt q (upd M p (.lst vs)) H k := by
  obtain ⟨ps, hP, ok, h3⟩ := L.tb
  have n : Pt ≠ p := fun z => by rw [z, of_cut hp] at hP; cases hP
  refine ⟨same_lent L.mh hp, L.at_, L.tb, by rw [upd_ne n]; exact L.mp, fun a qs e => ?_⟩
  by_cases z : a = p
  · subst z; rw [upd_same] at e; cases e
  · rw [upd_ne z] at e; exact L.nt a qs e
/-- a new list -/
theorem _root_.L3.LS.new {p : Addr} {o : HO} (L : LS S Pt q M H k) (np : H p = none) : LS S Pt q M (upd H p o) k ∧ M p = none ∧ S.cut (upd H p o) p = some o := by
  have no := L.at_.fresh np
  have nc := L.at_.cutn np
  exact ⟨L.step (by rw [cut_upd no]; exact .own L.mh nc) (L.at_.upd no), L.mh.free nc, by rw [cut_upd no, upd_same]⟩
end
section
end
/-! the law's own def that takes a lambda: its suite calls a def -/
theorem takes_len {X : Cx} {W : WX} (tk : Takes X W) : Takes X (fun c d σ H => σ.length = X.N.length → W c d σ H) := fun u s' ⟨a, B, sI, pins, σ, H, cls, d, e, I, nb, up, sky, na, os, ag, w⟩ =>
  tk u s' ⟨a, B, sI, pins, σ, H, cls, d, e, I, nb, up, sky, na, os, ag, w I.len⟩
section
variable {α : Type} {R : Rl α} [Mon R] {σ : Sl} {M : Hp} {ta : TA}
theorem ga_rl0 : GvA tNil σ M fun M vs => Pd R M ([] : List α) vs := fun H mh Q q => q [] M H (.refl mh) .nil
theorem ga_rl {t : TE} {x : α} {xs : List α} (h : Gv t σ M (R x)) (hr : ∀ M1, Same M M1 → GvA ta σ M1 fun M vs => Pd R M xs vs) : GvA (tCons t ta) σ M fun M vs => Pd R M (x :: xs) vs := fun H mh Q q =>
  h H mh _ fun v M1 H1 g1 p => hr M1 g1.mm H1 g1.mh _ fun vs M2 H2 g2 ps => q (v :: vs) M2 H2 (g1.trans g2) (.cons (Mon.mono g2.mm p) ps)
theorem gv_lstG {xs : List α} (h : GvA ta σ M fun M vs => Pd R M xs vs) (hz : xs.length ≤ 1000) : Gv (tLst ta) σ M (LiR R xs) := (gl_lst h fun M vs p => by rw [← p.length]; exact Nat.le_trans hz (by decide)).li
end
section
variable {K : PySem.W.Frag} {σ : Sl} {M : Hp} {t : TE}
theorem gf_str {x : Str} (h : Gv t σ M (Tx x)) : Gv t σ M (DdF K (.str x)) := gv_is h fun M v e => by
  cases (show v = _ from e)
  exact .inl (.str x)
theorem gf_dnew : Gv tDNewK σ M (DdF K (.dict [])) := fun H mh Q q p np => q (.ref p) _ _ ((Gr.own mh np).freeze np (mh.free np) upd_same) (.inr ⟨rfl, p, rfl, upd_same⟩)
end
end My

set_option Elab.async false
set_option linter.all false
set_option maxRecDepth 100000
set_option maxHeartbeats 1000000
namespace L3
open PySem PySem.Spec PyProof.Rows L2
/-! several except clauses, each with a name or without -/
/-- an exception that has come down to the frame of its try -/
structure Ld (X : Cx) (pins : List (Addr × Obj)) (σ : L2.St) (H : Hp) (e : Addr) (cls : Value) (d : Option Addr) (z : Shared) : Prop where
  st : X.stack = X.env :: X.outer
  fr : X.env.frame = some X.env.locals
  un : H e = none
  fl : ∃ (B : Heap) (y : Shared), L2.Inv X pins σ H y ∧ (∀ b o, y.heap.get? b = some o → b ∉ frs X.stack → B.get? b = some o) ∧ y.heap.UpToSlots z.heap ∧ z.os = y.os ∧ AllBare z.gens ∧ HandSPX.FlyingZ B (X.env :: X.outer) e (Zc cls d) z.heap
section
variable {X : Cx} {pins : List (Addr × Obj)} {σ : L2.St} {H : Hp} {e : Addr} {cls : Value} {d : Option Addr} {z : Shared}
theorem Ld.inv (L : Ld X pins σ H e cls d z) : L2.Inv X pins σ H z := let ⟨_, _, J, nb, u, o, g, f⟩ := L.fl; J.landed nb f.1 u o g
/-- its object stands apart from the frames -/
theorem Ld.obj (L : Ld X pins σ H e cls d z) : ∃ ob us, z.heap.get? e = some ob ∧ Zc cls d ob ∧ ob.data = .fields us ∧ e ≠ X.env.locals ∧ e ∉ X.fs := by
  obtain ⟨B, y, _, _, _, _, _, f⟩ := L.fl
  obtain ⟨ob, us, h1, h2, h3⟩ := f.there
  have apart : e ∉ frs (X.env :: X.outer) := by
    intro hm
    obtain ⟨_, o2, h4, h5⟩ := f.2.2.1.mem hm
    cases h1.symm.trans h4
    exact h5 _ h3
  refine ⟨ob, us, h1, h2, h3, fun q => ?_, fun q => ?_⟩
  · exact apart (List.mem_filterMap.mpr ⟨_, List.mem_cons_self .., q ▸ L.fr⟩)
  · obtain ⟨v, h6, h7⟩ := List.mem_filterMap.mp q
    exact apart (List.mem_filterMap.mpr ⟨v, List.mem_cons_of_mem _ h6, h7⟩)
/-- the state in which a clause's suite begins -/
theorem Ld.in (L : Ld X pins σ H e cls d z) : ∃ ob us, z.heap.get? e = some ob ∧ Zc cls d ob ∧ ob.data = .fields us ∧ L2.Inv (X.suite e ((e, ob) :: (X.pn ++ pins))) [] σ H z :=
  let ⟨ob, us, h1, h2, h3, h4, h5⟩ := L.obj
  ⟨ob, us, h1, h2, h3, L.inv.suite h1 h3 L.un h4 h5⟩
/-- the flight is set to none once more -/
theorem Ld.again (L : Ld X pins σ H e cls d z) {A : Around} {Q : Unit → Shared → Prop} {E : Value → Shared → Prop} (go : ∀ h, Ld X pins σ H e cls d { z with heap := h } → Q () { z with heap := h }) : wpAny (model X.prog X.w) A (setFlight (.ref e) none) Q E z := by
  obtain ⟨B, y, J, nb, u, o, g, f⟩ := L.fl
  exact HandSPX.lands_againZ f fun h f' u' => go h ⟨L.st, L.fr, L.un, B, y, J, nb, u.trans u', o, g, f'⟩
/-- no clause takes it -/
theorem Ld.on {W : WX} {D : Ends} (L : Ld X pins σ H e cls d z) (tk : Takes X W) (w : W cls d σ H) : wpAny (model X.prog X.w) X.A (handleBy (.ref e) X.env []) (SP X pins D) X.xe z := by
  obtain ⟨B, y, J, nb, u, o, g, f⟩ := L.fl
  have last : wpAny (model X.prog X.w) X.A (setFlight (.ref e) X.env.frame) (fun _ => wpAny (model X.prog X.w) X.A (throw (.ref e) : Sem Flow) (SP X pins D) X.xe) X.xe z := by
    rw [L.fr]
    exact HandSPX.setFlight_upZ f fun h hd u' => wpAny_throw (tk _ _ ⟨e, B, y, pins, σ, H, cls, d, rfl, J, nb, u.trans u', .inr (.inr (by rw [L.st]; exact hd)), L.un, o, g, w⟩)
  refine wpAny_handleBy_nil ?_
  obtain ⟨_, _, _, ob, us, t, _, _, h1, _, h3, h4, _⟩ := f
  unfold PySem.passOn
  refine wpAny_bind (wpAny_field h1 h3 h4 ?_)
  rw [if_neg (by simp : ¬ ((Value.ref t == Value.none) = true))]
  first
    | exact wpAny_bind (wpAny_pure (wpAny_bind last))
    | exact wpAny_bind last
/-- the class that a clause names is looked at -/
theorem Ld.asks {x : Str} {c : Value} {np : Pos} {b : Bool} {Q : Bool → Shared → Prop} {E E2 : Value → Shared → Prop} (L : Ld X pins σ H e cls d z) (hc : Names X x c) (hb : PySem.W.exmOne X.K cls c = some b) (q : Q b z) :
    wpAny (model X.prog X.w) (X.A.mark (some (.ref e))) (eval (.Name x np) X.env) (fun v s1 => wpAny (model X.prog X.w) (X.A.mark (some (.ref e))) (excMatches (.ref e) v) Q E s1) E2 z := by
  obtain ⟨ob, us, h1, h2, h3, S⟩ := L.in
  have ty : PySem.W.Looks (model X.prog X.w) z.heap (typeOf (.ref e)) cls := fun _ _ _ _ kp k => wpAny_typeOf_ref (kp _ _ h1) (h2.1.symm ▸ k)
  have lk := (PySem.W.exm_one (M := model X.prog X.w) L.inv.kIn ty hb).here (A := X.A.mark (some (.ref e))) (Q := Q) (E := E) (s := z) q
  obtain ⟨g, db, m | ⟨m, v, nn⟩⟩ := hc
  · exact ld_glob (X := X.suite e ((e, ob) :: (X.pn ++ pins))) S g m lk db
  · exact ld_blt (X := X.suite e ((e, ob) :: (X.pn ++ pins))) S g m v lk nn db
end
/-- class, slot of its name, suite -/
abbrev Clz := Value × Option Nat × (Addr → Value → Option Addr → TS)
def clG (o : Option Nat) (σ : L2.St) : L2.St := match o with
  | none => σ
  | some i => σ.set i none
def clD (o : Option Nat) (D : Ends) : Ends := ⟨fun σ H => D.nx (clG o σ) H, D.rt, fun σ H => D.bk (clG o σ) H, fun σ H => D.ct (clG o σ) H⟩
def clS (o : Option Nat) (a : Addr) (σ : L2.St) : L2.St := match o with
  | none => σ
  | some i => σ.set i (some (.ref a))
/-- what the clauses, one after the other, do of an exception -/
def wCl (K : PySem.W.Frag) (W : WX) (D : Ends) : List Clz → WX
  | [] => W
  | (c, o, ts) :: r => fun cls d σ H => ∃ b, PySem.W.exmOne K cls c = some b ∧ (b = true → ∀ a, H a = none → ts a cls d (clD o D) (clS o a σ) H) ∧ (b = false → wCl K W D r cls d σ H)
inductive ClOk (X : Cx) : List ExceptHandler → List Clz → Prop
  | nil : ClOk X [] []
  | plain {x : Str} {c : Value} {ts : Addr → Value → Option Addr → TS} {b₀ : Stmt} {su : List Stmt} {np p : Pos} {hs : List ExceptHandler} {l : List Clz} (hc : Names X x c)
      (go : ∀ (a : Addr) (ob : Obj) (cls : Value) (d : Option Addr) (pn : List (Addr × Obj)), Zc cls d ob → (∃ us, ob.data = .fields us) → PSs (X.suite a ((a, ob) :: pn)) (b₀ :: su) (ts a cls d)) (r : ClOk X hs l) :
      ClOk X (.ExceptHandler (some (.Name x np)) none (b₀ :: su) p :: hs) ((c, none, ts) :: l)
  | named {x n : Str} {i : Nat} {c : Value} {ts : Addr → Value → Option Addr → TS} {b₀ : Stmt} {su : List Stmt} {np p : Pos} {hs : List ExceptHandler} {l : List Clz} (hN : X.N.Nodup) (hi : X.N[i]? = some n) (hln : X.env.kindOf n = some .local) (hc : Names X x c)
      (go : ∀ (a : Addr) (ob : Obj) (cls : Value) (d : Option Addr) (pn : List (Addr × Obj)), Zc cls d ob → (∃ us, ob.data = .fields us) → PSs (X.suite a ((a, ob) :: pn)) (b₀ :: su) (ts a cls d)) (r : ClOk X hs l) :
      ClOk X (.ExceptHandler (some (.Name x np)) (some n) (b₀ :: su) p :: hs) ((c, some i, ts) :: l)
section
variable {X : Cx} {pins : List (Addr × Obj)} {σ : L2.St} {H : Hp} {e : Addr} {cls : Value} {d : Option Addr} {z : Shared} {W : WX} {D : Ends}
theorem ClOk.run {hs : List ExceptHandler} {l : List Clz} (k : ClOk X hs l) (ok : X.Ok) (tk : Takes X W) : ∀ {z : Shared}, Ld X pins σ H e cls d z → wCl X.K W D l cls d σ H → wpAny (model X.prog X.w) X.A (handleBy (.ref e) X.env hs) (SP X pins D) X.xe z := by
  induction k with
  | nil => exact fun L w => L.on tk w
  | plain hc go _ ih =>
    rintro z L ⟨b, hb, yes, no⟩
    refine wpAny_handleBy_cons (codeAny_handlers_test (L.asks hc hb ?_)) nofun
    cases b with
    | false => exact ih L (no rfl)
    | true =>
      refine codeAny_handlers_suite (L.again fun h L2 => ?_)
      obtain ⟨ob, us, h1, h2, h3, S⟩ := L2.in
      refine wpAny_mono ((go e ob cls d _ h2 ⟨us, h3⟩).run [] _ σ H (clD none D) S (yes rfl e L.un)) (fun f y q => ?_) fun _ _ q => q.elim
      cases f with
      | ret u => exact let ⟨v, s, G, J, r, q⟩ := q; ⟨v, s, G, J.unsuite ok, r, q⟩
      | next => exact let ⟨s, G, J, q⟩ := q; ⟨s, G, J.unsuite ok, q⟩
      | brk => exact let ⟨s, G, J, q⟩ := q; ⟨s, G, J.unsuite ok, q⟩
      | cont => exact let ⟨s, G, J, q⟩ := q; ⟨s, G, J.unsuite ok, q⟩
  | @named x n i c ts b₀ su np p hs l hN hi hln hc go _ ih =>
    rintro z L ⟨b, hb, yes, no⟩
    refine wpAny_handleBy_cons (codeAny_handlers_test (L.asks hc hb ?_)) nofun
    cases b with
    | false => exact ih L (no rfl)
    | true =>
      refine codeAny_handlers_suite_as (L.again fun h L2 => ?_)
      obtain ⟨ob, us, h1, h2, h3, S⟩ := L2.in
      refine store_ok (X := X.suite e ((e, ob) :: (X.pn ++ pins))) (v := .ref e) S hN hi (.inl hln) rfl (fun y T => ?_) (.inr hln)
      refine wpAny_mono ((go e ob cls d _ h2 ⟨us, h3⟩).run [] _ _ H (clD (some i) D) T (yes rfl e L.un)) (fun f y2 q => ?_) fun _ _ q => q.elim
      cases f with
      | ret u => exact let ⟨v, s, G, J, r, q⟩ := q; gone_ok (J.unsuite ok) hN hi hln fun y3 J3 => ⟨v, _, G, J3, r, q⟩
      | next => exact let ⟨s, G, J, q⟩ := q; gone_ok (J.unsuite ok) hN hi hln fun y3 J3 => ⟨_, G, J3, q⟩
      | brk => exact let ⟨s, G, J, q⟩ := q; gone_ok (J.unsuite ok) hN hi hln fun y3 J3 => ⟨_, G, J3, q⟩
      | cont => exact let ⟨s, G, J, q⟩ := q; gone_ok (J.unsuite ok) hN hi hln fun y3 J3 => ⟨_, G, J3, q⟩
end
section
variable {X : Cx} {body : List Stmt} {h₀ : ExceptHandler} {hs : List ExceptHandler} {l : List Clz} {pos : Pos} {tb : WX → TS} {W : WX}
/-- try: body, then clauses of any kind -/
theorem ps_try_cl (sk : X.stack = X.env :: X.outer) (fr : X.env.frame = some X.env.locals) (tk : Takes X W) (go : ∀ (Z : WX) (pn : List (Addr × Obj)) (xe : Value → Shared → Prop), Takes (X.tr pn xe) Z → PassesOwn (model X.prog X.w) X.A X.env xe → PSs (X.tr pn xe) body (tb Z))
    (k : ClOk X (h₀ :: hs) l) : PS X (.Try body (h₀ :: hs) [] [] pos) (fun D σ H => tb (wCl X.K W D l) D σ H) := by
  refine ⟨fun pins s σ H D I w => wpAny_Try_except ?_⟩
  have ok := I.ok
  refine wpAny_mono ((go (wCl X.K W D l) (X.pn ++ pins) _ (fun u y xx => ?ex) PassesOwn.looking).run [] s σ H D (I.toTry _) w) (fun f y q => ?en) fun _ _ q => q
  case ex =>
    obtain ⟨e, B, y0, ps, σ1, H1, cls, d, rfl, J, nb, up, sky, na, os, ag, w1⟩ := xx
    refine Sky.land Zc.steady (by rw [ok.frames, sk] : X.A.frames = some (X.env :: X.outer)) fr (sk ▸ sky) fun h f u2 => ?_
    exact k.run ok tk (pins := pins) ⟨sk, fr, na, B, y0, J.ofTry ok, nb, up.trans u2, os, ag, f⟩ w1
  cases f with
  | ret u => exact let ⟨v, s, G, J, r, q⟩ := q; ⟨v, s, G, J.ofTry ok, r, q⟩
  | next => exact let ⟨s, G, J, q⟩ := q; wpAny_execs_nil ⟨s, G, J.ofTry ok, q⟩
  | brk => exact let ⟨s, G, J, q⟩ := q; ⟨s, G, J.ofTry ok, q⟩
  | cont => exact let ⟨s, G, J, q⟩ := q; ⟨s, G, J.ofTry ok, q⟩
end
end L3

set_option Elab.async false
set_option linter.all false
set_option maxRecDepth 100000
set_option maxHeartbeats 1000000
namespace L3
open PySem PySem.Spec PyProof.Rows L2
/-! o - x by an own __sub__, x a text -/
section
end
end L3

set_option Elab.async false
set_option linter.all false
set_option maxRecDepth 100000
set_option maxHeartbeats 1000000
namespace L3
open PySem PySem.Spec PyProof.Rows L2
/-! a new list stands apart from sys.modules; repr of a list of one tuple (text, thing), the thing data or an empty dict -/
section
variable {X : Cx}
def LzF (K : PySem.W.Frag) : Rl (Str × PyData) := fun t M v => ∃ p w, v = .ref p ∧ p ≠ sysModules ∧ M p = some (.lst [w]) ∧ TxF K t M w
instance {K : PySem.W.Frag} : Mon (LzF K) := ⟨fun e ⟨p, w, h1, h2, h3, h4⟩ => ⟨p, w, h1, h2, e _ _ h3, Mon.mono e h4⟩⟩
end
section
end
end L3

set_option Elab.async false
set_option linter.all false
set_option maxRecDepth 100000
set_option maxHeartbeats 1000000
namespace L3
open PySem PySem.Spec PyProof.Rows L2 LamX
open L3.Strm
/-! x(lambda: body, e); a method that raises -/
section
end
section
end
/-- a method that raises -/
def MetX (P : Program) (w : World) (K : PySem.W.Frag) (mg : Str → Option Value) (base : Heap) (k : Nat) (C : Addr) (m : Str) (ps : List Str) (sp : Sp) : Prop :=
  ∃ f fd, Cls K C ∧ Meth K C m f ∧ FnOk P w K mg base (L2.CX P w) k f fd ps sp ∧ L2.Binds K fd ps []
section
variable {X : Cx} {W : WX} {E : XK} {k : Nat} {C : Addr} {m : Str} {ps : List Str} {sp : Sp} {o : Expr} {to : TE} {pos apos : Pos} {pl : Sem Bool}
theorem pe_mX0 (c : MetX X.prog X.w X.K X.mg X.base k C m ps sp) (hr : Room k X.A) (tk : Takes X W) (hW : ∀ cls d σ H, E cls d H → W cls d σ H) (ho : PE X o to)
    (ht : eval (.Call (.Attribute o m apos) [] [] pos) X.env = (do let ov ← eval o X.env; standAt apos.atName; let (f, first) ← holding [ov] (getMethod ov m pl); callWith pos f first (backTo pos (starEach [] X.env)) (backToKw pos (keywordEach [] X.env))) := by rfl) :
    PE X (.Call (.Attribute o m apos) [] [] pos) (tMeth C m sp [] E to tNil) :=
  let ⟨_, _, cl, hm, F, hb⟩ := c
  pe_meth0 ho cl hm F hr hb .nil (passes_call tk hW) ht
end
end L3

set_option Elab.async false
set_option linter.all false
set_option maxRecDepth 100000
set_option maxHeartbeats 1000000
namespace L3
open PySem PySem.Spec PyProof.Rows L2
/-! a & b, a | b, a < b of two instances by own methods; every n-th item -/
section
end
section
end
/-! every n-th item of a list -/
end L3

set_option Elab.async false
set_option linter.all false
set_option maxRecDepth 100000
set_option maxHeartbeats 1000000
namespace L3
open PySem PySem.Spec PyProof.Rows L2
/-! t[::-1] of a tuple; [x] * n -/
section
end
section
end
end L3

set_option Elab.async false
set_option linter.all false
set_option maxRecDepth 100000
set_option maxHeartbeats 1000000
namespace L3
open PySem PySem.Spec PyProof.Rows L2
/-! a method with arguments that raises -/
section
variable {X : Cx} {W : WX} {E : XK} {k : Nat} {C : Addr} {m : Str} {ps : List Str} {sp : Sp} {o e : Expr} {es : List Expr} {to : TE} {t : TA} {pos apos : Pos} {pl : Sem Bool}
theorem pe_mX1 (c : MetX X.prog X.w X.K X.mg X.base k C m ps sp) (hr : Room k X.A) (tk : Takes X W) (hW : ∀ cls d σ H, E cls d H → W cls d σ H) (ho : PE X o to) (ha : PA X (e :: es) t) (hst : starEach (e :: es) X.env = (false, eval e X.env) :: starEach es X.env := by rfl) (hpl : (backTo pos (starEach es X.env)).any (·.1) = false := by rfl)
    (ht : eval (.Call (.Attribute o m apos) (e :: es) [] pos) X.env = (do let ov ← eval o X.env; standAt apos.atName; let (f, first) ← holding [ov] (getMethod ov m pl); callWith pos f first (backTo pos (starEach (e :: es) X.env)) (backToKw pos (keywordEach [] X.env))) := by rfl) :
    PE X (.Call (.Attribute o m apos) (e :: es) [] pos) (tMeth C m sp [] E to t) := by
  obtain ⟨_, _, cl, hm, F, hb⟩ := c
  exact pe_meth ho cl hm F hr hb .nil (passes_call tk hW) ha hst hpl ht
end
end L3

set_option Elab.async false
set_option linter.all false
set_option maxRecDepth 100000
set_option maxHeartbeats 1000000
namespace L3
open PySem PySem.Spec PyProof.Rows L2
/-! an instance whose __init__ may raise -/
end L3

set_option Elab.async false
set_option linter.all false
set_option maxRecDepth 100000
set_option maxHeartbeats 1000000
namespace My
open PySem PySem.Spec PyProof.Rows L2 L3
/-! settings as lists of literals, and as sides (of k63's Z2, Z3) -/
end My

set_option Elab.async false
set_option linter.all false
set_option maxRecDepth 100000
set_option maxHeartbeats 4000000
namespace My
open PySem PySem.Spec PyProof.Rows L2 L3
/-! what is small enough to be shown -/
structure Sm (d : PyData) : Prop where
  sh : d.showable = true
  dp : d.depth ≤ 60
  ls : d.leavesShort 13 = true
  wt : d.weight ≤ 100000
end My

set_option Elab.async false
set_option linter.all false
set_option maxRecDepth 100000
set_option maxHeartbeats 8000000
namespace My
open PySem PySem.Spec PyProof.Rows L2 L3
open L3.Strm
/-! the state of a law without a table -/
structure Zs (S : Strm) (M H : Hp) (k : Nat) : Prop where
  mh : Same M (S.cut H)
  at_ : S.At k H
section
variable {S : Strm} {M H M' H' M0 : Hp} {k j c : Nat} {σ : Sl} {te : TE} {P : Pr} {D : Ends} {tz tb : TS} {tt : L2.TT}
theorem Zs.step (L : Zs S M H k) (g : Gr M (S.cut H) M' (S.cut H')) (a : S.At j H') : Zs S M' H' j := ⟨g.mh, a⟩
theorem Zs.plain (L : Zs S M H k) (g : Gr M H M' H') : Zs S M' H' k := L.step (lift L.mh L.at_ g) (L.at_.same g.hh)
theorem Zs.le (L : Zs S M H k) (e : j ≤ k) : Zs S M H j := ⟨L.mh, L.at_.le e⟩
theorem Zs.sub (L : Zs S M H k) (e : Same M0 M) : Zs S M0 H k := ⟨e.trans L.mh, L.at_⟩
theorem Zs.idle (L : Zs S M H k) (hh : Same H H') : Zs S M H' k := L.plain (.idle (L.mh.trans cut_same) hh)
end
/-! lists that are changed behind -/
section
end
/-- the very value -/
def EqV : Rl V := fun x _ v => v = x
instance : Mon EqV := ⟨fun _ h => h⟩
theorem pd_eqv {M : Hp} : ∀ vs : List V, Pd EqV M vs vs
  | [] => .nil
  | _ :: r => .cons rfl (pd_eqv r)
section
end
/-! what is small enough to be shown, piece by piece -/
structure SmW (k w : Nat) (d : PyData) : Prop where
  sh : d.showable = true
  dp : d.depth ≤ k
  ls : d.leavesShort 13 = true
  wt : d.weight ≤ w
structure SmA (k w : Nat) (ds : List PyData) : Prop where
  sh : PyData.showableAll ds = true
  dp : PyData.depthAll ds ≤ k
  ls : PyData.leavesShortAll 13 ds = true
  wt : PyData.weightAll ds ≤ w
theorem SmW.fit {k w : Nat} {d : PyData} (h : SmW k w d) (hk : k ≤ 64) (hw : w ≤ 300000) : FitD d := ⟨h.sh, Nat.le_trans h.dp hk, PyData.shown_fits (B := 13) (by decide) (by decide) h.ls (by have := h.wt; omega)⟩
theorem SmA.nil {k : Nat} : SmA k 0 [] := ⟨by simp [PyData.showableAll], by simp [PyData.depthAll], by simp [PyData.leavesShortAll], by simp [PyData.weightAll]⟩
theorem SmA.cons {k a b : Nat} {d : PyData} {ds : List PyData} (h : SmW k a d) (r : SmA k b ds) : SmA k (a + b + 1) (d :: ds) := ⟨by simp only [PyData.showableAll, h.sh, r.sh, Bool.and_self], by
  have := h.dp
  have := r.dp
  simp only [PyData.depthAll]; omega, by simp only [PyData.leavesShortAll, h.ls, r.ls, Bool.and_self], by
  have := h.wt
  have := r.wt
  simp only [PyData.weightAll]; omega⟩
theorem SmA.lst {k w : Nat} {ds : List PyData} (h : SmA k w ds) : SmW (k + 1) (w + 10) (.list ds) := ⟨by rw [PyData.showable]; exact h.sh, by
  have := h.dp
  rw [PyData.depth]; omega, by rw [PyData.leavesShort]; exact h.ls, by
  have := h.wt
  rw [PyData.weight]; omega⟩
theorem SmW.up {k w k' w' : Nat} {d : PyData} (h : SmW k w d) (hk : k ≤ k') (hw : w ≤ w') : SmW k' w' d := ⟨h.sh, Nat.le_trans h.dp hk, h.ls, Nat.le_trans h.wt hw⟩
theorem SmA.up {k w k' w' : Nat} {ds : List PyData} (h : SmA k w ds) (hk : k ≤ k') (hw : w ≤ w') : SmA k' w' ds := ⟨h.sh, Nat.le_trans h.dp hk, h.ls, Nat.le_trans h.wt hw⟩
theorem sm_strs {ns ls : List Str} (hn : NmL ns) (h : ∀ l ∈ ls, LitN ns l) : SmA 1 (10 * ls.length) (ls.map .str) := by
  obtain ⟨a1, a2, a3⟩ := strs_small hn ls h
  have d := depthS ls
  exact ⟨a2, by omega, a1, a3⟩
theorem dd_lst {K : PySem.W.Frag} {M : Hp} {p : Addr} {ds : List PyData} {vs : List V} (h : M p = some (.lst vs)) (pd : Pd (Dd K) M ds vs) : Dd K (.list ds) M (.ref p) := .lst (.inl (.inl h)) (dpa_pd pd)
section
end
/-! a list of ours that grows, of known things -/
structure Ac {α : Type} (R : Rl α) (S : Strm) (M0 H0 : Hp) (p : Addr) (xs : List α) (M H : Hp) (k : Nat) : Prop where
  Z : Zs S M H k
  G : Gr M0 (S.cut H0) M (S.cut H)
  h0 : S.cut H0 p = none
  m : M p = none
  ex : ∃ vs, S.cut H p = some (.lst vs) ∧ Pd R M xs vs
section
variable {K : PySem.W.Frag} {α : Type} {R : Rl α} [Mon R] {S : Strm} {M0 H0 M H M' H' : Hp} {p : Addr} {xs : List α} {k j c i : Nat} {σ : Sl} {te : TE} {D : Ends} {tz : TS} {P : Pr}
theorem Ac.step (A : Ac R S M0 H0 p xs M H k) (g : Gr M (S.cut H) M' (S.cut H')) (a : S.At j H') : Ac R S M0 H0 p xs M' H' j := let ⟨vs, h, pd⟩ := A.ex; ⟨⟨g.mh, a⟩, A.G.trans g, A.h0, g.keep A.m h, vs, g.hh _ _ h, pd.mono g.mm⟩
theorem Ac.le (A : Ac R S M0 H0 p xs M H k) (e : j ≤ k) : Ac R S M0 H0 p xs M H j := ⟨A.Z.le e, A.G, A.h0, A.m, A.ex⟩
end
/-! a list that is newer than what was known -/
def NewL (M0 : Hp) {α : Type} (R : Rl α) : Rl (List α) := fun xs M v => ∃ p vs, v = .ref p ∧ M p = some (.lst vs) ∧ M0 p = none ∧ Pd R M xs vs
section
variable {K : PySem.W.Frag} {α : Type} {R : Rl α} {M0 M : Hp}
instance [Mon R] : Mon (NewL M0 R) := ⟨fun e ⟨p, vs, h1, h2, h3, h4⟩ => ⟨p, vs, h1, e _ _ h2, h3, h4.mono e⟩⟩
theorem NewL.li {xs : List α} {v : V} (h : NewL M0 R xs M v) : LiR R xs M v := let ⟨p, vs, h1, h2, _, h4⟩ := h; ⟨p, vs, h1, h2, h4⟩
theorem NewL.sq [Mon R] {xs : List α} {v : V} (h : NewL M0 R xs M v) : SqR K R xs M v := h.li.sq
end
section
end
section
end
end My

set_option Elab.async false
set_option linter.all false
set_option maxRecDepth 100000
set_option maxHeartbeats 1000000
namespace L3
open PySem PySem.Spec PyProof.Rows L2 SeqAt
/-! data at any depth, among which empty dicts may stand anywhere -/
mutual
inductive Dx (K : PySem.W.Frag) (M : Hp) : V → PyData → Prop
  | non : Dx K M .non .none
  | bl (b : Bool) : Dx K M (.bl b) (.bool b)
  | int (i : Int) : Dx K M (.int i) (.int i)
  | str (x : Str) : Dx K M (.str x) (.str x)
  | dct {a : Addr} : M a = some (.dK []) → Dx K M (.ref a) (.dict [])
  | lst {a : Addr} {xs : List V} {ds : List PyData} : SqL K M a xs → DxAll K M xs ds → Dx K M (.ref a) (.list ds)
  | tup {a : Addr} {xs : List V} {ds : List PyData} : SqT K M a xs → DxAll K M xs ds → Dx K M (.ref a) (.tuple ds)
inductive DxAll (K : PySem.W.Frag) (M : Hp) : List V → List PyData → Prop
  | nil : DxAll K M [] []
  | cons {v : V} {vs : List V} {d : PyData} {ds : List PyData} : Dx K M v d → DxAll K M vs ds → DxAll K M (v :: vs) (d :: ds)
end
mutual
theorem dx_mono {K : PySem.W.Frag} {M M' : Hp} (e : Same M M') : ∀ {v : V} {d : PyData}, Dx K M v d → Dx K M' v d
  | _, _, .non => .non
  | _, _, .bl b => .bl b
  | _, _, .int i => .int i
  | _, _, .str x => .str x
  | _, _, .dct h => .dct (e _ _ h)
  | _, _, .lst hs ha => .lst (sl_mono e hs) (dxa_mono e ha)
  | _, _, .tup hs ha => .tup (st_mono e hs) (dxa_mono e ha)
theorem dxa_mono {K : PySem.W.Frag} {M M' : Hp} (e : Same M M') : ∀ {vs : List V} {ds : List PyData}, DxAll K M vs ds → DxAll K M' vs ds
  | _, _, .nil => .nil
  | _, _, .cons h t => .cons (dx_mono e h) (dxa_mono e t)
end
mutual
theorem dx_of {K : PySem.W.Frag} {M : Hp} : ∀ {v : V} {d : PyData}, Dp K M v d → Dx K M v d
  | _, _, .non => .non
  | _, _, .bl b => .bl b
  | _, _, .int i => .int i
  | _, _, .str x => .str x
  | _, _, .lst hs ha => .lst hs (dxa_of ha)
  | _, _, .tup hs ha => .tup hs (dxa_of ha)
theorem dxa_of {K : PySem.W.Frag} {M : Hp} : ∀ {vs : List V} {ds : List PyData}, DpAll K M vs ds → DxAll K M vs ds
  | _, _, .nil => .nil
  | _, _, .cons h t => .cons (dx_of h) (dxa_of t)
end
abbrev DxR (K : PySem.W.Frag) : Rl PyData := fun d M v => Dx K M v d
instance {K : PySem.W.Frag} : Mon (DxR K) := ⟨fun e h => dx_mono e h⟩
section
end
section
end
section
end
end L3

set_option Elab.async false
set_option linter.all false
set_option maxRecDepth 100000
set_option maxHeartbeats 2000000
namespace L3
open PySem PySem.Spec PyProof.Rows PySem.Calls L2
/-! raise X(): an own exception class without __init__ -/
section
variable {X : Cx} {C : Addr} {bmB : List Value} {B newId initId : String}
theorem pmk_own0 {x : Str} {p pos : Pos} (F : ExcBaseFacts B newId initId bmB) (q : PySem.W.excIn X.K C bmB newId = true) (gC : X.mg x = some (.ref C)) (kC : PySem.W.keepIn X.K (.ref C) = true) (r : Raises X (.ref C)) (hg : Gl X x)
    (hdb : (x == ("__debug__" : Str)) = false := by decide) : PMk X (.Call (.Name x p) [] [] pos) (fun _ H Q => Q (.ref C) none H) := by
  intro pins s σ H Q I h
  refine wpAny_Call_Name_kw (ld_glob I hg gC ?_ hdb)
  refine PySem.W.callWith_K0 I.kIn kC ?_
  show wpAny _ _ (call (.ref C) []) _ _ _
  obtain ⟨bm, N, nm, qn, bs, hdct, sn, sub, ab, col, dd, k0, k1, k2, k3, k5, mN, hC, hN, hni, T⟩ := exc_obj I.kIn q
  refine wpAny_call_exc_subT F T hC hN hni (fun h' e hm => ?_) (Nat.zero_le _)
  exact mk_of I hm r h (I.hok.gone hm.new)
end
/-- what the written part says of such a class -/
structure RawC (K : PySem.W.Frag) (mg : Str → Option Value) (x : Str) (C : Addr) : Prop where
  gl : mg x = some (.ref C)
  kC : PySem.W.keepIn K (.ref C) = true
  q : PySem.W.excIn K C PySem.HandSPX.veTail "ValueError.__new__" = true
  s : PySem.W.subIn K (.ref C) (.type "BaseException") = some true
  t : PySem.W.typeIn K (.ref C) = some (.type "type")
def tRaw (C : Addr) (W : WX) : TS := fun _ σ H => W (.ref C) none σ H
theorem ps_raw {X : Cx} {W : WX} {x : Str} {C : Addr} {p p2 p3 : Pos} (R : RawC X.K X.mg x C) (hc : X.calm = true) (tk : Takes X W) (hg : Gl X x := by rfl) (hdb : (x == ("__debug__" : Str)) = false := by decide) : PS X (.Raise (some (.Call (.Name x p) [] [] p2)) none p3) (tRaw C W) :=
  ps_raise hc tk (pmk_own0 PySem.F.excBase_ValueError R.q R.gl R.kC (raises_own R.s R.t) hg hdb)
/-! == of two dicts with the same three keys -/
end L3

set_option Elab.async false
set_option linter.all false
set_option maxRecDepth 100000
set_option maxHeartbeats 1000000
namespace L3
open PySem PySem.Spec PyProof.Rows L2
/-- None in d, d a dict of ours -/
def rInN : R2 := fun x y H Q => x = .non ∧ ∃ a kvs, y = .ref a ∧ Rd H a (.dK kvs) ∧ Q (.bl false) H
section
variable {X : Cx}
theorem op_inN : OpR X (compareOp .In) rInN := by
  intro pins s σ H x y v u Q I rx ry ⟨ex, a, kvs, ey, g, q⟩
  subst ex ey
  cases ry
  cases rx
  exact d_inNone I g fun s' I' => ⟨.bl false, H, I', rfl, q⟩
end
end L3

set_option Elab.async false
set_option linter.all false
set_option maxRecDepth 100000
set_option maxHeartbeats 1000000
namespace L3
open PySem PySem.Spec PyProof.Rows L2 LamX
/-! the law's own end, several tables of code objects tracked from the start, empty (C39 for more than one) -/
def scrTs (K : PySem.W.Frag) (a : Addr) (vs : List Value) (xs : List V) (Pt : List Addr) : Hp := fun b => if b ∈ Pt then some (.tbl #[]) else scrH K a vs xs b
section
variable {K : PySem.W.Frag} {a b : Addr} {Pt : List Addr} {vs : List Value} {xs : List V}
theorem scrTs_at (n : b ∈ Pt) : scrTs K a vs xs Pt b = some (.tbl #[]) := if_pos n
theorem scrTs_off (n : b ∉ Pt) : scrTs K a vs xs Pt b = scrH K a vs xs b := if_neg n
/-- what is known at the start: all but the table -/
theorem start_laws {H : Hp} {ns : List Int} (hP : ∀ b ∈ Pt, H b = some (.tbl #[])) (hs : SqL K H a (ns.map V.int)) (only : ∀ b qs, H b = some (.tbl qs) → b ∈ Pt) : ∃ M : Hp, L2.Same M H ∧ SqR K It' ns M (.ref a) ∧ (∀ b ∈ Pt, M b = none) ∧ ∀ b qs, M b ≠ some (.tbl qs) := by
  refine ⟨fun b => if b ∈ Pt then none else H b, fun b o e => ?_, ?_, fun b n => if_pos n, fun b qs e => ?_⟩
  · have e : (if b ∈ Pt then none else H b) = some o := e
    by_cases n : b ∈ Pt
    · rw [if_pos n] at e; cases e
    · rw [if_neg n] at e; exact e
  · have at_a : ∀ o, H a = some o → (∀ qs, o ≠ .tbl qs) → (fun b => if b ∈ Pt then none else H b) a = some o := fun o e no => by
      have n : a ∉ Pt := fun z => by rw [hP a z] at e; exact no _ (Option.some.inj e).symm
      show (if a ∈ Pt then none else H a) = some o
      rw [if_neg n]; exact e
    refine .inl ⟨a, _, rfl, ?_, pd_of_it ns⟩
    rcases hs with (h | ⟨o, h⟩) | h
    · exact .inl (.inl (at_a _ h (by intro qs z; cases z)))
    · exact .inl (.inr ⟨o, at_a _ h (by intro qs z; cases z)⟩)
    · exact .inr h
  · have e : (if b ∈ Pt then none else H b) = some (.tbl qs) := e
    by_cases n : b ∈ Pt
    · rw [if_pos n] at e; cases e
    · rw [if_neg n] at e; exact n (only b qs e)
end
theorem walk_GTs {l : PySem.W.OpenLaw} {n k : Nat} {q : Program} {loose : List Str} {XP : (Str → Option Value) → Heap → Prop} {YP : World → Heap → Prop} {d : DefRec} {sp : PySem.W.Frag → List (Addr × Addr) → Sp} {x : Str} (hn : l.most = some n) (hn2 : n ≤ sizeLine) (hdf : d.params.defaults = [])
    (hr : Room k callerA) (F : ∀ (w : World) (mg : Str → Option Value) (fa : Addr) (h : Heap), YP w h → h.Ns mainGlobals mg → mg d.name = some (.ref fa) → ∃ (K : PySem.W.Frag) (fd : FuncData) (cs : List (Addr × Addr)), K.In h ∧ (∀ p ∈ cs, PySem.W.codeHdIn K p.1 p.2 = true ∧ K.lookup p.2 = none ∧ h.get? p.2 = some { cls := .none, data := .fields #[] }) ∧
      (∀ (s : Shared) (u : Value), BindsTo s fd ⟨[u], []⟩ [(x, u)]) ∧ ∀ base : Heap, K.In base → base.Ns mainGlobals mg → (∀ p ∈ cs, TabB base mg p.1 p.2) → FnG l.prog w K mg base CX0 k fa fd [x] (sp K cs))
    (hsp : ∀ (K : PySem.W.Frag) (cs : List (Addr × Addr)) (H : Hp) (a : Addr) (ns : List Int), ns.length ≤ n → (∀ z ∈ ns, Builtin.Int.intBits z ≤ 1048576) → (∀ p ∈ cs, H p.2 = some (.tbl #[])) → SqL K H a (ns.map V.int) → (∀ b qs, H b = some (.tbl qs) → b ∈ cs.map (·.2)) → sp K cs [.ref a] H (fun v _ => v = .bl true) fun _ _ _ => False) : PySem.W.WalkO q loose XP YP l.row.toRowW d [] (fun f vs => PySem.call f vs) := by
  apply Att.attach_callB hn hdf
  intro w s0 s mg mb fa o pm cd doc a vs ns G Y ho hd hcd hmg hobj hints hlen hbits hgens
  obtain ⟨K, fd, cs, KX, hall, bind, hF⟩ := F w mg fa _ Y G.T.g hmg
  have isP : ∀ {b : Addr}, b ∈ cs.map (·.2) → ∃ p ∈ cs, p.2 = b := fun h => List.mem_map.mp h
  have hPK : ∀ b ∈ cs.map (·.2), K.lookup b = none := fun b h => by obtain ⟨p, hp, e⟩ := isP h; rw [← e]; exact (hall p hp).2.1
  have hPt : ∀ b ∈ cs.map (·.2), s.heap.get? b = some { cls := .none, data := .fields #[] } := fun b h => by obtain ⟨p, hp, e⟩ := isP h; rw [← e]; exact (hall p hp).2.2
  have memP : ∀ p ∈ cs, p.2 ∈ cs.map (·.2) := fun p hp => List.mem_map_of_mem hp
  generalize eP : cs.map (·.2) = Pt at *
  have rv := vals_ints hints
  have hz : (ns.map V.int).length ≤ sizeLine := by rw [List.length_map]; exact Nat.le_trans hlen hn2
  have hobj : s.heap.get? a = some (scrO vs) := hobj
  have aP : a ∉ Pt := fun z => by
    have hPt := hPt a z
    rw [hobj] at hPt
    cases (show Data.seq vs.toArray _ = Data.fields #[] from congrArg Obj.data (Option.some.inj hPt))
  -- what stands in s and is neither the table nor the script is seen
  have free : ∀ {b : Addr} {ob : Obj}, s.heap.get? b = some ob → ob ≠ { cls := .none, data := .fields #[] } → (scrH K a vs (ns.map V.int) b = none) → (hidT s.heap (scrTs K a vs (ns.map V.int) Pt)).get? b = some ob := fun {b ob} e h1 h2 => hidT_get e (by
    have nb : b ∉ Pt := fun z => by rw [hPt b z] at e; exact h1 (Option.some.inj e).symm
    rw [scrTs_off nb]; exact h2)
  have noscr : ∀ {b : Addr} {ob : Obj}, s.heap.get? b = some ob → (∀ its m, ob.data ≠ .seq its m) → scrH K a vs (ns.map V.int) b = none := fun {b ob} e h1 => by
    cases z : scrH K a vs (ns.map V.int) b with
    | none => rfl
    | some u =>
      rw [(scrH_some z).1, hobj] at e
      cases e
      exact (h1 _ _ rfl).elim
  have KB : K.In (hidT s.heap (scrTs K a vs (ns.map V.int) Pt)) := fun b ob e => hidT_get (KX b ob e) (by
    have nb : b ∉ Pt := fun z => by rw [hPK b z] at e; cases e
    rw [scrTs_off nb]
    cases z : scrH K a vs (ns.map V.int) b with
    | none => rfl
    | some u =>
      have z2 := scrH_some z
      rw [z2.1, z2.2.1] at e
      cases e)
  have NS : ∀ b m, s.heap.Ns b m → (hidT s.heap (scrTs K a vs (ns.map V.int) Pt)).Ns b m := fun b m ⟨ob, es, ep, e, dd, r⟩ => ⟨ob, es, ep, free e (fun z => by rw [z] at dd; cases dd) (noscr e fun its m z => by rw [dd] at z; cases z), dd, r⟩
  have hok : HOk l.prog w (scrTs K a vs (ns.map V.int) Pt) s.heap := fun b u e => by
    by_cases nb : b ∈ Pt
    · rw [scrTs_at nb] at e
      cases e
      exact hPt b nb
    · rw [scrTs_off nb] at e
      obtain ⟨e1, _, e3⟩ := scrH_some e
      subst e1 e3
      exact ⟨hobj, hz, vs, _, rv, hobj⟩
  have gP : mainGlobals ∉ Pt := fun z => by
    obtain ⟨ob, es, ep, e, dd, _⟩ := G.T.g
    rw [hPt _ z] at e
    cases e
    cases dd
  have bm : ∀ P1 ∈ Pt, (hidT s.heap (scrTs K a vs (ns.map V.int) Pt)).BuiltinsAt mg P1 := fun P1 hP1 => by
    obtain ⟨bm, ob, b1, b2, b3, b4, b5, b6⟩ := G.T.bmain
    refine ⟨bm, ob, b1, b2, fun z => ?_, fun z => ?_, free b3 (fun z => by rw [z] at b6; cases b6) (noscr b3 fun its m z => by rw [b6] at z; cases z), b4, b5, b6⟩
    · obtain ⟨o2, es, ep, e, dd, _⟩ := G.T.g
      rw [← z, b3] at e
      cases e
      rw [b6] at dd
      cases dd
    · rw [z, hPt P1 hP1] at b3
      cases b3
      cases b6
  have ⟨mc, l1, l2⟩ := G.T.nolimit
  have env : Env0 l.prog w K mg (hidT s.heap (scrTs K a vs (ns.map V.int) Pt)) callerA [] s (scrTs K a vs (ns.map V.int) Pt) :=
    ⟨rfl, ⟨KB, NS _ _ G.T.g, ⟨mb, NS _ _ G.T.b, G.T.builtins⟩, ⟨mc, NS _ _ l1, l2⟩⟩, fun b o e => of_hidT e, Nat.le_of_eq (hidT_size _ _), trivial, nofun, hok, .of_eq hgens⟩
  have sq : SqL K (scrTs K a vs (ns.map V.int) Pt) a (ns.map V.int) := sl_mono (fun b u e => by
    have nb : b ∉ Pt := fun z => aP ((scrH_some e).1 ▸ z)
    rw [scrTs_off nb]; exact e) (scrH_sq KX hobj rv hz)
  have only : ∀ b qs, scrTs K a vs (ns.map V.int) Pt b = some (.tbl qs) → b ∈ Pt := fun b qs e => by
    by_cases nb : b ∈ Pt
    · exact nb
    · rw [scrTs_off nb] at e
      cases (scrH_some e).2.2
  refine codeAny_mono ((hF _ KB (NS _ _ G.T.g) (fun p hp => ⟨PySem.W.codeHd_of_K KB (hall p hp).1, bm _ (memP p hp), fun z => gP (z ▸ memP p hp)⟩)).run callerA [] s _ ⟨[.ref a], []⟩ [.ref a] [.ref a] _ _ rfl hr env (bind _ _) (.cons rfl .nil) (hsp _ _ _ a ns hlen hbits (fun p hp => scrTs_at (memP p hp)) sq (by rw [eP]; exact only))) ?_
  intro r s1 h
  match r, h with
  | .ok (.ret u), h =>
    have ⟨v, H1, os, bare, un, hok1, ru, ev⟩ := h
    have e1 : v = .bl true := ev
    subst e1
    cases (show u = Value.bool true from ru)
    have grown : ∀ P1 ∈ Pt, ∃ more, s1.heap.get? P1 = some { cls := .none, data := .fields more } := fun P1 hP1 => by
      obtain ⟨more, hm⟩ := un.tbls P1 #[] (scrTs_at hP1)
      have z := hok1 P1 _ hm
      rw [Array.empty_append] at z
      exact ⟨more, z⟩
    have kept : ∀ b ob, b ∉ Pt → s.heap.get? b = some ob → s1.heap.get? b = some ob := fun b ob nb e => by
      cases z : scrTs K a vs (ns.map V.int) Pt b with
      | none => exact un.keep b ob e z nofun nofun
      | some y =>
        have z0 := z
        rw [scrTs_off nb] at z0
        have hy := scrH_some z0
        rw [hy.2.2] at z
        have now := (hok1 b _ (un.frzs b _ _ z)).1
        rw [hy.1, hobj] at e
        cases e
        exact now
    refine ⟨rfl, ⟨fun b ob e => ?_, fun b ob e => ?_⟩, os, bare⟩
    · by_cases nb : b ∈ Pt
      · have hb := hPt b nb
        rw [hb] at e
        cases e
        obtain ⟨more, gr⟩ := grown b nb
        obtain ⟨p, hp, ep⟩ := isP nb
        subst ep
        exact .inr (.inl ⟨((PySem.W.codeHd_of_K KX (hall p hp).1).tab hb).isCodeTable, rfl, #[], more, rfl, by rw [Array.empty_append]; exact gr⟩)
      · exact .inl (kept b ob nb e)
    · by_cases nb : b ∈ Pt
      · exact ⟨_, (grown b nb).choose_spec⟩
      · exact ⟨ob, kept b ob nb e⟩
end L3

set_option Elab.async false
set_option linter.all false
set_option maxRecDepth 100000
set_option maxHeartbeats 1000000
namespace L3
open PySem PySem.Spec PyProof.Rows L2 LamX
/-! lambdas where several tables of code objects are looked after -/
theorem pe_lamTs {X : Cx} {T : List (Addr × Str)} {TT : (XK → Hp → VK → Prop) → Hp → VK → Prop} {x a : Str} {g c P : Addr} {k : Nat} {fd : FuncData} {st : Stmt} {Ng : List Str} {params : Arguments} {body : Expr} {scope : Scope} {t : XK → TE} {p lpos pos : Pos}
    (F : Fun X.K x x st g fd) (hm : X.mg x = some (.ref g)) (hb : L2.Binds X.K fd [a] []) (Sg : FnScope Ng [a] (defScope st)) (hNg : Ng[0]? = some a) (hva : Vis (defScope st) a)
    (hG : ∀ cdv, GivesTo X Ng x (defScope st) g cdv (defBody st) a (X.env.qual ++ "<lambda>") TT) (TB : TabB X.base X.mg c P) (hcode : X.env.code = .ref c) (hmT : (P, X.env.qual ++ "<lambda>") ∈ T) (hu : ∀ p ∈ T, p.1 = P → p.2 = X.env.qual ++ "<lambda>") (hr : Room (k + 2) X.A) (L : LamS X.env.scope scope)
    (hbody : ∀ (A : Around) (outer : List Env) (s : Shared) (H : Hp) (E : XK) (f c' : Addr), Room k (A.deeper (lamEnv X scope s.heap.objs.size f c')) → PE (lamCx X A outer s H E scope f c') body (t E))
    (hg : Gl X x := by rfl) (hdef : defaultsOf params X.env = ([], []) := by rfl) (hbind : ∀ (q : Str) (cl : List (Str × Addr)) (pm cv ctv : Value), bindArgs (PySem.W.kla_fn "<lambda>" q params body scope cl pm cv ctv) ⟨[], []⟩ = pure [] := by intros; rfl)
    (hdb : (x == ("__debug__" : Str)) = false := by decide) (hd : (a == ("__debug__" : Str)) = false := by decide) (hcd : (a == ("__classdict__" : Str)) = false := by decide) :
    PE X (.Call (.Name x p) [.Lambda params body scope lpos] [] pos) (tLam T TT t) := by
  obtain ⟨oc, od, kV, doc, pm, an, cdv, ct, osl, efd, lk, hc⟩ := F.ex
  subst efd
  exact pe_lamcall hg hm F.kp lk hc hb Sg hNg hva (hG cdv) TB hcode hmT hu hr L hdef hbind hbody hdb hd hcd
/-- what is known, beside tables -/
structure LTs (T : List (Addr × Str)) (M H : Hp) : Prop where
  mh : Same M H
  tb : Tabs T H
  mp : ∀ p ∈ T, M p.1 = none
  nt : ∀ a ps, M a ≠ some (.tbl ps)
section
variable {T : List (Addr × Str)} {M H M' H' : Hp} {σ : Sl} {P : Pr}
theorem LTs.step (L : LTs T M H) (g : Gr M H M' H') : LTs T M' H' := ⟨g.mh, fun p hp => (L.tb p hp).ext g.hh, fun p hp => by
  obtain ⟨ps, h, _⟩ := L.tb p hp
  exact g.keep (L.mp p hp) h, fun a ps e => L.nt a ps (g.nt a ps e)⟩
theorem LTs.idle (L : LTs T M H) (hh : Same H H') : LTs T M H' := L.step (.idle L.mh hh)
theorem LTs.lent {bs : List Addr} (L : LTs T M H) (hb : ∀ b ∈ bs, ∃ vs, H b = some (.lst vs)) : LTs T (withT M H bs) H := by
  refine ⟨lentS L.mh, L.tb, fun p hp => ?_, fun a ps e => ?_⟩
  · unfold withT
    rw [L.mp p hp]
    have np : p.1 ∉ bs := fun z => by
      obtain ⟨vs, h⟩ := hb _ z
      obtain ⟨ps, h2, _⟩ := L.tb p hp
      rw [h] at h2
      cases h2
    simp [np]
  · unfold withT at e
    cases z : M a with
    | some u =>
      rw [z] at e
      cases e
      exact L.nt a ps z
    | none =>
      rw [z] at e
      by_cases y : a ∈ bs
      · obtain ⟨vs, h⟩ := hb a y
        simp [y, h] at e
      · simp [y] at e
/-- the lambda's reading, then what follows; all but the tables stays -/
theorem lam_stepT {TT : (XK → Hp → VK → Prop) → Hp → VK → Prop} {t : XK → TE} (L : LTs T M H) (h : Gv (fun σ H Q => TT (fun E H' Q' => t E σ H' Q') H Q) σ M P) {Q : VK}
    (go : ∀ v M' H1 H', LTs T M H1 → ExtN H H1 → Gr M H1 M' H' → P M' v → Q v H') : tLam T TT t σ H Q :=
  ⟨L.tb, fun H1 eN T1 => by
    have m1 : Same M H1 := fun x o e => eN x o (L.mh x o e) fun ps z => L.nt x ps (z ▸ e)
    exact h H1 m1 Q fun v M' H' g p => go v M' H1 H' ⟨m1, T1, L.mp, L.nt⟩ eN g p⟩
end
end L3

set_option Elab.async false
set_option linter.all false
set_option maxRecDepth 100000
set_option maxHeartbeats 8000000
namespace My
open PySem PySem.Spec PyProof.Rows L2 L3
/-! following from the keys of a dict -/
section
end
section
end
end My

set_option Elab.async false
set_option linter.all false
set_option maxRecDepth 100000
set_option maxHeartbeats 8000000
namespace My
open PySem PySem.Spec PyProof.Rows L2 L3
/-! somebody who is led -/
structure LedT (K : PySem.W.Frag) (CL : Addr) : Prop where
  cl : Cls K CL
  nK : NoAttr K CL "kept"
  nP : NoAttr K CL "put_row"
  nM : NoAttr K CL "moments"
abbrev ledF (vc : V) (p q : Addr) : List (Str × V) := [("kept", vc), ("put_row", .ref p), ("moments", .ref q)]
structure LedD where
  c : CodeD
  ls : List Str
  ss : List (Option (List Str))
  o : Option (List Str)
/-- somebody led, all of him known -/
def LedR (CL C : Addr) : Rl LedD := fun d M v => ∃ x dx vc p q ms, v = .ref x ∧ M x = some (.ins CL dx (ledF vc p q)) ∧ CodeR C d.c M vc ∧ M p = some (.lst (d.ls.map V.str)) ∧ M q = some (.lst ms) ∧ Pd (OpR' DcF) M (d.ss ++ [d.o]) ms
instance {CL C : Addr} : Mon (LedR CL C) := ⟨fun e ⟨x, dx, vc, p, q, ms, h1, h2, h3, h4, h5, h6⟩ => ⟨x, dx, vc, p, q, ms, h1, e _ _ h2, Mon.mono e h3, e _ _ h4, e _ _ h5, h6.mono e⟩⟩
theorem atI_lastD {α : Type} (xs : List α) (x : α) : atI (xs ++ [x]) (-1) = some x := by
  have h : ixN (xs ++ [x]).length (-1) = some xs.length := by
    unfold ixN
    rw [List.length_append]
    simp only [List.length_cons, List.length_nil]
    rw [if_neg (by omega), if_pos (by omega)]
    congr 1
    omega
  unfold atI
  rw [h]
  show (xs ++ [x])[xs.length]? = some x
  rw [List.getElem?_append_right (Nat.le_refl _), Nat.sub_self]
  rfl
section
variable {K : PySem.W.Frag} {σ : Sl} {M : Hp} {te to t : TE} {CL C : Addr} {d : LedD}
theorem gv_minusD : Gv (tUn (rU fun i => .int (-i)) (tC (.int 1))) σ M (It' (-1)) := fun H mh Q q => ⟨1, rfl, q (.int (-1)) M H (.refl mh) rfl⟩
theorem gv_kept (T : LedT K CL) (h : Gv te σ M (LedR CL C d)) : Gv (tFld K te "kept") σ M (CodeR C d.c) := gv_fld h fun M' v ⟨x, dx, vc, p, q, ms, h1, h2, h3, h4, h5, h6⟩ => ⟨x, CL, dx, _, _, h1, h2, T.cl, T.nK, rfl, h3⟩
theorem gv_putrow (T : LedT K CL) (h : Gv te σ M (LedR CL C d)) : Gv (tFld K te "put_row") σ M (LiR Tx d.ls) := gv_fld h fun M' v ⟨x, dx, vc, p, q, ms, h1, h2, h3, h4, h5, h6⟩ => ⟨x, CL, dx, _, .ref p, h1, h2, T.cl, T.nP, rfl, ⟨p, _, rfl, h4, pd_of_tx _⟩⟩
theorem gv_moments (T : LedT K CL) (h : Gv te σ M (LedR CL C d)) : Gv (tFld K te "moments") σ M (LiR (OpR' DcF) (d.ss ++ [d.o])) := gv_fld h fun M' v ⟨x, dx, vc, p, q, ms, h1, h2, h3, h4, h5, h6⟩ => ⟨x, CL, dx, _, .ref q, h1, h2, T.cl, T.nM, rfl, ⟨q, ms, rfl, h5, h6⟩⟩
theorem gv_lastM (T : LedT K CL) (h : Gv te σ M (LedR CL C d)) : Gv (tOp (rIxX K) (tFld K te "moments") (tUn (rU fun i => .int (-i)) (tC (.int 1)))) σ M (OpR' DcF d.o) := gv_ix (K := K) (R := OpR' DcF) (gv_is (gv_moments T h) fun _ _ h => LiR.sq h) gv_minusD (atI_lastD _ _)
theorem insR_led {m : Str} (h1 : ¬ m = ("kept" : Str)) (h2 : ¬ m = ("put_row" : Str)) (h3 : ¬ m = ("moments" : Str)) : InsR CL m (LedR CL C d) := fun M v ⟨x, dx, vc, p, q, ms, e, h, _⟩ => ⟨x, dx, _, e, h, by
  show List.lookup m [("kept", vc), ("put_row", V.ref p), ("moments", V.ref q)] = none
  simp [List.lookup, h1, h2, h3, beq_eq_false_iff_ne.mpr h1, beq_eq_false_iff_ne.mpr h2, beq_eq_false_iff_ne.mpr h3]⟩
end
section
variable {P : Program} {w : World} {K : PySem.W.Frag} {mg : Str → Option Value} {base : Heap}
/-- Code.fill of what is so -/
structure FillP (c : CodeD) (so : List Str) : Prop where
  x : Ctx c.names c.clauses so
  w : ChW c.clauses
  n : (opn c.names so).length < 5
abbrev s_Led_is_dead : Stmt := inClass (topS 27) 1
theorem sc_Led_is_dead : FnScope ["self"] ["self"] (defScope s_Led_is_dead) := ⟨rfl, rfl, rfl, by decide +kernel, rfl, by decide +kernel, by decide +kernel⟩
def sp_Led_is_dead (K : PySem.W.Frag) (CL C : Addr) : Sp := sp1 (LedR CL C) (fun _ => True) fun d => Bl d.o.isNone
theorem ok_Led_is_dead {f CL C : Addr} {fd : FuncData} (F : Fun K "is_dead" "Led.is_dead" s_Led_is_dead f fd) (TL : LedT K CL) : FnOk P w K mg base CX0 1 f fd ["self"] (sp_Led_is_dead K CL C) := by
  refine F.ok sc_Led_is_dead (fun vs H Q E h => ?_) (fun cdv A outer s H vs Q E hr h => ?_)
  · obtain ⟨x, M, v, rfl, _⟩ := h
    rfl
  · obtain ⟨d, M, v, rfl, mh, r1, _, q⟩ := h
    have hu := hr.units
    refine ⟨_, (pss_one (ps_ret (pe_cmp (pc_isN (pe_ix ix_X (pe_fld (pv 0) rfl) (pe_un un_neg pe_int) (fun _ _ => rfl)))))), ?_⟩
    exact s_ret mh (gv_isN (b := d.o.isNone) (gv_lastM (K := K) TL (gv_var rfl r1)) fun M v h => opD_non h) q
theorem gv_isdead {σ : Sl} {M : Hp} {CL C : Addr} {d : LedD} {te : TE} (h : Gv te σ M (LedR CL C d)) : Gv (tMeth CL "is_dead" (sp_Led_is_dead K CL C) [] E0 te tNil) σ M (Bl d.o.isNone) :=
  gv_met1 (R1 := LedR CL C) (pre := fun _ => True) (R := fun d => Bl d.o.isNone) (insR_led (by decide +kernel) (by decide +kernel) (by decide +kernel)) h trivial
structure StuckP (d : LedD) : Prop where
  nm : NmL d.c.signs
  f : ∀ so, d.o = some so → (∀ n ∈ d.c.signs, n ∈ so ∨ opp n ∈ so) → FillP d.c so
end
end My

set_option Elab.async false
set_option linter.all false
set_option maxRecDepth 100000
set_option maxHeartbeats 8000000
namespace My
open PySem PySem.Spec PyProof.Rows L2 L3
/-! somebody led who changes: two lists of somebody else's -/
section
variable {bs : List Addr} {M H M' H' M2 H2 : Hp} {p q : Addr} {o u : HO} {vs ws : List V}
theorem cutS_same (mh : Same M (delS H bs)) : Same M H := fun x o e => by
  have := mh x o e
  by_cases z : x ∈ bs
  · rw [delS_off z] at this; cases this
  · rw [delS_on z] at this; exact this
theorem Gr.cutS (g : Gr M H M' H') (hn : ∀ b ∈ bs, M b = none) (ht : ∀ b ∈ bs, ∃ o, H b = some o ∧ ∀ xs, o ≠ HO.tup xs) : Gr M (delS H bs) M' (delS H' bs) := by
  have nb' : ∀ {x o}, M' x = some o → x ∉ bs := fun {x o} e z => by
    obtain ⟨u, hu, nt⟩ := ht x z
    rw [g.keep (hn x z) hu nt] at e
    cases e
  refine ⟨g.mm, fun x o e => ?_, fun x o e => ?_, fun x o e => ?_, g.nt⟩
  · by_cases z : x ∈ bs
    · rw [delS_off z] at e; cases e
    · rw [delS_on z] at e ⊢; exact g.hh _ _ e
  · rw [delS_on (nb' e)]; exact g.mh _ _ e
  · rcases g.nw x o e with h | h | h
    · exact .inl h
    · exact .inr (.inl (by rw [delS_on (nb' e)]; exact h))
    · exact .inr (.inr h)
theorem delS_upd (h : p ∈ bs) : delS (upd H p o) bs = delS H bs := by
  funext x
  by_cases z : x ∈ bs
  · rw [delS_off z, delS_off z]
  · rw [delS_on z, delS_on z, upd_ne (fun (e : x = p) => z (e ▸ h))]
theorem Gr.delB (g : Gr M H M' H') : Gr (delS M bs) (delS H bs) (delS M' bs) (delS H' bs) := by
  refine ⟨fun x o e => ?_, fun x o e => ?_, fun x o e => ?_, fun x o e => ?_, fun x ps e => ?_⟩ <;> by_cases z : x ∈ bs
  · rw [delS_off z] at e; cases e
  · rw [delS_on z] at e ⊢; exact g.mm _ _ e
  · rw [delS_off z] at e; cases e
  · rw [delS_on z] at e ⊢; exact g.hh _ _ e
  · rw [delS_off z] at e; cases e
  · rw [delS_on z] at e ⊢; exact g.mh _ _ e
  · rw [delS_off z] at e; cases e
  · rw [delS_on z] at e
    rw [delS_on z, delS_on z]
    exact g.nw _ _ e
  · rw [delS_off z] at e; cases e
  · rw [delS_on z] at e ⊢; exact g.nt _ _ e
theorem delS_none {x : Addr} (h : x ∈ bs) (mh : Same M (delS H bs)) : M x = none := by
  cases e : M x with
  | none => rfl
  | some o => have := mh x o e; rw [delS_off h] at this; cases this
theorem delS_two (hp : M p = none) (hq : M q = none) : delS (upd (upd M p o) q u) [p, q] = M := by
  funext x
  by_cases z : x ∈ [p, q]
  · rw [delS_off z]
    simp only [List.mem_cons, List.not_mem_nil, or_false] at z
    rcases z with rfl | rfl
    · exact hp.symm
    · exact hq.symm
  · rw [delS_on z]
    simp only [List.mem_cons, List.not_mem_nil, or_false, not_or] at z
    rw [upd_ne z.2, upd_ne z.1]
theorem lent_two (mh : Same M (delS H [p, q])) (hp : H p = some o) (hq : H q = some u) : Same (upd (upd M p o) q u) H := same_lent (same_lent (cutS_same mh) hp) hq
/-- two lists of somebody else's, while we make new things -/
structure TwoAt (M H M' H' : Hp) (p q : Addr) (vs ws : List V) : Prop where
  g : Gr M (delS H [p, q]) M' (delS H' [p, q])
  ne : p ≠ q
  hp : H' p = some (.lst vs)
  hq : H' q = some (.lst ws)
theorem TwoAt.mh (t : TwoAt M H M' H' p q vs ws) : Same M' H' := cutS_same t.g.mh
theorem TwoAt.mp (t : TwoAt M H M' H' p q vs ws) : M' p = none := delS_none (by simp) t.g.mh
theorem TwoAt.mq (t : TwoAt M H M' H' p q vs ws) : M' q = none := delS_none (by simp) t.g.mh
theorem TwoAt.step (t : TwoAt M H M' H' p q vs ws) (g : Gr M' H' M2 H2) : TwoAt M H M2 H2 p q vs ws :=
  ⟨t.g.trans (Gr.cutS g (fun b hb => by
    simp only [List.mem_cons, List.not_mem_nil, or_false] at hb
    rcases hb with rfl | rfl
    · exact t.mp
    · exact t.mq) fun b hb => by
    simp only [List.mem_cons, List.not_mem_nil, or_false] at hb
    rcases hb with rfl | rfl
    · exact ⟨_, t.hp, fun xs z => by cases z⟩
    · exact ⟨_, t.hq, fun xs z => by cases z⟩), t.ne, g.hh _ _ t.hp, g.hh _ _ t.hq⟩
theorem TwoAt.putp {vs' : List V} (t : TwoAt M H M' H' p q vs ws) : TwoAt M H M' (upd H' p (.lst vs')) p q vs' ws := ⟨by rw [delS_upd (by simp)]; exact t.g, t.ne, upd_same, by rw [upd_ne (Ne.symm t.ne)]; exact t.hq⟩
theorem TwoAt.putq {ws' : List V} (t : TwoAt M H M' H' p q vs ws) : TwoAt M H M' (upd H' q (.lst ws')) p q vs ws' := ⟨by rw [delS_upd (by simp)]; exact t.g, t.ne, by rw [upd_ne t.ne]; exact t.hp, upd_same⟩
/-- what was told while both were known -/
theorem TwoAt.ofKnown (mh : Same M (delS H [p, q])) (ne : p ≠ q) (hp : H p = some (.lst vs)) (hq : H q = some (.lst ws)) (g : Gr (upd (upd M p (.lst vs)) q (.lst ws)) H M' H') : TwoAt M H (delS M' [p, q]) H' p q vs ws := by
  have h := Gr.delB (bs := [p, q]) g
  rw [delS_two (delS_none (by simp) mh) (delS_none (by simp) mh)] at h
  exact ⟨h, ne, g.hh _ _ hp, g.hh _ _ hq⟩
end
section
variable {K : PySem.W.Frag} {σ : Sl} {M H : Hp} {D : Ends} {te to ts tx : TE} {tz : TS}
theorem q_fldRaw {i : Nat} {f : Str} (h : te σ H fun y H1 => ∃ x, σ[i]? = some (some x) ∧ ∃ a C dx fs, x = .ref a ∧ H1 a = some (.ins C dx fs) ∧ Cls K C ∧ NoAttr K C f ∧ fs.length < 1000 ∧ tz D σ (upd H1 a (.ins C dx (putF f y fs)))) : tSeq (sFld K (tVar i) te f) tz D σ H := h
theorem s_fldRaw {i : Nat} {f : Str} (h : te σ H fun y H1 => ∃ x, σ[i]? = some (some x) ∧ ∃ a C dx fs, x = .ref a ∧ H1 a = some (.ins C dx fs) ∧ Cls K C ∧ NoAttr K C f ∧ fs.length < 1000 ∧ D.nx σ (upd H1 a (.ins C dx (putF f y fs)))) : sFld K (tVar i) te f D σ H := h
theorem q_appAtG {p : Addr} {vs : List V} {P : Pr} (mh : Same M H) (h : Gv to σ M fun _ v => v = .ref p) (hp : H p = some (.lst vs)) (hz : vs.length < sizeLine) (he : ∀ M1, Same M M1 → Gv te σ M1 P)
    (k : ∀ v M' H', Gr M H M' H' → P M' v → tz D σ (upd H' p (.lst (vs ++ [v])))) : tSeq (tDrop (tBM K "list" rAppend to (tCons te tNil))) tz D σ H := h H mh _ fun v M1 H1 g1 e => by
  subst e
  exact ⟨.inl ⟨rfl, vs, .inl (.inl (g1.hh _ _ hp))⟩, he M1 g1.mm H1 g1.mh _ fun v M' H' g r => ⟨p, vs, v, rfl, rfl, g.hh _ _ (g1.hh _ _ hp), hz, k v M' H' (g1.trans g) r⟩⟩
/-- xs.pop() -/
theorem t_popAt {p : Addr} {ws : List V} {w : V} {Q : VK} (mh : Same M H) (h : Gv to σ M fun _ v => v = .ref p) (hp : H p = some (.lst (ws ++ [w]))) (k : ∀ M' H', Gr M H M' H' → Q w (upd H' p (.lst ws))) : tBM0 K "list" rPop to σ H Q := h H mh _ fun v M1 H1 g1 e => by
  subst e
  refine ⟨.inl ⟨rfl, _, .inl (.inl (g1.hh _ _ hp))⟩, p, _, w, rfl, rfl, g1.hh _ _ hp, by simp, ?_⟩
  rw [List.dropLast_concat]
  exact k M1 H1 g1
instance {a : V} : Mono (fun (_ : Hp) (v : V) => v = a) := ⟨fun _ h => h⟩
theorem gv_fieldA {x C dx : Addr} {fs : List (Str × V)} {f : Str} {u : V} {i : Nat} (hi : σ[i]? = some (some (.ref x))) (hx : M x = some (.ins C dx fs)) (cl : Cls K C) (na : NoAttr K C f) (l : fs.lookup f = some u) : Gv (tFld K (tVar i) f) σ M fun _ v => v = u := gv_self hi hx cl na l rfl
/-- chase(clauses, setting)[0] -/
theorem gv_chase0 {ta tb : TE} {ns hs : List Str} {cs : List (List Str)} (h1 : Gv ta σ M (SqR K (SqR K Tx) cs)) (h2 : Gv tb σ M (SqR K Tx hs)) (X : Ctx ns cs hs) (hw : ChW cs) : Gv (tOp (rIxX K) (tCall (sp_chase K) [] E0 (tCons ta (tCons tb tNil))) (tC (.int 0))) σ M (fun M v => ∃ o, EndsOk ns cs hs o ∧ OpR' DcF o M v) := fun H mh Q q =>
  h1 H mh _ fun v1 M1 H1 g1 r1 => (h2.le g1.mm) H1 g1.mh _ fun v2 M2 H2 g2 r2 => by
    have hl : hs.length ≤ 1000000 := Nat.le_trans (lits_len X.h X.nm) (Nat.le_trans X.nm.n (by decide))
    refine ⟨cs, hs, M2, v1, v2, rfl, g2.mh, Mon.mono g2.mm r1, r2, ⟨hw.1, hw.2.1, hw.2.2, hl⟩, fun r t u p ws M4 H4 hch g4 hp0 hpm hpw hpd hru ht => ?_⟩
    have G := (g1.trans g2).trans g4
    rw [once_self (lits_nodup X.h)] at hch
    refine (gv_ix (K := K) (R := fun (x : V) (_ : Hp) v => v = x) (σ := σ) (M := M4) (ta := tC (.ref t)) (tb := tC (.int 0)) (xs := [u, .ref p]) (i := 0) (x := u) (gv_c (.inr ⟨t, _, rfl, .inl (.inl ht), .cons rfl (.cons rfl .nil)⟩)) (gv_c rfl) (atI_nat (j := 0) rfl)) H4 g4.mh Q fun z M5 H5 g5 e => ?_
    cases (show z = u from e)
    exact q u M5 H5 (G.trans g5) ⟨r.1, (chase_ok X hch (.init X) .nil).1, Mon.mono g5.mm hru⟩
end
theorem ends_put {ns : List Str} {cs : List (List Str)} {P so : List Str} {l : Str} {o : Option (List Str)} (X : Ctx ns cs P) (e : EndsOk ns cs P (some so)) (h : EndsOk ns cs (so ++ [l]) o) : EndsOk ns cs (P ++ [l]) o := by
  have a : ∀ y ∈ so ++ [l], Der cs (P ++ [l]) y := fun y hy => by
    rcases List.mem_append.mp hy with hy | hy
    · exact der_trans (fun z hz => .base (List.mem_append_left _ hz)) (e.2.2.snd y hy)
    · exact .base (List.mem_append_right _ hy)
  have b : ∀ y ∈ P ++ [l], Der cs (so ++ [l]) y := fun y hy => by
    rcases List.mem_append.mp hy with hy | hy
    · exact .base (List.mem_append_left _ (e.2.2.sub y hy))
    · exact .base (List.mem_append_right _ hy)
  cases o with
  | none => exact dead_trans a h
  | some s =>
    obtain ⟨h1, h2, h3⟩ := h
    refine ⟨fun d => h1 (dead_trans b d), fun x => (h2 x).trans ⟨fun d => der_trans a d, fun d => der_trans b d⟩, ?_⟩
    exact ⟨fun x hx => (h2 x).mpr (b x hx), fun x hx => der_trans a (h3.snd x hx), h3.lit, h3.con, h3.nd⟩
/-- somebody led as he stands, his two lists apart -/
structure LedH (CL C : Addr) (d : LedD) (x dx p q : Addr) (vc : V) (ms : List V) (M H : Hp) : Prop where
  x : M x = some (.ins CL dx (ledF vc p q))
  c : CodeR C d.c M vc
  ne : p ≠ q
  hp : H p = some (.lst (d.ls.map V.str))
  hq : H q = some (.lst ms)
  pd : Pd (OpR' DcF) M (d.ss ++ [d.o]) ms
  mh : Same M (delS H [p, q])
section
variable {CL C x dx p q : Addr} {d : LedD} {vc : V} {ms : List V} {M H : Hp}
theorem LedH.known (h : LedH CL C d x dx p q vc ms M H) : Same (upd (upd M p (.lst (d.ls.map V.str))) q (.lst ms)) H ∧ LedR CL C d (upd (upd M p (.lst (d.ls.map V.str))) q (.lst ms)) (.ref x) := by
  have mp : M p = none := delS_none (bs := [p, q]) (by simp) h.mh
  have mq : M q = none := delS_none (bs := [p, q]) (by simp) h.mh
  have up : Same M (upd (upd M p (.lst (d.ls.map V.str))) q (.lst ms)) := (same_new mp).trans (same_new (by rw [upd_ne (Ne.symm h.ne)]; exact mq))
  exact ⟨lent_two h.mh h.hp h.hq, x, dx, vc, p, q, ms, rfl, up _ _ h.x, Mon.mono up h.c, by rw [upd_ne h.ne, upd_same], upd_same, h.pd.mono up⟩
theorem LedH.up (h : LedH CL C d x dx p q vc ms M H) : Same M (upd (upd M p (.lst (d.ls.map V.str))) q (.lst ms)) := by
  have mp : M p = none := delS_none (bs := [p, q]) (by simp) h.mh
  have mq : M q = none := delS_none (bs := [p, q]) (by simp) h.mh
  exact (same_new mp).trans (same_new (by rw [upd_ne (Ne.symm h.ne)]; exact mq))
end
def HoldR (CL C x dx : Addr) (vc : V) (p q : Addr) (c : CodeD) : Pr := fun M v => v = .ref x ∧ M x = some (.ins CL dx (ledF vc p q)) ∧ CodeR C c M vc
instance {CL C x dx : Addr} {vc : V} {p q : Addr} {c : CodeD} : Mono (HoldR CL C x dx vc p q c) := ⟨fun e ⟨a, b, h⟩ => ⟨a, e _ _ b, Mon.mono e h⟩⟩
structure PutP (d : LedD) (l : Str) : Prop where
  nm : NmL d.c.names
  k : ∀ k ∈ d.c.clauses, Lits d.c.names k
  w : ChW d.c.clauses
  so : ∃ so P, d.o = some so ∧ EndsOk d.c.names d.c.clauses P (some so) ∧ Ctx d.c.names d.c.clauses P ∧ l ∉ so ∧ opp l ∉ so
  l : l ∈ litsOf d.c.signs
  n : d.ls.length ≤ 1000 ∧ d.ss.length ≤ 1000
section
variable {P : Program} {w : World} {K : PySem.W.Frag} {mg : Str → Option Value} {base : Heap}
abbrev s_Led_put : Stmt := inClass (topS 27) 4
theorem sc_Led_put : FnScope ["self", "literal", "so", "later", "steps", "one"] ["self", "literal"] (defScope s_Led_put) := ⟨rfl, rfl, rfl, by decide +kernel, rfl, by decide +kernel, by decide +kernel⟩
def sp_Led_put (K : PySem.W.Frag) (CL C : Addr) : Sp := fun vs H Q _ => ∃ d l x dx p q vc ms M, vs = [.ref x, .str l] ∧ LedH CL C d x dx p q vc ms M H ∧ PutP d l ∧
  ∀ o' u z M' H', TwoAt M H M' H' p q ((d.ls ++ [l]).map V.str) (ms ++ [u]) → OpR' DcF o' M' u → (∀ P so, d.o = some so → EndsOk d.c.names d.c.clauses P (some so) → Ctx d.c.names d.c.clauses P → EndsOk d.c.names d.c.clauses (P ++ [l]) o') → Q z H'
theorem ok_Led_put {f CL C : Addr} {fd : FuncData} (F : Fun K "put" "Led.put" s_Led_put f fd) (T : Gc mg) (TL : LedT K CL) (TC : CodeT K mg C) (m_is_dead : Met P w K mg base 1 CL "is_dead" ["self"] (sp_Led_is_dead K CL C)) (c_is_literal : Cal P w K mg base 2 "is_literal" ["thing", "names"] (sp_is_literal K)) (c_opposite : Cal P w K mg base 1 "opposite" ["literal"] (sp_opposite K))
    (c_chase : Cal P w K mg base 3 "chase" ["clauses", "setting"] (sp_chase K)) (c_ascending : Cal P w K mg base 1 "ascending" ["literals", "names"] (sp_ascending K)) : FnOk P w K mg base CX0 4 f fd ["self", "literal"] (sp_Led_put K CL C) := by
  refine F.ok sc_Led_put (fun vs H Q E h => ?_) (fun cdv A outer s H vs Q E hr h => ?_)
  · obtain ⟨_, _, _, _, _, _, _, _, _, rfl, _⟩ := h
    rfl
  · obtain ⟨d, l, x, dx, p, q, vc, ms, M, rfl, L, X, qq⟩ := h
    have hu := hr.units
    refine ⟨_, (pss_cons (ps_if (pt_val (pe_m0 m_is_dead (hr.mono (by decide)) (pv 0))) (pss_one ps_never) pss_nil)
      (pss_cons (ps_if (pt_not (pt_val (pe_f c_is_literal (hr.mono (by decide)) (pa_cons (pv 1) (pa_cons (pe_fld (pe_fld (pv 0) rfl) rfl) pa_nil))))) (pss_one ps_never) pss_nil)
      (pss_cons (ps_set (i := 2) sc_Led_put.nd rfl (by first | exact .inl rfl | exact .inr rfl) (pe_ix ix_X (pe_fld (pv 0) rfl) (pe_un un_neg pe_int) (fun _ _ => rfl)))
      (pss_cons (ps_if (PW.pt (pw_or (pt_cmpR (op_inA hu) (pv 1) (pv 2) (by rfl)) (pw_or1 (pt_cmpR (op_inA hu) (pe_f c_opposite (hr.mono (by decide)) (pa_cons (pv 1) pa_nil)) (pv 2) (by rfl))))) (pss_one ps_never) pss_nil)
      (pss_cons (ps_asg (pe_f c_chase (hr.mono (by decide)) (pa_cons (pe_fld (pe_fld (pv 0) rfl) rfl) (pa_cons (pe_lst (pa_starK (by rfl) (pv 2) (pa_cons (pv 1) pa_nil))) pa_nil))) (pg_tup (by rfl) (pgs_cons (pg_name (i := 3) sc_Led_put.nd rfl (by first | exact .inl rfl | exact .inr rfl)) (pgs_cons (pg_name (i := 4) sc_Led_put.nd rfl (by first | exact .inl rfl | exact .inr rfl)) pgs_nil))))
      (pss_cons (ps_expr (pe_bm PySem.F.plainAttrs_list PySem.F.slot_list_append PySem.F.type_list_append mt_append (pe_fld (pv 0) rfl) (pa_cons (pv 1) pa_nil)))
      (pss_cons (ps_expr (pe_bm PySem.F.plainAttrs_list PySem.F.slot_list_append PySem.F.type_list_append mt_append (pe_fld (pv 0) rfl) (pa_cons (pv 3) pa_nil)))
      (pss_cons (ps_if (pt_cmp (pc_isN (pv 3))) (pss_one (ps_ret pe_non)) pss_nil)
      (pss_one (ps_ret (pe_callTy call_lstA (by rfl) T.list boot_list (pa_cons (pe_f c_ascending (hr.mono (by decide)) (pa_cons (pe_lc (own := [("one", 5)]) (g := (gName 5)) (tt := (tAnd (tTest (tOp (rInA K true) (tVar 5) (tVar 2))) (tTest (tOp (rEqP K true) (tVar 5) (tVar 1))))) (te := (tVar 5)) (by rfl) sc_Led_put.nd (pi_keys (pv 3)) (blkOk_by (by rfl)) (fun _ _ _ _ _ => (pg_name (i := 5) sc_Led_put.nd rfl (by first | exact .inl rfl | exact .inr rfl))) (fun _ _ _ _ _ => (pts_one (PW.pt (pw_and (pt_cmpR (op_niA hu) (pv 5) (pv 2) (by rfl)) (pw_and1 (pt_cmpR (op_neP hu) (pv 5) (pv 1) (nomark _))))))) (fun _ _ _ _ _ => (pv 5))) (pa_cons (pe_fld (pe_fld (pv 0) rfl) rfl) pa_nil))) pa_nil)))))))))))), ?_⟩
    obtain ⟨mh, rl⟩ := L.known
    obtain ⟨so, P0, eo, he, X0, n1, n2⟩ := X.so
    have nmS : NmL d.c.signs := ⟨(List.nodup_append.mp (show (d.c.signs ++ d.c.helpers).Nodup from X.nm.nd)).1, fun n hn => X.nm.nm n (List.mem_append_left _ hn), Nat.le_trans (by show d.c.signs.length ≤ (d.c.signs ++ d.c.helpers).length; rw [List.length_append]; omega) X.nm.n⟩
    obtain ⟨n, hn, side⟩ := mem_litsOf.mp X.l
    have hm := nmS.nm n hn
    have hnl := nm_len hm
    have ll : l.length ≤ 9 := by
      rcases side with e | e
      · rw [e]; omega
      · rw [e]; show (("-" : Str).cps ++ n.cps).size ≤ 9; rw [Array.size_append]; show 1 + n.length ≤ 9; omega
    have nmo : nameOf l = n := by
      rcases side with e | e
      · rw [e, nameOf_nm hm]
      · rw [e, nameOf_neg hm]
    have gopp : ∀ {σ' : Sl} {M' : Hp} {te : TE}, Gv te σ' M' (Tx l) → Gv (tCall (sp_opposite K) [] E0 (tCons te tNil)) σ' M' (Tx (opp l)) := fun h => gv_call1 (R1 := Tx) (pre := fun x => x.length ≤ 1000) (R := fun x => Tx (opp x)) (x := l) h (by omega)
    -- nobody dead, a literal, open
    refine q_if0 (b := false) mh (gt_is (gt_B (gv_isdead (K := K) (gv_var rfl rl))) (by rw [eo]; rfl)) (fun h => nomatch h) fun _ H1 hh1 => ?_
    have G1 := Gr.idle mh hh1
    refine q_if0 (b := false) G1.mh (gt_is (gt_not (gt_B (gv_call2 (R1 := Dd K) (R2 := SqR K Tx) (pre := fun d _ => shortD d) (R := fun d ns => Bl (isLit ns d)) (x := .str l) (y := d.c.signs) (gv_var rfl (.str l)) (gv_is (gv_sign TC (gv_kept TL (gv_var rfl rl))) fun _ _ h => h.sq) (by show l.length ≤ _; omega)))) (by
      show (!decide (nameOf l ∈ d.c.signs)) = false
      rw [nmo, decide_eq_true hn]; rfl)) (fun h => nomatch h) fun _ H2 hh2 => ?_
    have G2 := G1.trans (.idle G1.mh hh2)
    refine q_asg (P := OpR' DcF d.o) G2.mh (gv_lastM (K := K) TL (gv_var rfl rl)) fun v2 M3 H3 g3 r2 => ?_
    rw [eo] at r2
    have r2 : DcF so M3 v2 := r2
    have rc : CtR K so M3 v2 := .inr r2.dc
    have G3 := G2.trans g3
    have rl3 : LedR CL C d M3 (.ref x) := Mon.mono g3.mm rl
    refine q_if0 (b := false) G3.mh (gt_is (gt_or (gt_is (gt_test (gv_inA (K := K) (neg := false) (x := l) (xs := so) (gv_var rfl rfl) (gv_var rfl rc))) (by simp; rfl)) fun _ => gt_is (gt_test (gv_inA (K := K) (neg := false) (x := opp l) (xs := so) (gopp (gv_var rfl rfl)) (gv_var rfl rc))) (by simp; rfl)) (by rw [decide_eq_false n1, decide_eq_false n2]; rfl)) (fun h => nomatch h) fun _ H4 hh4 => ?_
    have G4 := G3.trans (.idle G3.mh hh4)
    -- following
    have Lso := so_lits X.nm he.2.2
    have hno : n ∈ opn d.c.names so := mem_opn.mpr ⟨List.mem_append_left _ hn, fun z => by
      rcases side with e | e
      · exact n1 (e ▸ z)
      · exact n2 (by rw [e, opp_neg hm]; exact z), fun z => by
      rcases side with e | e
      · exact n2 (by rw [e, opp_nm hm]; exact z)
      · exact n1 (e ▸ z)⟩
    have X2 : Ctx d.c.names d.c.clauses (so ++ [l]) := ⟨X.nm, X.k, lits_put X.nm Lso hno side⟩
    have few := so_few X0 he.2.2
    have nn := X.nm.n
    refine q_chase (ns := d.c.names) G4.mh (gv_is (gv_clause TC (gv_kept TL (gv_var rfl rl3))) fun _ _ h => by
      obtain ⟨a, vs, e, h1, h2⟩ := h
      exact .inr ⟨a, vs, e, .inl (.inl h1), Paired.mapP h2 fun _ _ q => TT.sq q⟩) (gv_is (gv_starK (gv_var rfl r2.dc) (gv_var rfl rfl) (by omega)) fun _ _ h => h.sq) X2 X.w fun o' u5 v6 M5 H5 g5 he5 ru => ?_
    have G5 := G4.trans g5
    have T5 := TwoAt.ofKnown L.mh L.ne L.hp L.hq G5
    have s5 : Same M (delS M5 [p, q]) := T5.g.mm
    have hx5 : (delS M5 [p, q]) x = some (.ins CL dx (ledF vc p q)) := s5 _ _ L.x
    have nmq : ∀ {a : Addr} {o : HO}, M5 a = some o → (∀ vs, o ≠ .lst vs) → a ∉ [p, q] := fun {a o} e ne z => by
      simp only [List.mem_cons, List.not_mem_nil, or_false] at z
      rcases z with rfl | rfl
      · have := G5.mh _ _ e; rw [T5.hp] at this; exact ne _ (Option.some.inj this).symm
      · have := G5.mh _ _ e; rw [T5.hq] at this; exact ne _ (Option.some.inj this).symm
    have ru5 : OpR' DcF o' (delS M5 [p, q]) u5 := by
      cases o' with
      | none => exact ru
      | some s' =>
        obtain ⟨a, ob, e, h⟩ := (show DcF s' M5 u5 from ru)
        exact ⟨a, ob, e, by rw [delS_on (nmq h fun vs z => by cases z)]; exact h⟩
    have r25 : CtR K so (delS M5 [p, q]) v2 := by
      obtain ⟨a, ob, e, h⟩ := (Mon.mono (g5.mm) r2 : DcF so M5 v2)
      exact .inr (DcF.dc ⟨a, ob, e, by rw [delS_on (nmq h fun vs z => by cases z)]; exact h⟩)
    have rc5 : CodeR C d.c (delS M5 [p, q]) vc := Mon.mono s5 L.c
    revert T5 s5 hx5 ru5 r25 rc5
    generalize delS M5 [p, q] = M6
    intro T5 s5 hx5 ru5 r25 rc5
    have pdl := L.pd.length
    rw [List.length_append, List.length_singleton] at pdl
    have xn := X.n
    -- both lists
    refine q_appAtG (P := fun _ v => v = .str l) T5.mh (gv_fieldA rfl hx5 TL.cl TL.nP rfl) T5.hp (szM (by rw [List.length_map]; omega)) (fun M1 sm => gv_var rfl rfl) fun v7 M7 H7 g7 r7 => ?_
    cases (show v7 = _ from r7)
    have T7 := (T5.step g7).putp (vs' := d.ls.map V.str ++ [.str l])
    revert T7
    generalize upd H7 p (.lst (d.ls.map V.str ++ [.str l])) = H8
    intro T7
    refine q_appAtG (P := fun _ v => v = u5) T7.mh (gv_fieldA rfl (g7.mm _ _ hx5) TL.cl TL.nM rfl) T7.hq (szM (by omega)) (fun M1 sm => gv_var rfl rfl) fun v9 M9 H9 g9 r9 => ?_
    cases (show v9 = _ from r9)
    have T9 := (T7.step g9).putq (ws' := ms ++ [u5])
    revert T9
    generalize upd H9 q (.lst (ms ++ [u5])) = H10
    intro T9
    have s79 := g7.mm.trans g9.mm
    have ru9 : OpR' DcF o' M9 u5 := Mon.mono s79 ru5
    have fin : ∀ z M' H', Gr M9 H10 M' H' → Q z H' := fun z M' H' g => qq o' u5 z M' H' (by
      have := T9.step g
      rw [List.map_append]
      exact this) (Mon.mono g.mm ru9) fun P so' e1 e2 X1 => by
        rw [eo] at e1
        cases e1
        exact ends_put X1 e2 he5
    refine q_if0 (b := o'.isNone) T9.mh (gt_B (gv_isN (b := o'.isNone) (gv_var (P := OpR' DcF o') rfl ru9) fun M v h => opD_non h)) (fun hb H11 hh => ?_) fun hb H11 hh => ?_
    · exact s_ret (P := fun _ v => v = .non) (T9.mh.trans hh) (gv_c rfl) fun z M' H' g r => fin z M' H' ((Gr.idle T9.mh hh).trans g)
    cases o' with
    | none => cases hb
    | some s' =>
      have ru9 : DcF s' M9 u5 := ru9
      have few' := so_few X2 he5.2.2
      have sh' : ∀ y ∈ s', y.length ≤ 1000 := fun y hy => Nat.le_trans (lits_short (so_lits X.nm he5.2.2) X.nm y hy) (by decide)
      exact s_ret (T9.mh.trans hh) (gl_lstOf (K := K) (R1 := Tx) (gv_is (gv_call2 (R1 := CtR K) (R2 := SqR K Tx) (pre := fun _ ns => Shorts ns) (R := fun ls ns => TT (asc ls ns)) (y := d.c.names) (gv_is (gl_c1 (S := Tx) (R := Tx) (xs := s') (gi_keys (gv_var rfl ru9)) (szK (by omega)) (fun y => decide (y ∉ so) && decide (y ≠ l)) id
        (fun y hy M12 u12 sm ru => gt_and (b := decide (y ∉ so)) (c := decide (y ≠ l)) (gt_is (gt_test (gv_inA (K := K) (neg := true) (gv_var rfl ru) (gv_var rfl (Mon.mono (s79.trans sm) r25)))) (by simp)) fun _ => gt_is (gt_test (gv_eqT (K := K) (neg := true) py_str inj_str (gv_var rfl ru) (gv_var rfl rfl) (by simp [PyData.depth]))) (by simp)) fun y hy _ M12 u12 sm ru => gv_var rfl ru).li fun _ _ h => .inl (LiR.sq h)) (gv_is (gv_names TC (gv_fld (gv_var (P := HoldR CL C x dx vc p q d.c) rfl ⟨rfl, s79 _ _ hx5, Mon.mono s79 rc5⟩) fun M' v ⟨e, h, hc⟩ => ⟨x, CL, dx, _, vc, e, h, TL.cl, TL.nK, rfl, hc⟩)) fun _ _ h => h.sq) (nm_shorts X.nm)) fun _ _ h => TT.sq h)).li fun z M' H' g r => fin z M' H' ((Gr.idle T9.mh hh).trans g)
abbrev s_Led_undo : Stmt := inClass (topS 27) 6
theorem sc_Led_undo : FnScope ["self"] ["self"] (defScope s_Led_undo) := ⟨rfl, rfl, rfl, by decide +kernel, rfl, by decide +kernel, by decide +kernel⟩
def sp_Led_undo (K : PySem.W.Frag) (CL C : Addr) : Sp := fun vs H Q _ => ∃ d l ls ms0 m x dx p q vc M, vs = [.ref x] ∧ LedH CL C d x dx p q vc (ms0 ++ [m]) M H ∧ d.ls = ls ++ [l] ∧
  ∀ M' H', TwoAt M H M' H' p q (ls.map V.str) ms0 → Q (.str l) H'
theorem ok_Led_undo {f CL C : Addr} {fd : FuncData} (F : Fun K "undo" "Led.undo" s_Led_undo f fd) (TL : LedT K CL) : FnOk P w K mg base CX0 1 f fd ["self"] (sp_Led_undo K CL C) := by
  refine F.ok sc_Led_undo (fun vs H Q E h => ?_) (fun cdv A outer s H vs Q E hr h => ?_)
  · obtain ⟨_, _, _, _, _, _, _, _, _, _, _, rfl, _⟩ := h
    rfl
  · obtain ⟨d, l, ls, ms0, m, x, dx, p, q, vc, M, rfl, L, el, qq⟩ := h
    have hu := hr.units
    refine ⟨_, (pss_cons (ps_if (pt_cmpR (op_eqP hu) (pe_fld (pv 0) rfl) (pe_lst pa_nil) (nomark _)) (pss_one ps_never) pss_nil)
      (pss_cons (ps_expr (pe_bm0 PySem.F.plainAttrs_list PySem.F.slot_list_pop PySem.F.type_list_pop mt_pop (pe_fld (pv 0) rfl)))
      (pss_one (ps_ret (pe_bm0 PySem.F.plainAttrs_list PySem.F.slot_list_pop PySem.F.type_list_pop mt_pop (pe_fld (pv 0) rfl)))))), ?_⟩
    obtain ⟨mh, rl⟩ := L.known
    refine q_if0 (b := false) mh (gt_is (gt_test (gv_eqT (K := K) (R := LiR Tx) (neg := false) (x := d.ls) (y := []) (fun xs M v h => py_lst py_str _ _ _ (LiR.lst (K := K) h)) (inj_lst inj_str) (gv_putrow TL (gv_var rfl rl)) gv_nilL (by simp [PyData.depth, depthS]))) (by rw [el]; simp)) (fun h => nomatch h) fun _ H1 hh1 => ?_
    have T1 := TwoAt.ofKnown L.mh L.ne L.hp L.hq (Gr.idle mh hh1)
    have s1 : Same M (delS (upd (upd M p (.lst (d.ls.map V.str))) q (.lst (ms0 ++ [m]))) [p, q]) := T1.g.mm
    revert T1 s1
    generalize delS (upd (upd M p (.lst (d.ls.map V.str))) q (.lst (ms0 ++ [m]))) [p, q] = M2
    intro T1 s1
    refine t_popAt (K := K) T1.mh (gv_fieldA rfl (s1 _ _ L.x) TL.cl TL.nM rfl) T1.hq fun M3 H3 g3 => ?_
    have T3 := (T1.step g3).putq (ws' := ms0)
    revert T3
    generalize upd H3 q (.lst ms0) = H4
    intro T3
    refine t_popAt (K := K) (ws := ls.map V.str) (w := .str l) T3.mh (gv_fieldA rfl (g3.mm _ _ (s1 _ _ L.x)) TL.cl TL.nP rfl) (by rw [T3.hp, el, List.map_append]; rfl) fun M5 H5 g5 => ?_
    exact qq M5 _ ((T3.step g5).putp)
abbrev s_Led_init : Stmt := inClass (topS 27) 0
theorem sc_Led_init : FnScope ["self", "code"] ["self", "code"] (defScope s_Led_init) := ⟨rfl, rfl, rfl, by decide +kernel, rfl, by decide +kernel, by decide +kernel⟩
def sp_Led_init (K : PySem.W.Frag) (CL C : Addr) : Sp := fun vs H Q _ => ∃ c M Hb x dx vc, vs = [.ref x, vc] ∧ Gr M Hb M H ∧ Hb x = none ∧ M x = none ∧ H x = some (.ins CL dx []) ∧ CodeR C c M vc ∧ Ctx c.names c.clauses [] ∧ ChW c.clauses ∧
  ∀ o u p q M' H', Gr M Hb M' H' → M' x = some (.ins CL dx (ledF vc p q)) → p ≠ q → Own Hb M' H' p [] → Own Hb M' H' q [u] → EndsOk c.names c.clauses [] o → OpR' DcF o M' u → Q .non H'
theorem ok_Led_init {f CL C : Addr} {fd : FuncData} (F : Fun K "__init__" "Led.__init__" s_Led_init f fd) (T : Gc mg) (TL : LedT K CL) (TC : CodeT K mg C) (c_chase : Cal P w K mg base 3 "chase" ["clauses", "setting"] (sp_chase K)) : FnOk P w K mg base CX0 4 f fd ["self", "code"] (sp_Led_init K CL C) := by
  refine F.ok sc_Led_init (fun vs H Q E h => ?_) (fun cdv A outer s H vs Q E hr h => ?_)
  · obtain ⟨_, _, _, _, _, _, rfl, _⟩ := h
    rfl
  · obtain ⟨c, M, Hb, x, dx, vc, rfl, g, hb, mx, hx, rc, X, hw, qq⟩ := h
    have hu := hr.units
    refine ⟨_, (pss_cons (ps_fld (pv 0) (pv 1) rfl)
      (pss_cons (ps_fld (pv 0) (pe_lst pa_nil) rfl)
      (pss_one (ps_fld (pv 0) (pe_lst (pa_cons (pe_ix ix_X (pe_f c_chase (hr.mono (by decide)) (pa_cons (pe_fld (pv 1) rfl) (pa_cons (pe_lst pa_nil) pa_nil))) pe_int (fun _ _ => rfl)) pa_nil)) rfl)))), ?_⟩
    refine q_fldRaw ⟨vc, rfl, .ref x, rfl, x, CL, dx, [], rfl, hx, TL.cl, TL.nK, by show 0 < 1000; decide, ?_⟩
    have G1 := g.mut (o := .ins CL dx (putF "kept" vc [])) hb mx
    have h1 : upd H x (.ins CL dx (putF "kept" vc [])) x = some (.ins CL dx [("kept", vc)]) := upd_same
    revert G1 h1
    generalize upd H x (.ins CL dx (putF "kept" vc [])) = H1
    intro G1 h1
    refine q_fldRaw (gl_nil H1 G1.mh _ fun p vs M2 H2 g2 h02 m02 hp2 ev => ?_)
    subst ev
    have m2 := g2.keep mx h1
    have h2 := g2.hh _ _ h1
    have xp : x ≠ p := fun e => by rw [← e, h1] at h02; cases h02
    refine ⟨.ref x, rfl, x, CL, dx, _, rfl, h2, TL.cl, TL.nP, by show 1 < 1000; decide, ?_⟩
    have G2 := (G1.trans g2).mut (o := .ins CL dx (putF "put_row" (.ref p) [("kept", vc)])) hb m2
    have h3 : upd H2 x (.ins CL dx (putF "put_row" (.ref p) [("kept", vc)])) x = some (.ins CL dx [("kept", vc), ("put_row", .ref p)]) := upd_same
    have op : Own Hb M2 (upd H2 x (.ins CL dx (putF "put_row" (.ref p) [("kept", vc)]))) p [] := ⟨G1.hh.free h02, m02, by rw [upd_ne (Ne.symm xp)]; exact hp2⟩
    have rc2 : CodeR C c M2 vc := Mon.mono g2.mm rc
    revert G2 h3 op
    generalize upd H2 x (.ins CL dx (putF "put_row" (.ref p) [("kept", vc)])) = H3
    intro G2 h3 op
    have Gl : Gv (tOp (rIxX K) (tCall (sp_chase K) [] E0 (tCons (tFld K (tVar 1) "clause_row") (tCons (tLst tNil) tNil))) (tC (.int 0))) [some (.ref x), some vc] M2 (fun M v => ∃ o, EndsOk c.names c.clauses [] o ∧ OpR' DcF o M v) := gv_chase0 (gv_is (gv_clause TC (gv_var rfl rc2)) fun _ _ h => by
      obtain ⟨a, vs, e, h1, h2⟩ := h
      exact .inr ⟨a, vs, e, .inl (.inl h1), Paired.mapP h2 fun _ _ q => TT.sq q⟩) (gv_is (gv_nilL (R := Tx)) fun _ _ h => h.sq) X hw
    refine s_fldRaw (Gl H3 G2.mh _ fun u M4 H4 g4 ⟨o, he, ru⟩ => ⟨by show 1 ≤ sizeLine; decide, fun q nq => ?_⟩)
    have m4 := g4.keep m2 h3
    have h4 := g4.hh _ _ h3
    have xq : x ≠ q := fun e => by rw [← e, h4] at nq; cases nq
    have op4 := op.step g4
    have pq : p ≠ q := fun e => by rw [← e, op4.h] at nq; cases nq
    refine ⟨.ref x, rfl, x, CL, dx, _, rfl, by rw [upd_ne xq]; exact h4, TL.cl, TL.nM, by show 2 < 1000; decide, ?_⟩
    have G4 := G2.trans g4
    have g5 : Gr M4 H4 M4 (upd H4 q (.lst [u])) := .own g4.mh nq
    have G5 := (G4.trans g5).mut (o := .ins CL dx (putF "moments" (.ref q) [("kept", vc), ("put_row", .ref p)])) hb m4
    have h5 : upd (upd H4 q (.lst [u])) x (.ins CL dx (putF "moments" (.ref q) [("kept", vc), ("put_row", .ref p)])) x = some (.ins CL dx (ledF vc p q)) := upd_same
    have G6 := G5.freeze hb m4 h5
    refine qq o u p q _ _ G6 upd_same pq ⟨op4.h0, by rw [upd_ne (Ne.symm xp)]; exact op4.m, by rw [upd_ne (Ne.symm xp), upd_ne pq]; exact op4.h⟩ ⟨G4.hh.free nq, by rw [upd_ne (Ne.symm xq)]; exact g4.mh.free nq, by rw [upd_ne (Ne.symm xq), upd_same]⟩ he (Mon.mono (same_new m4) ru)
end
end My

set_option Elab.async false
set_option linter.all false
set_option maxRecDepth 100000
set_option maxHeartbeats 8000000
set_option pp.maxSteps 900
namespace My
open PySem PySem.Spec PyProof.Rows L2 L3
/-! what can go -/
def inO (so : List Str) : Option Str → Bool
  | none => false
  | some l => decide (l ∈ so)
noncomputable def drawsO (cs : List (List Str)) (hs : List Str) (lo : Option Str) : Bool := deadB cs hs || match lo with | none => false | some l => derB cs hs l
noncomputable def thinP (cs : List (List Str)) (lo : Option Str) (found : List Str) (ch : Str) : List Str := if drawsO cs (found.filter fun x => decide (x ≠ ch)) lo = true then found.filter fun x => decide (x ≠ ch) else found
noncomputable def thinL (cs : List (List Str)) (ls : List Str) (lo : Option Str) : List Str := ls.foldl (thinP cs lo) ls
theorem thinP_sub (cs : List (List Str)) (lo : Option Str) (found : List Str) (ch : Str) : (thinP cs lo found ch).Sublist found := by
  unfold thinP
  split
  · exact List.filter_sublist
  · exact List.Sublist.refl _
theorem thin_sub (cs : List (List Str)) (lo : Option Str) : ∀ (xs found : List Str), (xs.foldl (thinP cs lo) found).Sublist found
  | [], _ => List.Sublist.refl _
  | x :: xs, found => (thin_sub cs lo xs _).trans (thinP_sub cs lo found x)
theorem Lits.subl {ns xs ys : List Str} (L : Lits ns xs) (h : ys.Sublist xs) : Lits ns ys := ⟨L.nd.sublist (h.map nameOf), fun y hy => L.of y (h.subset hy)⟩
section
variable {K : PySem.W.Frag} {σ : Sl} {M : Hp} {ta tb : TE} {lo : Option Str} {so : List Str}
theorem gv_inO (ha : Gv ta σ M (OpR' Tx lo)) (hb : Gv tb σ M (DcF so)) : Gv (tOp (fun x y H Q => rInA K false x y H Q ∨ rInN x y H Q) ta tb) σ M (Bl (inO so lo)) := gv_op ha hb fun M' u w px py => by
  cases lo with
  | none =>
    obtain ⟨a, ob, e, h⟩ := py
    exact rv_pure (fun H mh Q q => .inr ⟨px, a, _, e, .inr ⟨ob, mh _ _ h⟩, q⟩) rfl
  | some l => exact fun H mh Q q => .inl (gv_inA (K := K) (neg := false) (σ := []) (M := M') (ta := tC u) (tb := tC w) (gv_c (P := Tx l) px) (gv_c (.inr (DcF.dc py))) H mh Q fun v M2 H2 g r => q v M2 H2 g (by rw [show v = _ from r]; simp [inO]))
end
section
variable {P : Program} {w : World} {K : PySem.W.Frag} {mg : Str → Option Value} {base : Heap}
abbrev s_draws : Stmt := topS 25
theorem sc_draws : FnScope ["clauses", "setting", "literal", "so", "steps"] ["clauses", "setting", "literal"] (defScope s_draws) := ⟨rfl, rfl, rfl, by decide +kernel, rfl, by decide +kernel, by decide +kernel⟩
def sp_drawsO (K : PySem.W.Frag) : Sp := sp3 (SqR K (SqR K Tx)) (SqR K Tx) (OpR' Tx) (fun cs hs _ => ChW cs ∧ ∃ ns, Ctx ns cs hs) fun cs hs lo => Bl (drawsO cs hs lo)
theorem ok_drawsO {f : Addr} {fd : FuncData} (F : Fun K "draws" "draws" s_draws f fd) (c_chase : Cal P w K mg base 3 "chase" ["clauses", "setting"] (sp_chase K)) : FnOk P w K mg base CX0 4 f fd ["clauses", "setting", "literal"] (sp_drawsO K) := by
  refine F.ok sc_draws (fun vs H Q E h => ?_) (fun cdv A outer s H vs Q E hr h => ?_)
  · obtain ⟨x, y, z, M, v, w, u, rfl, _⟩ := h
    rfl
  · obtain ⟨cs, hs, lo, M, v, w, u, rfl, mh, r1, r2, r3, ⟨hw, ns, X⟩, q⟩ := h
    have hu := hr.units
    refine ⟨_, (pss_cons (ps_asg (pe_f c_chase (hr.mono (by decide)) (pa_cons (pv 0) (pa_cons (pv 1) pa_nil))) (pg_tup (by rfl) (pgs_cons (pg_name (i := 3) sc_draws.nd rfl (by first | exact .inl rfl | exact .inr rfl)) (pgs_cons (pg_name (i := 4) sc_draws.nd rfl (by first | exact .inl rfl | exact .inr rfl)) pgs_nil))))
      (pss_one (ps_ret (pe_or (pe_cmp (pc_isN (pv 3))) (pe_one (pe_cmpR ((op_inA hu).or op_inN) (pv 2) (pv 3) (by rfl))))))), ?_⟩
    refine q_chase (ns := ns) mh (gv_var rfl r1) (gv_var rfl r2) X hw fun o' u5 v6 M5 H5 g5 he ru => ?_
    have r35 : OpR' Tx lo M5 u := Mon.mono g5.mm r3
    refine s_ret (P := Bl (drawsO cs hs lo)) g5.mh ?_ fun z M' H' g r => q z M' H' (g5.trans g) r
    cases o' with
    | none =>
      have e : drawsO cs hs lo = true := by unfold drawsO; rw [deadB_iff.mpr he]; rfl
      rw [e]
      exact gv_orV (b := true) (c := false) (gv_isN (b := true) (gv_var (P := fun _ v => v = .non) rfl ru) fun M v h => by rw [show v = .non from h]; rfl) fun z => nomatch z
    | some so =>
      have e : drawsO cs hs lo = (false || inO so lo) := by
        unfold drawsO
        rw [deadB_no he.1]
        cases lo with
        | none => rfl
        | some l =>
          show (false || derB cs hs l) = (false || decide (l ∈ so))
          congr 1
          rw [Bool.eq_iff_iff, decide_eq_true_eq, derB_iff]
          exact (he.2.1 l).symm
      rw [e]
      exact gv_orV (b := false) (gv_isN (b := false) (gv_var (P := DcF so) rfl ru) fun M v h => by obtain ⟨a, ob, e, _⟩ := h; rw [e]; rfl) fun _ => gv_inO (gv_var rfl r35) (gv_var rfl ru)
structure ThinOk (d : LedD) : Prop where
  nm : NmL d.c.names
  k : ∀ k ∈ d.c.clauses, Lits d.c.names k
  w : ChW d.c.clauses
  l : Lits d.c.names d.ls
abbrev s_Led_thinned : Stmt := inClass (topS 27) 14
theorem sc_Led_thinned : FnScope ["self", "literal", "found", "choice", "some", "one"] ["self", "literal"] (defScope s_Led_thinned) := ⟨rfl, rfl, rfl, by decide +kernel, rfl, by decide +kernel, by decide +kernel⟩
def sp_Led_thinned (K : PySem.W.Frag) (CL C : Addr) : Sp := sl2 (LedR CL C) (OpR' Tx) (fun d _ => ThinOk d) fun d lo M ws => Pd Tx M (thinL d.c.clauses d.ls lo) ws
theorem ok_Led_thinned {f CL C : Addr} {fd : FuncData} (F : Fun K "thinned" "Led.thinned" s_Led_thinned f fd) (T : Gc mg) (TL : LedT K CL) (TC : CodeT K mg C) (c_draws : Cal P w K mg base 4 "draws" ["clauses", "setting", "literal"] (sp_drawsO K)) : FnOk P w K mg base CX0 5 f fd ["self", "literal"] (sp_Led_thinned K CL C) := by
  refine F.ok sc_Led_thinned (fun vs H Q E h => ?_) (fun cdv A outer s H vs Q E hr h => ?_)
  · obtain ⟨x, y, M, v, w, rfl, _⟩ := h
    rfl
  · obtain ⟨d, lo, M, v, w, rfl, mh, r1, r2, X, q⟩ := h
    have hu := hr.units
    refine ⟨_, (pss_cons (ps_set (i := 2) sc_Led_thinned.nd rfl (by first | exact .inl rfl | exact .inr rfl) (pe_callTy call_lstA (by rfl) T.list boot_list (pa_cons (pe_fld (pv 0) rfl) pa_nil)))
      (pss_cons (ps_for PassesOwn.never (by rfl) (pi_sq (pe_fld (pv 0) rfl)) (pg_name (i := 3) sc_Led_thinned.nd rfl (by first | exact .inl rfl | exact .inr rfl)) (pss_cons (ps_setLc (i := 4) (own := [("one", 5)]) (g := (gName 5)) (tt := (tTest (tOp (rEqP K true) (tVar 5) (tVar 3)))) (te := (tVar 5)) (by rfl) sc_Led_thinned.nd rfl rfl (sw_true rfl rfl rfl (by decide +kernel)) (pi_sq (pv 2)) (blkOk_by (by rfl)) (fun _ _ _ _ _ => (pg_name (i := 5) sc_Led_thinned.nd rfl (by first | exact .inl rfl | exact .inr rfl))) (fun _ _ _ _ _ => (pts_one (pt_cmpR (op_neP hu) (pv 5) (pv 3) (nomark _)))) (fun _ _ _ _ _ => (pv 5)))
      (pss_one (ps_if (pt_val (pe_f c_draws (hr.mono (by decide)) (pa_cons (pe_fld (pe_fld (pv 0) rfl) rfl) (pa_cons (pv 4) (pa_cons (pv 1) pa_nil))))) (pss_one (ps_set (i := 2) sc_Led_thinned.nd rfl (by first | exact .inl rfl | exact .inr rfl) (pv 4))) pss_nil))))
      (pss_one (ps_ret (pv 2))))), ?_⟩
    have nn := X.nm.n
    have ll := lits_len X.l X.nm
    refine q_asgL mh (gl_lstOf (K := K) (R1 := Tx) (gv_is (gv_putrow (K := K) TL (gv_var rfl r1)) fun _ _ h => h.sq)) fun p vs M1 H1 g1 h01 m01 hp1 pd => ?_
    have e := pd_tx pd
    subst e
    refine q_for (R1 := Tx) (xs := d.ls) g1.mh (gv_is (gv_putrow (K := K) TL (gv_var rfl (Mon.mono g1.mm r1))) fun _ _ h => h.sq)
      (fun Mk i σ' M' H' => ∃ fp y3 y4, σ' = [some v, some w, some (.ref fp), y3, y4, none] ∧ Gr M H M' H' ∧ Same Mk M' ∧ Own H M' H' fp (((d.ls.take i).foldl (thinP d.c.clauses lo) d.ls).map V.str))
      (fun M2 H2 g2 => ⟨p, none, none, rfl, g1.trans g2, Same.refl _, ⟨h01, g2.keep m01 hp1, g2.hh _ _ hp1⟩⟩) (fun M2 i σ' M' H' ⟨_, _, _, _, g, s, _⟩ => ⟨s, g.mh⟩) ?_ ?_
    · rintro Mk i ch cv σ' M' H' s1k hi ⟨fp, y3, y4, rfl, g, sk, own⟩ rc
      cases (show cv = .str ch from rc)
      have sub := thin_sub d.c.clauses lo (d.ls.take i) d.ls
      have e2 : (d.ls.take (i + 1)).foldl (thinP d.c.clauses lo) d.ls = thinP d.c.clauses lo ((d.ls.take i).foldl (thinP d.c.clauses lo) d.ls) ch := by rw [List.take_succ, hi, List.foldl_append]; rfl
      rw [e2]
      revert own sub
      generalize (d.ls.take i).foldl (thinP d.c.clauses lo) d.ls = found
      intro own sub
      have fl := sub.length_le
      have rp : LiR Tx found (upd M' fp (.lst (found.map V.str))) (.ref fp) := ⟨fp, _, rfl, upd_same, pd_of_tx _⟩
      refine q_asgLL (P := fun _ ws => ws = (found.filter fun x => decide (x ≠ ch)).map V.str) (fun _ _ _ h => h) g.mh own.m own.h (fun H mh Q q => gl_c1 (S := Tx) (R := Tx) (xs := found) (gi_sq (K := K) (gv_var rfl (LiR.sq rp))) (szK (by omega)) (fun x => decide (x ≠ ch)) id (fun x _ M1 u sm ru => gt_is (gt_test (gv_eqT (K := K) (neg := true) py_str inj_str (gv_var rfl ru) (gv_var rfl rfl) (by simp [PyData.depth]))) (by simp)) (fun x _ _ M1 u sm ru => gv_var rfl ru) H mh Q fun p ws M' H' g h0 m0 hw r => q p ws M' H' g h0 m0 hw (by rw [List.map_id] at r; exact pd_tx r)) fun sp ws M3 H3 g3 h03 m03 hs3 ew => ?_
      subst ew
      have G3 := g.trans g3
      have own3 := own.step g3
      have owns : Own H M3 H3 sp ((found.filter fun x => decide (x ≠ ch)).map V.str) := ⟨g.hh.free h03, m03, hs3⟩
      have r13 : LedR CL C d M3 v := Mon.mono G3.mm r1
      have r23 : OpR' Tx lo M3 w := Mon.mono G3.mm r2
      have fsub : (found.filter fun x => decide (x ≠ ch)).Sublist d.ls := List.filter_sublist.trans sub
      have Y : Ctx d.c.names d.c.clauses (found.filter fun x => decide (x ≠ ch)) := ⟨X.nm, X.k, X.l.subl fsub⟩
      refine s_if0 (b := drawsO d.c.clauses (found.filter fun x => decide (x ≠ ch)) lo) (owns.fr G3.mh) (gt_B (gv_call3 (R1 := SqR K (SqR K Tx)) (R2 := SqR K Tx) (R3 := OpR' Tx) (pre := fun cs hs _ => ChW cs ∧ ∃ ns, Ctx ns cs hs) (R := fun cs hs lo => Bl (drawsO cs hs lo)) (x := d.c.clauses) (y := found.filter fun x => decide (x ≠ ch)) (z := lo) (gv_is (gv_clause TC (gv_kept (K := K) TL (gv_var rfl (Mon.mono owns.up r13)))) fun _ _ h => by
        obtain ⟨a, vs, e, h1, h2⟩ := h
        exact .inr ⟨a, vs, e, .inl (.inl h1), Paired.mapP h2 fun _ _ q => TT.sq q⟩) (gv_var rfl (LiR.sq (⟨sp, _, rfl, upd_same, pd_of_tx _⟩ : LiR Tx (found.filter fun x => decide (x ≠ ch)) _ (.ref sp)))) (gv_var rfl (Mon.mono owns.up r23)) ⟨X.w, _, Y⟩)) (fun hb H4 hh4 => ?_) fun hb H4 hh4 => ?_
      · refine ⟨.ref sp, rfl, ?_⟩
        refine ⟨M3, sp, _, _, rfl, G3.trans (.idle G3.mh hh4), sk.trans g3.mm, ?_⟩
        have := owns.idle hh4
        unfold thinP
        rw [if_pos hb]
        exact this
      · refine ⟨M3, fp, _, _, rfl, G3.trans (.idle G3.mh hh4), sk.trans g3.mm, ?_⟩
        have := own3.idle hh4
        unfold thinP
        rw [if_neg (by rw [hb]; decide)]
        exact this
    · rintro Mk σ' M' H' s1k ⟨fp, y3, y4, rfl, g, sk, own⟩
      rw [List.take_length] at own
      exact ⟨.ref fp, rfl, q fp _ M' H' g own.h0 own.m own.h (pd_of_tx _)⟩
end
end My

set_option Elab.async false
set_option linter.all false
set_option maxRecDepth 100000
set_option maxHeartbeats 8000000
set_option pp.maxSteps 900
namespace My
open PySem PySem.Spec PyProof.Rows L2 L3
section
variable {K : PySem.W.Frag} {σ : Sl} {M : Hp} {to te : TE} {α β : Type} {R1 : Rl α} {R2 : Rl β} {C : Addr} {m : Str} {E : XK}
theorem gl_met2 [Mon R1] [Mon R2] {pre : α → β → Prop} {R : α → β → Hp → List V → Prop} {x : α} {y : β} (hi : InsR C m (R1 x)) (h : Gv to σ M (R1 x)) (h2 : Gv te σ M (R2 y)) (hp : pre x y) : GvL (tMeth C m (sl2 R1 R2 pre R) [] E to (tCons te tNil)) σ M (R x y) := fun H mh Q q => h H mh _ fun v M1 H1 g1 p1 => by
  obtain ⟨a, dx, fs, e, ha, hl⟩ := hi M1 v p1
  exact ⟨a, dx, fs, e, g1.mh _ _ ha, hl, h2.le g1.mm H1 g1.mh _ fun w M2 H2 g2 p2 => ⟨x, y, M2, v, w, rfl, g2.mh, Mon.mono g2.mm p1, p2, hp, fun p ws M' H' g h0 m0 hw r => q p ws M' H' ((g1.trans g2).trans g) ((g1.trans g2).hh.free h0) m0 hw r⟩⟩
end
section
variable {P : Program} {w : World} {K : PySem.W.Frag} {mg : Str → Option Value} {base : Heap}
abbrev s_Led_choices : Stmt := inClass (topS 27) 2
theorem sc_Led_choices : FnScope ["self"] ["self"] (defScope s_Led_choices) := ⟨rfl, rfl, rfl, by decide +kernel, rfl, by decide +kernel, by decide +kernel⟩
def sp_Led_choices (K : PySem.W.Frag) (CL C : Addr) : Sp := sl1 (LedR CL C) (fun _ => True) fun d M ws => Pd Tx M d.ls ws
theorem ok_Led_choices {f CL C : Addr} {fd : FuncData} (F : Fun K "choices" "Led.choices" s_Led_choices f fd) (T : Gc mg) (TL : LedT K CL) : FnOk P w K mg base CX0 1 f fd ["self"] (sp_Led_choices K CL C) := by
  refine F.ok sc_Led_choices (fun vs H Q E h => ?_) (fun cdv A outer s H vs Q E hr h => ?_)
  · obtain ⟨x, M, v, rfl, _⟩ := h
    rfl
  · obtain ⟨d, M, v, rfl, mh, r1, _, q⟩ := h
    have hu := hr.units
    refine ⟨_, (pss_one (ps_ret (pe_callTy call_lstA (by rfl) T.list boot_list (pa_cons (pe_fld (pv 0) rfl) pa_nil)))), ?_⟩
    exact s_retL mh (gl_lstOf (K := K) (R1 := Tx) (gv_is (gv_putrow (K := K) TL (gv_var rfl r1)) fun _ _ h => h.sq)) q
/-- something that is not drawn -/
def NotDr (d : LedD) (so : List Str) (t : PyData) : Prop := ∀ l, t = .str l → l ∈ d.ls ∨ l ∉ so
abbrev s_Led_why : Stmt := inClass (topS 27) 12
theorem sc_Led_why : FnScope ["self", "literal"] ["self", "literal"] (defScope s_Led_why) := ⟨rfl, rfl, rfl, by decide +kernel, rfl, by decide +kernel, by decide +kernel⟩
def sp_whyX (K : PySem.W.Frag) (CL C DE ND : Addr) : Sp := fun vs H Q E => ∃ d t M v w, vs = [v, w] ∧ Same M H ∧ LedR CL C d M v ∧ DdF K t M w ∧ ThinOk d ∧
  (d.o = none → ∀ M' H', Gr M H M' H' → E (.ref DE) none H') ∧
  (∀ so, d.o = some so → NotDr d so t → ∀ a u M' H', Gr M H M' H' → DdF K t M' u → H' a = some (.xd [("literal", u)]) → E (.ref ND) (some a) H') ∧
  (∀ so l, d.o = some so → t = .str l → l ∉ d.ls → l ∈ so → ∀ p M' H', Gr M H M' H' → H p = none → M' p = none → H' p = some (.lst ((thinL d.c.clauses d.ls (some l)).map V.str)) → Q (.ref p) H')
theorem ok_whyX {f CL C DE ND : Addr} {fd : FuncData} (F : Fun K "why" "Led.why" s_Led_why f fd) (T : Gc mg) (TL : LedT K CL) (RD : RawC K mg "Dead" DE) (RN : Rai P w K mg base 1 "NotDrawn" ND "literal") (m_is_dead : Met P w K mg base 1 CL "is_dead" ["self"] (sp_Led_is_dead K CL C)) (m_thinned : Met P w K mg base 5 CL "thinned" ["self", "literal"] (sp_Led_thinned K CL C)) : FnOk P w K mg base (L2.CX P w) 6 f fd ["self", "literal"] (sp_whyX K CL C DE ND) := by
  refine F.okX sc_Led_why (fun vs H Q E h => ?_) (fun cdv A outer s H vs Q E hr h => ?_)
  · obtain ⟨_, _, _, _, _, rfl, _⟩ := h
    rfl
  · obtain ⟨d, t, M, v, w, rfl, mh, r1, r2, X, qd, qn, q⟩ := h
    have hu := hr.units
    refine ⟨_, (pss_cons (ps_if (pt_val (pe_m0 m_is_dead (hr.mono (by decide)) (pv 0))) (pss_one (ps_raw RD rfl (takes_of rfl rfl rfl rfl))) pss_nil)
      (pss_cons (ps_if (PW.pt (pw_or (pt_not (pt_val (pe_callB call_isi (by rfl) T.isinstance boot_isinstance (pa_cons (pv 1) (pa_cons (pe_bltn (v := .ty "str") (u := .type "str") (by rfl) T.str (by decide +kernel) rfl) pa_nil))))) (pw_or (pt_cmpR (op_inA hu) (pv 1) (pe_fld (pv 0) rfl) (by rfl)) (pw_or1 (pt_cmpR (op_niA hu) (pv 1) (pe_ix ix_X (pe_fld (pv 0) rfl) (pe_un un_neg pe_int) (fun _ _ => rfl)) (by rfl)))))) (pss_one (ps_rai RN (hr.mono (by decide)) rfl (takes_of rfl rfl rfl rfl) (pa_cons (pv 1) pa_nil))) pss_nil)
      (pss_one (ps_ret (pe_m m_thinned (hr.mono (by decide)) (pv 0) (pa_cons (pv 1) pa_nil)))))), ?_⟩
    cases eo : d.o with
    | none =>
      refine q_if0 (b := true) mh (gt_is (gt_B (gv_isdead (K := K) (gv_var rfl r1))) (by rw [eo]; rfl)) (fun _ H1 hh1 => ?_) fun h => nomatch h
      exact qd eo M H1 (.idle mh hh1)
    | some so =>
      refine q_if0 (b := false) mh (gt_is (gt_B (gv_isdead (K := K) (gv_var rfl r1))) (by rw [eo]; rfl)) (fun h => nomatch h) fun _ H1 hh1 => ?_
      have G1 := Gr.idle mh hh1
      have lm : Gv (tOp (rIxX K) (tFld K (tVar 0) "moments") (tUn (rU fun i => .int (-i)) (tC (.int 1)))) [some v, some w] M (CtR K so) := gv_is (gv_lastM (K := K) TL (gv_var rfl r1)) fun M v h => by
        rw [eo] at h
        exact .inr (show DcF so M v from h).dc
      have raise : ∀ {H2 : Hp}, NotDr d so t → Gr M H M H2 → tRai K ND "literal" (fun cls d _ H => E cls d H) (tVar 1) { nx := fun _ H' => Q .non H', rt := Q } [some v, some w] H2 := fun nd g => s_rai (P := DdF K t) g.mh (gv_var rfl r2) fun v6 M6 H6 d6 g6 r6 nd6 => qn so eo nd d6 v6 M6 _ ((g.trans g6).trans (.own g6.mh nd6)) r6 upd_same
      by_cases st : ∃ l, t = .str l
      · obtain ⟨l, rfl⟩ := st
        have ew : w = .str l := by
          rcases r2 with h | ⟨h, _⟩
          · cases h; rfl
          · cases h
        subst ew
        refine q_if0 (b := decide (l ∈ d.ls) || decide (l ∉ so)) G1.mh (gt_is (gt_or (b := false) (gt_is (gt_not (gt_B (gv_isiF (b := true) (gv_var rfl r2) (by simp only [tyN]; decide +kernel)))) rfl) fun _ => gt_or (b := decide (l ∈ d.ls)) (c := decide (l ∉ so)) (gt_is (gt_test (gv_inA (K := K) (neg := false) (x := l) (xs := d.ls) (gv_var rfl rfl) (gv_is (gv_putrow (K := K) TL (gv_var rfl r1)) fun _ _ h => .inl h.sq))) (by simp)) fun _ => gt_is (gt_test (gv_inA (K := K) (neg := true) (x := l) (xs := so) (gv_var rfl rfl) lm)) (by simp)) (by rw [Bool.false_or])) (fun hb H2 hh2 => ?_) fun hb H2 hh2 => ?_
        · refine raise (fun l' e => ?_) (G1.trans (.idle G1.mh hh2))
          cases e
          rw [Bool.or_eq_true, decide_eq_true_eq, decide_eq_true_eq] at hb
          exact hb
        · rw [Bool.or_eq_false_iff, decide_eq_false_iff_not, decide_eq_false_iff_not, Classical.not_not] at hb
          have G2 := G1.trans (.idle G1.mh hh2)
          refine s_retL G2.mh (gl_met2 (R1 := LedR CL C) (R2 := OpR' Tx) (pre := fun d _ => ThinOk d) (R := fun d lo M ws => Pd Tx M (thinL d.c.clauses d.ls lo) ws) (x := d) (y := some l) (insR_led (by decide +kernel) (by decide +kernel) (by decide +kernel)) (gv_var rfl r1) (gv_var rfl rfl) X) fun p ws M' H' g h0 m0 hp pd => ?_
          have e := pd_tx pd
          subst e
          exact q so l eo rfl hb.1 hb.2 p M' H' (G2.trans g) (G2.hh.free h0) m0 hp
      · refine q_if0 (b := true) G1.mh (gt_is (gt_or (b := true) (c := false) (gt_is (gt_not (gt_B (gv_isiF (b := false) (gv_var rfl r2) (by cases t with
          | str l => exact absurd ⟨l, rfl⟩ st
          | _ => simp only [tyN]; decide +kernel)))) rfl) fun h => nomatch h) rfl) (fun _ H2 hh2 => ?_) fun h => nomatch h
        exact raise (fun l e => absurd ⟨l, e⟩ st) (G1.trans (.idle G1.mh hh2))
abbrev s_Led_blame : Stmt := inClass (topS 27) 13
theorem sc_Led_blame : FnScope ["self"] ["self"] (defScope s_Led_blame) := ⟨rfl, rfl, rfl, by decide +kernel, rfl, by decide +kernel, by decide +kernel⟩
def sp_blameX (K : PySem.W.Frag) (CL C NE : Addr) : Sp := fun vs H Q E => ∃ d M v, vs = [v] ∧ Same M H ∧ LedR CL C d M v ∧ ThinOk d ∧ (d.o ≠ none → ∀ M' H', Gr M H M' H' → E (.ref NE) none H') ∧
  (d.o = none → ∀ p M' H', Gr M H M' H' → H p = none → M' p = none → H' p = some (.lst ((thinL d.c.clauses d.ls none).map V.str)) → Q (.ref p) H')
theorem ok_blameX {f CL C NE : Addr} {fd : FuncData} (F : Fun K "blame" "Led.blame" s_Led_blame f fd) (TL : LedT K CL) (RE : RawC K mg "NotDead" NE) (m_is_dead : Met P w K mg base 1 CL "is_dead" ["self"] (sp_Led_is_dead K CL C)) (m_thinned : Met P w K mg base 5 CL "thinned" ["self", "literal"] (sp_Led_thinned K CL C)) : FnOk P w K mg base (L2.CX P w) 6 f fd ["self"] (sp_blameX K CL C NE) := by
  refine F.okX sc_Led_blame (fun vs H Q E h => ?_) (fun cdv A outer s H vs Q E hr h => ?_)
  · obtain ⟨_, _, _, rfl, _⟩ := h
    rfl
  · obtain ⟨d, M, v, rfl, mh, r1, X, qe, q⟩ := h
    have hu := hr.units
    refine ⟨_, (pss_cons (ps_if (pt_not (pt_val (pe_m0 m_is_dead (hr.mono (by decide)) (pv 0)))) (pss_one (ps_raw RE rfl (takes_of rfl rfl rfl rfl))) pss_nil)
      (pss_one (ps_ret (pe_m m_thinned (hr.mono (by decide)) (pv 0) (pa_cons pe_non pa_nil))))), ?_⟩
    cases eo : d.o with
    | some so =>
      refine q_if0 (b := true) mh (gt_is (gt_not (gt_B (gv_isdead (K := K) (gv_var rfl r1)))) (by rw [eo]; rfl)) (fun _ H1 hh1 => ?_) fun h => nomatch h
      exact qe (by rw [eo]; exact fun h => nomatch h) M H1 (.idle mh hh1)
    | none =>
      refine q_if0 (b := false) mh (gt_is (gt_not (gt_B (gv_isdead (K := K) (gv_var rfl r1)))) (by rw [eo]; rfl)) (fun h => nomatch h) fun _ H1 hh1 => ?_
      have G1 := Gr.idle mh hh1
      refine s_retL G1.mh (gl_met2 (R1 := LedR CL C) (R2 := OpR' Tx) (pre := fun d _ => ThinOk d) (R := fun d lo M ws => Pd Tx M (thinL d.c.clauses d.ls lo) ws) (x := d) (y := none) (insR_led (by decide +kernel) (by decide +kernel) (by decide +kernel)) (gv_var rfl r1) (gv_c rfl) X) fun p ws M' H' g h0 m0 hp pd => ?_
      have e := pd_tx pd
      subst e
      exact q eo p M' H' (G1.trans g) (G1.hh.free h0) m0 hp
end
end My

set_option Elab.async false
set_option linter.all false
set_option maxRecDepth 100000
set_option maxHeartbeats 8000000
set_option pp.maxSteps 900
namespace My
open PySem PySem.Spec PyProof.Rows L2 L3
open L3.Strm
section
variable {α β γ : Type}
def sl3 (R1 : Rl α) (R2 : Rl β) (R3 : Rl γ) (pre : α → β → γ → Prop) (R : α → β → γ → Hp → List V → Prop) : Sp := fun vs H Q _ => ∃ x y z M v w u, vs = [v, w, u] ∧ Same M H ∧ R1 x M v ∧ R2 y M w ∧ R3 z M u ∧ pre x y z ∧
  ∀ p ws M' H', Gr M H M' H' → H p = none → M' p = none → H' p = some (.lst ws) → R x y z M' ws → Q (.ref p) H'
theorem gl_call3 {K : PySem.W.Frag} {σ : Sl} {M : Hp} {t1 t2 t3 : TE} {E : XK} {R1 : Rl α} {R2 : Rl β} {R3 : Rl γ} [Mon R1] [Mon R2] [Mon R3] {pre : α → β → γ → Prop} {R : α → β → γ → Hp → List V → Prop} {x : α} {y : β} {z : γ} (h1 : Gv t1 σ M (R1 x)) (h2 : Gv t2 σ M (R2 y)) (h3 : Gv t3 σ M (R3 z)) (hp : pre x y z) :
    GvL (tCall (sl3 R1 R2 R3 pre R) [] E (tCons t1 (tCons t2 (tCons t3 tNil)))) σ M (R x y z) := fun H mh Q q =>
  h1 H mh _ fun v M1 H1 g1 p1 => h2.le g1.mm H1 g1.mh _ fun w M2 H2 g2 p2 => h3.le (g1.mm.trans g2.mm) H2 g2.mh _ fun u M3 H3 g3 p3 => ⟨x, y, z, M3, v, w, u, rfl, g3.mh, Mon.mono (g2.mm.trans g3.mm) p1, Mon.mono g3.mm p2, p3, hp, fun p ws M' H' g h0 m0 hw r => q p ws M' H' (((g1.trans g2).trans g3).trans g) (((g1.trans g2).trans g3).hh.free h0) m0 hw r⟩
end
structure DrOk (cs : List (List Str)) (hs : List Str) : Prop where
  w : ChW cs
  x : ∃ ns, Ctx ns cs hs
section
variable {P : Program} {w : World} {K : PySem.W.Frag} {mg : Str → Option Value} {base : Heap}
abbrev s__law_draws : Stmt := topS 55
theorem sc__law_draws : FnScope ["_law_clauses", "_law_some", "_law_literal", "_law_so"] ["_law_clauses", "_law_some", "_law_literal"] (defScope s__law_draws) := ⟨rfl, rfl, rfl, by decide +kernel, rfl, by decide +kernel, by decide +kernel⟩
def sp__law_draws (K : PySem.W.Frag) : Sp := sp3 (SqR K (SqR K Tx)) (SqR K Tx) (OpR' Tx) (fun cs hs _ => DrOk cs hs) fun cs hs lo => Bl (drawsO cs hs lo)
theorem ok__law_draws {f : Addr} {fd : FuncData} (F : Fun K "_law_draws" "_law_draws" s__law_draws f fd) (c__law_chase : Cal P w K mg base 2 "_law_chase" ["_law_clauses", "_law_half"] (sp__law_chase K)) : FnOk P w K mg base CX0 3 f fd ["_law_clauses", "_law_some", "_law_literal"] (sp__law_draws K) := by
  refine F.ok sc__law_draws (fun vs H Q E h => ?_) (fun cdv A outer s H vs Q E hr h => ?_)
  · obtain ⟨x, y, z, M, v, w, u, rfl, _⟩ := h
    rfl
  · obtain ⟨cs, hs, lo, M, v, w, u, rfl, mh, r1, r2, r3, ⟨hw, ns, X⟩, q⟩ := h
    have hu := hr.units
    refine ⟨_, (pss_cons (ps_set (i := 3) sc__law_draws.nd rfl (by first | exact .inl rfl | exact .inr rfl) (pe_f c__law_chase (hr.mono (by decide)) (pa_cons (pv 0) (pa_cons (pv 1) pa_nil))))
      (pss_one (ps_ret (pe_or (pe_cmp (pc_isN (pv 3))) (pe_one (pe_and (pe_cmp (pc_notN (pv 2))) (pe_one (pe_cmpR (op_inA hu) (pv 2) (pv 3) (by rfl))))))))), ?_⟩
    have hl : hs.length ≤ 1000000 := Nat.le_trans (lits_len X.h X.nm) (Nat.le_trans X.nm.n (by decide))
    refine q_asg (P := fun M v => ∃ r, LChase cs (once hs) r ∧ OpR' (LiR Tx) r M v) mh (gv_call2 (R1 := SqR K (SqR K Tx)) (R2 := SqR K Tx) (x := cs) (y := hs) (gv_var rfl r1) (gv_var rfl r2) ⟨hw.1, hw.2.1, hw.2.2, hl⟩) fun v3 M1 H1 g1 ⟨o, hch, p1⟩ => ?_
    rw [once_self (lits_nodup X.h)] at hch
    have he := lchase_ok X hch (.init X)
    have r31 : OpR' Tx lo M1 u := Mon.mono g1.mm r3
    refine s_ret (P := Bl (drawsO cs hs lo)) g1.mh ?_ fun z M' H' g r => q z M' H' (g1.trans g) r
    cases o with
    | none =>
      have e : drawsO cs hs lo = true := by unfold drawsO; rw [deadB_iff.mpr he]; rfl
      rw [e]
      exact gv_orV (b := true) (c := false) (gv_isN (b := true) (gv_var (P := fun _ v => v = .non) rfl p1) fun M v h => by rw [show v = .non from h]; rfl) fun z => nomatch z
    | some so =>
      have e : drawsO cs hs lo = (false || (!lo.isNone && inO so lo)) := by
        unfold drawsO
        rw [deadB_no he.1]
        cases lo with
        | none => rfl
        | some l =>
          show (false || derB cs hs l) = (false || (true && decide (l ∈ so)))
          rw [Bool.true_and]
          congr 1
          rw [Bool.eq_iff_iff, decide_eq_true_eq, derB_iff]
          exact (he.2.1 l).symm
      rw [e]
      have p1 : LiR Tx so M1 v3 := p1
      refine gv_orV (b := false) (gv_isN (b := false) (gv_var (P := LiR Tx so) rfl p1) fun M v h => by obtain ⟨a, vs, e, _⟩ := h; rw [e]; rfl) fun _ => gv_andV (gv_notN (b := lo.isNone) (gv_var (P := OpR' Tx lo) rfl r31) fun M v h => by
        cases lo with
        | none => rw [show v = .non from h]; rfl
        | some l => rw [show v = .str l from h]; rfl) fun hb => ?_
      cases lo with
      | none => cases hb
      | some l => exact gv_is (gv_inA (K := K) (neg := false) (x := l) (xs := so) (gv_var (P := Tx l) rfl r31) (gv_var rfl (.inl p1.sq))) fun M v h => by rw [show v = _ from h]; simp [inO]
abbrev s__law_thinned : Stmt := topS 56
theorem sc__law_thinned : FnScope ["_law_clauses", "_law_put_here", "_law_literal", "_law_found", "_law_one", "_law_some", "_law_part"] ["_law_clauses", "_law_put_here", "_law_literal"] (defScope s__law_thinned) := ⟨rfl, rfl, rfl, by decide +kernel, rfl, by decide +kernel, by decide +kernel⟩
def sp__law_thinned (K : PySem.W.Frag) : Sp := sl3 (SqR K (SqR K Tx)) (SqR K Tx) (OpR' Tx) (fun cs ls _ => DrOk cs ls) fun cs ls lo M ws => Pd Tx M (thinL cs ls lo) ws
theorem ok__law_thinned {f : Addr} {fd : FuncData} (F : Fun K "_law_thinned" "_law_thinned" s__law_thinned f fd) (T : Gc mg) (c__law_draws : Cal P w K mg base 3 "_law_draws" ["_law_clauses", "_law_some", "_law_literal"] (sp__law_draws K)) : FnOk P w K mg base CX0 4 f fd ["_law_clauses", "_law_put_here", "_law_literal"] (sp__law_thinned K) := by
  refine F.ok sc__law_thinned (fun vs H Q E h => ?_) (fun cdv A outer s H vs Q E hr h => ?_)
  · obtain ⟨x, y, z, M, v, w, u, rfl, _⟩ := h
    rfl
  · obtain ⟨cs, ls, lo, M, v, w, u, rfl, mh, r1, r2, r3, ⟨hw, ns, X⟩, q⟩ := h
    have hu := hr.units
    refine ⟨_, (pss_cons (ps_set (i := 3) sc__law_thinned.nd rfl (by first | exact .inl rfl | exact .inr rfl) (pe_callTy call_lstA (by rfl) T.list boot_list (pa_cons (pv 1) pa_nil)))
      (pss_cons (ps_for PassesOwn.never (by rfl) (pi_sq (pv 1)) (pg_name (i := 4) sc__law_thinned.nd rfl (by first | exact .inl rfl | exact .inr rfl)) (pss_cons (ps_setLc (i := 5) (own := [("_law_part", 6)]) (g := (gName 6)) (tt := (tTest (tOp (rEqP K true) (tVar 6) (tVar 4)))) (te := (tVar 6)) (by rfl) sc__law_thinned.nd rfl rfl (sw_true rfl rfl rfl (by decide +kernel)) (pi_sq (pv 3)) (blkOk_by (by rfl)) (fun _ _ _ _ _ => (pg_name (i := 6) sc__law_thinned.nd rfl (by first | exact .inl rfl | exact .inr rfl))) (fun _ _ _ _ _ => (pts_one (pt_cmpR (op_neP hu) (pv 6) (pv 4) (nomark _)))) (fun _ _ _ _ _ => (pv 6)))
      (pss_one (ps_if (pt_val (pe_f c__law_draws (hr.mono (by decide)) (pa_cons (pv 0) (pa_cons (pv 5) (pa_cons (pv 2) pa_nil))))) (pss_one (ps_set (i := 3) sc__law_thinned.nd rfl (by first | exact .inl rfl | exact .inr rfl) (pv 5))) pss_nil))))
      (pss_one (ps_ret (pv 3))))), ?_⟩
    have nn := X.nm.n
    have ll := lits_len X.h X.nm
    refine q_asgL mh (gl_lstOf (K := K) (R1 := Tx) (gv_var rfl r2)) fun p vs M1 H1 g1 h01 m01 hp1 pd => ?_
    have e := pd_tx pd
    subst e
    refine q_for (R1 := Tx) (xs := ls) g1.mh (gv_var rfl (Mon.mono g1.mm r2))
      (fun Mk i σ' M' H' => ∃ fp y4 y5, σ' = [some v, some w, some u, some (.ref fp), y4, y5, none] ∧ Gr M H M' H' ∧ Same Mk M' ∧ Own H M' H' fp (((ls.take i).foldl (thinP cs lo) ls).map V.str))
      (fun M2 H2 g2 => ⟨p, none, none, rfl, g1.trans g2, Same.refl _, ⟨h01, g2.keep m01 hp1, g2.hh _ _ hp1⟩⟩) (fun M2 i σ' M' H' ⟨_, _, _, _, g, s, _⟩ => ⟨s, g.mh⟩) ?_ ?_
    · rintro Mk i ch cv σ' M' H' s1k hi ⟨fp, y4, y5, rfl, g, sk, own⟩ rc
      cases (show cv = .str ch from rc)
      have sub := thin_sub cs lo (ls.take i) ls
      have e2 : (ls.take (i + 1)).foldl (thinP cs lo) ls = thinP cs lo ((ls.take i).foldl (thinP cs lo) ls) ch := by rw [List.take_succ, hi, List.foldl_append]; rfl
      rw [e2]
      revert own sub
      generalize (ls.take i).foldl (thinP cs lo) ls = found
      intro own sub
      have fl := sub.length_le
      have rp : LiR Tx found (upd M' fp (.lst (found.map V.str))) (.ref fp) := ⟨fp, _, rfl, upd_same, pd_of_tx _⟩
      refine q_asgLL (P := fun _ ws => ws = (found.filter fun x => decide (x ≠ ch)).map V.str) (fun _ _ _ h => h) g.mh own.m own.h (fun H mh Q q => gl_c1 (S := Tx) (R := Tx) (xs := found) (gi_sq (K := K) (gv_var rfl (LiR.sq rp))) (szK (by omega)) (fun x => decide (x ≠ ch)) id (fun x _ M1 u sm ru => gt_is (gt_test (gv_eqT (K := K) (neg := true) py_str inj_str (gv_var rfl ru) (gv_var rfl rfl) (by simp [PyData.depth]))) (by simp)) (fun x _ _ M1 u sm ru => gv_var rfl ru) H mh Q fun p ws M' H' g h0 m0 hw r => q p ws M' H' g h0 m0 hw (by rw [List.map_id] at r; exact pd_tx r)) fun sp ws M3 H3 g3 h03 m03 hs3 ew => ?_
      subst ew
      have G3 := g.trans g3
      have own3 := own.step g3
      have owns : Own H M3 H3 sp ((found.filter fun x => decide (x ≠ ch)).map V.str) := ⟨g.hh.free h03, m03, hs3⟩
      have r33 : OpR' Tx lo M3 u := Mon.mono G3.mm r3
      have r13 : SqR K (SqR K Tx) cs M3 v := Mon.mono G3.mm r1
      have fsub : (found.filter fun x => decide (x ≠ ch)).Sublist ls := List.filter_sublist.trans sub
      have Y : Ctx ns cs (found.filter fun x => decide (x ≠ ch)) := ⟨X.nm, X.c, X.h.subl fsub⟩
      refine s_if0 (b := drawsO cs (found.filter fun x => decide (x ≠ ch)) lo) (owns.fr G3.mh) (gt_B (gv_call3 (R1 := SqR K (SqR K Tx)) (R2 := SqR K Tx) (R3 := OpR' Tx) (pre := fun cs hs _ => DrOk cs hs) (R := fun cs hs lo => Bl (drawsO cs hs lo)) (x := cs) (y := found.filter fun x => decide (x ≠ ch)) (z := lo) (gv_var rfl (Mon.mono owns.up r13)) (gv_var rfl (LiR.sq (⟨sp, _, rfl, upd_same, pd_of_tx _⟩ : LiR Tx (found.filter fun x => decide (x ≠ ch)) _ (.ref sp)))) (gv_var rfl (Mon.mono owns.up r33)) ⟨hw, _, Y⟩)) (fun hb H4 hh4 => ?_) fun hb H4 hh4 => ?_
      · refine ⟨.ref sp, rfl, ?_⟩
        refine ⟨M3, sp, _, _, rfl, G3.trans (.idle G3.mh hh4), sk.trans g3.mm, ?_⟩
        have := owns.idle hh4
        unfold thinP
        rw [if_pos hb]
        exact this
      · refine ⟨M3, fp, _, _, rfl, G3.trans (.idle G3.mh hh4), sk.trans g3.mm, ?_⟩
        have := own3.idle hh4
        unfold thinP
        rw [if_neg (by rw [hb]; decide)]
        exact this
    · rintro Mk σ' M' H' s1k ⟨fp, y4, y5, rfl, g, sk, own⟩
      rw [List.take_length] at own
      exact ⟨.ref fp, rfl, q fp _ M' H' g own.h0 own.m own.h (pd_of_tx _)⟩
/-- what is asked of the fitting settings -/
def folB (fs : List (List Str)) (some_ : List Str) (lo : Option Str) : Bool := fs.all fun t => meets (some_.map opp ++ lo.toList) t
abbrev s__law_follows : Stmt := topS 58
theorem sc__law_follows : FnScope ["_law_fits_here", "_law_some", "_law_literal", "_law_clause_here", "_law_one"] ["_law_fits_here", "_law_some", "_law_literal"] (defScope s__law_follows) := ⟨rfl, rfl, rfl, by decide +kernel, rfl, by decide +kernel, by decide +kernel⟩
def sp__law_follows (K : PySem.W.Frag) : Sp := sp3 (SqR K TT) (SqR K Tx) (OpR' Tx) (fun fs ls lo => fs.length ≤ 1000000 ∧ ls.length ≤ 1000 ∧ ∀ l ∈ ls, l.length ≤ 1000) fun fs ls lo => Bl (folB fs ls lo)
theorem ok__law_follows {f : Addr} {fd : FuncData} (F : Fun K "_law_follows" "_law_follows" s__law_follows f fd) (T : Gc mg) (c__law_neg : Cal P w K mg base 1 "_law_neg" ["_law_one"] (sp__law_neg K)) (c__law_meets : Cal P w K mg base 1 "_law_meets" ["_law_clause_here", "_law_some"] (sp__law_meets K)) : FnOk P w K mg base CX0 2 f fd ["_law_fits_here", "_law_some", "_law_literal"] (sp__law_follows K) := by
  refine F.ok sc__law_follows (fun vs H Q E h => ?_) (fun cdv A outer s H vs Q E hr h => ?_)
  · obtain ⟨x, y, z, M, v, w, u, rfl, _⟩ := h
    rfl
  · obtain ⟨fs, ls, lo, M, v, w, u, rfl, mh, r1, r2, r3, ⟨h1, h2, h3⟩, q⟩ := h
    have hu := hr.units
    refine ⟨_, (pss_cons (ps_set (i := 3) sc__law_follows.nd rfl (by first | exact .inl rfl | exact .inr rfl) (pe_op op_addA (pe_lc (own := [("_law_one", 4)]) (g := (gName 4)) (tt := tYes) (te := (tCall (sp__law_neg K) [] E0 (tCons (tVar 4) tNil))) (by rfl) sc__law_follows.nd (pi_sq (pv 1)) (blkOk_by (by rfl)) (fun _ _ _ _ _ => (pg_name (i := 4) sc__law_follows.nd rfl (by first | exact .inl rfl | exact .inr rfl))) (fun _ _ _ _ _ => pts_nil) (fun _ _ _ _ _ => (pe_f c__law_neg (hr.mono (by decide)) (pa_cons (pv 4) pa_nil)))) (pe_ifExp (pt_cmp (pc_notN (pv 2))) (pe_lst (pa_cons (pv 2) pa_nil)) (pe_lst pa_nil))))
      (pss_one (ps_ret (pe_callB (cr_all rfl) (by rfl) T.all boot_all (pa_cons (pe_lc (own := [("_law_one", 4)]) (g := (gName 4)) (tt := tYes) (te := (tCall (sp__law_meets K) [] E0 (tCons (tVar 3) (tCons (tVar 4) tNil)))) (by rfl) sc__law_follows.nd (pi_sq (pv 0)) (blkOk_by (by rfl)) (fun _ _ _ _ _ => (pg_name (i := 4) sc__law_follows.nd rfl (by first | exact .inl rfl | exact .inr rfl))) (fun _ _ _ _ _ => pts_nil) (fun _ _ _ _ _ => (pe_f c__law_meets (hr.mono (by decide)) (pa_cons (pv 3) (pa_cons (pv 4) pa_nil))))) pa_nil))))), ?_⟩
    have ll : lo.toList.length ≤ 1 := by cases lo <;> simp
    refine q_asg (P := LiR Tx (ls.map opp ++ lo.toList)) mh (gl_addL (K := K) (R := Tx) (xs := ls.map opp) (ys := lo.toList) (gl_m1 (S := Tx) (R := Tx) (xs := ls) (gi_sq (K := K) (gv_var rfl r2)) (szK (by omega)) opp fun l hl M1 u sm ru => gv_call1 (R1 := Tx) (pre := fun x => x.length ≤ 1000) (R := fun x => Tx (opp x)) (x := l) (gv_var rfl ru) (h3 l hl)).li (gv_if (P := LiR Tx lo.toList) (b := !lo.isNone) (gt_B (gv_notN (b := lo.isNone) (gv_var (P := OpR' Tx lo) rfl r3) fun M v h => by
        cases lo with
        | none => rw [show v = .non from h]; rfl
        | some l => rw [show v = .str l from h]; rfl)) (fun hb => by
        cases lo with
        | none => cases hb
        | some l => exact gv_lstG (R := Tx) (xs := [l]) (ga_rl (gv_var rfl r3) fun _ _ => ga_rl0) (by show 1 ≤ 1000; decide)) fun hb => by
        cases lo with
        | none => exact gv_nilL
        | some l => cases hb) (szM (by rw [List.length_map]; omega))).li fun v3 M3 H3 g3 r33 => ?_
    refine s_ret g3.mh (gv_is (gv_all (K := K) (gl_m1 (S := Bl) (R := TT) (xs := fs) (gi_sq (K := K) (gv_var rfl (Mon.mono g3.mm r1))) (szK h1) (fun t => meets (ls.map opp ++ lo.toList) t) fun t _ M4 u4 sm ru => gv_call2 (R1 := SqR K Tx) (R2 := CtR K) (pre := fun p _ => p.length ≤ 1000000) (R := fun p c => Bl (meets p c)) (x := ls.map opp ++ lo.toList) (y := t) (gv_var rfl (Mon.mono sm r33 : LiR Tx _ M4 v3).sq) (gv_var rfl (.inl (TT.sq ru))) (by rw [List.length_append, List.length_map]; omega))) fun M v h => by rw [show v = _ from h, List.all_map]; rfl) fun z M' H' g r => q z M' H' (g3.trans g) r
end
end My

set_option Elab.async false
set_option linter.all false
set_option maxRecDepth 100000
set_option maxHeartbeats 8000000
set_option pp.maxSteps 900
namespace My
open PySem PySem.Spec PyProof.Rows L2 L3
open L3.Strm
/-! the law's own one who is led: a locked dict with two lists that change -/
def MR (c : CodeD) (pl sl : Addr) : Pr := fun M v => ∃ m o cv, v = .ref m ∧ M m = some (.frz o (.dK [(Sum.inr "code", cv), (Sum.inr "put", .ref pl), (Sum.inr "so", .ref sl)])) ∧ LawR c M cv
instance {c : CodeD} {pl sl : Addr} : Mono (MR c pl sl) := ⟨fun e ⟨m, o, cv, h1, h2, h3⟩ => ⟨m, o, cv, h1, e _ _ h2, Mono.mono e h3⟩⟩
def MRl : Rl (CodeD × Addr × Addr) := fun a => MR a.1 a.2.1 a.2.2
instance : Mon MRl := ⟨fun {x M M' v} e h => (Mono.mono (P := MR x.1 x.2.1 x.2.2) e h)⟩
section
variable {K : PySem.W.Frag} {σ : Sl} {M : Hp} {te : TE} {c : CodeD} {pl sl : Addr}
theorem gv_mC (h : Gv te σ M (MR c pl sl)) : Gv (tDGet te (tC (.str "code"))) σ M (LawR c) := gv_dgetF h fun M v ⟨m, o, cv, h1, h2, h3⟩ => ⟨m, o, _, cv, h1, h2, rfl, h3⟩
theorem gv_mP (h : Gv te σ M (MR c pl sl)) : Gv (tDGet te (tC (.str "put"))) σ M (fun _ v => v = .ref pl) := gv_dgetF h fun M v ⟨m, o, cv, h1, h2, h3⟩ => ⟨m, o, _, .ref pl, h1, h2, rfl, rfl⟩
theorem gv_mS (h : Gv te σ M (MR c pl sl)) : Gv (tDGet te (tC (.str "so"))) σ M (fun _ v => v = .ref sl) := gv_dgetF h fun M v ⟨m, o, cv, h1, h2, h3⟩ => ⟨m, o, _, .ref sl, h1, h2, rfl, rfl⟩
end
theorem c_li {K : PySem.W.Frag} {M : Hp} {v : V} {cs : List (List Str)} (h : LiR TT cs M v) : SqR K (SqR K Tx) cs M v := by
  obtain ⟨a, vs, e, h1, h2⟩ := h
  exact .inl ⟨a, vs, e, .inl (.inl h1), Paired.mapP h2 fun _ _ q => TT.sq q⟩
section
variable {P : Program} {w : World} {K : PySem.W.Frag} {mg : Str → Option Value} {base : Heap}
abbrev s__law_names_of : Stmt := topS 52
theorem sc__law_names_of : FnScope ["_law_m"] ["_law_m"] (defScope s__law_names_of) := ⟨rfl, rfl, rfl, by decide +kernel, rfl, by decide +kernel, by decide +kernel⟩
def sp__law_names_of (K : PySem.W.Frag) : Sp := sp1 MRl (fun a => a.1.names.length ≤ 1000) fun a => LiR Tx a.1.names
theorem ok__law_names_of {f : Addr} {fd : FuncData} (F : Fun K "_law_names_of" "_law_names_of" s__law_names_of f fd) : FnOk P w K mg base CX0 1 f fd ["_law_m"] (sp__law_names_of K) := by
  refine F.ok sc__law_names_of (fun vs H Q E h => ?_) (fun cdv A outer s H vs Q E hr h => ?_)
  · obtain ⟨x, M, v, rfl, _⟩ := h
    rfl
  · obtain ⟨⟨c, pl, sl⟩, M, v, rfl, mh, r1, hn, q⟩ := h
    have hu := hr.units
    have r1 : MR c pl sl M v := r1
    have nn : c.names.length = c.signs.length + c.helpers.length := List.length_append
    have hn : c.names.length ≤ 1000 := hn
    refine ⟨_, (pss_one (ps_ret (pe_op op_addA (pe_dget (Nat.lt_of_le_of_lt (Nat.add_le_add_left (by decide) _) hu) (pe_dget (Nat.lt_of_le_of_lt (Nat.add_le_add_left (by decide) _) hu) (pv 0) pe_str (fun _ _ => rfl)) pe_str (fun _ _ => rfl)) (pe_dget (Nat.lt_of_le_of_lt (Nat.add_le_add_left (by decide) _) hu) (pe_dget (Nat.lt_of_le_of_lt (Nat.add_le_add_left (by decide) _) hu) (pv 0) pe_str (fun _ _ => rfl)) pe_str (fun _ _ => rfl))))), ?_⟩
    exact s_ret mh (gl_addL (K := K) (R := Tx) (xs := c.signs) (ys := c.helpers) (gv_cS (gv_mC (gv_var rfl r1))) (gv_cH (gv_mC (gv_var rfl r1))) (szM (by omega))).li q
abbrev s__law_some_sign : Stmt := topS 54
theorem sc__law_some_sign : FnScope ["_law_stream", "_law_m", "_law_name"] ["_law_stream", "_law_m"] (defScope s__law_some_sign) := ⟨rfl, rfl, rfl, by decide +kernel, rfl, by decide +kernel, by decide +kernel⟩
def sp__law_some_sign (K : PySem.W.Frag) : Sp := spS1 MRl (fun a => NmL a.1.signs ∧ 0 < a.1.signs.length) (fun _ => 2) fun a => Ex Tx fun l => l ∈ litsOf a.1.signs
theorem ok__law_some_sign {f : Addr} {fd : FuncData} (F : Fun K "_law_some_sign" "_law_some_sign" s__law_some_sign f fd) (c__law_pick : Cal P w K mg base 2 "_law_pick" ["_law_stream", "_law_things"] (sp__law_pick K)) (c__law_draw : Cal P w K mg base 1 "_law_draw" ["_law_stream", "_law_many"] (sp__law_draw K)) : FnOk P w K mg base CX0 3 f fd ["_law_stream", "_law_m"] (sp__law_some_sign K) := by
  refine F.ok sc__law_some_sign (fun vs H Q E h => ?_) (fun cdv A outer s H vs Q E hr h => ?_)
  · obtain ⟨S, x, M, v, k, rfl, _⟩ := h
    rfl
  · obtain ⟨S, ⟨c, pl, sl⟩, M, v, k, rfl, mh, at_, r1, ⟨nm, n0⟩, q⟩ := h
    have hu := hr.units
    have r1 : MR c pl sl M v := r1
    have nm : NmL c.signs := nm
    have n0 : 0 < c.signs.length := n0
    have nn := nm.n
    have at_ : S.At (k + 2) H := at_
    refine ⟨_, (pss_cons (ps_set (i := 2) sc__law_some_sign.nd rfl (by first | exact .inl rfl | exact .inr rfl) (pe_f c__law_pick (hr.mono (by decide)) (pa_cons (pv 0) (pa_cons (pe_dget (Nat.lt_of_le_of_lt (Nat.add_le_add_left (by decide) _) hu) (pe_dget (Nat.lt_of_le_of_lt (Nat.add_le_add_left (by decide) _) hu) (pv 1) pe_str (fun _ _ => rfl)) pe_str (fun _ _ => rfl)) pa_nil))))
      (pss_one (ps_ret (pe_ifExp (pt_cmpR (op_eqP hu) (pe_f c__law_draw (hr.mono (by decide)) (pa_cons (pv 0) (pa_cons pe_int pa_nil))) pe_int (nomark _)) (pv 2) (pe_op op_addA pe_str (pv 2)))))), ?_⟩
    refine z_asg (S := S) (k := k + 1) (c := 1) (P := Ex Tx fun x => x ∈ c.signs) mh (at_.le (by omega)) (gs_call1 (S := S) (R1 := SqR K Tx) (pre := fun xs => 0 < xs.length ∧ xs.length ≤ 1000000) (cs := fun _ => 1) (R := fun xs => Ex Tx fun x => x ∈ xs) (x := c.signs) rfl (gv_is (gv_cS (gv_mC (gv_var rfl r1))) fun _ _ h => h.sq) ⟨n0, by omega⟩) fun v2 M2 H2 g2 a2 ⟨n, hn, r2⟩ => ?_
    cases (show v2 = _ from r2)
    have hl := nm_len (nm.nm n hn)
    exact z_ret (S := S) (k := k) (c := 1 + 0) g2.mh (a2.le (by omega)) (gs_if (c1 := 1) (c2 := 0) (gts_zero (K := K) rfl (gv_c rfl) (by decide) (by decide)) (fun _ => (gv_var (P := Ex Tx fun l => l ∈ litsOf c.signs) rfl ⟨n, mem_litsOf.mpr ⟨n, hn, .inl rfl⟩, rfl⟩).s) fun _ => (gv_is (gv_addSt (K := K) (x := "-") (y := n) (gv_c rfl) (gv_var rfl rfl) (szM (by show 1 + _ ≤ _; omega))) fun M v h => ⟨_, mem_litsOf.mpr ⟨n, hn, .inr rfl⟩, h⟩).s) fun u M' H' g a r => q u M' H' (g2.trans g) a r
abbrev s__law_literals : Stmt := topS 42
theorem sc__law_literals : FnScope ["_law_names_here", "_law_found", "_law_name"] ["_law_names_here"] (defScope s__law_literals) := ⟨rfl, rfl, rfl, by decide +kernel, rfl, by decide +kernel, by decide +kernel⟩
def sp__law_literals (K : PySem.W.Frag) : Sp := sp1 (SqR K Tx) (fun ns => ns.length ≤ 1000 ∧ ∀ n ∈ ns, n.length ≤ 1000) fun ns => LiR Tx (litsOf ns)
theorem ok__law_literals {f : Addr} {fd : FuncData} (F : Fun K "_law_literals" "_law_literals" s__law_literals f fd) : FnOk P w K mg base CX0 1 f fd ["_law_names_here"] (sp__law_literals K) := by
  refine F.ok sc__law_literals (fun vs H Q E h => ?_) (fun cdv A outer s H vs Q E hr h => ?_)
  · obtain ⟨x, M, v, rfl, _⟩ := h
    rfl
  · obtain ⟨ns, M, v, rfl, mh, r1, ⟨h1, h2⟩, q⟩ := h
    have hu := hr.units
    refine ⟨_, (pss_cons (ps_set (i := 1) sc__law_literals.nd rfl (by first | exact .inl rfl | exact .inr rfl) (pe_lst pa_nil))
      (pss_cons (ps_for PassesOwn.never (by rfl) (pi_sq (pv 0)) (pg_name (i := 2) sc__law_literals.nd rfl (by first | exact .inl rfl | exact .inr rfl)) (pss_one (ps_expr (pe_bm PySem.F.plainAttrs_list PySem.F.slot_list_extend PySem.F.type_list_extend mt_extend (pv 1) (pa_cons (pe_lst (pa_cons (pv 2) (pa_cons (pe_op op_addA pe_str (pv 2)) pa_nil))) pa_nil)))))
      (pss_one (ps_ret (pv 1))))), ?_⟩
    refine q_asgL mh gl_nil fun p vs M1 H1 g1 h01 m01 hp1 e => ?_
    subst e
    refine q_for (R1 := Tx) (xs := ns) g1.mh (gv_var rfl (Mon.mono g1.mm r1)) (fun Mk i σ' M' H' => ∃ y2, σ' = [some v, some (.ref p), y2] ∧ Gr M H M' H' ∧ Same Mk M' ∧ Own H M' H' p ((litsOf (ns.take i)).map V.str))
      (fun M2 H2 g2 => ⟨none, rfl, g1.trans g2, Same.refl _, ⟨h01, g2.keep m01 hp1, g2.hh _ _ hp1⟩⟩) (fun M2 i σ' M' H' ⟨_, _, g, s, _⟩ => ⟨s, g.mh⟩) ?_ ?_
    · rintro Mk i n nv σ' M' H' s1k hi ⟨y2, rfl, g, sk, own⟩ rc
      cases (show nv = .str n from rc)
      have hl := h2 n (List.mem_of_getElem? hi)
      have e2 : litsOf (ns.take (i + 1)) = litsOf (ns.take i) ++ [n, ("-" : Str) ++ n] := by rw [List.take_succ, hi]; exact litsOf_app _ _
      have sz : (litsOf (ns.take i)).length ≤ 2000 := by
        have : (litsOf (ns.take i)).length ≤ 2 * (ns.take i).length := flat_le fun x _ => Nat.le_refl 2
        have := List.length_take (i := i) (l := ns)
        omega
      refine s_ext (P := fun _ ws => ws = [V.str n, V.str (("-" : Str) ++ n)]) g.mh rfl own.h (fun H mh Q q => (gl_lst (ga_rl (R := Tx) (x := n) (xs := [("-" : Str) ++ n]) (gv_var rfl rfl) fun _ _ => ga_rl (gv_addSt (K := K) (x := "-") (y := n) (gv_c rfl) (gv_var rfl rfl) (szM (by show 1 + _ ≤ _; omega))) fun _ _ => ga_rl0) fun M vs pd => by rw [← pd.length]; exact szM (by show 2 ≤ _; omega)) H mh Q fun p ws M' H' g h0 m0 hw r => q p ws M' H' g h0 m0 hw (by have := pd_tx r; exact this)) (fun M' ws e => by subst e; rw [List.length_map]; exact szM (by show _ + 2 ≤ _; omega)) fun ws M3 H3 g3 e => ?_
      subst e
      have own3 := own.step g3
      refine ⟨M3, _, rfl, (g.trans g3).mut own3.h0 own3.m, sk.trans g3.mm, ?_⟩
      rw [e2, List.map_append]
      exact own3.put
    · rintro Mk σ' M' H' s1k ⟨y2, rfl, g, sk, own⟩
      rw [List.take_length] at own
      exact ⟨.ref p, rfl, q (.ref p) _ H' (g.freeze own.h0 own.m own.h) ⟨p, _, rfl, upd_same, pd_of_tx _⟩⟩
end
end My

set_option Elab.async false
set_option linter.all false
set_option maxRecDepth 100000
set_option maxHeartbeats 8000000
set_option pp.maxSteps 900
namespace My
open PySem PySem.Spec PyProof.Rows L2 L3
open L3.Strm
def EndR (ns : List Str) (cs : List (List Str)) (hs : List Str) : Pr := fun M v => ∃ o, EndsOk ns cs hs o ∧ OpR' (LiR Tx) o M v
instance {ns : List Str} {cs : List (List Str)} {hs : List Str} : Mono (EndR ns cs hs) := ⟨fun e ⟨o, h1, h2⟩ => ⟨o, h1, Mon.mono e h2⟩⟩
/-- a locked display whose second and third thing are lists of ours -/
theorem gd_dispO {σ : Sl} {M : Hp} {t1 t2 t3 : TE} {a b c : Str} {R1 : Pr} [Mono R1] {P3 : Hp → List V → Prop} (h1 : Gv t1 σ M R1) (h2 : ∀ M1, Same M M1 → GvL t2 σ M1 fun _ vs => vs = []) (h3 : ∀ M1, Same M M1 → GvL t3 σ M1 P3) (n1 : a ≠ b) (n2 : a ≠ c) (n3 : b ≠ c) {H : Hp} (mh : Same M H) {Q : VK}
    (q : ∀ p ob u1 pl sl ws M3 M' H', Gr M H M' H' → M' p = some (.frz ob (.dK [(Sum.inr a, u1), (Sum.inr b, .ref pl), (Sum.inr c, .ref sl)])) → R1 M' u1 → pl ≠ sl → Own H M' H' pl [] → Own H M' H' sl ws → Same M3 M' → P3 M3 ws → Q (.ref p) H') : tFrz (tDisp [(tC (.str a), t1), (tC (.str b), t2), (tC (.str c), t3)]) σ H Q := fun p np => by
  have g0 := Gr.own (o := .dK []) mh np
  have m0 : M p = none := mh.free np
  have p0 : (upd H p (.dK [])) p = some (.dK []) := upd_same
  refine h1 _ g0.mh _ fun u1 M1 H1 g1 r1 => ?_
  refine h2 M1 g1.mm H1 g1.mh _ fun pl vs M2 H2 g2 h02 m02 hp2 ev => ?_
  subst ev
  refine h3 M2 (g1.mm.trans g2.mm) H2 g2.mh _ fun sl ws M3 H3 g3 h03 m03 hs3 r3 => ?_
  have g123 := (g1.trans g2).trans g3
  have G3 := g0.trans g123
  have hp3 := g123.hh _ _ p0
  have m3 : M3 p = none := g123.keep m0 p0
  have npp : pl ≠ p := fun e => by rw [e, g1.hh _ _ p0] at h02; cases h02
  have nsp : sl ≠ p := fun e => by rw [e, (g1.trans g2).hh _ _ p0] at h03; cases h03
  have hpl3 := g3.hh _ _ hp2
  have npl : pl ≠ sl := fun e => by rw [← e, hp2] at h03; cases h03
  have hpl0 : H pl = none := by
    have h := g1.hh.free h02
    rw [upd_ne npp] at h
    exact h
  have hsl0 : H sl = none := by
    have h := (g1.trans g2).hh.free h03
    rw [upd_ne nsp] at h
    exact h
  refine ⟨hp3, [(Sum.inr a, u1), (Sum.inr b, .ref pl), (Sum.inr c, .ref sl)], rfl, by show 3 ≤ 15; decide, ?_⟩
  rw [merge3 n1 n2 n3]
  refine ⟨p, _, rfl, upd_same, trivial, fun ob => ?_⟩
  have G5 := (G3.mut (o := .dK [(Sum.inr a, u1), (Sum.inr b, .ref pl), (Sum.inr c, .ref sl)]) np m3).mut (o := .frz ob (.dK [(Sum.inr a, u1), (Sum.inr b, .ref pl), (Sum.inr c, .ref sl)])) np m3
  have G6 := G5.freeze np m3 upd_same
  have up := same_new (o := .frz ob (.dK [(Sum.inr a, u1), (Sum.inr b, .ref pl), (Sum.inr c, .ref sl)])) m3
  exact q p ob u1 pl sl ws M3 _ _ G6 upd_same (Mono.mono ((g2.mm.trans g3.mm).trans up) r1) npl ⟨hpl0, by rw [upd_ne npp]; exact g3.keep m02 hp2, by rw [upd_ne npp, upd_ne npp]; exact hpl3⟩ ⟨hsl0, by rw [upd_ne nsp]; exact m03, by rw [upd_ne nsp, upd_ne nsp]; exact hs3⟩ up r3
/-- the dict, and its second list known -/
def MS (c : CodeD) (pl sl : Addr) (ws : List V) : Pr := fun M v => MR c pl sl M v ∧ M sl = some (.lst ws)
instance {c : CodeD} {pl sl : Addr} {ws : List V} : Mono (MS c pl sl ws) := ⟨fun e ⟨h1, h2⟩ => ⟨Mono.mono e h1, e _ _ h2⟩⟩
theorem gv_mLast {K : PySem.W.Frag} {σ : Sl} {M : Hp} {te : TE} {c : CodeD} {pl sl : Addr} {ws : List V} {u : V} (h : Gv te σ M (MS c pl sl (ws ++ [u]))) : Gv (tOp (rIxX K) (tDGet te (tC (.str "so"))) (tUn (rU fun i => .int (-i)) (tC (.int 1)))) σ M (fun _ v => v = u) := gv_ix (K := K) (R := EqV) (xs := ws ++ [u]) (i := -1) (x := u) (gv_dgetF h fun M v ⟨⟨m, o, cv, h1, h2, h3⟩, hl⟩ => ⟨m, o, _, .ref sl, h1, h2, rfl, .inl ⟨sl, _, rfl, .inl (.inl hl), pd_eqv _⟩⟩) gv_minusD (atI_lastD _ _)
/-- .. and what it holds -/
theorem gv_mLast2 {K : PySem.W.Frag} {σ : Sl} {M : Hp} {c : CodeD} {pl sl : Addr} {ws : List V} {u mv : V} {R : Pr} [Mono R] {i : Nat} (h : MS c pl sl (ws ++ [u]) M mv) (r : R M u) (hi : σ[i]? = some (some mv) := by rfl) : Gv (tOp (rIxX K) (tDGet (tVar i) (tC (.str "so"))) (tUn (rU fun i => .int (-i)) (tC (.int 1)))) σ M R := fun H mh Q q =>
  gv_mLast (K := K) (gv_var hi h) H mh Q fun v M' H' g e => q v M' H' g (by rw [show v = u from e]; exact Mono.mono g.mm r)
section
variable {P : Program} {w : World} {K : PySem.W.Frag} {mg : Str → Option Value} {base : Heap}
abbrev s__law_begin : Stmt := topS 51
theorem sc__law_begin : FnScope ["_law_c"] ["_law_c"] (defScope s__law_begin) := ⟨rfl, rfl, rfl, by decide +kernel, rfl, by decide +kernel, by decide +kernel⟩
def sp__law_begin (K : PySem.W.Frag) : Sp := fun vs H Q _ => ∃ c M v, vs = [v] ∧ Same M H ∧ LawR c M v ∧ Ctx c.names c.clauses [] ∧ ChW c.clauses ∧
  ∀ m pl sl o u M' H', Gr M H M' H' → MR c pl sl M' m → pl ≠ sl → Own H M' H' pl [] → Own H M' H' sl [u] → EndsOk c.names c.clauses [] o → OpR' (LiR Tx) o M' u → Q m H'
theorem ok__law_begin {f : Addr} {fd : FuncData} (F : Fun K "_law_begin" "_law_begin" s__law_begin f fd) (c__law_chase : Cal P w K mg base 2 "_law_chase" ["_law_clauses", "_law_half"] (sp__law_chase K)) : FnOk P w K mg base CX0 3 f fd ["_law_c"] (sp__law_begin K) := by
  refine F.ok sc__law_begin (fun vs H Q E h => ?_) (fun cdv A outer s H vs Q E hr h => ?_)
  · obtain ⟨c, M, v, rfl, _⟩ := h
    rfl
  · obtain ⟨c, M, v, rfl, mh, r1, X, hw, q⟩ := h
    have hu := hr.units
    refine ⟨_, (pss_one (ps_ret (pe_frz (pe_disp (pps_cons pe_str (pv 0) (pps_cons pe_str (pe_lst pa_nil) (pps_cons pe_str (pe_lst (pa_cons (pe_f c__law_chase (hr.mono (by decide)) (pa_cons (pe_dget (Nat.lt_of_le_of_lt (Nat.add_le_add_left (by decide) _) hu) (pv 0) pe_str (fun _ _ => rfl)) (pa_cons (pe_lst pa_nil) pa_nil))) pa_nil)) pps_nil))) (by rfl) (by rfl) (by intro z; cases z) (by decide))))), ?_⟩
    have ch : ∀ M1, Same M M1 → GvL (tLst (tCons (tCall (sp__law_chase K) [] E0 (tCons (tDGet (tVar 0) (tC (.str "clauses"))) (tCons (tLst tNil) tNil))) tNil)) [some v] M1 fun M ws => ∃ u o, ws = [u] ∧ EndsOk c.names c.clauses [] o ∧ OpR' (LiR Tx) o M u := fun M1 s1 H1 mh1 Q1 q1 =>
      gl_lst (ga_cons (P := EndR c.names c.clauses []) (gv_is (gv_call2 (R1 := SqR K (SqR K Tx)) (R2 := SqR K Tx) (pre := ChOk) (R := fun cs hs M v => ∃ r, LChase cs (once hs) r ∧ OpR' (LiR Tx) r M v) (x := c.clauses) (y := []) (gv_is (gv_cC (gv_var rfl (Mono.mono s1 r1))) fun _ _ h => c_li h) (gv_is (gv_nilL (R := Tx)) fun _ _ h => h.sq) ⟨hw.1, hw.2.1, hw.2.2, by decide⟩) fun M v ⟨r, hch, ro⟩ => ⟨r, lchase_ok X hch (.init X), ro⟩) fun _ _ => ga_nil) (fun M vs ⟨_, _, e1, _, e2⟩ => by subst e2 e1; show 1 ≤ sizeLine; decide) H1 mh1 Q1 fun p vs M' H' g h0 m0 hw ⟨uv, _, e1, ⟨o, he, ro⟩, e2⟩ => q1 p vs M' H' g h0 m0 hw (by
        subst e2 e1
        exact ⟨uv, o, rfl, he, ro⟩)
    refine gd_dispO (a := "code") (b := "put") (c := "so") (σ := [some v]) (t1 := tVar 0) (t2 := tLst tNil) (R1 := LawR c) (gv_var rfl r1) (fun M1 s1 => gl_nil) ch (by decide) (by decide) (by decide) mh fun p ob u1 pl sl ws M3 M' H' g hm rc npl op os s3 ⟨u, o, ew, he, ro⟩ => ?_
    subst ew
    exact q (.ref p) pl sl o u M' H' g ⟨p, ob, u1, rfl, hm, rc⟩ npl op os he (Mon.mono s3 ro)
abbrev s__law_put : Stmt := topS 53
theorem sc__law_put : FnScope ["_law_m", "_law_literal", "_law_before", "_law_one"] ["_law_m", "_law_literal"] (defScope s__law_put) := ⟨rfl, rfl, rfl, by decide +kernel, rfl, by decide +kernel, by decide +kernel⟩
def sp__law_put (K : PySem.W.Frag) : Sp := fun vs H Q _ => ∃ c pl sl ls ms u so l M mv, vs = [mv, .str l] ∧ MR c pl sl M mv ∧ Same M (delS H [pl, sl]) ∧ pl ≠ sl ∧ H pl = some (.lst (ls.map V.str)) ∧ H sl = some (.lst (ms ++ [u])) ∧ LiR Tx so M u ∧ Ctx c.names c.clauses (so ++ [l]) ∧ ChW c.clauses ∧ (ls.length ≤ 1000 ∧ ms.length ≤ 1000) ∧
  ∀ z o' u' M' H', TwoAt M H M' H' pl sl ((ls ++ [l]).map V.str) (ms ++ [u] ++ [u']) → OpR' (LiR Tx) o' M' u' → EndsOk c.names c.clauses (so ++ [l]) o' → Q z H'
theorem ok__law_put {f : Addr} {fd : FuncData} (F : Fun K "_law_put" "_law_put" s__law_put f fd) (T : Gc mg) (c__law_chase : Cal P w K mg base 2 "_law_chase" ["_law_clauses", "_law_half"] (sp__law_chase K)) (c__law_up : Cal P w K mg base 1 "_law_up" ["_law_some", "_law_names_here"] (sp__law_up K)) (c__law_names_of : Cal P w K mg base 1 "_law_names_of" ["_law_m"] (sp__law_names_of K)) : FnOk P w K mg base CX0 3 f fd ["_law_m", "_law_literal"] (sp__law_put K) := by
  refine F.ok sc__law_put (fun vs H Q E h => ?_) (fun cdv A outer s H vs Q E hr h => ?_)
  · obtain ⟨_, _, _, _, _, _, _, _, _, _, rfl, _⟩ := h
    rfl
  · obtain ⟨c, pl, sl, ls, ms, u, so, l, M, mv, rfl, rm, mh0, ne, hp, hs, ru, X, hw, ⟨n1, n2⟩, q⟩ := h
    have hu := hr.units
    refine ⟨_, (pss_cons (ps_set (i := 2) sc__law_put.nd rfl (by first | exact .inl rfl | exact .inr rfl) (pe_ix ix_X (pe_dget (Nat.lt_of_le_of_lt (Nat.add_le_add_left (by decide) _) hu) (pv 0) pe_str (fun _ _ => rfl)) (pe_un un_neg pe_int) (fun _ _ => rfl)))
      (pss_cons (ps_expr (pe_bm PySem.F.plainAttrs_list PySem.F.slot_list_append PySem.F.type_list_append mt_append (pe_dget (Nat.lt_of_le_of_lt (Nat.add_le_add_left (by decide) _) hu) (pv 0) pe_str (fun _ _ => rfl)) (pa_cons (pv 1) pa_nil)))
      (pss_cons (ps_expr (pe_bm PySem.F.plainAttrs_list PySem.F.slot_list_append PySem.F.type_list_append mt_append (pe_dget (Nat.lt_of_le_of_lt (Nat.add_le_add_left (by decide) _) hu) (pv 0) pe_str (fun _ _ => rfl)) (pa_cons (pe_f c__law_chase (hr.mono (by decide)) (pa_cons (pe_dget (Nat.lt_of_le_of_lt (Nat.add_le_add_left (by decide) _) hu) (pe_dget (Nat.lt_of_le_of_lt (Nat.add_le_add_left (by decide) _) hu) (pv 0) pe_str (fun _ _ => rfl)) pe_str (fun _ _ => rfl)) (pa_cons (pe_op op_addA (pv 2) (pe_lst (pa_cons (pv 1) pa_nil))) pa_nil))) pa_nil)))
      (pss_cons (ps_if (pt_cmp (pc_isN (pe_ix ix_X (pe_dget (Nat.lt_of_le_of_lt (Nat.add_le_add_left (by decide) _) hu) (pv 0) pe_str (fun _ _ => rfl)) (pe_un un_neg pe_int) (fun _ _ => rfl)))) (pss_one (ps_ret pe_non)) pss_nil)
      (pss_one (ps_ret (pe_lc (own := [("_law_one", 3)]) (g := (gName 3)) (tt := (tAnd (tTest (tOp (rInA K true) (tVar 3) (tVar 2))) (tTest (tOp (rEqP K true) (tVar 3) (tVar 1))))) (te := (tVar 3)) (by rfl) sc__law_put.nd (pi_sq (pe_f c__law_up (hr.mono (by decide)) (pa_cons (pe_ix ix_X (pe_dget (Nat.lt_of_le_of_lt (Nat.add_le_add_left (by decide) _) hu) (pv 0) pe_str (fun _ _ => rfl)) (pe_un un_neg pe_int) (fun _ _ => rfl)) (pa_cons (pe_f c__law_names_of (hr.mono (by decide)) (pa_cons (pv 0) pa_nil)) pa_nil)))) (blkOk_by (by rfl)) (fun _ _ _ _ _ => (pg_name (i := 3) sc__law_put.nd rfl (by first | exact .inl rfl | exact .inr rfl))) (fun _ _ _ _ _ => (pts_one (PW.pt (pw_and (pt_cmpR (op_niA hu) (pv 3) (pv 2) (by rfl)) (pw_and1 (pt_cmpR (op_neP hu) (pv 3) (pv 1) (nomark _))))))) (fun _ _ _ _ _ => (pv 3))))))))), ?_⟩
    have mp : M pl = none := delS_none (bs := [pl, sl]) (by simp) mh0
    have ms0 : M sl = none := delS_none (bs := [pl, sl]) (by simp) mh0
    have mh := lent_two mh0 hp hs
    have up : Same M (upd (upd M pl (.lst (ls.map V.str))) sl (.lst (ms ++ [u]))) := (same_new mp).trans (same_new (by rw [upd_ne (Ne.symm ne)]; exact ms0))
    have nn := X.nm.n
    have sl2 := lits_len X.h X.nm
    rw [List.length_append, List.length_singleton] at sl2
    -- before
    refine q_asg (P := fun _ v => v = u) mh (gv_mLast (K := K) (gv_var rfl ⟨Mono.mono up rm, upd_same⟩)) fun v2 M2 H2 g2 e2 => ?_
    cases (show v2 = u from e2)
    have T2 := TwoAt.ofKnown mh0 ne hp hs g2
    have s2 : Same M (delS M2 [pl, sl]) := T2.g.mm
    have rm2 : MR c pl sl (delS M2 [pl, sl]) mv := Mono.mono s2 rm
    have ru2 : LiR Tx so (delS M2 [pl, sl]) u := Mon.mono s2 ru
    revert T2 s2 rm2 ru2
    generalize delS M2 [pl, sl] = M3
    intro T2 s2 rm2 ru2
    refine q_appAtG (P := fun _ v => v = .str l) T2.mh (gv_mP (gv_var rfl rm2)) T2.hp (szM (by rw [List.length_map]; omega)) (fun M1 sm => gv_var rfl rfl) fun v4 M4 H4 g4 e4 => ?_
    cases (show v4 = _ from e4)
    have T4 := (T2.step g4).putp (vs' := ls.map V.str ++ [.str l])
    have rm4 : MR c pl sl M4 mv := Mono.mono g4.mm rm2
    have ru4 : LiR Tx so M4 u := Mon.mono g4.mm ru2
    revert T4
    generalize upd H4 pl (.lst (ls.map V.str ++ [.str l])) = H5
    intro T4
    refine q_appAtG (P := fun M v => ∃ o', EndsOk c.names c.clauses (so ++ [l]) o' ∧ OpR' (LiR Tx) o' M v) T4.mh (gv_mS (gv_var rfl rm4)) T4.hq (szM (by rw [List.length_append, List.length_singleton]; omega)) (fun M1 sm => gv_is (gv_call2 (R1 := SqR K (SqR K Tx)) (R2 := SqR K Tx) (pre := ChOk) (R := fun cs hs M v => ∃ r, LChase cs (once hs) r ∧ OpR' (LiR Tx) r M v) (x := c.clauses) (y := so ++ [l]) (gv_is (gv_cC (gv_mC (gv_var rfl (Mono.mono sm rm4)))) fun _ _ h => c_li h) (gv_is (gl_addL (K := K) (R := Tx) (xs := so) (ys := [l]) (gv_var rfl (Mon.mono sm ru4)) (gv_lstG (R := Tx) (xs := [l]) (ga_rl (gv_var rfl rfl) fun _ _ => ga_rl0) (by show 1 ≤ 1000; decide)) (szM (by show so.length + 1 ≤ _; omega))).li fun _ _ h => h.sq) ⟨hw.1, hw.2.1, hw.2.2, by rw [List.length_append]; show so.length + 1 ≤ _; omega⟩) fun M v ⟨r, hch, ro⟩ => by
      rw [once_self (lits_nodup X.h)] at hch
      exact ⟨r, lchase_ok X hch (.init X), ro⟩) fun v6 M6 H6 g6 ⟨o', he, ro⟩ => ?_
    have T6 := (T4.step g6).putq (ws' := ms ++ [u] ++ [v6])
    have rm6 : MR c pl sl M6 mv := Mono.mono g6.mm rm4
    have ru6 : LiR Tx so M6 u := Mon.mono g6.mm ru4
    revert T6
    generalize upd H6 sl (.lst (ms ++ [u] ++ [v6])) = H7
    intro T6
    have fin : ∀ z M' H', Gr (upd (upd M6 pl (.lst (ls.map V.str ++ [.str l]))) sl (.lst (ms ++ [u] ++ [v6]))) H7 M' H' → Q z H' := fun z M' H' g => by
      have g' := Gr.delB (bs := [pl, sl]) g
      rw [delS_two T6.mp T6.mq] at g'
      refine q z o' v6 (delS M' [pl, sl]) H' ⟨T6.g.trans g', ne, by rw [List.map_append]; exact g.hh _ _ T6.hp, g.hh _ _ T6.hq⟩ (Mon.mono g'.mm ro) he
    have mh7 := same_lent (same_lent T6.mh T6.hp) T6.hq
    have up7 : Same M6 (upd (upd M6 pl (.lst (ls.map V.str ++ [.str l]))) sl (.lst (ms ++ [u] ++ [v6]))) := (same_new T6.mp).trans (same_new (by rw [upd_ne (Ne.symm ne)]; exact T6.mq))
    have rm7 : MS c pl sl (ms ++ [u] ++ [v6]) (upd (upd M6 pl (.lst (ls.map V.str ++ [.str l]))) sl (.lst (ms ++ [u] ++ [v6]))) mv := ⟨Mono.mono up7 rm6, upd_same⟩
    have ro7 := Mon.mono up7 ro
    have ru7 := Mon.mono up7 ru6
    revert mh7 rm7 ro7 ru7 fin
    generalize upd (upd M6 pl (.lst (ls.map V.str ++ [.str l]))) sl (.lst (ms ++ [u] ++ [v6])) = M7
    intro fin mh7 rm7 ro7 ru7
    refine q_if0 (b := o'.isNone) mh7 (gt_B (gv_isN (b := o'.isNone) (gv_is (gv_mLast (K := K) (ws := ms ++ [u]) (u := v6) (gv_var rfl rm7)) fun M v h => h) fun M v h => by
      rw [show v = v6 from h]
      cases o' with
      | none => rw [show v6 = .non from ro]; rfl
      | some s' => obtain ⟨a, vs, e, _⟩ := (show LiR Tx s' M6 v6 from ro); rw [e]; rfl)) (fun hb H8 hh8 => ?_) fun hb H8 hh8 => ?_
    · exact s_ret (P := fun _ v => v = .non) (mh7.trans hh8) (gv_c rfl) fun z M' H' g r => fin z M' H' ((Gr.idle mh7 hh8).trans g)
    cases o' with
    | none => cases hb
    | some s' =>
      have ro7 : LiR Tx s' M7 v6 := ro7
      have nl : c.names.length ≤ 1000 := by omega
      refine s_ret (P := fun _ _ => True) (mh7.trans hh8) (gv_is (gl_c1 (S := Tx) (R := Tx) (xs := asc s' c.names) (gi_sq (K := K) (gv_is (gv_call2 (R1 := CtR K) (R2 := SqR K Tx) (pre := fun _ ns => Shorts ns) (R := fun ls ns => TT (asc ls ns)) (x := s') (y := c.names) (gv_is (gv_mLast2 (K := K) rm7 ro7) fun _ _ h => .inl h.sq) (gv_is (gv_call1 (R1 := MRl) (pre := fun a => a.1.names.length ≤ 1000) (R := fun a => LiR Tx a.1.names) (x := (c, pl, sl)) (gv_var rfl rm7.1) nl) fun _ _ h => h.sq) (nm_shorts X.nm)) fun _ _ h => TT.sq h)) (szK (by
        have : (asc s' c.names).length ≤ 2 * c.names.length := flat_le fun x _ => List.length_filter_le _ _
        omega)) (fun x => decide (x ∉ so) && decide (x ≠ l)) id (fun x _ M1 u1 sm ru1 => gt_and (gt_is (gt_test (gv_inA (K := K) (neg := true) (gv_var rfl ru1) (gv_var rfl (.inl (Mon.mono sm ru7).sq)))) (by simp)) fun _ => gt_is (gt_test (gv_eqT (K := K) (neg := true) py_str inj_str (gv_var rfl ru1) (gv_var rfl rfl) (by simp [PyData.depth]))) (by simp)) fun x _ _ M1 u1 sm ru1 => gv_var rfl ru1).li fun _ _ _ => trivial) fun z M' H' g r => fin z M' H' ((Gr.idle mh7 hh8).trans g)
end
end My

set_option Elab.async false
set_option linter.all false
set_option maxRecDepth 100000
set_option maxHeartbeats 8000000
set_option pp.maxSteps 900
namespace My
open PySem PySem.Spec PyProof.Rows L2 L3 LamX
open L3.Strm
abbrev s__law_told : Stmt := topS 57
theorem sc__law_told : FnScope ["_law_ask", "e", "_law_found"] ["_law_ask"] (defScope s__law_told) := ⟨rfl, rfl, rfl, by decide +kernel, rfl, by decide +kernel, by decide +kernel⟩
structure RefT (K : PySem.W.Frag) (mg : Str → Option Value) (DE NE ND : Addr) : Prop where
  ex : ∃ g fd, Fun K "_law_told" "_law_told" s__law_told g fd ∧ mg "_law_told" = some (.ref g) ∧ L2.Binds K fd ["_law_ask"] []
  g1 : mg "Dead" = some (.ref DE)
  g2 : mg "NotDead" = some (.ref NE)
  g3 : mg "NotDrawn" = some (.ref ND)
  x3 : XfC K ND
  n3 : PySem.W.findIn K (.ref ND) "literal" = some none
  e0_0 : PySem.W.exmOne K (.ref DE) (.ref DE) = some true
  e1_0 : PySem.W.exmOne K (.ref NE) (.ref DE) = some false
  e1_1 : PySem.W.exmOne K (.ref NE) (.ref NE) = some true
  e2_0 : PySem.W.exmOne K (.ref ND) (.ref DE) = some false
  e2_1 : PySem.W.exmOne K (.ref ND) (.ref NE) = some false
  e2_2 : PySem.W.exmOne K (.ref ND) (.ref ND) = some true
def rawAs (C : Addr) (a : Str) (Q : VK) (cls : Value) (d : Option Addr) (H' : Hp) : Prop := cls = .ref C ∧ d = none ∧ ∀ p, H' p = none → Q (.ref p) (upd H' p (.tup [.str a]))
def raisedAs (C : Addr) (a f : Str) (Q : VK) (cls : Value) (d : Option Addr) (H' : Hp) : Prop := cls = .ref C ∧ ∃ x v, d = some x ∧ H' x = some (.xd [(f, v)]) ∧ ∀ p, H' p = none → Q (.ref p) (upd H' p (.tup [.str a, v]))
def TT3 (DE NE ND : Addr) : (XK → Hp → VK → Prop) → Hp → VK → Prop := fun tl H Q => tl (fun cls d H' => rawAs DE "dead" Q cls d H' ∨ rawAs NE "not dead" Q cls d H' ∨ raisedAs ND "not drawn" "literal" Q cls d H') H fun v H' => [V.str "told", v].length ≤ sizeLine ∧ ∀ p, H' p = none → ∃ u, (some (some (V.ref p)) : Option (Option V)) = some (some u) ∧ Q u (upd H' p (.tup [.str "told", v]))
theorem slot2 {σ : Sl} {x y : Option V} (h : σ.length = 3) : (((σ.set 1 x).set 2 y).set 1 none)[2]? = some y := by
  rw [List.getElem?_set_ne (by decide), List.getElem?_set_self (by rw [List.length_set]; omega)]
theorem slot2p {σ : Sl} {y : Option V} (h : σ.length = 3) : (σ.set 2 y)[2]? = some y := List.getElem?_set_self (by omega)
theorem gives_told {X : Cx} {DE NE ND g : Addr} {cdv : Value} {q : Str} (R : RefT X.K X.mg DE NE ND) : GivesTo X ["_law_ask", "e", "_law_found"] "_law_told" (defScope s__law_told) g cdv (defBody s__law_told) "_law_ask" q (TT3 DE NE ND) := by
  intro f c' s H Q tl act hc h
  have nd := sc__law_told.nd
  refine ⟨_, pss_cons (ps_try_cl (X := (cxOf C8.CX0 X.prog X.w X.K X.mg X.base ["_law_ask", "e", "_law_found"] "_law_told" (defScope s__law_told) g cdv X.A X.stack s H C8.E0).nox)
      (tb := fun W D σ H => ∃ Ech : XK, (∀ cls d σ' H', Ech cls d H' → σ'.length = 3 → W cls d σ' H') ∧ σ[0]? = some (some (.ref f)) ∧ H c' = some (CodeO c' q) ∧ tl Ech H fun v H' => [V.str "told", v].length ≤ sizeLine ∧ ∀ p, H' p = none → D.nx (σ.set 2 (some (.ref p))) (upd H' p (.tup [.str "told", v])))
      (l := [(.ref DE, none, fun a cls d => tAsg (tTup (tCons (tC (.str "dead")) tNil)) (gName 2)), (.ref NE, none, fun a cls d => tAsg (tTup (tCons (tC (.str "not dead")) tNil)) (gName 2)), (.ref ND, some 1, fun a cls d => tAsg (tTup (tCons (tC (.str "not drawn")) (tCons (tXf a cls d ND "literal" (tVar 1)) tNil))) (gName 2))])
      (W := fun _ _ _ _ => False) rfl rfl L2.takes0 (fun W pn xe tk _ => ?_)
      (.plain ⟨rfl, by decide, .inl R.g1⟩ (fun a oe cls d pn hz hf => pss_one (ps_set (i := 2) nd rfl (by first | exact .inl rfl | exact .inr rfl) (pe_tup (pa_cons pe_str pa_nil))))
        (.plain ⟨rfl, by decide, .inl R.g2⟩ (fun a oe cls d pn hz hf => pss_one (ps_set (i := 2) nd rfl (by first | exact .inl rfl | exact .inr rfl) (pe_tup (pa_cons pe_str pa_nil))))
        (.named nd rfl rfl ⟨rfl, by decide, .inl R.g3⟩ (fun a oe cls d pn hz hf => pss_one (ps_set (i := 2) nd rfl (by first | exact .inl rfl | exact .inr rfl) (pe_tup (pa_cons pe_str (pa_cons (pe_xf R.x3 R.n3 hz hf (pv 1)) pa_nil)))))
        .nil)))) (pss_one (ps_ret (pv 2))), ?_⟩
  · refine ⟨fun pins s' σ H' D I h' => ?_⟩
    obtain ⟨Ech, hW, h1, h2, h3⟩ := h'
    exact (pss_one (ps_set (i := 2) nd rfl (by first | exact .inl rfl | exact .inr rfl) (pe_tup (pa_cons pe_str (pa_cons (act _ pn xe Ech _ _ (takes_len tk) hW) pa_nil))))).run pins s' σ H' D I ⟨h1, h2, h3⟩
  · refine ⟨_, fun cls d σ' H' hh hl => ?_, rfl, hc, h⟩
    rcases hh with ⟨e1, e2, h2⟩ | ⟨e1, e2, h2⟩ | ⟨e1, a, v, e2, h1, h2⟩
    · subst e1 e2
      exact ⟨true, R.e0_0, fun _ a' na => ⟨by show 1 ≤ sizeLine; decide, fun p np => ⟨.ref p, slot2p hl, h2 p np⟩⟩, fun h => nomatch h⟩
    · subst e1 e2
      exact ⟨false, R.e1_0, (fun h => nomatch h), fun _ => ⟨true, R.e1_1, fun _ a' na => ⟨by show 1 ≤ sizeLine; decide, fun p np => ⟨.ref p, slot2p hl, h2 p np⟩⟩, fun h => nomatch h⟩⟩
    · subst e1 e2
      exact ⟨false, R.e2_0, (fun h => nomatch h), fun _ => ⟨false, R.e2_1, (fun h => nomatch h), fun _ => ⟨true, R.e2_2, fun _ a' na => ⟨.ref a', by show (σ'.set 1 (some (V.ref a')))[1]? = _; rw [List.getElem?_set_self (by omega)], rfl, rfl, a, _, _, rfl, h1, rfl, by show 2 ≤ sizeLine; decide, fun p np => ⟨.ref p, slot2 hl, h2 p np⟩⟩, fun h => nomatch h⟩⟩⟩
/-! things of ours, lent to a law's state -/
section
variable {S : Strm} {Pt : Addr} {q : Str} {M H : Hp} {k : Nat}
theorem LS.lent {bs : List Addr} (L : LS S Pt q M H k) (hb : ∀ b ∈ bs, ∃ vs, S.cut H b = some (.lst vs)) (hp : Pt ∉ bs) : LS S Pt q (withT M (S.cut H) bs) H k := by
  refine ⟨lentS L.mh, L.at_, L.tb, ?_, fun a ps e => ?_⟩
  · unfold withT
    rw [L.mp]
    simp [hp]
  · unfold withT at e
    cases z : M a with
    | some u =>
      rw [z] at e
      cases e
      exact L.nt a ps z
    | none =>
      rw [z] at e
      by_cases y : a ∈ bs
      · obtain ⟨vs, h⟩ := hb a y
        simp [y, h] at e
      · simp [y] at e
end
end My

set_option Elab.async false
set_option linter.all false
set_option maxRecDepth 100000
set_option maxHeartbeats 2000000
namespace My
open PySem PySem.Spec PyProof.Rows L2 L3
/-! what remains still draws, and is a consequence -/
theorem thin_draws {cs : List (List Str)} {lo : Option Str} : ∀ (xs found : List Str), drawsO cs found lo = true → drawsO cs (xs.foldl (thinP cs lo) found) lo = true
  | [], _, h => h
  | x :: xs, found, h => by
    refine thin_draws xs _ ?_
    unfold thinP
    split
    · rename_i z; exact z
    · exact h
theorem thinL_draws {cs : List (List Str)} {ls : List Str} {lo : Option Str} (h : drawsO cs ls lo = true) : drawsO cs (thinL cs ls lo) lo = true := thin_draws ls ls h
theorem drawsO_iff {cs : List (List Str)} {hs : List Str} {lo : Option Str} : drawsO cs hs lo = true ↔ Dead cs hs ∨ ∃ l, lo = some l ∧ Der cs hs l := by
  unfold drawsO
  rw [Bool.or_eq_true, deadB_iff]
  cases lo with
  | none =>
    constructor
    · intro h
      rcases h with h | h
      · exact .inl h
      · cases h
    · rintro (h | ⟨l, e, _⟩)
      · exact .inl h
      · cases e
  | some l =>
    constructor
    · intro h
      rcases h with h | h
      · exact .inl h
      · exact .inr ⟨l, rfl, derB_iff.mp h⟩
    · rintro (h | ⟨l', e, h⟩)
      · exact .inl h
      · cases e
        exact .inr (derB_iff.mpr h)
/-- what following draws is so at each setting that fits -/
theorem fol_true {ns : List Str} {cs : List (List Str)} {hs : List Str} {lo : Option Str} (X : Ctx ns cs hs) (h : drawsO cs hs lo = true) {fs : List (List Str)} (hf : ∀ t ∈ fs, Paired Side ns t ∧ Fits cs t) : folB fs hs lo = true := by
  unfold folB
  rw [List.all_eq_true]
  intro t ht
  obtain ⟨p, f⟩ := hf t ht
  unfold meets
  rw [List.any_eq_true]
  by_cases sub : ∀ x ∈ hs, x ∈ t
  · rcases drawsO_iff.mp h with d | ⟨l, rfl, dl⟩
    · obtain ⟨c, hc, hd⟩ := d
      obtain ⟨m, hm, hmt⟩ := f c hc
      exact absurd hmt ((full_opp X.nm p ((X.c c hc).of m hm)).mp (fit_der X p sub f (hd m hm)))
    · exact ⟨l, by simp, decide_eq_true (fit_der X p sub f dl)⟩
  · obtain ⟨x, hx⟩ := Classical.not_forall.mp sub
    obtain ⟨h1, h2⟩ := Classical.not_imp.mp hx
    refine ⟨opp x, List.mem_append_left _ (List.mem_map_of_mem h1), decide_eq_true ?_⟩
    exact (full_opp X.nm p (X.h.of x h1)).mpr h2
end My

set_option Elab.async false
set_option linter.all false
set_option maxRecDepth 100000
set_option maxHeartbeats 8000000
set_option pp.maxSteps 900
namespace My
open PySem PySem.Spec PyProof.Rows L2 L3 LamX
theorem dd_tup {K : PySem.W.Frag} {M : Hp} {p : Addr} {ds : List PyData} {vs : List V} (h : M p = some (.tup vs)) (pd : Pd (Dd K) M ds vs) : Dd K (.tuple ds) M (.ref p) := .tup (.inl (.inl h)) (dpa_pd pd)
/-- what why tells of a literal -/
noncomputable def whyD (d : LedD) (l : Str) : PyData := match d.o with
  | none => .tuple [.str "dead"]
  | some so => if l ∈ d.ls ∨ l ∉ so then .tuple [.str "not drawn", .str l] else .tuple [.str "told", .list ((thinL d.c.clauses d.ls (some l)).map .str)]
def WhyR (K : PySem.W.Frag) (M0 : Hp) (d : LedD) (l : Str) : Pr := fun M v => Dd K (whyD d l) M v ∧ ∀ so, d.o = some so → l ∉ d.ls → l ∈ so → ∃ a p, v = .ref a ∧ M a = some (.tup [.str "told", .ref p]) ∧ M p = some (.lst ((thinL d.c.clauses d.ls (some l)).map V.str)) ∧ M0 p = none
instance {K : PySem.W.Frag} {M0 : Hp} {d : LedD} {l : Str} : Mono (WhyR K M0 d l) := ⟨fun e ⟨h1, h2⟩ => ⟨dp_mono e h1, fun so a b c => let ⟨x, p, e1, e2, e3, e4⟩ := h2 so a b c; ⟨x, p, e1, e _ _ e2, e _ _ e3, e4⟩⟩⟩
section
variable {K : PySem.W.Frag} {σ : Sl} {M : Hp} {t1 t2 : TE} {CL C DE NE ND : Addr} {d : LedD}
theorem gv_lamWhy {l : Str} (h1 : Gv t1 σ M (LedR CL C d)) (h2 : Gv t2 σ M (Tx l)) (X : ThinOk d) : Gv (fun σ H Q => TT3 DE NE ND (fun E H' Q' => tMeth CL "why" (sp_whyX K CL C DE ND) [] E t1 (tCons t2 tNil) σ H' Q') H Q) σ M (WhyR K M d l) := fun H mh Q q =>
  h1 H mh _ fun v M1 H1 g1 r1 => by
    obtain ⟨a, dx, fs, e, ha, hlk⟩ := insR_led (m := "why") (by decide +kernel) (by decide +kernel) (by decide +kernel) M1 v r1
    refine ⟨a, dx, fs, e, g1.mh _ _ ha, hlk, h2.le g1.mm H1 g1.mh _ fun w M2 H2 g2 r2 => ?_⟩
    cases (show w = .str l from r2)
    have G2 := g1.trans g2
    refine ⟨d, .str l, M2, v, .str l, rfl, g2.mh, Mon.mono g2.mm r1, .inl (.str l), X, fun eo M' H' g => ?_, fun so eo nd x u M' H' g ru hx => ?_, fun so l' eo el n1 n2 p M' H' g h0 m0 hp => ?_⟩
    · refine .inl ⟨rfl, rfl, fun p np => q (.ref p) _ _ ((G2.trans g).trans (.new g.mh np)) ⟨?_, fun so e => by rw [eo] at e; cases e⟩⟩
      unfold whyD
      rw [eo]
      exact dd_tup upd_same (.cons (.str _) .nil)
    · have nd' := nd l rfl
      refine .inr (.inr ⟨rfl, x, u, rfl, hx, fun p np => q (.ref p) _ _ ((G2.trans g).trans (.new g.mh np)) ⟨?_, fun so' e n1 n2 => ?_⟩⟩)
      · unfold whyD
        rw [eo]
        show Dd K (if l ∈ d.ls ∨ l ∉ so then _ else _) _ _
        rw [if_pos nd']
        have eu : u = .str l := by
          rcases ru with h | ⟨h, _⟩
          · cases h; rfl
          · cases h
        subst eu
        exact dd_tup upd_same (.cons (.str _) (.cons (.str _) .nil))
      · rw [eo] at e
        cases e
        exact absurd n2 (nd'.resolve_left n1)
    · cases el
      have G := G2.trans g
      refine ⟨by show 2 ≤ sizeLine; decide, fun t nt => ⟨_, rfl, ?_⟩⟩
      have hp0 : H p = none := G2.hh.free h0
      have F := G.freeze hp0 m0 hp
      have N := Gr.new (o := .tup [V.str "told", .ref p]) F.mh nt
      have tp : t ≠ p := fun e => by rw [e, hp] at nt; cases nt
      have hpl : upd (upd M' p (.lst ((thinL d.c.clauses d.ls (some l)).map V.str))) t (.tup [V.str "told", .ref p]) p = some (.lst ((thinL d.c.clauses d.ls (some l)).map V.str)) := by rw [upd_ne (Ne.symm tp), upd_same]
      refine q (.ref t) _ _ (F.trans N) ⟨?_, fun so' e _ _ => ⟨t, p, rfl, upd_same, hpl, mh.free hp0⟩⟩
      unfold whyD
      rw [eo]
      show Dd K (if l ∈ d.ls ∨ l ∉ so then _ else _) _ _
      rw [if_neg (fun z => z.elim n1 fun z => z n2)]
      exact dd_tup upd_same (.cons (.str _) (.cons (py_lst py_str _ _ _ (⟨p, _, rfl, .inl (.inl hpl), pd_of_tx _⟩ : LstR K Tx _ _ (.ref p))) .nil))
/-- what blame tells -/
noncomputable def blameD (d : LedD) : PyData := match d.o with
  | none => .tuple [.str "told", .list ((thinL d.c.clauses d.ls none).map .str)]
  | some _ => .tuple [.str "not dead"]
def BlameR (K : PySem.W.Frag) (M0 : Hp) (d : LedD) : Pr := fun M v => Dd K (blameD d) M v ∧ (d.o = none → ∃ a p, v = .ref a ∧ M a = some (.tup [.str "told", .ref p]) ∧ M p = some (.lst ((thinL d.c.clauses d.ls none).map V.str)) ∧ M0 p = none)
theorem gv_lamBlame (h1 : Gv t1 σ M (LedR CL C d)) (X : ThinOk d) : Gv (fun σ H Q => TT3 DE NE ND (fun E H' Q' => tMeth CL "blame" (sp_blameX K CL C NE) [] E t1 tNil σ H' Q') H Q) σ M (BlameR K M d) := fun H mh Q q =>
  h1 H mh _ fun v M1 H1 g1 r1 => by
    obtain ⟨a, dx, fs, e, ha, hlk⟩ := insR_led (m := "blame") (by decide +kernel) (by decide +kernel) (by decide +kernel) M1 v r1
    refine ⟨a, dx, fs, e, g1.mh _ _ ha, hlk, ?_⟩
    refine ⟨d, M1, v, rfl, g1.mh, r1, X, fun eo M' H' g => ?_, fun eo p M' H' g h0 m0 hp => ?_⟩
    · refine .inr (.inl ⟨rfl, rfl, fun p np => q (.ref p) _ _ ((g1.trans g).trans (.new g.mh np)) ⟨?_, fun e => absurd e eo⟩⟩)
      unfold blameD
      cases e : d.o with
      | none => exact absurd e eo
      | some so => exact dd_tup upd_same (.cons (.str _) .nil)
    · have G := g1.trans g
      refine ⟨by show 2 ≤ sizeLine; decide, fun t nt => ⟨_, rfl, ?_⟩⟩
      have hp0 : H p = none := g1.hh.free h0
      have F := G.freeze hp0 m0 hp
      have N := Gr.new (o := .tup [V.str "told", .ref p]) F.mh nt
      have tp : t ≠ p := fun e => by rw [e, hp] at nt; cases nt
      have hpl : upd (upd M' p (.lst ((thinL d.c.clauses d.ls none).map V.str))) t (.tup [V.str "told", .ref p]) p = some (.lst ((thinL d.c.clauses d.ls none).map V.str)) := by rw [upd_ne (Ne.symm tp), upd_same]
      refine q (.ref t) _ _ (F.trans N) ⟨?_, fun _ => ⟨t, p, rfl, upd_same, hpl, mh.free hp0⟩⟩
      unfold blameD
      rw [eo]
      exact dd_tup upd_same (.cons (.str _) (.cons (py_lst py_str _ _ _ (⟨p, _, rfl, .inl (.inl hpl), pd_of_tx _⟩ : LstR K Tx _ _ (.ref p))) .nil))
end
end My

set_option Elab.async false
set_option linter.all false
set_option maxRecDepth 100000
set_option maxHeartbeats 16000000
set_option pp.maxSteps 900
namespace My
open PySem PySem.Spec PyProof.Rows L2 L3 LamX
/-- somebody led and the law's own, in step; their four lists apart -/
structure Pair (CL C : Addr) (c : CodeD) (x dx p q : Addr) (vc m : V) (pl sl : Addr) (ls : List Str) (ss : List (Option (List Str))) (o : Option (List Str)) (ss2 : List (Option (List Str))) (o2 : Option (List Str)) (M H : Hp) : Prop where
  hx : M x = some (.ins CL dx (ledF vc p q))
  hc : CodeR C c M vc
  hm : MR c pl sl M m
  nd : [p, q, pl, sl].Nodup
  hp : H p = some (.lst (ls.map V.str))
  hq : ∃ ms, H q = some (.lst ms) ∧ Pd (OpR' DcF) M (ss ++ [o]) ms
  hpl : H pl = some (.lst (ls.map V.str))
  hsl : ∃ ms, H sl = some (.lst ms) ∧ Pd (OpR' (LiR Tx)) M (ss2 ++ [o2]) ms
  mf : ∀ b ∈ [p, q, pl, sl], M b = none
  e1 : EndsOk c.names c.clauses ls o
  e2 : EndsOk c.names c.clauses ls o2
  k : ThinOk ⟨c, ls, ss, o⟩
/-- all that stands but the tables of code objects -/
def noTab (H : Hp) : Hp := fun a => match H a with
  | some (.tbl _) => none
  | z => z
theorem noTab_some {H : Hp} {a : Addr} {o : HO} (e : H a = some o) (n : ∀ ps, o ≠ .tbl ps) : noTab H a = some o := by
  unfold noTab
  rw [e]
  cases o <;> first | rfl | exact absurd rfl (n _)
theorem noTab_of {H : Hp} {a : Addr} {o : HO} (e : noTab H a = some o) : H a = some o ∧ ∀ ps, o ≠ .tbl ps := by
  unfold noTab at e
  split at e
  · cases e
  · rename_i h
    exact ⟨e, fun ps z => h ps (by rw [e, z])⟩
theorem lts_whole {T : List (Addr × Str)} {M H : Hp} (L : LTs T M H) : LTs T (noTab H) H ∧ Same M (noTab H) := ⟨⟨fun x o e => (noTab_of e).1, L.tb, fun p hp => by
  obtain ⟨ps, h, _⟩ := L.tb p hp
  unfold noTab
  rw [h], fun a ps e => (noTab_of e).2 ps rfl⟩, fun x o e => noTab_some (L.mh x o e) fun ps z => L.nt x ps (z ▸ e)⟩
theorem Pair.led {CL C : Addr} {c : CodeD} {x dx p q : Addr} {vc m : V} {pl sl : Addr} {ls : List Str} {ss : List (Option (List Str))} {o : Option (List Str)} {ss2 : List (Option (List Str))} {o2 : Option (List Str)} {M H W : Hp} (pr : Pair CL C c x dx p q vc m pl sl ls ss o ss2 o2 M H) (s1 : Same M W) (s2 : ∀ a vs, H a = some (.lst vs) → W a = some (.lst vs)) : LedR CL C ⟨c, ls, ss, o⟩ W (.ref x) := by
  obtain ⟨ms, h, pd⟩ := pr.hq
  exact ⟨x, dx, vc, p, q, ms, rfl, s1 _ _ pr.hx, Mon.mono s1 pr.hc, s2 _ _ pr.hp, s2 _ _ h, pd.mono s1⟩
theorem pd_last {α β : Type} {F : α → β → Prop} {x : α} : ∀ {xs : List α} {vs : List β}, Paired F (xs ++ [x]) vs → ∃ as u, vs = as ++ [u] ∧ F x u
  | [], _, .cons h .nil => ⟨[], _, rfl, h⟩
  | _ :: _, _, .cons _ t => by
    obtain ⟨as, u, e, h⟩ := pd_last t
    exact ⟨_ :: as, u, by rw [e]; rfl, h⟩
theorem Pair.law {CL C : Addr} {c : CodeD} {x dx p q : Addr} {vc m : V} {pl sl : Addr} {ls : List Str} {ss : List (Option (List Str))} {o : Option (List Str)} {ss2 : List (Option (List Str))} {o2 : Option (List Str)} {M H W : Hp} (pr : Pair CL C c x dx p q vc m pl sl ls ss o ss2 o2 M H) (s1 : Same M W) (s2 : ∀ a vs, H a = some (.lst vs) → W a = some (.lst vs)) : ∃ ms u, MS c pl sl (ms ++ [u]) W m ∧ OpR' (LiR Tx) o2 W u ∧ W pl = some (.lst (ls.map V.str)) := by
  obtain ⟨ms, h, pd⟩ := pr.hsl
  obtain ⟨as, u, e, hu⟩ := pd_last pd
  exact ⟨as, u, ⟨Mono.mono s1 pr.hm, by rw [s2 _ _ h, e]⟩, Mono.mono s1 hu, s2 _ _ pr.hpl⟩
/-- what is due where it is told -/
def TolR (th : List Str) : Pr := fun M v => ∃ a p, v = .ref a ∧ M a = some (.tup [.str "told", .ref p]) ∧ M p = some (.lst (th.map V.str))
instance {th : List Str} : Mono (TolR th) := ⟨fun e ⟨a, p, h1, h2, h3⟩ => ⟨a, p, h1, e _ _ h2, e _ _ h3⟩⟩
theorem tol_dd {K : PySem.W.Frag} {th : List Str} {M : Hp} {v : V} (h : TolR th M v) : Dd K (.tuple [.str "told", .list (th.map .str)]) M v := by
  obtain ⟨a, p, rfl, h2, h3⟩ := h
  refine dd_tup h2 (.cons (.str _) (.cons (dd_lst h3 ?_) .nil))
  clear h2 h3
  induction th with
  | nil => exact .nil
  | cons x xs ih => exact .cons (.str _) ih
theorem dd_strs {K : PySem.W.Frag} {xs : List Str} {M : Hp} {p : Addr} (h : M p = some (.lst (xs.map V.str))) : Dd K (.list (xs.map .str)) M (.ref p) := by
  refine dd_lst h ?_
  clear h
  induction xs with
  | nil => exact .nil
  | cons x xs ih => exact .cons (.str _) ih
theorem dd_lix {K : PySem.W.Frag} {xs : List Str} {M : Hp} {v : V} (h : LiR Tx xs M v) : Dd K (.list (xs.map .str)) M v := by
  obtain ⟨p, vs, rfl, h, pd⟩ := h
  exact dd_strs (by rw [h, pd_tx pd])
theorem gv_tol {σ : Sl} {M : Hp} {te : TE} {th : List Str} (h : Gv te σ M (LiR Tx th)) : Gv (tTup (tCons (tC (.str "told")) (tCons te tNil))) σ M (TolR th) := gv_tup (R := fun M vs => ∃ p, vs = [.str "told", .ref p] ∧ M p = some (.lst (th.map V.str))) (fun H mh Q q => h H mh _ fun v M1 H1 g ⟨p, vs, e, e2, pd⟩ => q _ M1 H1 g ⟨p, by rw [e], by rw [e2, pd_tx pd]⟩) (fun M vs ⟨p, e, _⟩ => by rw [e]; show 2 ≤ sizeLine; decide) fun M vs q ⟨p, e, h⟩ n => ⟨q, p, rfl, by rw [e]; exact upd_same, same_new n _ _ h⟩
theorem gv_nd {K : PySem.W.Frag} {σ : Sl} {M : Hp} {te : TE} {l : Str} (h : Gv te σ M (Tx l)) : Gv (tTup (tCons (tC (.str "not drawn")) (tCons te tNil))) σ M (Dd K (.tuple [.str "not drawn", .str l])) := gv_tup (R := fun M vs => vs = [.str "not drawn", .str l]) (fun H mh Q q => h H mh _ fun v M1 H1 g e => q _ M1 H1 g (by rw [show v = .str l from e])) (fun M vs e => by rw [e]; show 2 ≤ sizeLine; decide) fun M vs q e n => dd_tup (upd_same.trans (by rw [e])) (.cons (.str _) (.cons (.str _) .nil))
open Classical in
theorem why_head (d : LedD) (l : Str) : ∃ h r, whyD d l = .tuple (.str h :: r) ∧ (h = "told" → ∃ so, d.o = some so ∧ l ∉ d.ls ∧ l ∈ so) := by
  unfold whyD
  split
  · exact ⟨_, _, rfl, fun e => absurd e (by decide +kernel)⟩
  · rename_i so e
    split
    · exact ⟨_, _, rfl, fun e => absurd e (by decide +kernel)⟩
    · rename_i n
      exact ⟨_, _, rfl, fun _ => ⟨so, e, fun z => n (.inl z), Decidable.byContradiction fun z => n (.inr z)⟩⟩
theorem sma_tup {k w : Nat} {ds : List PyData} (h : SmA k w ds) : SmW (k + 1) (w + 10) (.tuple ds) := ⟨by rw [PyData.showable]; exact h.sh, by
  have := h.dp
  rw [PyData.depth]; omega, by rw [PyData.leavesShort]; exact h.ls, by
  have := h.wt
  rw [PyData.weight]; omega⟩
theorem sm_wd {s : Str} (h : (PyData.str s).leavesShort 13 = true ∧ (PyData.str s).weight ≤ 40) : SmW 1 40 (.str s) := ⟨rfl, by simp [PyData.depth], h.1, h.2⟩
theorem fit_why {d : LedD} {l : Str} (tk : ThinOk d) (hl : LitN d.c.names l) : FitD (whyD d l) := by
  have nl : d.c.names.length ≤ 1000 := (nm_shorts tk.nm).1
  unfold whyD
  split
  · exact ⟨by decide +kernel, by decide +kernel, by decide +kernel⟩
  · split
    · have h := sm_strs (ls := [l]) tk.nm (fun x hx => by rw [List.mem_singleton.mp hx]; exact hl)
      exact (sma_tup (.cons (sm_wd ⟨by decide +kernel, by decide +kernel⟩) h)).fit (by decide) (by simp)
    · have hs := thin_sub d.c.clauses (some l) d.ls d.ls
      have h1 := hs.length_le
      have h2 := lits_len tk.l tk.nm
      have h := sm_strs (ls := thinL d.c.clauses d.ls (some l)) tk.nm (fun x hx => tk.l.of x (hs.subset hx))
      have h3 : (thinL d.c.clauses d.ls (some l)).length ≤ 1000 := Nat.le_trans h1 (Nat.le_trans h2 nl)
      exact (sma_tup (.cons ((sm_wd ⟨by decide +kernel, by decide +kernel⟩).up (by decide) (Nat.le_refl _)) (.cons (SmA.lst h) .nil))).fit (by decide) (by omega)
theorem lts_upd {T : List (Addr × Str)} {M H : Hp} (L : LTs T M H) {p : Addr} {vs ws : List V} (h : H p = some (.lst vs)) (hm : M p = none) : LTs T M (upd H p (.lst ws)) := ⟨fun x o e => by rw [upd_ne (ne_of_none e hm)]; exact L.mh _ _ e, fun t ht => by
  obtain ⟨ps, h1, h2⟩ := L.tb t ht
  exact ⟨ps, by rw [upd_ne (fun z => by rw [z, h] at h1; cases h1)]; exact h1, h2.1, fun pos cv e => let ⟨c, e1, e2⟩ := h2.2 pos cv e; ⟨c, e1, by rw [upd_ne (by rintro rfl; rw [h] at e2; cases e2)]; exact e2⟩⟩, L.mp, L.nt⟩
abbrev qRight : Str := "_law_are_right.<locals>.<lambda>"
section
variable {P : Program} {w : World} {K : PySem.W.Frag} {mg : Str → Option Value} {base : Heap}
abbrev s__law_are_right : Stmt := topS 59
theorem sc__law_are_right : FnScope ["_law_led", "_law_m", "_law_fits_here", "_law_literal", "_law_c", "_law_so", "_law_due", "_law_found"] ["_law_led", "_law_m", "_law_fits_here"] (defScope s__law_are_right) := ⟨rfl, rfl, rfl, by decide +kernel, rfl, by decide +kernel, by decide +kernel⟩
def sp__law_are_right (K : PySem.W.Frag) (CL C P2 : Addr) : Sp := fun vs H Q _ => ∃ c x dx p q vc m pl sl ls ss o ss2 o2 fs lv T M, vs = [.ref x, m, lv] ∧ Pair CL C c x dx p q vc m pl sl ls ss o ss2 o2 M H ∧ LTs T M H ∧ (P2, qRight) ∈ T ∧ (∀ t ∈ T, t.1 = P2 → t.2 = qRight) ∧ LiR TT fs M lv ∧ (fs.length ≤ 1000000 ∧ ∀ t ∈ fs, Paired Side c.names t ∧ Fits c.clauses t) ∧
  ∀ H', ExtN H H' → Tabs T H' → Q (.bl true) H'
theorem ok__law_are_right {f cd CL C P2 DE NE ND : Addr} {fd : FuncData} (F : FunC K "_law_are_right" "_law_are_right" s__law_are_right fd f cd) (T : Gc mg) (RX : RefT K mg DE NE ND) (TB : TabB base mg cd P2) (c__law_literals : Cal P w K mg base 1 "_law_literals" ["_law_names_here"] (sp__law_literals K)) (c__law_names_of : Cal P w K mg base 1 "_law_names_of" ["_law_m"] (sp__law_names_of K)) (c__law_thinned : Cal P w K mg base 4 "_law_thinned" ["_law_clauses", "_law_put_here", "_law_literal"] (sp__law_thinned K))
    (c__law_follows : Cal P w K mg base 2 "_law_follows" ["_law_fits_here", "_law_some", "_law_literal"] (sp__law_follows K)) (m_choices : Met P w K mg base 1 CL "choices" ["self"] (sp_Led_choices K CL C)) (mX_why : MetX P w K mg base 6 CL "why" ["self", "literal"] (sp_whyX K CL C DE ND)) (c__law_same : CalG P w K mg base 1 "_law_same" ["_law_found", "_law_due"] (sp__law_same K)) : FnG P w K mg base CX0 9 f fd ["_law_led", "_law_m", "_law_fits_here"] (sp__law_are_right K CL C P2) := by
  obtain ⟨gR, fdR, FR, mR, bR⟩ := RX.ex
  refine fun_okGC F sc__law_are_right (fun vs H Q E h => ?_) (fun A outer s H vs Q E hgu hr h => ?_)
  · obtain ⟨c, x, dx, p, q, vc, m, pl, sl, ls, ss, o, ss2, o2, fs, lv, TS, M, rfl, _⟩ := h
    rfl
  · obtain ⟨c, x, dx, p, q, vc, m, pl, sl, ls, ss, o, ss2, o2, fs, lv, TS, M, rfl, pr, L, hmT, huT, rl, hfs, q⟩ := h
    have hu := hr.units
    have hgu : (A.deeper (envOfC "_law_are_right" (defScope s__law_are_right) s.heap.objs.size f (.ref cd))).guards = some [] := hgu
    refine ⟨_, (pss_cons (ps_par (i := 4) (j := 5) (by rfl) sc__law_are_right.nd rfl rfl (by decide) rfl rfl (pa_cons (pe_dget (Nat.lt_of_le_of_lt (Nat.add_le_add_left (by decide) _) hu) (pv 1) pe_str (fun _ _ => rfl)) (pa_cons (pe_ix ix_X (pe_dget (Nat.lt_of_le_of_lt (Nat.add_le_add_left (by decide) _) hu) (pv 1) pe_str (fun _ _ => rfl)) (pe_un un_neg pe_int) (fun _ _ => rfl)) pa_nil)) (by rfl))
      (pss_cons (ps_for PassesOwn.never (by rfl) (pi_sq (pe_f c__law_literals (hr.mono (by decide)) (pa_cons (pe_f c__law_names_of (hr.mono (by decide)) (pa_cons (pv 1) pa_nil)) pa_nil))) (pg_name (i := 3) sc__law_are_right.nd rfl (by first | exact .inl rfl | exact .inr rfl)) (pss_cons (ps_set (i := 6) sc__law_are_right.nd rfl (by first | exact .inl rfl | exact .inr rfl) (pe_tup (pa_cons pe_str (pa_cons (pv 3) pa_nil))))
      (pss_cons (ps_if (PW.pt (pw_and (pt_cmp (pc_notN (pv 5))) (pw_and (pt_cmpR (op_inA hu) (pv 3) (pv 5) (by rfl)) (pw_and1 (pt_cmpR (op_niA hu) (pv 3) (pe_dget (Nat.lt_of_le_of_lt (Nat.add_le_add_left (by decide) _) hu) (pv 1) pe_str (fun _ _ => rfl)) (by rfl)))))) (pss_cons (ps_set (i := 6) sc__law_are_right.nd rfl (by first | exact .inl rfl | exact .inr rfl) (pe_tup (pa_cons pe_str (pa_cons (pe_f c__law_thinned (hr.mono (by decide)) (pa_cons (pe_dget (Nat.lt_of_le_of_lt (Nat.add_le_add_left (by decide) _) hu) (pv 4) pe_str (fun _ _ => rfl)) (pa_cons (pe_dget (Nat.lt_of_le_of_lt (Nat.add_le_add_left (by decide) _) hu) (pv 1) pe_str (fun _ _ => rfl)) (pa_cons (pv 3) pa_nil)))) pa_nil))))
      (pss_one (ps_if (pt_not (pt_val (pe_f c__law_follows (hr.mono (by decide)) (pa_cons (pv 2) (pa_cons (pe_ix ix_X (pv 6) pe_int (fun _ _ => rfl)) (pa_cons (pv 3) pa_nil)))))) (pss_one (ps_ret pe_bl)) pss_nil))) pss_nil)
      (pss_cons (ps_set (i := 6) sc__law_are_right.nd rfl (by first | exact .inl rfl | exact .inr rfl) (pe_ifExp (pt_cmp (pc_isN (pv 5))) (pe_tup (pa_cons pe_str pa_nil)) (pv 6)))
      (pss_cons (ps_set (i := 7) sc__law_are_right.nd rfl (by first | exact .inl rfl | exact .inr rfl) (pe_lamTs (k := 6) (t := fun E => tMeth CL "why" (sp_whyX K CL C DE ND) [] E (tVar 0) (tCons (tVar 3) tNil)) FR mR bR sc__law_told rfl (.inl rfl) (fun cdv => gives_told RX) TB rfl hmT huT (hr.mono (by decide)) (lamS_by (by rfl)) (fun A outer s H E f c' hr2 => pe_mX1 mX_why (hr2.mono (by decide)) (takes_of rfl rfl rfl rfl) (fun _ _ _ _ h => h) (pv 0) (pa_cons (pv 3) pa_nil))))
      (pss_cons (ps_if (pt_not (pt_val (pe_fG c__law_same hgu (hr.mono (by decide)) (pa_cons (pv 7) (pa_cons (pv 6) pa_nil))))) (pss_one (ps_ret pe_bl)) pss_nil)
      (pss_one (ps_if (pt_cmpR (op_eqP hu) (pe_ix ix_X (pv 6) pe_int (fun _ _ => rfl)) pe_str (nomark _)) (pss_one (ps_expr (pe_bm PySem.F.plainAttrs_list PySem.F.slot_list_append PySem.F.type_list_append mt_append (pe_ix ix_X (pv 7) pe_int (fun _ _ => rfl)) (pa_cons pe_str pa_nil)))) pss_nil))))))))
      (pss_one (ps_ret (pe_fG c__law_same hgu (hr.mono (by decide)) (pa_cons (pe_m0 m_choices (hr.mono (by decide)) (pv 0)) (pa_cons (pe_dget (Nat.lt_of_le_of_lt (Nat.add_le_add_left (by decide) _) hu) (pv 1) pe_str (fun _ _ => rfl)) pa_nil))))))), ?_⟩
    obtain ⟨L1, s1⟩ := lts_whole L
    have hl : ∀ a vs, H a = some (.lst vs) → noTab H a = some (.lst vs) := fun a vs e => noTab_some e fun ps z => by cases z
    have LR := pr.led s1 hl
    obtain ⟨ms, u, rms, ru, rpl⟩ := pr.law s1 hl
    have rl1 : LiR TT fs (noTab H) lv := Mon.mono s1 rl
    have fin : ∀ H', Same (noTab H) H' → Tabs TS H' → Q (.bl true) H' := fun H' e t => q H' (fun x o e1 n => e _ _ (noTab_some e1 n)) t
    have e1 := pr.e1
    have e2 := pr.e2
    have tk := pr.k
    clear pr L rl q hl s1
    revert L1 LR rms ru rpl rl1 fin
    generalize noTab H = W
    intro L1 LR rms ru rpl rl1 fin
    refine q_par2 (gv_mC (gv_var rfl rms.1) H L1.mh _ fun vC M1 H1 g1 rC => gv_mLast2 (K := K) (i := 1) (Mono.mono g1.mm rms) (Mono.mono g1.mm ru) rfl H1 g1.mh _ fun vS M2 H2 g2 rS => ⟨vC, vS, rfl, ?_⟩)
    have g12 := g1.trans g2
    have L2 := L1.step g12
    have LR2 := Mon.mono g12.mm LR
    have rms2 := Mono.mono g12.mm rms
    have rpl2 := g12.mm _ _ rpl
    have rl2 := Mon.mono g12.mm rl1
    have rC2 := Mono.mono g2.mm rC
    have fin2 : ∀ H', Same M2 H' → Tabs TS H' → Q (.bl true) H' := fun H' e t => fin H' (g12.mm.trans e) t
    clear rC rl1 rpl rms LR L1 fin g1 g2 ru
    have nmS := nm_shorts tk.nm
    have nl : c.names.length ≤ 1000 := nmS.1
    refine q_forG (M := M2) (xs := litsOf c.names) (R := Tx) L2.mh (gi_sq (gv_is (gv_call1 (R1 := SqR K Tx) (pre := fun ns => ns.length ≤ 1000 ∧ ∀ n ∈ ns, n.length ≤ 1000) (R := fun ns => LiR Tx (litsOf ns)) (x := c.names) (gv_is (gv_call1 (R1 := MRl) (pre := fun a => a.1.names.length ≤ 1000) (R := fun a => LiR Tx a.1.names) (x := (c, pl, sl)) (gv_var rfl rms2.1) nl) fun _ _ h => h.sq) ⟨nl, fun n hn => Nat.le_trans (nmS.2 n hn) (by decide)⟩) fun _ _ h => h.sq)) tg_1
      (fun M1 _ σ' M' H' => M' = M1 ∧ LTs TS M1 H' ∧ ∃ y3 y6 y7, σ' = [some (.ref x), some m, some lv, y3, some vC, some vS, y6, y7])
      (fun M3 H3 g3 => ⟨rfl, L2.step g3, _, _, _, rfl⟩) (fun M3 i σ' M' H' ⟨e, h, _⟩ => by subst e; exact ⟨fun _ _ e => e, h.mh⟩) ?_ ?_
    rotate_left
    · rintro M3 σ' M' H3 sM ⟨rfl, L3, y3, y6, y7, rfl⟩
      have rms3 := Mono.mono sM rms2
      have LR3 := Mon.mono sM LR2
      have rpl3 := sM _ _ rpl2
      have fit : FitD (.list (ls.map .str)) := fit_lits tk.nm (fun z hz => tk.l.of z hz) (Nat.le_trans (lits_len tk.l tk.nm) nl)
      refine s_ret L3.mh (gv_call2 (R1 := Dd K) (R2 := Dd K) (pre := fun d e => FitD d ∧ FitD e) (R := fun d e => Bl (decide (d.shown = e.shown))) (x := .list (ls.map .str)) (y := .list (ls.map .str)) (gv_is (gl_met1 (R1 := LedR CL C) (pre := fun _ => True) (R := fun d M ws => Pd Tx M d.ls ws) (x := ⟨c, ls, ss, o⟩) (insR_led (by decide +kernel) (by decide +kernel) (by decide +kernel)) (gv_var rfl LR3) trivial).li fun M v h => dd_lix h) (gv_dgetF (P := fun M v => MR c pl sl M v ∧ M pl = some (.lst (ls.map V.str))) (gv_var rfl ⟨rms3.1, rpl3⟩) fun M v ⟨⟨m, o, cv, h1, h2, h3⟩, hl⟩ => ⟨m, o, _, .ref pl, h1, h2, rfl, dd_strs hl⟩) ⟨fit, fit⟩) fun z M' H' g r => ?_
      rw [show z = _ from r]
      simp only [decide_true]
      exact fin2 H' (fun a o e => g.hh _ _ (L3.mh _ _ (sM _ _ e))) (L3.step g).tb
    rintro M3 i l σ' M' H3 M4 H4 σ2 sM hx ⟨rfl, L3, y3, y6, y7, rfl⟩ g4 ⟨v3, r3, rfl⟩
    cases (show v3 = .str l from r3)
    have hl : LitN c.names l := mem_litsOf.mp (List.mem_of_getElem? hx)
    have L4 := L3.step g4
    have s34 := sM.trans g4.mm
    have LR4 := Mon.mono s34 LR2
    have rms4 := Mono.mono s34 rms2
    have rpl4 := s34 _ _ rpl2
    have rl4 := Mon.mono s34 rl2
    have rC4 := Mono.mono s34 rC2
    have rS4 := Mono.mono s34 rS
    refine q_asg L4.mh (gv_nd (K := K) (gv_var rfl rfl)) fun w6 M5 H5 g5 r6 => ?_
    have L5 := L4.step g5
    have LR5 := Mon.mono g5.mm LR4
    have rms5 := Mono.mono g5.mm rms4
    have rpl5 := g5.mm _ _ rpl4
    have rl5 := Mon.mono g5.mm rl4
    have rC5 := Mono.mono g5.mm rC4
    have rS5 := Mono.mono g5.mm rS4
    refine q_cut (fun σ' H' => ∃ M6 w, Same M5 M6 ∧ LTs TS M6 H' ∧ ((∃ so, o2 = some so ∧ l ∈ so ∧ l ∉ ls) ∧ TolR (thinL c.clauses ls (some l)) M6 w ∨ (∀ so, o2 = some so → l ∈ so → l ∈ ls) ∧ Dd K (.tuple [.str "not drawn", .str l]) M6 w) ∧ σ' = [some (.ref x), some m, some lv, some (.str l), some vC, some vS, some w, y7]) (fun nx hnx => ?_) ?_
    · have tB : GvT (tB (tNotN (tVar 5))) [some (.ref x), some m, some lv, some (.str l), some vC, some vS, some w6, y7] M5 (!o2.isNone) := gt_B (gv_notN (b := o2.isNone) (gv_var (P := OpR' (LiR Tx) o2) rfl rS5) fun M v h => by
        cases o2 with
        | none => rw [show v = .non from h]; rfl
        | some s' => obtain ⟨a, vs, e, _⟩ := (show LiR Tx s' M v from h); rw [e]; rfl)
      cases o2 with
      | none =>
        refine s_if0 (b := false) L5.mh (gt_is (gt_and (c := false) tB fun h => nomatch h) rfl) (fun h => nomatch h) fun _ H6 hh => hnx _ _ ⟨M5, w6, fun _ _ e => e, L5.idle hh, .inr ⟨fun _ e => (nomatch e), r6⟩, rfl⟩
      | some so =>
        refine s_if0 (b := decide (l ∈ so) && decide (l ∉ ls)) L5.mh (gt_is (gt_and (b := true) (c := decide (l ∈ so) && decide (l ∉ ls)) tB fun _ => gt_and (gt_is (gt_test (gv_inA (K := K) (neg := false) (xs := so) (x := l) (gv_var (i := 3) rfl rfl) (gv_var (i := 5) rfl (.inl (LiR.sq (show LiR Tx so M5 vS from rS5)))))) (by simp)) fun _ => gt_is (gt_test (gv_inA (K := K) (neg := true) (xs := ls) (x := l) (gv_var (i := 3) rfl rfl) (gv_dgetF (P := fun M v => MR c pl sl M v ∧ M pl = some (.lst (ls.map V.str))) (gv_var (i := 1) rfl ⟨rms5.1, rpl5⟩) fun M v ⟨⟨m, o, cv, h1, h2, h3⟩, hl⟩ => ⟨m, o, _, .ref pl, h1, h2, rfl, .inl (LiR.sq ⟨pl, _, rfl, hl, pd_of_tx _⟩)⟩))) (by simp)) (by simp)) (fun hb H6 hh => ?_) fun hb H6 hh => hnx _ _ ⟨M5, w6, fun _ _ e => e, L5.idle hh, .inr ⟨fun so' e hm => by
          cases e
          by_cases z : l ∈ ls
          · exact z
          · simp [hm, z] at hb, r6⟩, rfl⟩
        obtain ⟨n1, n2⟩ : l ∈ so ∧ l ∉ ls := by simpa using hb
        have L6 := L5.idle hh
        have hder : Der c.clauses ls l := (e2.2.1 l).mp n1
        refine q_asg (P := TolR (thinL c.clauses ls (some l))) L6.mh (gv_tol (gv_is (gl_call3 (K := K) (R1 := SqR K (SqR K Tx)) (R2 := SqR K Tx) (R3 := OpR' Tx) (pre := fun cs ls _ => DrOk cs ls) (R := fun cs ls lo M ws => Pd Tx M (thinL cs ls lo) ws) (x := c.clauses) (y := ls) (z := some l) (gv_is (gv_cC (gv_var (i := 4) rfl rC5)) fun _ _ h => c_li h) (gv_dgetF (P := fun M v => MR c pl sl M v ∧ M pl = some (.lst (ls.map V.str))) (gv_var (i := 1) rfl ⟨rms5.1, rpl5⟩) fun M v ⟨⟨m, o, cv, h1, h2, h3⟩, hl⟩ => ⟨m, o, _, .ref pl, h1, h2, rfl, LiR.sq ⟨pl, _, rfl, hl, pd_of_tx _⟩⟩) (gv_var (i := 3) rfl rfl) ⟨tk.w, c.names, tk.nm, tk.k, tk.l⟩).li fun M v h => h)) fun w7 M7 H7 g7 r7 => ?_
        have hsub := thin_sub c.clauses (some l) ls ls
        have lth : Lits c.names (thinL c.clauses ls (some l)) := ⟨List.Nodup.sublist (hsub.map _) tk.l.nd, fun y hy => tk.l.of y (hsub.subset hy)⟩
        have hdr : drawsO c.clauses (thinL c.clauses ls (some l)) (some l) = true := thinL_draws (drawsO_iff.mpr (.inr ⟨l, rfl, hder⟩))
        have hfol := fol_true (X := ⟨tk.nm, tk.k, lth⟩) hdr hfs.2
        have ts : Gv (tOp (rIxX K) (tVar 6) (tC (.int 1))) ([some (.ref x), some m, some lv, some (.str l), some vC, some vS, some w7, y7] : Sl) M7 (SqR K Tx (thinL c.clauses ls (some l))) := fun H mh Q q => by
          obtain ⟨a, pp, rfl, ht, hp⟩ := r7
          refine gv_ix (K := K) (R := EqV) (xs := [.str "told", .ref pp]) (i := 1) (x := .ref pp) (M := M7) (gv_var (i := 6) (v := .ref a) rfl (.inr ⟨a, _, rfl, .inl (.inl ht), pd_eqv _⟩)) (gv_c rfl) rfl H mh _ fun v N H12 g12 e => ?_
          cases (show v = .ref pp from e)
          exact q _ _ _ g12 (LiR.sq ⟨pp, _, rfl, g12.mm _ _ hp, pd_of_tx _⟩)
        have L7 := L6.step g7
        refine s_if0 (b := false) L7.mh (gt_is (gt_not (gt_B (gv_call3 (R1 := SqR K TT) (R2 := SqR K Tx) (R3 := OpR' Tx) (pre := fun fs ls lo => fs.length ≤ 1000000 ∧ ls.length ≤ 1000 ∧ ∀ l ∈ ls, l.length ≤ 1000) (R := fun fs ls lo => Bl (folB fs ls lo)) (x := fs) (y := thinL c.clauses ls (some l)) (z := some l) (gv_var (i := 2) rfl (LiR.sq (Mon.mono g7.mm rl5))) ts (gv_var (i := 3) rfl rfl) ⟨hfs.1, Nat.le_trans hsub.length_le (Nat.le_trans (lits_len tk.l tk.nm) nl), fun y hy => Nat.le_trans (lits_short lth tk.nm y hy) (by decide)⟩))) (by rw [hfol]; rfl)) (fun h => nomatch h) fun _ H8 hh8 => hnx _ _ ⟨M7, w7, g7.mm, L7.idle hh8, .inl ⟨⟨so, rfl, n1, n2⟩, r7⟩, rfl⟩
    rintro σ' H6 ⟨M6, w6', sM6, L6, hdue, rfl⟩
    have LR6 := Mon.mono sM6 LR5
    have rms6 := Mono.mono sM6 rms5
    have rpl6 := sM6 _ _ rpl5
    have rS6 := Mono.mono sM6 rS5
    have same : (o = none ↔ o2 = none) ∧ ∀ so so2, o = some so → o2 = some so2 → (l ∈ so ↔ l ∈ so2) := by
      cases o with
      | none => cases o2 with
        | none => exact ⟨⟨fun _ => rfl, fun _ => rfl⟩, fun _ _ e => by cases e⟩
        | some s2 => exact absurd e1 e2.1
      | some s1 => cases o2 with
        | none => exact absurd e2 e1.1
        | some s2 => exact ⟨⟨fun e => (nomatch e), fun e => (nomatch e)⟩, fun so so2 a b => by cases a; cases b; rw [e1.2.1, e2.2.1]⟩
    refine q_asg (P := Dd K (whyD ⟨c, ls, ss, o⟩ l)) L6.mh (gv_if (b := o2.isNone) (gt_B (gv_isN (b := o2.isNone) (gv_var (i := 5) rfl rS6) fun M v h => by
      cases o2 with
      | none => rw [show v = .non from h]; rfl
      | some s' => obtain ⟨a, vs, e, _⟩ := (show LiR Tx s' M v from h); rw [e]; rfl)) (fun hb => ?_) fun hb => gv_var rfl ?_) fun w7 M7 H7 g7 r7 => ?_
    · have eo : o = none := same.1.2 (Option.isNone_iff_eq_none.mp hb)
      refine gv_tup (R := fun M vs => vs = [.str "dead"]) (fun H mh Q q => q _ _ H (.refl mh) rfl) (fun M vs e => by rw [e]; show 1 ≤ sizeLine; decide) fun M vs q e n => ?_
      unfold whyD
      rw [eo]
      exact dd_tup (upd_same.trans (by rw [e])) (.cons (.str _) .nil)
    · obtain ⟨so, eo⟩ : ∃ so, o = some so := by
        cases o with
        | none => rw [same.1.1 rfl] at hb; exact nomatch hb
        | some so => exact ⟨so, rfl⟩
      obtain ⟨so2, eo2⟩ : ∃ so2, o2 = some so2 := by
        cases o2 with
        | none => exact nomatch hb
        | some so2 => exact ⟨so2, rfl⟩
      have hm := same.2 so so2 eo eo2
      have ew : whyD ⟨c, ls, ss, o⟩ l = if l ∈ ls ∨ l ∉ so then .tuple [.str "not drawn", .str l] else .tuple [.str "told", .list ((thinL c.clauses ls (some l)).map .str)] := by
        unfold whyD; rw [eo]
      rw [ew]
      rcases hdue with ⟨⟨so3, e3, n1, n2⟩, tol⟩ | ⟨hn, r⟩
      · rw [eo2] at e3
        cases e3
        rw [if_neg (fun z => z.elim n2 fun z => z (hm.2 n1))]
        exact tol_dd tol
      · rw [if_pos (by
          by_cases z : l ∈ so
          · exact .inl (hn so2 eo2 (hm.1 z))
          · exact .inr z)]
        exact r
    have L7 := L6.step g7
    have LR7 := Mon.mono g7.mm LR6
    refine q_asgS (lam_stepT L7 (gv_lamWhy (K := K) (DE := DE) (NE := NE) (ND := ND) (σ := [some (.ref x), some m, some lv, some (.str l), some vC, some vS, some w7, y7]) (gv_var (i := 0) rfl LR7) (gv_var (i := 3) (v := .str l) rfl rfl) tk) fun v8 M8 H8 H9 L8 eN g8 r8 => ?_)
    have L9 := L8.step g8
    have r7_9 : Dd K (whyD ⟨c, ls, ss, o⟩ l) M8 w7 := Mon.mono g8.mm r7
    have fit : FitD (whyD ⟨c, ls, ss, o⟩ l) := fit_why tk hl
    refine q_if0 (b := false) L9.mh (gt_is (gt_not (gt_B (gv_call2 (R1 := Dd K) (R2 := Dd K) (pre := fun d e => FitD d ∧ FitD e) (R := fun d e => Bl (decide (d.shown = e.shown))) (x := whyD ⟨c, ls, ss, o⟩ l) (y := whyD ⟨c, ls, ss, o⟩ l) (gv_var rfl r8.1) (gv_var rfl r7_9) ⟨fit, fit⟩))) (by simp)) (fun h => nomatch h) fun _ H10 hh10 => ?_
    have L10 := L9.idle hh10
    have L3' : LTs TS M' H10 := ⟨fun a o e => L10.mh _ _ (g8.mm _ _ (g7.mm _ _ (sM6 _ _ (g5.mm _ _ (g4.mm _ _ e))))), L10.tb, L3.mp, L3.nt⟩
    obtain ⟨hd, r, ew, hw⟩ := why_head ⟨c, ls, ss, o⟩ l
    refine s_if0 (b := decide (hd = ("told" : Str))) L10.mh (gt_is (gt_test (gv_eqT (K := K) (R := Tx) (neg := false) (x := hd) (y := ("told" : Str)) py_str inj_str (gv_is (gv_ix (K := K) (R := Dd K) (xs := .str hd :: r) (i := 0) (x := .str hd) (gv_var (i := 6) rfl (dp_sqT (ew ▸ r7_9))) (gv_c rfl) (by unfold atI ixN; simp)) fun M v e => by cases (show Dd K (.str hd) M v from e); rfl) (gv_c rfl) (by simp [PyData.depth]))) (by simp)) (fun hb H11 hh11 => ?_) fun _ H11 hh11 => ⟨M', rfl, L3'.idle hh11, _, _, _, rfl⟩
    obtain ⟨so, eo, n1, n2⟩ := hw (of_decide_eq_true hb)
    obtain ⟨a, pp, rfl, ht, hp8, np⟩ := r8.2 so eo n1 n2
    have np3 : M' pp = none := by
      cases z : M' pp with
      | none => rfl
      | some u => have := g7.mm _ _ (sM6 _ _ (g5.mm _ _ (g4.mm _ _ z))); rw [np] at this; cases this
    have L11 := L10.idle hh11
    refine gv_ix (K := K) (R := EqV) (xs := [.str "told", .ref pp]) (i := 1) (x := .ref pp) (M := M8) (gv_var (i := 7) (v := .ref a) rfl (.inr ⟨a, _, rfl, .inl (.inl ht), pd_eqv _⟩)) (gv_c rfl) rfl H11 L11.mh _ fun v N H12 g12 e => ?_
    cases (show v = .ref pp from e)
    have hpp := g12.hh _ _ (L11.mh _ _ hp8)
    exact ⟨.inl ⟨rfl, _, .inl (.inl hpp)⟩, gv_c (P := Tx "more") rfl H12 g12.mh _ fun v N' H' g _ => ⟨pp, _, v, rfl, rfl, g.hh _ _ hpp, szL (by rw [List.length_map]; have h1 := (thin_sub c.clauses (some l) ls ls).length_le; have h2 := lits_len tk.l tk.nm; exact Nat.le_trans h1 (Nat.le_trans h2 (Nat.le_trans nl (by decide)))), ⟨M', rfl, lts_upd (((L3'.idle hh11).idle g12.hh).idle g.hh) (g.hh _ _ hpp) np3, _, _, _, rfl⟩⟩⟩
end
end My

set_option Elab.async false
set_option linter.all false
set_option maxRecDepth 100000
set_option maxHeartbeats 8000000
set_option pp.maxSteps 900
namespace My
open PySem PySem.Spec PyProof.Rows L2 L3 LamX
open L3.Strm
/-! the state of a law with several tables of code objects -/
/-- what stands, but some that is changed on purpose -/
def Chg (bs : List Addr) (H H' : Hp) : Prop := ∀ x o, H x = some o → x ∉ bs → H' x = some o
theorem tabs_chg {T : List (Addr × Str)} {H H' : Hp} {bs : List Addr} (t : Tabs T H) (e : Chg bs H H') (hb : ∀ b ∈ bs, ∃ vs, H b = some (.lst vs)) : Tabs T H' := fun p hp => by
  obtain ⟨ps, h1, ok, h2⟩ := t p hp
  refine ⟨ps, e _ _ h1 (fun z => by obtain ⟨vs, h⟩ := hb _ z; rw [h1] at h; cases h), ok, fun pos cv hc => ?_⟩
  obtain ⟨c, e1, e2⟩ := h2 pos cv hc
  exact ⟨c, e1, e _ _ e2 fun z => by
    obtain ⟨vs, h⟩ := hb _ z
    rw [e2] at h
    unfold CodeO at h
    cases h⟩
structure LL (S : Strm) (T : List (Addr × Str)) (M H : Hp) (k : Nat) : Prop where
  mh : Same M (S.cut H)
  at_ : S.At k H
  tb : Tabs T H
  mp : ∀ p ∈ T, M p.1 = none
  nt : ∀ a ps, M a ≠ some (.tbl ps)
section
variable {S : Strm} {T : List (Addr × Str)} {M H M' H' : Hp} {j k c : Nat} {σ : Sl} {te : TE} {P : Pr} {D : Ends} {tz tb : TS} {tt : L2.TT}
theorem LL.le (L : LL S T M H k) (e : j ≤ k) : LL S T M H j := ⟨L.mh, L.at_.le e, L.tb, L.mp, L.nt⟩
theorem LL.tbl (L : LL S T M H k) {p : Addr × Str} (hp : p ∈ T) : ∃ ps, H p.1 = some (.tbl ps) ∧ ¬ S.off p.1 := by
  obtain ⟨ps, h, _⟩ := L.tb p hp
  refine ⟨ps, h, fun z => ?_⟩
  obtain ⟨vs, e⟩ := L.at_.at_ z
  rw [e] at h
  cases h
theorem LL.step (L : LL S T M H k) (g : Gr M (S.cut H) M' (S.cut H')) (a : S.At j H') : LL S T M' H' j := by
  refine ⟨g.mh, a, tabs_chg (bs := [S.a, S.b]) L.tb (fun x o e n => ?_) (fun b hb => ?_), fun p hp => ?_, fun x qs e => L.nt x qs (g.nt x qs e)⟩
  · have no : ¬ S.off x := fun z => n (by rcases z with z | z <;> simp [z])
    exact of_cut (g.hh x o (by rw [cut_on no]; exact e))
  · simp only [List.mem_cons, List.not_mem_nil, or_false] at hb
    exact L.at_.at_ hb
  · obtain ⟨ps, h, no⟩ := L.tbl hp
    exact g.keep (L.mp p hp) (o := .tbl ps) (by rw [cut_on no]; exact h)
theorem LL.plain (L : LL S T M H k) (g : Gr M H M' H') : LL S T M' H' k := L.step (lift L.mh L.at_ g) (L.at_.same g.hh)
theorem LL.idle (L : LL S T M H k) (hh : Same H H') : LL S T M H' k := L.plain (.idle (L.mh.trans cut_same) hh)
/-- what was known before, at a later heap -/
theorem LL.back (L : LL S T M H k) (L' : LL S T M' H' j) (s : Same M M') : LL S T M H' j := ⟨s.trans L'.mh, L'.at_, L'.tb, L.mp, L.nt⟩
theorem LL.ext (L : LL S T M H k) (e : ExtN H H') (t : Tabs T H') : LL S T M H' k := ⟨fun x o h => by
  have h1 := L.mh x o h
  rw [cut_on (on_of h1)]
  exact e x o (of_cut h1) fun ps z => L.nt x ps (z ▸ h), L.at_.ext e, t, L.mp, L.nt⟩
theorem LL.put (L : LL S T M H k) {p : Addr} {vs ws : List V} (hp : S.cut H p = some (.lst vs)) (hm : M p = none) : LL S T M (upd H p (.lst ws)) k :=
  ⟨by rw [cut_upd (on_of hp)]; exact same_mut L.mh hm, L.at_.upd (on_of hp), tabs_chg (bs := [p]) L.tb (fun x o e n => by rw [upd_ne (by simpa using n)]; exact e) (fun b hb => by rw [List.mem_singleton.mp hb]; exact ⟨_, of_cut hp⟩), L.mp, L.nt⟩
/-- all that stands is known, but the tables -/
theorem LL.whole (L : LL S T M H k) : LL S T (noTab (S.cut H)) H k ∧ Same M (noTab (S.cut H)) := ⟨⟨fun x o e => (noTab_of e).1, L.at_, L.tb, fun p hp => by
  obtain ⟨ps, h, no⟩ := L.tbl hp
  unfold noTab
  rw [cut_on no, h], fun a ps e => (noTab_of e).2 ps rfl⟩, fun x o e => noTab_some (L.mh x o e) fun ps z => L.nt x ps (z ▸ e)⟩
/-- two lists of ours are changed -/
theorem LL.two (L : LL S T M H k) {p q : Addr} {us us' vs ws : List V} (t : TwoAt M H M' H' p q vs ws) (hp : S.cut H p = some (.lst us)) (hq : S.cut H q = some (.lst us')) : LL S T M' H' k := by
  have chg : Chg [p, q] H H' := fun x o e n => by
    have := t.g.hh x o (by rw [delS_on n]; exact e)
    rw [delS_on n] at this
    exact this
  have off : ∀ x, S.off x → x ∉ [p, q] := fun x z n => by
    simp only [List.mem_cons, List.not_mem_nil, or_false] at n
    rcases n with rfl | rfl
    · exact on_of hp z
    · exact on_of hq z
  obtain ⟨c, x, n, m, h1, h2, h3⟩ := L.at_.ex
  refine ⟨fun y o e => ?_, ⟨L.at_.ne, c, x, n, m, chg _ _ h1 (off _ (.inl rfl)), chg _ _ h2 (off _ (.inr rfl)), h3⟩, tabs_chg L.tb chg fun b hb => ?_, fun p1 hp1 => ?_, fun y qs e => L.nt y qs (t.g.nt y qs e)⟩
  · have h := t.mh y o e
    rw [cut_on (fun z => ?_)]
    · exact h
    · obtain ⟨vs, hv⟩ := L.at_.at_ z
      have m0 : M y = none := by
        cases e0 : M y with
        | none => rfl
        | some u => have := L.mh y u e0; rw [cut_off z] at this; cases this
      have := t.g.keep m0 (o := .lst vs) (by rw [delS_on (off y z)]; exact hv)
      rw [this] at e
      cases e
  · simp only [List.mem_cons, List.not_mem_nil, or_false] at hb
    rcases hb with rfl | rfl
    · exact ⟨_, of_cut hp⟩
    · exact ⟨_, of_cut hq⟩
  · obtain ⟨ps, h, _⟩ := L.tbl hp1
    refine t.g.keep (L.mp p1 hp1) (o := .tbl ps) (by
      rw [delS_on fun n => ?_]
      · exact h
      · simp only [List.mem_cons, List.not_mem_nil, or_false] at n
        rcases n with n | n
        · rw [n, of_cut hp] at h; cases h
        · rw [n, of_cut hq] at h; cases h)
theorem ll_if {b : Bool} (L : LL S T M H k) (h : GvT tt σ M b) (h1 : b = true → ∀ H', LL S T M H' k → tb { D with nx := tz D } σ H') (h2 : b = false → ∀ H', LL S T M H' k → tz D σ H') : tSeq (tIfS tt tb tNext) tz D σ H :=
  q_if0 (L.mh.trans cut_same) h (fun e H' hh => h1 e H' (L.idle hh)) fun e H' hh => h2 e H' (L.idle hh)
theorem ll_ifN (L : LL S T M H k) (h : GvT tt σ M false) (go : ∀ H', LL S T M H' k → tz D σ H') : tSeq (tIfS tt tb tNext) tz D σ H := ll_if L h (fun e => nomatch e) fun _ H' L' => go H' L'
theorem ll_ifS {tx ty : TS} {B : Bool → Prop} (L : LL S T M H (k + c)) (h : GvTS S c tt σ M B) (h1 : B true → ∀ M' H', Same M M' → LL S T M' H' k → tx D σ H') (h2 : B false → ∀ M' H', Same M M' → LL S T M' H' k → ty D σ H') : tIfS tt tx ty D σ H := h H k L.mh L.at_ _ fun b M' H' g a e => by
  cases b with
  | true =>
    show (if true = true then _ else _)
    rw [if_pos rfl]
    exact h1 e M' H' g.mm (L.step g a)
  | false =>
    show (if false = true then _ else _)
    rw [if_neg (by decide)]
    exact h2 e M' H' g.mm (L.step g a)
theorem ll_for {α : Type} {R : Rl α} {wi : TI} {g : TG} {U : α → Hp → Sl → Sl → Prop} {xs : List α} (cost : Nat → Nat) (J : Hp → Nat → Sl → Hp → Prop) (L : LL S T M H (cost 0)) (hsrc : GvI wi σ M xs R) (htg : TgOk g R U) (h0 : ∀ M1 H1, Gr M (S.cut H) M1 (S.cut H1) → LL S T M1 H1 (cost 0) → J M1 0 σ H1) (hJ : ∀ M M' H H' k i σ, LL S T M H k → Gr M (S.cut H) M' (S.cut H') → J M i σ H → J M' i σ H')
    (hs : ∀ i x σ' M' H' σ2 (nx : Sl → Hp → Prop), (∀ M2 H2 σ3, Same M' M2 → J M2 (i + 1) σ3 H2 → LL S T M2 H2 (cost (i + 1)) → nx σ3 H2) → xs[i]? = some x → Same M M' → J M' i σ' H' → LL S T M' H' (cost i) → U x M' σ' σ2 → tb { D with nx := nx, ct := nx, bk := tz D } σ2 H')
    (hd : ∀ σ' M' H', Same M M' → J M' xs.length σ' H' → LL S T M' H' (cost xs.length) → tz D σ' H') : tSeq (tFor wi g tb) tz D σ H := by
  refine z_for (S := S) (k := cost 0) (c := 0) (G := (· = xs)) L.mh L.at_ hsrc.s htg (fun ys M1 i σ' M' H' => Same M1 M' ∧ J M' i σ' H' ∧ LL S T M' H' (cost i)) (fun ys M1 H1 e g a => ?_) (fun ys M1 i σ' M' H' ⟨s, _, l⟩ => ⟨s, l.mh, l.at_.le (Nat.zero_le _)⟩) ?_ ?_
  · exact ⟨Same.refl _, h0 _ _ g (L.step g a), L.step g a⟩
  · rintro ys M1 i x σ' M' H' M2 H2 σ2 rfl sM hx ⟨s1, j1, l1⟩ g hU
    exact hs i x σ' M2 H2 σ2 _ (fun M3 H3 σ3 s3 j3 l3 => ⟨M3, (s1.trans g.mm).trans s3, j3, l3⟩) hx ((sM.trans s1).trans g.mm) (hJ _ _ _ _ _ _ _ l1 (lift l1.mh l1.at_ g) j1) (l1.plain g) hU
  · rintro ys M1 σ' M' H' rfl sM ⟨s1, j1, l1⟩
    exact hd σ' M' H' (sM.trans s1) j1 l1
theorem ll_forE {α : Type} {R : Rl α} {wi : TI} {g : TG} {U : α → Hp → Sl → Sl → Prop} {xs : List α} (cost : Nat → Nat) (J : Hp → Nat → Sl → Hp → Prop) (L : LL S T M H (cost 0)) (hsrc : GvI wi σ M xs R) (htg : TgOk g R U) (h0 : ∀ M1 H1, Gr M (S.cut H) M1 (S.cut H1) → LL S T M1 H1 (cost 0) → J M1 0 σ H1) (hJ : ∀ M M' H H' k i σ, LL S T M H k → Gr M (S.cut H) M' (S.cut H') → J M i σ H → J M' i σ H')
    (hs : ∀ i x σ' M' H' σ2 (nx : Sl → Hp → Prop), (∀ M2 H2 σ3, Same M' M2 → J M2 (i + 1) σ3 H2 → LL S T M2 H2 (cost (i + 1)) → nx σ3 H2) → xs[i]? = some x → Same M M' → J M' i σ' H' → LL S T M' H' (cost i) → U x M' σ' σ2 → tb { D with nx := nx, ct := nx, bk := D.nx } σ2 H')
    (hd : ∀ σ' M' H', Same M M' → J M' xs.length σ' H' → LL S T M' H' (cost xs.length) → D.nx σ' H') : tFor wi g tb D σ H := by
  refine z_forE (S := S) (k := cost 0) (c := 0) (G := (· = xs)) L.mh L.at_ hsrc.s htg (fun ys M1 i σ' M' H' => Same M1 M' ∧ Same M M' ∧ J M' i σ' H' ∧ LL S T M' H' (cost i)) (fun ys M1 H1 e g a => ?_) (fun ys M1 i σ' M' H' ⟨s, _, _, l⟩ => ⟨s, l.mh, l.at_.le (Nat.zero_le _)⟩) ?_ ?_
  · exact ⟨Same.refl _, g.mm, h0 _ _ g (L.step g a), L.step g a⟩
  · rintro ys M1 i x σ' M' H' M2 H2 σ2 rfl sM hx ⟨s1, s0, j1, l1⟩ g hU
    exact hs i x σ' M2 H2 σ2 _ (fun M3 H3 σ3 s3 j3 l3 => ⟨M3, (s1.trans g.mm).trans s3, (s0.trans g.mm).trans s3, j3, l3⟩) hx (s0.trans g.mm) (hJ _ _ _ _ _ _ _ l1 (lift l1.mh l1.at_ g) j1) (l1.plain g) hU
  · rintro ys M1 σ' M' H' rfl sM ⟨s1, s0, j1, l1⟩
    exact hd σ' M' H' s0 j1 l1
/-- the lambda's reading, then what follows -/
theorem ll_lam {TT : (XK → Hp → VK → Prop) → Hp → VK → Prop} {t : XK → TE} (L : LL S T M H k) (h : Gv (fun σ H Q => TT (fun E H' Q' => t E σ H' Q') H Q) σ M P) {Q : VK} (go : ∀ v M' H', Same M M' → LL S T M' H' k → P M' v → Q v H') : tLam T TT t σ H Q :=
  ⟨L.tb, fun H1 eN T1 => by
    have L1 := L.ext eN T1
    exact h H1 (L1.mh.trans cut_same) Q fun v M' H' g p => go v M' H' g.mm (L1.plain g) p⟩
theorem gts_andI {b : Bool} {tu : L2.TT} (h : GvT tt σ M b) (h2 : b = true → GvTS S c tu σ M fun _ => True) : GvTS S c (tAnd tt tu) σ M fun r => r = true → b = true := fun H k mh a Q q =>
  h H (mh.trans cut_same) _ fun M1 H1 g1 => by
    have L1 := lift mh a g1
    cases b with
    | false => exact q false M1 H1 L1 ((a.same g1.hh).le (by omega)) fun z => nomatch z
    | true => exact (h2 rfl).le g1.mm H1 k L1.mh (a.same g1.hh) _ fun b M' H' g a' _ => q b M' H' (L1.trans g) a' fun _ => rfl
theorem gts_orI {b : Bool} {tu : L2.TT} (h : GvT tt σ M b) (h2 : b = false → GvTS S c tu σ M fun _ => True) : GvTS S c (tOr tt tu) σ M fun _ => True := fun H k mh a Q q =>
  h H (mh.trans cut_same) _ fun M1 H1 g1 => by
    have L1 := lift mh a g1
    cases b with
    | true => exact q true M1 H1 L1 ((a.same g1.hh).le (by omega)) trivial
    | false => exact (h2 rfl).le g1.mm H1 k L1.mh (a.same g1.hh) _ fun b M' H' g a' _ => q b M' H' (L1.trans g) a' trivial
end
/-- all that was ever so, from the start -/
inductive Cn (c : CodeD) : List Str → List (Option (List Str)) → Option (List Str) → Prop
  | nil {o : Option (List Str)} : EndsOk c.names c.clauses [] o → Cn c [] [] o
  | put {ls : List Str} {ss : List (Option (List Str))} {o : Option (List Str)} {l : Str} {o' : Option (List Str)} : Cn c ls ss o → EndsOk c.names c.clauses (ls ++ [l]) o' → Cn c (ls ++ [l]) (ss ++ [o]) o'
section
variable {c : CodeD} {ls : List Str} {ss ss2 : List (Option (List Str))} {o o2 : Option (List Str)}
theorem Cn.ends (h : Cn c ls ss o) : EndsOk c.names c.clauses ls o := by cases h <;> assumption
theorem Cn.len (h : Cn c ls ss o) : ss.length = ls.length := by
  induction h with
  | nil _ => rfl
  | put _ _ ih => rw [List.length_append, List.length_append, ih]; rfl
theorem Cn.pop {l : Str} (h : Cn c (ls ++ [l]) ss o) : ∃ ss1 o1, ss = ss1 ++ [o1] ∧ Cn c ls ss1 o1 := by
  generalize e : ls ++ [l] = xs at h
  cases h with
  | nil _ => simp at e
  | put h1 h2 =>
    obtain ⟨rfl, _⟩ := List.append_inj' e rfl
    exact ⟨_, _, rfl, h1⟩
/-- both tell the same -/
theorem ends_same {ns : List Str} {cs : List (List Str)} (e1 : EndsOk ns cs ls o) (e2 : EndsOk ns cs ls o2) : (o = none ↔ o2 = none) ∧ ∀ so so2, o = some so → o2 = some so2 → ∀ l, l ∈ so ↔ l ∈ so2 := by
  cases o with
  | none => cases o2 with
    | none => exact ⟨⟨fun _ => rfl, fun _ => rfl⟩, fun _ _ e => by cases e⟩
    | some s2 => exact absurd e1 e2.1
  | some s1 => cases o2 with
    | none => exact absurd e2 e1.1
    | some s2 => exact ⟨⟨fun e => (nomatch e), fun e => (nomatch e)⟩, fun so so2 a b l => by cases a; cases b; rw [e1.2.1, e2.2.1]⟩
end
end My

set_option Elab.async false
set_option linter.all false
set_option maxRecDepth 100000
set_option maxHeartbeats 8000000
set_option pp.maxSteps 900
namespace My
open PySem PySem.Spec PyProof.Rows L2 L3 LamX
open L3.Strm
/-! the deeds in step: undo, put -/
section
variable {CL C : Addr} {c : CodeD} {x dx p q : Addr} {vc m : V} {pl sl : Addr} {ls : List Str} {ss ss2 : List (Option (List Str))} {o o2 : Option (List Str)} {M H M' H' : Hp}
theorem Pair.gr (D : Pair CL C c x dx p q vc m pl sl ls ss o ss2 o2 M H) (g : Gr M H M' H') : Pair CL C c x dx p q vc m pl sl ls ss o ss2 o2 M' H' := by
  obtain ⟨ms, hq, pq⟩ := D.hq
  obtain ⟨ns, hs, psl⟩ := D.hsl
  refine ⟨g.mm _ _ D.hx, Mon.mono g.mm D.hc, Mono.mono g.mm D.hm, D.nd, g.hh _ _ D.hp, ⟨ms, g.hh _ _ hq, pq.mono g.mm⟩, g.hh _ _ D.hpl, ⟨ns, g.hh _ _ hs, psl.mono g.mm⟩, fun b hb => ?_, D.e1, D.e2, D.k⟩
  have hz := D.mf b hb
  simp only [List.mem_cons, List.not_mem_nil, or_false] at hb
  rcases hb with rfl | rfl | rfl | rfl
  · exact g.keep hz D.hp
  · exact g.keep hz hq
  · exact g.keep hz D.hpl
  · exact g.keep hz hs
/-- .. where the lists stand -/
theorem Pair.at_ (D : Pair CL C c x dx p q vc m pl sl ls ss o ss2 o2 M H) (h : ∀ b vs, H b = some (.lst vs) → H' b = some (.lst vs)) : Pair CL C c x dx p q vc m pl sl ls ss o ss2 o2 M H' :=
  ⟨D.hx, D.hc, D.hm, D.nd, h _ _ D.hp, let ⟨ms, a, b⟩ := D.hq; ⟨ms, h _ _ a, b⟩, h _ _ D.hpl, let ⟨ms, a, b⟩ := D.hsl; ⟨ms, h _ _ a, b⟩, D.mf, D.e1, D.e2, D.k⟩
/-- somebody led in step with the law's own -/
def Deed (CL C : Addr) (c : CodeD) (x dx p q : Addr) (vc m : V) (pl sl : Addr) (M H : Hp) : Prop := ∃ ls ss o ss2 o2, Pair CL C c x dx p q vc m pl sl ls ss o ss2 o2 M H ∧ Cn c ls ss o ∧ Cn c ls ss2 o2
theorem Deed.gr (h : Deed CL C c x dx p q vc m pl sl M H) (g : Gr M H M' H') : Deed CL C c x dx p q vc m pl sl M' H' := let ⟨ls, ss, o, ss2, o2, a, b, d⟩ := h; ⟨ls, ss, o, ss2, o2, a.gr g, b, d⟩
end
theorem pd_front {α β : Type} {F : α → β → Prop} {x : α} : ∀ {xs : List α} {vs : List β}, Paired F (xs ++ [x]) vs → ∃ as u, vs = as ++ [u] ∧ Paired F xs as
  | [], _, .cons h .nil => ⟨[], _, rfl, .nil⟩
  | _ :: _, _, .cons h t => by
    obtain ⟨as, u, e, hh⟩ := pd_front t
    exact ⟨_ :: as, u, by rw [e]; rfl, .cons h hh⟩
theorem same_del {M H : Hp} {bs : List Addr} (s : Same M H) (hb : ∀ b ∈ bs, M b = none) : Same M (delS H bs) := fun a o e => by
  rw [delS_on fun z => by rw [hb a z] at e; cases e]
  exact s a o e
section
variable {K : PySem.W.Frag} {S : Strm} {T : List (Addr × Str)} {k : Nat} {σ : Sl} {D : Ends} {CL C : Addr} {c : CodeD} {x dx p q : Addr} {vc m : V} {pl sl : Addr} {ls : List Str} {ss ss2 : List (Option (List Str))} {o o2 : Option (List Str)} {M H : Hp}
theorem do_undo (L : LL S T M H k) (pr : Pair CL C c x dx p q vc m pl sl ls ss o ss2 o2 M (S.cut H)) (k1 : Cn c ls ss o) (k2 : Cn c ls ss2 o2) (ne : ls ≠ []) (h6 : σ[6]? = some (some m)) (h7 : σ[7]? = some (some (.ref x)))
    (go : ∀ M' H', Same M M' → LL S T M' H' k → Deed CL C c x dx p q vc m pl sl M' (S.cut H') → D.nx σ H') :
    tSeq (tDrop (tMeth CL "undo" (sp_Led_undo K CL C) [] E0 (tVar 7) tNil)) (tSeq (tDrop (tBM0 K "list" rPop (tDGet (tVar 6) (tC (.str "put"))))) (tDrop (tBM0 K "list" rPop (tDGet (tVar 6) (tC (.str "so")))))) D σ H := by
  obtain ⟨ls1, l, rfl⟩ : ∃ ls1 l, ls = ls1 ++ [l] := ⟨ls.dropLast, ls.getLast ne, (List.dropLast_concat_getLast ne).symm⟩
  obtain ⟨s1, o1, rfl, j1⟩ := k1.pop
  obtain ⟨s3, o3, rfl, j2⟩ := k2.pop
  obtain ⟨ms, hq, pq⟩ := pr.hq
  obtain ⟨ns, hs, psl⟩ := pr.hsl
  obtain ⟨ms0, mu, rfl, _⟩ := pd_last pq
  obtain ⟨ns0, nu, rfl, _⟩ := pd_last psl
  have nd := pr.nd
  simp only [List.nodup_cons, List.mem_cons, List.not_mem_nil, or_false, not_or, List.nodup_nil, not_false_eq_true, and_true] at nd
  obtain ⟨⟨pq0, ppl, psl0⟩, ⟨qpl, qsl⟩, plsl⟩ := nd
  have mp : M p = none := pr.mf p (by simp)
  have mq : M q = none := pr.mf q (by simp)
  have mpl : M pl = none := pr.mf pl (by simp)
  have msl : M sl = none := pr.mf sl (by simp)
  have mh := L.mh.trans cut_same
  have LH : LedH CL C ⟨c, ls1 ++ [l], s1 ++ [o1], o⟩ x dx p q vc (ms0 ++ [mu]) M H := ⟨pr.hx, pr.hc, pq0, of_cut pr.hp, of_cut hq, pq, same_del mh fun b hb => by
    simp only [List.mem_cons, List.not_mem_nil, or_false] at hb
    rcases hb with rfl | rfl
    · exact mp
    · exact mq⟩
  refine ⟨.ref x, h7, x, dx, ledF vc p q, rfl, mh _ _ pr.hx, rfl, _, l, ls1, ms0, mu, x, dx, p, q, vc, M, rfl, LH, rfl, fun M1 H1 t1 => ?_⟩
  have L1 := L.two t1 pr.hp hq
  have keep : ∀ b vs, b ∉ [p, q] → S.cut H b = some (.lst vs) → M b = none → S.cut H1 b = some (.lst vs) ∧ M1 b = none := fun b vs n e z => by
    have e1 : delS H [p, q] b = some (.lst vs) := by rw [delS_on n]; exact of_cut e
    have e2 := t1.g.hh _ _ e1
    rw [delS_on n] at e2
    exact ⟨by rw [cut_on (on_of e)]; exact e2, t1.g.keep z e1⟩
  obtain ⟨cpl, m1pl⟩ := keep pl _ (by simp [Ne.symm ppl, Ne.symm qpl]) pr.hpl mpl
  obtain ⟨csl, m1sl⟩ := keep sl _ (by simp [Ne.symm psl0, Ne.symm qsl]) hs msl
  have cp : S.cut H1 p = some (.lst (ls1.map V.str)) := by rw [cut_on (on_of pr.hp)]; exact t1.hp
  have cq : S.cut H1 q = some (.lst ms0) := by rw [cut_on (on_of hq)]; exact t1.hq
  have rm1 := Mono.mono t1.g.mm pr.hm
  refine t_popAt (K := K) (ws := ls1.map V.str) (w := .str l) (p := pl) (L1.mh.trans cut_same) (gv_mP (gv_var h6 rm1)) (by rw [of_cut cpl, List.map_append]; rfl) fun M2 H2 g2 => ?_
  have c2 := lift L1.mh L1.at_ g2
  have L2 := L1.plain g2
  have hpl2 := c2.hh _ _ cpl
  have m2pl := c2.keep m1pl cpl
  have L3 := L2.put (ws := ls1.map V.str) hpl2 m2pl
  have hsl2 := c2.hh _ _ csl
  have m2sl := c2.keep m1sl csl
  have e3 : S.cut (upd H2 pl (.lst (ls1.map V.str))) = upd (S.cut H2) pl (.lst (ls1.map V.str)) := cut_upd (on_of hpl2)
  have hsl3 : S.cut (upd H2 pl (.lst (ls1.map V.str))) sl = some (.lst (ns0 ++ [nu])) := by rw [e3, upd_ne (Ne.symm plsl)]; exact hsl2
  have hpl3 : S.cut (upd H2 pl (.lst (ls1.map V.str))) pl = some (.lst (ls1.map V.str)) := by rw [e3, upd_same]
  have hp3 : S.cut (upd H2 pl (.lst (ls1.map V.str))) p = some (.lst (ls1.map V.str)) := by rw [e3, upd_ne ppl]; exact c2.hh _ _ cp
  have hq3 : S.cut (upd H2 pl (.lst (ls1.map V.str))) q = some (.lst ms0) := by rw [e3, upd_ne qpl]; exact c2.hh _ _ cq
  revert L3 hsl3 hpl3 hp3 hq3
  generalize upd H2 pl (.lst (ls1.map V.str)) = H3
  intro L3 hsl3 hpl3 hp3 hq3
  refine t_popAt (K := K) (ws := ns0) (w := nu) (p := sl) (L3.mh.trans cut_same) (gv_mS (gv_var h6 (Mono.mono g2.mm rm1))) (of_cut hsl3) fun M4 H4 g4 => ?_
  have c4 := lift L3.mh L3.at_ g4
  have L4 := L3.plain g4
  have hsl4 := c4.hh _ _ hsl3
  have m4sl := c4.keep m2sl hsl3
  have e5 : S.cut (upd H4 sl (.lst ns0)) = upd (S.cut H4) sl (.lst ns0) := cut_upd (on_of hsl4)
  have sM : Same M M4 := t1.g.mm.trans (g2.mm.trans g4.mm)
  have lit : Lits c.names ls1 := pr.k.l.subl (List.sublist_append_left _ _)
  have pdq : Pd (OpR' DcF) M (s1 ++ [o1]) ms0 := by
    obtain ⟨as, u, e, h1⟩ := pd_front pq
    obtain ⟨rfl, _⟩ := List.append_inj' e rfl
    exact h1
  have pds : Pd (OpR' (LiR Tx)) M (s3 ++ [o3]) ns0 := by
    obtain ⟨as, u, e, h1⟩ := pd_front psl
    obtain ⟨rfl, _⟩ := List.append_inj' e rfl
    exact h1
  refine go M4 _ sM (L4.put hsl4 m4sl) ⟨ls1, s1, o1, s3, o3, ⟨sM _ _ pr.hx, Mon.mono sM pr.hc, Mono.mono sM pr.hm, pr.nd, ?_, ⟨ms0, ?_, Pd.mono (R := OpR' DcF) sM pdq⟩, ?_, ⟨ns0, ?_, Pd.mono (R := OpR' (LiR Tx)) sM pds⟩, fun b hb => ?_, j1.ends, j2.ends, ⟨pr.k.nm, pr.k.k, pr.k.w, lit⟩⟩, j1, j2⟩
  · rw [e5, upd_ne psl0]; exact c4.hh _ _ hp3
  · rw [e5, upd_ne qsl]; exact c4.hh _ _ hq3
  · rw [e5, upd_ne plsl]; exact c4.hh _ _ hpl3
  · rw [e5, upd_same]
  · simp only [List.mem_cons, List.not_mem_nil, or_false] at hb
    rcases hb with rfl | rfl | rfl | rfl
    · exact g4.keep (g2.keep t1.mp t1.hp) (of_cut hp3)
    · exact g4.keep (g2.keep t1.mq t1.hq) (of_cut hq3)
    · exact g4.keep m2pl (of_cut hpl3)
    · exact m4sl
theorem do_put {l : Str} {so so2 : List Str} (L : LL S T M H k) (pr : Pair CL C c x dx p q vc m pl sl ls ss (some so) ss2 (some so2) M (S.cut H)) (k1 : Cn c ls ss (some so)) (k2 : Cn c ls ss2 (some so2)) (hl : l ∈ litsOf c.signs) (n1 : l ∉ so2) (n2 : opp l ∉ so2)
    (h6 : σ[6]? = some (some m)) (h7 : σ[7]? = some (some (.ref x))) (h14 : σ[14]? = some (some (.str l)))
    (go : ∀ M' H', Same M M' → LL S T M' H' k → Deed CL C c x dx p q vc m pl sl M' (S.cut H') → D.nx σ H') :
    tSeq (tDrop (tCall (sp__law_put K) [] E0 (tCons (tVar 6) (tCons (tVar 14) tNil)))) (tDrop (tMeth CL "put" (sp_Led_put K CL C) [] E0 (tVar 7) (tCons (tVar 14) tNil))) D σ H := by
  obtain ⟨ms, hq, pq⟩ := pr.hq
  obtain ⟨ns, hs, psl⟩ := pr.hsl
  obtain ⟨ns0, nu, rfl, hnu⟩ := pd_last psl
  have nd := pr.nd
  simp only [List.nodup_cons, List.mem_cons, List.not_mem_nil, or_false, not_or, List.nodup_nil, not_false_eq_true, and_true] at nd
  obtain ⟨⟨pq0, ppl, psl0⟩, ⟨qpl, qsl⟩, plsl⟩ := nd
  have mp : M p = none := pr.mf p (by simp)
  have mq : M q = none := pr.mf q (by simp)
  have mpl : M pl = none := pr.mf pl (by simp)
  have msl : M sl = none := pr.mf sl (by simp)
  have mh := L.mh.trans cut_same
  have tk := pr.k
  have e1 := pr.e1
  have e2 := pr.e2
  have same := ends_same e1 e2
  have sm : ∀ y, y ∈ so ↔ y ∈ so2 := same.2 so so2 rfl rfl
  have X0 : Ctx c.names c.clauses ls := ⟨tk.nm, tk.k, tk.l⟩
  have nn : c.names.length ≤ 1000 := (nm_shorts tk.nm).1
  have ll : ls.length ≤ c.names.length := lits_len tk.l tk.nm
  have len1 := k1.len
  have len2 := k2.len
  have pln := pq.length
  have pln2 := psl.length
  simp only [List.length_append, List.length_singleton] at pln pln2
  obtain ⟨n, hn, side⟩ := mem_litsOf.mp hl
  have hnm : n ∈ c.names := List.mem_append_left _ hn
  have hm := tk.nm.nm n hnm
  have opn_of : ∀ zs : List Str, l ∉ zs → opp l ∉ zs → n ∈ opn c.names zs := fun zs a b => mem_opn.mpr ⟨hnm, fun z => by
    rcases side with e | e
    · exact a (e ▸ z)
    · exact b (by rw [e, opp_neg hm]; exact z), fun z => by
    rcases side with e | e
    · exact b (by rw [e, opp_nm hm]; exact z)
    · exact a (e ▸ z)⟩
  have X2 : Ctx c.names c.clauses (so2 ++ [l]) := ⟨tk.nm, tk.k, lits_put tk.nm (so_lits tk.nm e2.2.2) (opn_of so2 n1 n2) side⟩
  have lit : Lits c.names (ls ++ [l]) := lits_put tk.nm tk.l (opn_of ls (fun z => n1 (e2.2.2.sub l z)) fun z => n2 (e2.2.2.sub _ z)) side
  refine ⟨m, h6, .str l, h14, c, pl, sl, ls, ns0, nu, so2, l, M, m, rfl, pr.hm, same_del mh (fun b hb => ?_), plsl, of_cut pr.hpl, of_cut hs, hnu, X2, tk.w, ⟨by omega, by omega⟩, fun _ o' u' M1 H1 t1 ru he => ?_⟩
  · simp only [List.mem_cons, List.not_mem_nil, or_false] at hb
    rcases hb with rfl | rfl
    · exact mpl
    · exact msl
  have L1 := L.two t1 pr.hpl hs
  have keep : ∀ b vs, b ∉ [pl, sl] → S.cut H b = some (.lst vs) → M b = none → S.cut H1 b = some (.lst vs) ∧ M1 b = none := fun b vs n e z => by
    have e1 : delS H [pl, sl] b = some (.lst vs) := by rw [delS_on n]; exact of_cut e
    have e2 := t1.g.hh _ _ e1
    rw [delS_on n] at e2
    exact ⟨by rw [cut_on (on_of e)]; exact e2, t1.g.keep z e1⟩
  obtain ⟨cp, m1p⟩ := keep p _ (by simp [ppl, psl0]) pr.hp mp
  obtain ⟨cq, m1q⟩ := keep q _ (by simp [qpl, qsl]) hq mq
  have cpl : S.cut H1 pl = some (.lst ((ls ++ [l]).map V.str)) := by rw [cut_on (on_of pr.hpl)]; exact t1.hp
  have csl : S.cut H1 sl = some (.lst (ns0 ++ [nu] ++ [u'])) := by rw [cut_on (on_of hs)]; exact t1.hq
  have s1 : Same M M1 := t1.g.mm
  have mh1 := L1.mh.trans cut_same
  have LH : LedH CL C ⟨c, ls, ss, some so⟩ x dx p q vc ms M1 H1 := ⟨s1 _ _ pr.hx, Mon.mono s1 pr.hc, pq0, of_cut cp, of_cut cq, pq.mono s1, same_del mh1 fun b hb => by
    simp only [List.mem_cons, List.not_mem_nil, or_false] at hb
    rcases hb with rfl | rfl
    · exact m1p
    · exact m1q⟩
  refine ⟨.ref x, h7, x, dx, ledF vc p q, rfl, mh1 _ _ (s1 _ _ pr.hx), rfl, .str l, h14, ⟨c, ls, ss, some so⟩, l, x, dx, p, q, vc, ms, M1, rfl, LH, ⟨tk.nm, tk.k, tk.w, ⟨so, ls, rfl, e1, X0, fun z => n1 ((sm _).mp z), fun z => n2 ((sm _).mp z)⟩, hl, by show ls.length ≤ 1000; omega, by show ss.length ≤ 1000; omega⟩, fun o3 u3 _ M2 H2 t2 ru2 he2 => ?_⟩
  have L2 := L1.two t2 cp cq
  have sM : Same M M2 := s1.trans t2.g.mm
  have keep2 : ∀ b vs, b ∉ [p, q] → S.cut H1 b = some (.lst vs) → M1 b = none → S.cut H2 b = some (.lst vs) ∧ M2 b = none := fun b vs n e z => by
    have e1 : delS H1 [p, q] b = some (.lst vs) := by rw [delS_on n]; exact of_cut e
    have e2 := t2.g.hh _ _ e1
    rw [delS_on n] at e2
    exact ⟨by rw [cut_on (on_of e)]; exact e2, t2.g.keep z e1⟩
  obtain ⟨dpl, m2pl⟩ := keep2 pl _ (by simp [Ne.symm ppl, Ne.symm qpl]) cpl t1.mp
  obtain ⟨dsl, m2sl⟩ := keep2 sl _ (by simp [Ne.symm psl0, Ne.symm qsl]) csl t1.mq
  have f1 : EndsOk c.names c.clauses (ls ++ [l]) o3 := he2 ls so rfl e1 X0
  have f2 : EndsOk c.names c.clauses (ls ++ [l]) o' := ends_put X0 e2 he
  refine go M2 H2 sM L2 ⟨ls ++ [l], ss ++ [some so], o3, ss2 ++ [some so2], o', ⟨sM _ _ pr.hx, Mon.mono sM pr.hc, Mono.mono sM pr.hm, pr.nd, ?_, ⟨ms ++ [u3], ?_, pd_app (pq.mono sM) (.cons ru2 .nil)⟩, dpl, ⟨_, dsl, pd_app (psl.mono sM) (.cons (Mon.mono t2.g.mm ru) .nil)⟩, fun b hb => ?_, f1, f2, ⟨tk.nm, tk.k, tk.w, lit⟩⟩, .put k1 f1, .put k2 f2⟩
  · rw [cut_on (on_of cp)]; exact t2.hp
  · rw [cut_on (on_of cq)]; exact t2.hq
  · simp only [List.mem_cons, List.not_mem_nil, or_false] at hb
    rcases hb with rfl | rfl | rfl | rfl
    · exact t2.mp
    · exact t2.mq
    · exact m2pl
    · exact m2sl
end
end My

set_option Elab.async false
set_option linter.all false
set_option maxRecDepth 100000
set_option maxHeartbeats 8000000
set_option pp.maxSteps 900
namespace My
open PySem PySem.Spec PyProof.Rows L2 L3 LamX
open L3.Strm
/-! odd things; the law's own lists of full settings, of up to eight names -/
def sp__law_sameF (K : PySem.W.Frag) : Sp := sp2 (TxF K) (TxF K) (fun d e => FitD (txD d) ∧ FitD (txD e)) fun d e => Bl (decide ((txD d).shown = (txD e).shown))
section
variable {P : Program} {w : World} {K : PySem.W.Frag} {mg : Str → Option Value} {base : Heap}
theorem ok__law_sameF {f : Addr} {fd : FuncData} (F : Fun K "_law_same" "_law_same" s__law_same f fd) (T : Gc mg) : FnG P w K mg base CX0 1 f fd ["_law_found", "_law_due"] (sp__law_sameF K) := by
  refine fun_okG F sc__law_same (fun vs H Q E h => ?_) (fun cdv A outer s H vs Q E hgu hr h => ?_)
  · obtain ⟨x, y, M, v, w, rfl, _⟩ := h
    rfl
  · obtain ⟨d, e, M, v, w, rfl, mh, r1, r2, ⟨⟨h1, h2, h3⟩, h4, h5, h6⟩, q⟩ := h
    have hu := hr.units
    have hgu : (A.deeper (envOfC "_law_same" (defScope s__law_same) s.heap.objs.size f cdv)).guards = some [] := hgu
    have hu7 : (A.deeper (envOfC "_law_same" (defScope s__law_same) s.heap.objs.size f cdv)).units + 70 < cLine := by have := hr.un; omega
    refine ⟨_, (pss_one (ps_ret (pe_cmpR (op_eqP hu) (pe_callB (call_reprF hgu hu7) (by rfl) T.repr boot_repr (pa_cons (pv 0) pa_nil)) (pe_callB (call_reprF hgu hu7) (by rfl) T.repr boot_repr (pa_cons (pv 1) pa_nil)) (nomark _)))), ?_⟩
    exact s_ret mh (gv_is (gv_eqT (K := K) (neg := false) py_str inj_str (gv_reprF (K := K) (gv_var rfl r1) h1 h2 h3) (gv_reprF (K := K) (gv_var rfl r2) h4 h5 h6) (by simp [PyData.depth])) fun M v h => by simpa using h) q
def sp__law_fullsW (K : PySem.W.Frag) : Sp := sp1 (SqR K Tx) (fun ns => ns.length ≤ 8 ∧ Shorts ns) fun ns => LiR TT (fulls ns)
theorem ok__law_fullsW {f : Addr} {fd : FuncData} (F : Fun K "_law_fulls" "_law_fulls" s__law_fulls f fd) (T : Gc mg) : FnOk P w K mg base CX0 1 f fd ["_law_names_here"] (sp__law_fullsW K) := by
  refine F.ok sc__law_fulls (fun vs H Q E h => ?_) (fun cdv A outer s H vs Q E hr h => ?_)
  · obtain ⟨x, M, v, rfl, _⟩ := h
    rfl
  · obtain ⟨ns, M, v, rfl, mh, r1, ⟨h6, hsh⟩, q⟩ := h
    have hu := hr.units
    refine ⟨_, (pss_cons (ps_set (i := 1) sc__law_fulls.nd rfl (by first | exact .inl rfl | exact .inr rfl) (pe_lst (pa_cons (pe_tup pa_nil) pa_nil)))
      (pss_cons (ps_for PassesOwn.never (by rfl) (pi_sq (pv 0)) (pg_name (i := 2) sc__law_fulls.nd rfl (by first | exact .inl rfl | exact .inr rfl)) (pss_cons (ps_set (i := 3) sc__law_fulls.nd rfl (by first | exact .inl rfl | exact .inr rfl) (pe_lst pa_nil))
      (pss_cons (ps_for PassesOwn.never (by rfl) (pi_sq (pv 1)) (pg_name (i := 4) sc__law_fulls.nd rfl (by first | exact .inl rfl | exact .inr rfl)) (pss_one (ps_expr (pe_bm PySem.F.plainAttrs_list PySem.F.slot_list_extend PySem.F.type_list_extend mt_extend (pv 3) (pa_cons (pe_lst (pa_cons (pe_op op_addA (pv 4) (pe_tup (pa_cons (pv 2) pa_nil))) (pa_cons (pe_op op_addA (pv 4) (pe_tup (pa_cons (pe_op op_addA pe_str (pv 2)) pa_nil))) pa_nil))) pa_nil)))))
      (pss_one (ps_set (i := 1) sc__law_fulls.nd rfl (by first | exact .inl rfl | exact .inr rfl) (pv 3))))))
      (pss_one (ps_ret (pv 1))))), ?_⟩
    refine q_asg (P := LiR TT [[]]) mh (gl_one gv_nilT).li fun v1 M1 H1 g1 p1 => ?_
    refine q_for (R1 := Tx) (xs := ns) g1.mh (gv_var rfl (Mon.mono g1.mm r1))
      (fun M1' i σ' M' H' => ∃ y2 y3 y4 u, Gr M H M' H' ∧ Same M1' M' ∧ LiR TT (fulls (ns.take i)) M' u ∧ σ' = [some v, some u, y2, y3, y4])
      (fun M2 H2 g2 => ⟨_, _, _, v1, g1.trans g2, Same.refl _, Mon.mono g2.mm p1, rfl⟩) (fun M2 i σ' M' H' ⟨_, _, _, _, g, s1, _⟩ => ⟨s1, g.mh⟩) ?_ ?_
    · rintro M2 i n u0 σ' M' H' sM hx ⟨y2, y3, y4, u, g, s1, p2, rfl⟩ rx
      cases rx
      have hi : i < ns.length := (List.getElem?_eq_some_iff.mp hx).1
      have hn : n.length ≤ 900 := hsh.2 n (List.mem_of_getElem? hx)
      have hle : (fulls (ns.take i)).length ≤ 256 := by
        rw [fulls_len, List.length_take]
        exact Nat.le_trans (Nat.pow_le_pow_right (by decide) (show min i ns.length ≤ 8 by omega)) (by decide)
      refine q_asgL g.mh gl_nil fun p3 vs3 M3 H3 g3 h03 m03 hw3 e3 => ?_
      subst e3
      have G3 := g.trans g3
      refine q_for (R1 := TT) (xs := fulls (ns.take i)) g3.mh (gv_var rfl (Mon.mono g3.mm p2).sq)
        (fun M1' j σ' M'' H'' => ∃ y4 ws, Gr M H M'' H'' ∧ Same M1' M'' ∧ Same M3 M'' ∧ Own H M'' H'' p3 ws ∧ Pd TT M'' (fullP ((fulls (ns.take i)).take j) n) ws ∧ σ' = [some v, some u, some (.str n), some (.ref p3), y4])
        (fun M4 H4 g4 => ⟨_, [], G3.trans g4, Same.refl _, g4.mm, Own.step ⟨g.hh.free h03, m03, hw3⟩ g4, .nil, rfl⟩) (fun M4 j σ' M' H' ⟨_, _, g, s1, _⟩ => ⟨s1, g.mh⟩) ?_ ?_
      · rintro M4 j z uz σ' M'' H'' sM4 hxz ⟨y4, ws, g4, s4, s3, ow, hpd, rfl⟩ rz
        have hzl := fulls_each _ z (List.mem_of_getElem? hxz)
        rw [List.length_take] at hzl
        have hjl : j < (fulls (ns.take i)).length := (List.getElem?_eq_some_iff.mp hxz).1
        have hwl : ws.length ≤ 512 := by rw [← hpd.length, fullP_len, List.length_take]; omega
        refine s_ext (K := K) (P := fun M ws => Pd TT M [z ++ [n], z ++ [("-" : Str) ++ n]] ws) g4.mh rfl ow.h (gl_both (K := K) (gv_var rfl rz) (gv_var rfl rfl) (by omega) (by omega)) (fun M5 ws5 h => ?_) fun ws5 M5 H5 g5 h5 => ?_
        · have := h.length
          simp only [List.length_cons, List.length_nil] at this
          exact szM (by omega)
        · have ow5 := ow.step g5
          refine ⟨M5, _, ws ++ ws5, (g4.trans g5).mut ow5.h0 ow5.m, s4.trans g5.mm, s3.trans g5.mm, ow5.put, ?_, rfl⟩
          rw [fullP_take (s := n) hxz]
          exact pd_app (hpd.mono g5.mm) h5
      · rintro M4 σ' M'' H'' sM4 ⟨y4, ws, g4, s4, s3, ow, hpd, rfl⟩
        rw [List.take_length] at hpd
        have G4 := g4.freeze ow.h0 ow.m ow.h
        refine s_asg (P := LiR TT (fulls (ns.take (i + 1)))) G4.mh (gv_var rfl ⟨p3, ws, rfl, upd_same, by rw [fulls_take hx]; exact hpd.mono ow.up⟩) fun u5 M5 H5 g5 p5 => ?_
        exact ⟨M5, _, _, _, u5, G4.trans g5, s1.trans (g3.mm.trans (s3.trans (ow.up.trans g5.mm))), p5, rfl⟩
    · rintro M2 σ' M' H' sM ⟨y2, y3, y4, u, g, s1, p2, rfl⟩
      rw [List.take_length] at p2
      exact ⟨u, rfl, q _ _ _ g p2⟩
end
def oddW : List PyData := [.none, .int 5, .str "", .str "Zz", .list [], .dict [], .bool true]
theorem odd_fit : ∀ t ∈ oddW, FitD (txD ("not drawn", t)) := by
  intro d hd
  unfold oddW at hd
  simp only [List.mem_cons, List.not_mem_nil, or_false] at hd
  rcases hd with rfl | rfl | rfl | rfl | rfl | rfl | rfl
  all_goals refine ⟨?_, ?_, ?_⟩ <;> decide +kernel
theorem lit_name {ns : List Str} (nm : NmL ns) {x : Str} (h : LitN ns x) : isNm (nameOf x) = true := by
  obtain ⟨n, hn, e⟩ := h
  have hm := nm.nm n hn
  rcases e with rfl | rfl
  · rw [nameOf_nm hm]; exact hm
  · rw [nameOf_neg hm]; exact hm
theorem odd_nd {d : LedD} {so : List Str} (nm : NmL d.c.names) (L : Lits d.c.names so) : ∀ t ∈ oddW, NotDr d so t := by
  intro t ht l e
  unfold oddW at ht
  simp only [List.mem_cons, List.not_mem_nil, or_false] at ht
  have no : ∀ x : Str, isNm (nameOf x) = false → x ∉ so := fun x hx z => by
    have := lit_name nm (L.of x z)
    rw [hx] at this
    cases this
  rcases ht with rfl | rfl | rfl | rfl | rfl | rfl | rfl
  · cases e
  · cases e
  · cases e; exact .inr (no _ (by decide +kernel))
  · cases e; exact .inr (no _ (by decide +kernel))
  · cases e
  · cases e
  · cases e
section
variable {K : PySem.W.Frag} {σ : Sl} {M : Hp} {t1 t2 : TE} {CL C DE NE ND : Addr} {d : LedD}
theorem gv_lamOdd {t : PyData} {so : List Str} (eo : d.o = some so) (nd : NotDr d so t) (h1 : Gv t1 σ M (LedR CL C d)) (h2 : Gv t2 σ M (DdF K t)) (X : ThinOk d) : Gv (fun σ H Q => TT3 DE NE ND (fun E H' Q' => tMeth CL "why" (sp_whyX K CL C DE ND) [] E t1 (tCons t2 tNil) σ H' Q') H Q) σ M (TxF K ("not drawn", t)) := fun H mh Q q =>
  h1 H mh _ fun v M1 H1 g1 r1 => by
    obtain ⟨a, dx, fs, e, ha, hlk⟩ := insR_led (m := "why") (by decide +kernel) (by decide +kernel) (by decide +kernel) M1 v r1
    refine ⟨a, dx, fs, e, g1.mh _ _ ha, hlk, h2.le g1.mm H1 g1.mh _ fun w M2 H2 g2 r2 => ?_⟩
    have G2 := g1.trans g2
    refine ⟨d, t, M2, v, w, rfl, g2.mh, Mon.mono g2.mm r1, r2, X, fun e' M' H' g => ?_, fun so' e' nd' x u M' H' g ru hx => ?_, fun so' l' e' el n1 n2 p M' H' g h0 m0 hp => ?_⟩
    · rw [eo] at e'; cases e'
    · exact .inr (.inr ⟨rfl, x, u, rfl, hx, fun p np => q (.ref p) _ _ ((G2.trans g).trans (.new g.mh np)) ⟨p, u, rfl, upd_same, Mon.mono (same_new (g.mh.free np)) ru⟩⟩)
    · rw [eo] at e'
      cases e'
      exact ((nd l' el).elim n1 fun z => z n2).elim
end
section
variable {K : PySem.W.Frag} {S : Strm} {T : List (Addr × Str)} {M H : Hp} {k : Nat} {σ : Sl} {D : Ends} {tz tb : TS} {t2 : TE} {tt2 : L2.TT}
/-- if .. and not same(x(lambda: ..), ..): return False -/
theorem ll_lamAnd {TT : (XK → Hp → VK → Prop) → Hp → VK → Prop} {t : XK → TE} {a : Str × PyData} {b : Bool} (L : LL S T M H k) (h0 : GvT tt2 σ M b) (h : b = true → ∀ M', Same M M' → Gv (fun σ H Q => TT (fun E H' Q' => t E σ H' Q') H Q) σ M' (TxF K a)) (h2 : ∀ M', Same M M' → Gv t2 σ M' (TxF K a)) (fit : b = true → FitD (txD a)) (go : ∀ M' H', Same M M' → LL S T M' H' k → D.nx σ H') :
    tIfS (tAnd tt2 (tNot (tB (tCall (sp__law_sameF K) [] E0 (tCons (tLam T TT t) (tCons t2 tNil)))))) tb tNext D σ H :=
  h0 H (L.mh.trans cut_same) _ fun M0 H0 g0 => by
    have L0 := L.plain g0
    cases b with
    | false =>
      show (if false = true then _ else _)
      rw [if_neg (by decide)]
      show (if false = true then _ else _)
      rw [if_neg (by decide)]
      exact go M0 H0 g0.mm L0
    | true =>
      show (if true = true then _ else _)
      rw [if_pos rfl]
      exact ll_lam L0 (h rfl M0 g0.mm) fun v M' H' sm L' r => h2 M' (g0.mm.trans sm) H' (L'.mh.trans cut_same) _ fun w M2 H2 g2 r2 => ⟨a, a, M2, v, w, rfl, g2.mh, Mon.mono g2.mm r, r2, ⟨fit rfl, fit rfl⟩, fun u M3 H3 g3 ru => ⟨true, by simpa using ru, by
        show (if (!true) = true then _ else _)
        rw [if_neg (by decide)]
        exact go M3 H3 (g0.mm.trans (sm.trans (g2.mm.trans g3.mm))) ((L'.plain g2).plain g3)⟩⟩
end
end My

set_option Elab.async false
set_option linter.all false
set_option maxRecDepth 100000
set_option maxHeartbeats 32000000
set_option pp.maxSteps 900
namespace My
open PySem PySem.Spec PyProof.Rows L2 L3 LamX
open L3.Strm
abbrev qLaw : Str := "law.<locals>.<lambda>"
/-- what is blamed -/
noncomputable def blaO (c : CodeD) (ls : List Str) : Option (List Str) → Option (List Str)
  | none => some (thinL c.clauses ls none)
  | some _ => none
theorem fit_blame {d : LedD} (tk : ThinOk d) : FitD (blameD d) := by
  have nl : d.c.names.length ≤ 1000 := (nm_shorts tk.nm).1
  unfold blameD
  split
  · have hs := thin_sub d.c.clauses none d.ls d.ls
    have h1 := hs.length_le
    have h2 := lits_len tk.l tk.nm
    have h := sm_strs (ls := thinL d.c.clauses d.ls none) tk.nm (fun x hx => tk.l.of x (hs.subset hx))
    have h3 : (thinL d.c.clauses d.ls none).length ≤ 1000 := Nat.le_trans h1 (Nat.le_trans h2 nl)
    exact (sma_tup (.cons ((sm_wd ⟨by decide +kernel, by decide +kernel⟩).up (by decide) (Nat.le_refl _)) (.cons (SmA.lst h) .nil))).fit (by decide) (by omega)
  · exact ⟨by decide +kernel, by decide +kernel, by decide +kernel⟩
theorem opr_non {R : Rl (List Str)} {o : Option (List Str)} {M : Hp} {v : V} (h : OpR' (LiR Tx) o M v) : decide (v = .non) = o.isNone := by
  cases o with
  | none => rw [show v = .non from h]; rfl
  | some s' => obtain ⟨a, vs, e, _⟩ := (show LiR Tx s' M v from h); rw [e]; rfl
section
variable {P : Program} {w : World} {K : PySem.W.Frag} {mg : Str → Option Value} {base : Heap}
abbrev s_law : Stmt := topS 60
theorem sc_law : FnScope ["_law_script", "_law_stream", "_law_turn", "_law_c", "_law_fits_here", "_law_k", "_law_m", "_law_led", "_law_blame", "_law_due", "_law_again", "_law_odd", "_law_one", "_law_so", "_law_literal", "_law_found"] ["_law_script"] (defScope s_law) := ⟨rfl, rfl, rfl, by decide +kernel, rfl, by decide +kernel, by decide +kernel⟩
def sp_law (K : PySem.W.Frag) (Pt P2 : Addr) : Sp := fun vs H Q _ => ∃ (ns : List Int) (M : Hp) (v : V), vs = [v] ∧ Same M H ∧ SqR K It' ns M v ∧ M Pt = none ∧ M P2 = none ∧ (∀ a ps, M a ≠ some (.tbl ps)) ∧ H Pt = some (.tbl #[]) ∧ H P2 = some (.tbl #[]) ∧ ∀ H', Q (.bl true) H'
theorem ok_law {f cd Pt P2 CL C DE NE ND : Addr} {fd : FuncData} (F : FunC K "law" "law" s_law fd f cd) (T : Gc mg) (RX : RefT K mg DE NE ND) (TB : TabB base mg cd Pt) (hP2 : Pt ≠ P2)
    (c__law_code : Cal P w K mg base 5 "_law_code" ["_law_stream", "_law_signs", "_law_helpers", "_law_many"] (sp__law_code K)) (c__law_begin : Cal P w K mg base 3 "_law_begin" ["_law_c"] (sp__law_begin K)) (c__law_made : Cal P w K mg base 7 "_law_made" ["_law_c"] (sp__law_made K C)) (k_Led : Mak P w K mg base 4 "Led" CL ["self", "code"] (sp_Led_init K CL C))
    (c__law_fulls : Cal P w K mg base 1 "_law_fulls" ["_law_names_here"] (sp__law_fullsW K)) (c__law_names_of : Cal P w K mg base 1 "_law_names_of" ["_law_m"] (sp__law_names_of K)) (c__law_fits : Cal P w K mg base 2 "_law_fits" ["_law_clauses", "_law_some"] (sp__law_fits K)) (c__law_some_sign : Cal P w K mg base 3 "_law_some_sign" ["_law_stream", "_law_m"] (sp__law_some_sign K))
    (c__law_thinned : Cal P w K mg base 4 "_law_thinned" ["_law_clauses", "_law_put_here", "_law_literal"] (sp__law_thinned K)) (c__law_are_right : CalG P w K mg base 9 "_law_are_right" ["_law_led", "_law_m", "_law_fits_here"] (sp__law_are_right K CL C P2)) (c__law_follows : Cal P w K mg base 2 "_law_follows" ["_law_fits_here", "_law_some", "_law_literal"] (sp__law_follows K)) (c__law_draw : Cal P w K mg base 1 "_law_draw" ["_law_stream", "_law_many"] (sp__law_draw K))
    (m_undo : Met P w K mg base 1 CL "undo" ["self"] (sp_Led_undo K CL C)) (c__law_neg : Cal P w K mg base 1 "_law_neg" ["_law_one"] (sp__law_neg K)) (c__law_put : Cal P w K mg base 3 "_law_put" ["_law_m", "_law_literal"] (sp__law_put K)) (m_put : Met P w K mg base 4 CL "put" ["self", "literal"] (sp_Led_put K CL C)) (mX_why : MetX P w K mg base 6 CL "why" ["self", "literal"] (sp_whyX K CL C DE ND)) (mX_blame : MetX P w K mg base 6 CL "blame" ["self"] (sp_blameX K CL C NE))
    (c__law_same : CalG P w K mg base 1 "_law_same" ["_law_found", "_law_due"] (sp__law_same K)) (cF__law_same : CalG P w K mg base 1 "_law_same" ["_law_found", "_law_due"] (sp__law_sameF K)) : FnG P w K mg base CX0 10 f fd ["_law_script"] (sp_law K Pt P2) := by
  obtain ⟨gR, fdR, FR, mR, bR⟩ := RX.ex
  obtain ⟨TS, hTS⟩ : ∃ TS : List (Addr × Str), TS = [(Pt, qLaw), (P2, qRight)] := ⟨_, rfl⟩
  have hmT : (Pt, qLaw) ∈ TS := by rw [hTS]; simp
  have hm2 : (P2, qRight) ∈ TS := by rw [hTS]; simp
  have huT : ∀ t ∈ TS, t.1 = Pt → t.2 = qLaw := fun t ht e => by
    rw [hTS] at ht
    simp only [List.mem_cons, List.not_mem_nil, or_false] at ht
    rcases ht with rfl | rfl
    · rfl
    · exact absurd e.symm hP2
  have hu2 : ∀ t ∈ TS, t.1 = P2 → t.2 = qRight := fun t ht e => by
    rw [hTS] at ht
    simp only [List.mem_cons, List.not_mem_nil, or_false] at ht
    rcases ht with rfl | rfl
    · exact absurd e hP2
    · rfl
  refine fun_okGC F sc_law (fun vs H Q E h => ?_) (fun A outer s H vs Q E hgu hr h => ?_)
  · obtain ⟨ns, M, v, rfl, _⟩ := h
    rfl
  · obtain ⟨cells, M, v, rfl, mh, r1, mp, mp2, nt, hPt, hPt2, q⟩ := h
    have hu := hr.units
    have hgu : (A.deeper (envOfC "law" (defScope s_law) s.heap.objs.size f (.ref cd))).guards = some [] := hgu
    refine ⟨_, (pss_cons (ps_set (i := 1) sc_law.nd rfl (by first | exact .inl rfl | exact .inr rfl) (pe_lst (pa_cons (pe_callTy call_lstA (by rfl) T.list boot_list (pa_cons (pv 0) pa_nil)) (pa_cons pe_int (pa_cons pe_int (pa_cons pe_int pa_nil))))))
      (pss_cons (ps_for PassesOwn.never (by rfl) (pi_range1 (by rfl) T.range (pa_cons pe_int pa_nil)) (pg_name (i := 2) sc_law.nd rfl (by first | exact .inl rfl | exact .inr rfl)) (pss_cons (ps_set (i := 3) sc_law.nd rfl (by first | exact .inl rfl | exact .inr rfl) (pe_f c__law_code (hr.mono (by decide)) (pa_cons (pv 1) (pa_cons pe_int (pa_cons pe_int (pa_cons pe_int pa_nil))))))
      (pss_cons (ps_asg (pe_tup (pa_cons (pe_f c__law_begin (hr.mono (by decide)) (pa_cons (pv 3) pa_nil)) (pa_cons (pe_mk k_Led (hr.mono (by decide)) (pa_cons (pe_f c__law_made (hr.mono (by decide)) (pa_cons (pv 3) pa_nil)) pa_nil)) pa_nil))) (pg_tup (by rfl) (pgs_cons (pg_name (i := 6) sc_law.nd rfl (by first | exact .inl rfl | exact .inr rfl)) (pgs_cons (pg_name (i := 7) sc_law.nd rfl (by first | exact .inl rfl | exact .inr rfl)) pgs_nil))))
      (pss_cons (ps_setLc (i := 4) (own := [("_law_one", 12)]) (g := (gName 12)) (tt := (tB (tCall (sp__law_fits K) [] E0 (tCons (tDGet (tVar 3) (tC (.str "clauses"))) (tCons (tVar 12) tNil))))) (te := (tVar 12)) (by rfl) sc_law.nd rfl rfl (sw_true rfl rfl rfl (by decide +kernel)) (pi_sq (pe_f c__law_fulls (hr.mono (by decide)) (pa_cons (pe_f c__law_names_of (hr.mono (by decide)) (pa_cons (pv 6) pa_nil)) pa_nil))) (blkOk_by (by rfl)) (fun _ _ _ _ _ => (pg_name (i := 12) sc_law.nd rfl (by first | exact .inl rfl | exact .inr rfl))) (fun _ _ _ _ _ => (pts_one (pt_val (pe_f c__law_fits (hr.mono (by decide)) (pa_cons (pe_dget (Nat.lt_of_le_of_lt (Nat.add_le_add_left (by decide) _) hu) (pv 3) pe_str (fun _ _ => rfl)) (pa_cons (pv 12) pa_nil)))))) (fun _ _ _ _ _ => (pv 12)))
      (pss_one (ps_for PassesOwn.never (by rfl) (pi_range1 (by rfl) T.range (pa_cons pe_int pa_nil)) (pg_name (i := 5) sc_law.nd rfl (by first | exact .inl rfl | exact .inr rfl)) (pss_cons (ps_par (i := 13) (j := 14) (by rfl) sc_law.nd rfl rfl (by decide) rfl rfl (pa_cons (pe_ix ix_X (pe_dget (Nat.lt_of_le_of_lt (Nat.add_le_add_left (by decide) _) hu) (pv 6) pe_str (fun _ _ => rfl)) (pe_un un_neg pe_int) (fun _ _ => rfl)) (pa_cons (pe_f c__law_some_sign (hr.mono (by decide)) (pa_cons (pv 1) (pa_cons (pv 6) pa_nil))) pa_nil)) (by rfl))
      (pss_cons (ps_set (i := 8) sc_law.nd rfl (by first | exact .inl rfl | exact .inr rfl) (pe_ifExp (pt_cmp (pc_isN (pv 13))) (pe_f c__law_thinned (hr.mono (by decide)) (pa_cons (pe_dget (Nat.lt_of_le_of_lt (Nat.add_le_add_left (by decide) _) hu) (pv 3) pe_str (fun _ _ => rfl)) (pa_cons (pe_dget (Nat.lt_of_le_of_lt (Nat.add_le_add_left (by decide) _) hu) (pv 6) pe_str (fun _ _ => rfl)) (pa_cons pe_non pa_nil)))) pe_non))
      (pss_cons (ps_set (i := 9) sc_law.nd rfl (by first | exact .inl rfl | exact .inr rfl) (pe_ifExp (pt_cmp (pc_isN (pv 13))) (pe_tup (pa_cons pe_str (pa_cons (pv 8) pa_nil))) (pe_tup (pa_cons pe_str pa_nil))))
      (pss_cons (ps_for PassesOwn.never (by rfl) (pi_range1 (by rfl) T.range (pa_cons pe_int pa_nil)) (pg_name (i := 10) sc_law.nd rfl (by first | exact .inl rfl | exact .inr rfl)) (pss_cons (ps_set (i := 15) sc_law.nd rfl (by first | exact .inl rfl | exact .inr rfl) (pe_lamTs (k := 6) (t := fun E => tMeth CL "blame" (sp_blameX K CL C NE) [] E (tVar 7) tNil) FR mR bR sc__law_told rfl (.inl rfl) (fun cdv => gives_told RX) TB rfl hmT huT (hr.mono (by decide)) (lamS_by (by rfl)) (fun A outer s H E f c' hr2 => pe_mX0 mX_blame (hr2.mono (by decide)) (takes_of rfl rfl rfl rfl) (fun _ _ _ _ h => h) (pv 7))))
      (pss_cons (ps_if (pt_not (pt_val (pe_fG c__law_same hgu (hr.mono (by decide)) (pa_cons (pv 15) (pa_cons (pv 9) pa_nil))))) (pss_one (ps_ret pe_bl)) pss_nil)
      (pss_one (ps_if (pt_cmp (pc_isN (pv 13))) (pss_one (ps_expr (pe_bm PySem.F.plainAttrs_list PySem.F.slot_list_append PySem.F.type_list_append mt_append (pe_ix ix_X (pv 15) pe_int (fun _ _ => rfl)) (pa_cons pe_str pa_nil)))) pss_nil)))))
      (pss_cons (ps_if (pt_not (pt_val (pe_fG c__law_are_right hgu (hr.mono (by decide)) (pa_cons (pv 7) (pa_cons (pv 6) (pa_cons (pv 4) pa_nil)))))) (pss_one (ps_ret pe_bl)) pss_nil)
      (pss_cons (ps_if (PW.pt (pw_and (pt_cmp (pc_notN (pv 8))) (pw_and1 (pt_not (pt_val (pe_f c__law_follows (hr.mono (by decide)) (pa_cons (pv 4) (pa_cons (pv 8) (pa_cons pe_non pa_nil))))))))) (pss_one (ps_ret pe_bl)) pss_nil)
      (pss_cons (ps_for PassesOwn.never (by rfl) (pi_sq (pe_lst (pa_cons pe_non (pa_cons pe_int (pa_cons pe_str (pa_cons pe_str (pa_cons (pe_lst pa_nil) (pa_cons pe_dnewK (pa_cons pe_bl pa_nil))))))))) (pg_name (i := 11) sc_law.nd rfl (by first | exact .inl rfl | exact .inr rfl)) (pss_one (ps_if (PW.pt (pw_and (pt_cmp (pc_notN (pv 13))) (pw_and1 (pt_not (pt_val (pe_fG cF__law_same hgu (hr.mono (by decide)) (pa_cons (pe_lamTs (k := 6) (t := fun E => tMeth CL "why" (sp_whyX K CL C DE ND) [] E (tVar 7) (tCons (tVar 11) tNil)) FR mR bR sc__law_told rfl (.inl rfl) (fun cdv => gives_told RX) TB rfl hmT huT (hr.mono (by decide)) (lamS_by (by rfl)) (fun A outer s H E f c' hr2 => pe_mX1 mX_why (hr2.mono (by decide)) (takes_of rfl rfl rfl rfl) (fun _ _ _ _ h => h) (pv 7) (pa_cons (pv 11) pa_nil))) (pa_cons (pe_tup (pa_cons pe_str (pa_cons (pv 11) pa_nil))) pa_nil)))))))) (pss_one (ps_ret pe_bl)) pss_nil)))
      (pss_one (ps_if (PW.pt (pw_and (pt_cmpR (op_neP hu) (pe_dget (Nat.lt_of_le_of_lt (Nat.add_le_add_left (by decide) _) hu) (pv 6) pe_str (fun _ _ => rfl)) (pe_lst pa_nil) (nomark _)) (pw_and1 (PW.pt (pw_or (pt_cmp (pc_isN (pv 13))) (pw_or1 (pt_cmpR (op_eqP hu) (pe_f c__law_draw (hr.mono (by decide)) (pa_cons (pv 1) (pa_cons pe_int pa_nil))) pe_int (nomark _)))))))) (pss_cons (ps_expr (pe_m0 m_undo (hr.mono (by decide)) (pv 7)))
      (pss_cons (ps_expr (pe_bm0 PySem.F.plainAttrs_list PySem.F.slot_list_pop PySem.F.type_list_pop mt_pop (pe_dget (Nat.lt_of_le_of_lt (Nat.add_le_add_left (by decide) _) hu) (pv 6) pe_str (fun _ _ => rfl))))
      (pss_one (ps_expr (pe_bm0 PySem.F.plainAttrs_list PySem.F.slot_list_pop PySem.F.type_list_pop mt_pop (pe_dget (Nat.lt_of_le_of_lt (Nat.add_le_add_left (by decide) _) hu) (pv 6) pe_str (fun _ _ => rfl))))))) (pss_one (ps_if (PW.pt (pw_and (pt_cmp (pc_notN (pv 13))) (pw_and (pt_cmpR (op_niA hu) (pv 14) (pv 13) (by rfl)) (pw_and1 (pt_cmpR (op_niA hu) (pe_f c__law_neg (hr.mono (by decide)) (pa_cons (pv 14) pa_nil)) (pv 13) (by rfl)))))) (pss_cons (ps_expr (pe_f c__law_put (hr.mono (by decide)) (pa_cons (pv 6) (pa_cons (pv 14) pa_nil))))
      (pss_one (ps_expr (pe_m m_put (hr.mono (by decide)) (pv 7) (pa_cons (pv 14) pa_nil))))) pss_nil)))))))))))))))))
      (pss_one (ps_ret pe_bl)))), ?_⟩
    -- the stream
    refine q_asgS (lst_in (a_L mh (gl_lstOf (K := K) (R1 := It') (gv_var rfl r1)) fun b vs M1 H1 g1 hb0 hbm hbw hpd => ⟨by show 4 ≤ sizeLine; decide, fun a na => ?_⟩))
    obtain ⟨S, rfl, rfl⟩ : ∃ S : Strm, S.a = a ∧ S.b = b := ⟨⟨a, b⟩, rfl, rfl⟩
    have hne : S.a ≠ S.b := fun e => by rw [e] at na; rw [hbw] at na; cases na
    have evs := pd_itv hpd
    have a0 : S.At 10000000 (upd H1 S.a (.lst [.ref S.b, .int 0, .int 0, .int 0])) := ⟨hne, cells, 0, 0, 0, upd_same, by rw [upd_ne (Ne.symm hne), hbw, evs], by decide, by decide, by decide, by decide, by decide⟩
    have m0 : Same M (S.cut (upd H1 S.a (.lst [.ref S.b, .int 0, .int 0, .int 0]))) := fun x o e => by
      have h1 := g1.hh _ _ (mh x o e)
      have n1 : x ≠ S.a := ne_of_none h1 na
      have n2 : x ≠ S.b := ne_of_none (mh x o e) hb0
      rw [cut_on (fun z => z.elim n1 n2), upd_ne n1]
      exact h1
    have tb0 : Tabs TS (upd H1 S.a (.lst [.ref S.b, .int 0, .int 0, .int 0])) := fun t ht => by
      rw [hTS] at ht
      simp only [List.mem_cons, List.not_mem_nil, or_false] at ht
      rcases ht with rfl | rfl
      · exact TabS.nil (by
          have h1 := g1.hh _ _ hPt
          rw [upd_ne (ne_of_none h1 na)]
          exact h1)
      · exact TabS.nil (by
          have h1 := g1.hh _ _ hPt2
          rw [upd_ne (ne_of_none h1 na)]
          exact h1)
    have L0 : LL S TS M (upd H1 S.a (.lst [.ref S.b, .int 0, .int 0, .int 0])) 10000000 := ⟨m0, a0, tb0, fun t ht => by
      rw [hTS] at ht
      simp only [List.mem_cons, List.not_mem_nil, or_false] at ht
      rcases ht with rfl | rfl
      · exact mp
      · exact mp2, nt⟩
    clear a0 m0 tb0 TB hTS
    have L0 := L0.le (show (6 - 0) * 400 ≤ 10000000 by decide)
    revert L0
    generalize upd H1 S.a (.lst [.ref S.b, .int 0, .int 0, .int 0]) = H2
    intro L0
    -- six codes
    refine ll_for (S := S) (xs := List.range 6) (R := fun i : Nat => It' (i : Nat)) (fun i => (6 - i) * 400) (fun _ _ σ' _ => ∃ y2 y3 y4 y5 y6 y7 y8 y9 y10 y11 y12 y13 y14 y15, σ' = [some v, some (.ref S.a), y2, y3, y4, y5, y6, y7, y8, y9, y10, y11, y12, y13, y14, y15]) L0 (gi_rng1 (n := 6) (gv_c rfl) (by decide)) tg_1 (fun _ _ _ _ => ⟨_, _, _, _, _, _, _, _, _, _, _, _, _, _, rfl⟩) (fun _ _ _ _ _ _ _ _ _ h => h) ?_ ?_
    rotate_left
    · rintro σ' M2 H2 _ _ L2
      exact s_ret (P := Bl true) (L2.mh.trans cut_same) (gv_c rfl) fun z M' H' _ r => by
        rw [show z = _ from r]
        exact q _
    rintro i xi σ' M3 H3 σ2 nx hnx hxi s3 ⟨y2, y3, y4, y5, y6, y7, y8, y9, y10, y11, y12, y13, y14, y15, rfl⟩ L3 ⟨v2, r2, rfl⟩
    have hi : i < 6 := by have := (List.getElem?_eq_some_iff.mp hxi).1; rwa [List.length_range] at this
    have e3 : (6 - i) * 400 = (6 - (i + 1)) * 400 + 400 := by omega
    rw [e3] at L3
    revert L3 hnx
    generalize (6 - (i + 1)) * 400 = kb
    intro hnx L3
    -- the code
    refine ⟨.ref S.a, rfl, S, 6, 2, 10, M3, kb + 33, rfl, L3.mh, L3.at_.le (by show kb + 33 + (3 + 12 * (6 + 2) + 10 * (2 + 2 * (6 + 2))) ≤ _; omega), ⟨by decide, by decide, by decide⟩, fun c vlc M5 H5 g5 a5 ⟨good, n8, k10, s6, s1, h2⟩ rlc => ?_⟩
    have n8 : c.names.length ≤ 8 := n8
    have L5 : LL S TS M5 H5 (kb + 33) := L3.step g5 a5
    have nm := good.nm
    have X0 : Ctx c.names c.clauses [] := ⟨nm, good.lits, ⟨.nil, fun _ h => by cases h⟩⟩
    have hw : ChW c.clauses := ⟨good.w.c, good.w.n, good.w.k⟩
    have nmS : NmL c.signs := ⟨(List.nodup_append.mp (show (c.signs ++ c.helpers).Nodup from nm.nd)).1, fun n hn => nm.nm n (List.mem_append_left _ hn), by omega⟩
    dsimp only
    refine q_asg2 ⟨vlc, rfl, c, M5, vlc, rfl, L5.mh.trans cut_same, rlc, X0, hw, fun m pl sl o0 u0 M6 H6 g6 rm plsl opl osl e2 ru2 => ?_⟩
    refine gv_call1 (R1 := LawR) (pre := Good) (R := fun c => CodeR C c) (x := c) (gv_var (i := 3) rfl (Mon.mono g6.mm rlc)) good H6 g6.mh _ fun vc M7 H7 g7 rvc x dx nx' ndx ne => ⟨c, M7, H7, x, dx, vc, rfl, (Gr.own g7.mh ndx).trans (.own (Gr.own g7.mh ndx).mh (by rw [upd_ne (Ne.symm ne)]; exact nx')), nx', g7.mh.free nx', upd_same, rvc, X0, hw, fun o1 u1 p q' M8 H8 g8 hx8 pq op oq e1 ru1 => ⟨rfl, a_nil (fin2 fun t nt' => ?_)⟩⟩
    have G67 := g6.trans g7
    have G8 := G67.trans g8
    have opl8 := (opl.step g7).step g8
    have osl8 := (osl.step g7).step g8
    have f5 : ∀ {b : Addr}, H7 b = none → H5 b = none := fun h => G67.hh.free h
    have L8 := L5.plain G8
    have L9 := L8.plain (.own (o := .tup [m, .ref x]) (L8.mh.trans cut_same) nt')
    have cutp : ∀ b vs, H5 b = none → H8 b = some (.lst vs) → S.cut (upd H8 t (.tup [m, .ref x])) b = some (.lst vs) := fun b vs h0 h => by
      rw [cut_on (L5.at_.fresh h0), upd_ne (fun z => by rw [z, nt'] at h; cases h)]
      exact h
    have npl : ∀ {b : Addr} {vs : List V}, H7 b = some (.lst vs) → p ≠ b ∧ q' ≠ b := fun h => ⟨fun z => (by rw [← z, op.h0] at h; cases h), fun z => (by rw [← z, oq.h0] at h; cases h)⟩
    have D9 : Deed CL C c x dx p q' vc m pl sl M8 (S.cut (upd H8 t (.tup [m, .ref x]))) := by
      refine ⟨[], [], o1, [], o0, ⟨hx8, Mon.mono g8.mm rvc, Mono.mono (g7.mm.trans g8.mm) rm, ?_, cutp p _ (f5 op.h0) op.h, ⟨[u1], cutp q' _ (f5 oq.h0) oq.h, .cons ru1 .nil⟩, cutp pl _ opl8.h0 opl8.h, ⟨[u0], cutp sl _ osl8.h0 osl8.h, .cons (Mon.mono (g7.mm.trans g8.mm) ru2) .nil⟩, fun b hb => ?_, e1, e2, ⟨nm, good.lits, hw, X0.h⟩⟩, .nil e1, .nil e2⟩
      · have a1 := npl (opl.step g7).h
        have a2 := npl (osl.step g7).h
        simp [pq, a1.1, a1.2, a2.1, a2.2, plsl]
      · simp only [List.mem_cons, List.not_mem_nil, or_false] at hb
        rcases hb with rfl | rfl | rfl | rfl
        · exact op.m
        · exact oq.m
        · exact opl8.m
        · exact osl8.m
    have rm8 : MR c pl sl M8 m := Mono.mono (g7.mm.trans g8.mm) rm
    have rlc8 : LawR c M8 vlc := Mon.mono G8.mm rlc
    have s8 : Same M3 M8 := g5.mm.trans G8.mm
    clear opl osl opl8 osl8 op oq npl cutp f5 G8 G67 L8 L5 ru1 ru2 hx8 rvc rlc rm e1 e2 g5 g6 g7 g8 a5 L3 nx' ndx
    revert L9 D9
    generalize upd H8 t (.tup [m, .ref x]) = H9
    intro L9 D9
    -- what fits
    have nl : c.names.length ≤ 1000 := by omega
    have clen : ∀ d ∈ c.clauses, d.length ≤ 1000000 := fun d hd => Nat.le_trans (lits_len (good.lits d hd) nm) (by omega)
    have hcl : c.clauses.length ≤ 1000000 := hw.2.2
    have fl : (fulls c.names).length ≤ 256 := by
      rw [fulls_len]
      exact Nat.le_trans (Nat.pow_le_pow_right (by decide) n8) (by decide)
    have hfs : ((fulls c.names).filter (fitB c.clauses)).length ≤ 1000000 ∧ ∀ t ∈ (fulls c.names).filter (fitB c.clauses), Paired Side c.names t ∧ Fits c.clauses t := ⟨Nat.le_trans (List.length_filter_le _ _) (by omega), fun t ht => by
      obtain ⟨a, b⟩ := List.mem_filter.mp ht
      exact ⟨fulls_paired a, fitB_iff.mp b⟩⟩
    refine q_asg (P := LiR TT ((fulls c.names).filter (fitB c.clauses))) (L9.mh.trans cut_same) (gv_is (gl_c1 (S := TT) (R := TT) (xs := fulls c.names) (gi_sq (K := K) (gv_is (gv_call1 (R1 := SqR K Tx) (pre := fun ns => ns.length ≤ 8 ∧ Shorts ns) (R := fun ns => LiR TT (fulls ns)) (x := c.names) (gv_is (gv_call1 (R1 := MRl) (pre := fun a => a.1.names.length ≤ 1000) (R := fun a => LiR Tx a.1.names) (x := (c, pl, sl)) (gv_var (i := 6) rfl rm8) nl) fun _ _ h => h.sq) ⟨n8, nm_shorts nm⟩) fun _ _ h => LiR.sq h)) (szK (by omega)) (fitB c.clauses) id
      (fun t ht M1 u sm ru => gt_B (gv_call2 (R1 := SqR K (SqR K Tx)) (R2 := CtR K) (pre := fun cs _ => cs.length ≤ 1000000 ∧ ∀ c ∈ cs, c.length ≤ 1000000) (R := fun cs s => Bl (fitB cs s)) (x := c.clauses) (y := t) (gv_is (gv_cC (gv_var rfl (Mon.mono sm rlc8))) fun _ _ h => c_li h) (gv_var rfl (.inl (TT.sq ru))) ⟨hcl, clen⟩)) fun t ht _ M1 u sm ru => gv_var rfl ru).li fun M v h => by rw [List.map_id] at h; exact h) fun v4 M10 H10 g10 r4 => ?_
    have L10 := L9.plain g10
    have D10 := D9.gr (lift L9.mh L9.at_ g10)
    have rlc10 := Mon.mono g10.mm rlc8
    have s10 := s8.trans g10.mm
    revert hfs r4
    generalize (fulls c.names).filter (fitB c.clauses) = fs
    intro hfs r4
    clear D9 rm8 rlc8 L9 g10 s8 fl
    -- eleven deeds
    refine ll_forE (S := S) (xs := List.range 11) (R := fun i : Nat => It' (i : Nat)) (fun i => kb + (11 - i) * 3) (fun M' _ σ' H' => Deed CL C c x dx p q' vc m pl sl M' (S.cut H') ∧ ∃ y5 y8 y9 y10 y11 y12 y13 y14 y15, σ' = [some v, some (.ref S.a), some v2, some vlc, some v4, y5, some m, some (.ref x), y8, y9, y10, y11, y12, y13, y14, y15]) (L10.le (by omega)) (gi_rng1 (n := 11) (gv_c rfl) (by decide)) tg_1 (fun M1 H1 g _ => ⟨D10.gr g, _, _, _, _, _, _, _, _, _, rfl⟩) (fun _ _ _ _ _ _ _ _ g h => ⟨h.1.gr g, h.2⟩) ?_ ?_
    rotate_left
    · rintro σ' M11 H11 s11 ⟨_, y5, y8, y9, y10, y11, y12, y13, y14, y15, rfl⟩ L11
      exact hnx M11 H11 _ (s10.trans s11) ⟨_, _, _, _, _, _, _, _, _, _, _, _, _, _, rfl⟩ (L11.le (by omega))
    rintro k xk σ' M11 H11 σ2 nx2 hnx2 hxk s11 ⟨⟨ls, ss, o, ss2, o2, pr, k1, k2⟩, y5, y8, y9, y10, y11, y12, y13, y14, y15, rfl⟩ L11 ⟨v5, r5, rfl⟩
    have hk : k < 11 := by have := (List.getElem?_eq_some_iff.mp hxk).1; rwa [List.length_range] at this
    have e11 : kb + (11 - k) * 3 = kb + (11 - (k + 1)) * 3 + 3 := by omega
    rw [e11] at L11
    revert L11 hnx2
    generalize kb + (11 - (k + 1)) * 3 = kq
    intro hnx2 L11
    obtain ⟨LW, sW⟩ := L11.whole
    have hlW : ∀ a vs, S.cut H11 a = some (.lst vs) → noTab (S.cut H11) a = some (.lst vs) := fun a vs e => noTab_some e fun ps z => by cases z
    have LR := pr.led sW hlW
    obtain ⟨ms, u, rms, ru, rpl⟩ := pr.law sW hlW
    revert LW sW hlW LR rms ru rpl
    generalize noTab (S.cut H11) = W
    intro LW sW hlW LR rms ru rpl
    have e1 := pr.e1
    have e2 := pr.e2
    have tk := pr.k
    have same := ends_same e1 e2
    have iso : o.isNone = o2.isNone := by
      rw [Bool.eq_iff_iff, Option.isNone_iff_eq_none, Option.isNone_iff_eq_none]
      exact same.1
    -- what is so, a literal
    refine q_par2 (gv_mLast2 (K := K) (i := 6) rms ru rfl H11 (LW.mh.trans cut_same) _ fun v13 M12 H12 g12 r13 => ?_)
    have L12 := LW.plain g12
    refine z_V (S := S) (k := kq + 1) (c := 2) (P := Ex Tx fun l => l ∈ litsOf c.signs) L12.mh (L12.at_.le (by omega)) (gs_call1 (S := S) (R1 := MRl) (pre := fun a => NmL a.1.signs ∧ 0 < a.1.signs.length) (cs := fun _ => 2) (R := fun a => Ex Tx fun l => l ∈ litsOf a.1.signs) (x := (c, pl, sl)) rfl (gv_var (i := 6) rfl (Mono.mono g12.mm rms.1)) ⟨nmS, s1⟩) fun v14 M13 H13 g13 a13 ⟨l, hl, r14⟩ => ⟨_, _, rfl, ?_⟩
    cases (show v14 = .str l from r14)
    have L13 : LL S TS M13 H13 (kq + 1) := L12.step g13 a13
    have s13 : Same W M13 := g12.mm.trans g13.mm
    have r13 : OpR' (LiR Tx) o2 M13 v13 := Mon.mono g13.mm r13
    clear g12 g13 a13 L12
    have lll : ls.length ≤ c.names.length := lits_len tk.l tk.nm
    have put : ∀ {σ' : Sl} {M' : Hp}, Same W M' → σ'[6]? = some (some m) → Gv (tDGet (tVar 6) (tC (.str "put"))) σ' M' (LiR Tx ls) := fun sm h6 => gv_dgetF (P := fun M v => MR c pl sl M v ∧ M pl = some (.lst (ls.map V.str))) (gv_var h6 ⟨Mono.mono sm rms.1, sm _ _ rpl⟩) fun M v ⟨⟨m, o, cv, h1, h2, h3⟩, hl⟩ => ⟨m, o, _, .ref pl, h1, h2, rfl, ⟨pl, _, rfl, hl, pd_of_tx _⟩⟩
    -- blame
    refine q_asg (P := OpR' (LiR Tx) (blaO c ls o2)) (L13.mh.trans cut_same) (gv_if (b := o2.isNone) (gt_B (gv_isN (b := o2.isNone) (gv_var (i := 13) rfl r13) fun M v h => opr_non (R := LiR Tx) h)) (fun hb => ?_) fun hb => ?_) fun v8 M14 H14 g14 r8 => ?_
    · rw [Option.isNone_iff_eq_none.mp hb]
      exact (gl_call3 (K := K) (R1 := SqR K (SqR K Tx)) (R2 := SqR K Tx) (R3 := OpR' Tx) (pre := fun cs ls _ => DrOk cs ls) (R := fun cs ls lo M ws => Pd Tx M (thinL cs ls lo) ws) (x := c.clauses) (y := ls) (z := none) (gv_is (gv_cC (gv_var (i := 3) rfl (Mon.mono (s11.trans (sW.trans s13)) rlc10))) fun _ _ h => c_li h) (gv_is (put s13 rfl) fun _ _ h => h.sq) (gv_c rfl) ⟨tk.w, c.names, tk.nm, tk.k, tk.l⟩).li
    · obtain ⟨so, e⟩ : ∃ so, o2 = some so := by
        cases o2 with
        | none => cases hb
        | some so => exact ⟨so, rfl⟩
      rw [e]
      exact gv_c rfl
    have L14 := L13.plain g14
    have s14 := s13.trans g14.mm
    have r13 : OpR' (LiR Tx) o2 M14 v13 := Mon.mono g14.mm r13
    clear g14 L13 s13
    -- due
    refine q_asg (P := Dd K (blameD ⟨c, ls, ss, o⟩)) (L14.mh.trans cut_same) (gv_if (b := o2.isNone) (gt_B (gv_isN (b := o2.isNone) (gv_var (i := 13) rfl r13) fun M v h => opr_non (R := LiR Tx) h)) (fun hb => ?_) fun hb => ?_) fun v9 M15 H15 g15 r9 => ?_
    · have e0 : o2 = none := Option.isNone_iff_eq_none.mp hb
      have e : o = none := same.1.2 e0
      have r8 := r8
      rw [e0] at r8
      refine gv_is (gv_tol (gv_var (i := 8) (P := LiR Tx (thinL c.clauses ls none)) rfl r8)) fun M v h => ?_
      unfold blameD
      rw [e]
      exact tol_dd h
    · refine gv_tup (R := fun M vs => vs = [.str "not dead"]) (fun H mh Q q => q _ _ H (.refl mh) rfl) (fun M vs e => by rw [e]; show 1 ≤ sizeLine; decide) fun M vs q e n => ?_
      obtain ⟨so, eo⟩ : ∃ so, o = some so := by
        cases o with
        | none => rw [same.1.1 rfl] at hb; exact nomatch hb
        | some so => exact ⟨so, rfl⟩
      unfold blameD
      rw [eo]
      exact dd_tup (upd_same.trans (by rw [e])) (.cons (.str _) .nil)
    have L15 := L14.plain g15
    have s15 := s14.trans g15.mm
    have r13 : OpR' (LiR Tx) o2 M15 v13 := Mon.mono g15.mm r13
    have r8 : OpR' (LiR Tx) (blaO c ls o2) M15 v8 := Mon.mono g15.mm r8
    clear g15 L14 s14
    -- told twice
    refine ll_for (S := S) (xs := List.range 2) (R := fun i : Nat => It' (i : Nat)) (fun _ => kq + 1) (fun _ _ σ' _ => ∃ y10 y15, σ' = [some v, some (.ref S.a), some v2, some vlc, some v4, some v5, some m, some (.ref x), some v8, some v9, y10, y11, y12, some v13, some (.str l), y15]) L15 (gi_rng1 (n := 2) (gv_c rfl) (by decide)) tg_1 (fun _ _ _ _ => ⟨_, _, rfl⟩) (fun _ _ _ _ _ _ _ _ _ h => h) ?_ ?_
    · rintro j xj σ' M16 H16 σ3 nx3 hnx3 _ s16 ⟨y10, y15, rfl⟩ L16 ⟨v10, r10, rfl⟩
      have LR16 : LedR CL C ⟨c, ls, ss, o⟩ M16 (.ref x) := Mon.mono (s15.trans s16) LR
      refine q_asgS (ll_lam L16 (gv_lamBlame (K := K) (DE := DE) (NE := NE) (ND := ND) (σ := [some v, some (.ref S.a), some v2, some vlc, some v4, some v5, some m, some (.ref x), some v8, some v9, some v10, y11, y12, some v13, some (.str l), y15]) (gv_var (i := 7) rfl LR16) tk) fun v15 M17 H17 s17 L17 r15 => ?_)
      have fit : FitD (blameD ⟨c, ls, ss, o⟩) := fit_blame tk
      refine ll_ifN L17 (gt_is (gt_not (gt_B (gv_call2 (R1 := Dd K) (R2 := Dd K) (pre := fun d e => FitD d ∧ FitD e) (R := fun d e => Bl (decide (d.shown = e.shown))) (x := blameD ⟨c, ls, ss, o⟩) (y := blameD ⟨c, ls, ss, o⟩) (gv_var rfl r15.1) (gv_var (i := 9) rfl (Mon.mono (s16.trans s17) r9)) ⟨fit, fit⟩))) (by simp)) fun H18 L18 => ?_
      refine s_if0 (b := o2.isNone) (L18.mh.trans cut_same) (gt_B (gv_isN (b := o2.isNone) (gv_var (i := 13) rfl (Mon.mono (s16.trans s17) r13 : OpR' (LiR Tx) o2 M17 v13)) fun M v h => opr_non (R := LiR Tx) h)) (fun hb H19 hh19 => ?_) fun hb H19 hh19 => hnx3 M16 H19 _ (Same.refl _) ⟨_, _, rfl⟩ (L16.back (L18.idle hh19) s17)
      obtain ⟨a, pp, rfl, ht, hp, np⟩ := r15.2 (same.1.2 (Option.isNone_iff_eq_none.mp hb))
      have L19 := L18.idle hh19
      refine gv_ix (K := K) (R := EqV) (xs := [.str "told", .ref pp]) (i := 1) (x := .ref pp) (M := M17) (gv_var (i := 15) (v := .ref a) rfl (.inr ⟨a, _, rfl, .inl (.inl ht), pd_eqv _⟩)) (gv_c rfl) rfl H19 (L19.mh.trans cut_same) _ fun vv N H20 g20 e => ?_
      cases (show vv = .ref pp from e)
      have L20 := L19.plain g20
      have hp20 := L20.mh _ _ (g20.mm _ _ hp)
      refine ⟨.inl ⟨rfl, _, .inl (.inl (of_cut hp20))⟩, gv_c (P := Tx "more") rfl H20 (L20.mh.trans cut_same) _ fun vm N' H21 g21 _ => ⟨pp, _, vm, rfl, rfl, g21.hh _ _ (of_cut hp20), szL (by rw [List.length_map]; have h1 := (thin_sub c.clauses none ls ls).length_le; exact Nat.le_trans h1 (Nat.le_trans lll (Nat.le_trans nl (by decide)))), ?_⟩⟩
      have L21 := L20.plain g21
      exact hnx3 M16 _ _ (Same.refl _) ⟨_, _, rfl⟩ ((L16.back L21 (s17.trans (g20.mm.trans g21.mm))).put (L21.mh _ _ (g21.mm _ _ (g20.mm _ _ hp))) np)
    rintro σ' M19 H19 s19 ⟨y10', y15', rfl⟩ L19
    have sW19 : Same W M19 := s15.trans s19
    have lst19 : ∀ b vs, S.cut H11 b = some (.lst vs) → S.cut H19 b = some (.lst vs) := fun b vs e => L19.mh _ _ (sW19 _ _ (hlW _ _ e))
    have pr19 : Pair CL C c x dx p q' vc m pl sl ls ss o ss2 o2 M11 H19 := pr.at_ fun b vs e => of_cut (lst19 b vs e)
    -- why of all literals
    refine ⟨.ref x, rfl, m, rfl, v4, rfl, c, x, dx, p, q', vc, m, pl, sl, ls, ss, o, ss2, o2, fs, v4, TS, M11, rfl, pr19, ⟨(sW.trans sW19).trans (L19.mh.trans cut_same), L19.tb, L11.mp, L11.nt⟩, hm2, hu2, Mon.mono s11 r4, hfs, fun H20 eN tb20 => ⟨true, rfl, ?_⟩⟩
    show (if (!true) = true then _ else _)
    rw [if_neg (by decide)]
    have L20 := L19.ext eN tb20
    have r13 : OpR' (LiR Tx) o2 M19 v13 := Mon.mono s19 r13
    have r8 : OpR' (LiR Tx) (blaO c ls o2) M19 v8 := Mon.mono s19 r8
    clear r9 s15 s19 L15 L19 eN tb20 pr19 lst19
    -- what is blamed is a consequence
    have hsub := thin_sub c.clauses none ls ls
    have lth : Lits c.names (thinL c.clauses ls none) := ⟨List.Nodup.sublist (hsub.map _) tk.l.nd, fun y hy => tk.l.of y (hsub.subset hy)⟩
    refine ll_ifN L20 (gt_is (gt_and (b := !(blaO c ls o2).isNone) (c := false) (gt_B (gv_notN (b := (blaO c ls o2).isNone) (gv_var (i := 8) rfl r8) fun M v h => opr_non (R := LiR Tx) h)) fun hb => ?_) (Bool.and_false _)) fun H21 L21 => ?_
    · cases o2 with
      | some so => cases hb
      | none =>
        have r8 : LiR Tx (thinL c.clauses ls none) M19 v8 := r8
        have hdr : drawsO c.clauses (thinL c.clauses ls none) none = true := thinL_draws (drawsO_iff.mpr (.inl e2))
        have hfol := fol_true (X := ⟨tk.nm, tk.k, lth⟩) hdr hfs.2
        exact gt_is (gt_not (gt_B (gv_call3 (R1 := SqR K TT) (R2 := SqR K Tx) (R3 := OpR' Tx) (pre := fun fs ls lo => fs.length ≤ 1000000 ∧ ls.length ≤ 1000 ∧ ∀ l ∈ ls, l.length ≤ 1000) (R := fun fs ls lo => Bl (folB fs ls lo)) (x := fs) (y := thinL c.clauses ls none) (z := none) (gv_var (i := 4) rfl (LiR.sq (Mon.mono (s11.trans (sW.trans sW19)) r4))) (gv_var (i := 8) rfl r8.sq) (gv_c rfl) ⟨hfs.1, Nat.le_trans hsub.length_le (Nat.le_trans lll nl), fun y hy => Nat.le_trans (lits_short lth tk.nm y hy) (by decide)⟩))) (by rw [hfol]; rfl)
    -- odd things
    refine ll_for (S := S) (xs := oddW) (R := DdF K) (fun _ => kq + 1) (fun _ _ σ' _ => ∃ y11, σ' = [some v, some (.ref S.a), some v2, some vlc, some v4, some v5, some m, some (.ref x), some v8, some v9, y10', y11, y12, some v13, some (.str l), y15']) L21 (gi_sq (K := K) (gv_is (gv_lstG (xs := oddW) (ga_rl (gv_c (.inl .non)) fun _ _ => ga_rl (gv_c (.inl (.int 5))) fun _ _ => ga_rl (gf_str (gv_c rfl)) fun _ _ => ga_rl (gf_str (gv_c rfl)) fun _ _ => ga_rl (gv_is gv_nilD fun _ _ h => .inl h) fun _ _ => ga_rl gf_dnew fun _ _ => ga_rl (gv_c (.inl (.bl true))) fun _ _ => ga_rl0) (by show 7 ≤ 1000; decide)) fun _ _ h => h.sq)) tg_1 (fun _ _ _ _ => ⟨_, rfl⟩) (fun _ _ _ _ _ _ _ _ _ h => h) ?_ ?_
    · rintro j t σ' M22 H22 σ3 nx3 hnx3 hxt s22 ⟨y11', rfl⟩ L22 ⟨v11, r11, rfl⟩
      have ht := List.mem_of_getElem? hxt
      refine ll_lamAnd (K := K) (a := ("not drawn", t)) (b := !o2.isNone) (t2 := tTup (tCons (tC (.str "not drawn")) (tCons (tVar 11) tNil))) L22 (gt_B (gv_notN (b := o2.isNone) (gv_var (i := 13) rfl (Mon.mono s22 r13 : OpR' (LiR Tx) o2 M22 v13)) fun M v h => opr_non (R := LiR Tx) h)) (fun hb M' sm => ?_) (fun M' sm => gv_tupF (gv_c rfl) (gv_var (i := 11) rfl (Mon.mono sm r11))) (fun _ => odd_fit t ht) fun M' H' sm L' => hnx3 M' H' _ sm ⟨_, rfl⟩ L'
      obtain ⟨so, eo⟩ : ∃ so, o = some so := by
        cases o with
        | none => rw [same.1.1 rfl] at hb; exact nomatch hb
        | some so => exact ⟨so, rfl⟩
      subst eo
      exact gv_lamOdd (d := ⟨c, ls, ss, some so⟩) (so := so) rfl (odd_nd (d := ⟨c, ls, ss, some so⟩) nm (so_lits nm e1.2.2) t ht) (gv_var (i := 7) rfl (Mon.mono (sW19.trans (s22.trans sm)) LR)) (gv_var (i := 11) rfl (Mon.mono sm r11)) tk
    rintro σ' M23 H23 s23 ⟨y11', rfl⟩ L23
    have sW23 : Same W M23 := sW19.trans s23
    have r13 : OpR' (LiR Tx) o2 M23 v13 := Mon.mono s23 r13
    have again : ∀ {M24 H24 : Hp}, Same M23 M24 → LL S TS M24 H24 kq → LL S TS M11 H24 kq ∧ Pair CL C c x dx p q' vc m pl sl ls ss o ss2 o2 M11 (S.cut H24) := fun sm L => ⟨L11.back L (sW.trans (sW23.trans sm)), pr.at_ fun b vs e => L.mh _ _ (sm _ _ (sW23 _ _ (hlW _ _ e)))⟩
    -- on, or back
    refine ll_ifS (S := S) (k := kq) (c := 1) (B := fun r => r = true → decide (ls ≠ []) = true) L23 (gts_andI (b := decide (ls ≠ [])) (gt_is (gt_test (gv_eqT (K := K) (R := LiR Tx) (neg := true) (x := ls) (y := []) (fun xs M v h => py_lst py_str _ _ _ (LiR.lst (K := K) h)) (inj_lst inj_str) (put sW23 rfl) gv_nilL (by simp [PyData.depth, depthS]))) (by simp)) fun _ => gts_orI (b := o2.isNone) (gt_B (gv_isN (b := o2.isNone) (gv_var (i := 13) rfl r13) fun M v h => opr_non (R := LiR Tx) h)) fun _ => gts_zero (K := K) rfl (gv_c rfl) (by decide) (by decide)) (fun hB M24 H24 s24 L24 => ?_) fun _ M24 H24 s24 L24 => ?_
    · obtain ⟨Lb, pb⟩ := again s24 L24
      exact do_undo Lb pb k1 k2 (of_decide_eq_true (hB rfl)) rfl rfl fun M' H' sM L' D' => hnx2 M' H' _ sM ⟨D', _, _, _, _, _, _, _, _, _, rfl⟩ L'
    · obtain ⟨Lb, pb⟩ := again s24 L24
      have r13 : OpR' (LiR Tx) o2 M24 v13 := Mon.mono s24 r13
      have stay : ∀ H25, Same H24 H25 → nx2 [some v, some (.ref S.a), some v2, some vlc, some v4, some v5, some m, some (.ref x), some v8, some v9, y10', y11', y12, some v13, some (.str l), y15'] H25 := fun H25 hh => hnx2 M11 H25 _ (Same.refl _) ⟨⟨ls, ss, o, ss2, o2, (pb.gr (lift Lb.mh Lb.at_ (.idle (Lb.mh.trans cut_same) hh))), k1, k2⟩, _, _, _, _, _, _, _, _, _, rfl⟩ (Lb.idle hh)
      cases o2 with
      | none =>
        refine s_if0 (b := false) (L24.mh.trans cut_same) (gt_is (gt_and (b := false) (c := false) (gt_is (gt_B (gv_notN (b := true) (gv_var (i := 13) rfl r13) fun M v h => opr_non (R := LiR Tx) h)) rfl) fun h => nomatch h) rfl) (fun h => nomatch h) fun _ H25 hh => stay H25 hh
      | some so2 =>
        have r13 : LiR Tx so2 M24 v13 := r13
        have hll : l.length ≤ 1000 := by
          obtain ⟨n, hn, side⟩ := mem_litsOf.mp hl
          exact Nat.le_trans (lits_short (ns := c.signs) (ys := [l]) ⟨by simp, fun y hy => by rw [List.mem_singleton.mp hy]; exact ⟨n, hn, side⟩⟩ nmS l (List.mem_singleton.mpr rfl)) (by decide)
        refine s_if0 (b := decide (l ∉ so2) && decide (opp l ∉ so2)) (L24.mh.trans cut_same) (gt_is (gt_and (b := true) (c := decide (l ∉ so2) && decide (opp l ∉ so2)) (gt_is (gt_B (gv_notN (b := false) (gv_var (i := 13) (P := LiR Tx so2) rfl r13) fun M v h => by obtain ⟨a, vs, e, _⟩ := h; rw [e]; rfl)) rfl) fun _ => gt_and (gt_is (gt_test (gv_inA (K := K) (neg := true) (x := l) (xs := so2) (gv_var (i := 14) rfl rfl) (gv_var (i := 13) rfl (.inl r13.sq)))) (by simp)) fun _ => gt_is (gt_test (gv_inA (K := K) (neg := true) (x := opp l) (xs := so2) (gv_call1 (R1 := Tx) (pre := fun x => x.length ≤ 1000) (R := fun x => Tx (opp x)) (x := l) (gv_var (i := 14) rfl rfl) hll) (gv_var (i := 13) rfl (.inl r13.sq)))) (by simp)) (by simp)) (fun hb H25 hh => ?_) fun _ H25 hh => stay H25 hh
        obtain ⟨n1, n2⟩ : l ∉ so2 ∧ opp l ∉ so2 := by simpa using hb
        obtain ⟨so, eo⟩ : ∃ so, o = some so := by
          cases o with
          | none => exact nomatch same.1.1 rfl
          | some so => exact ⟨so, rfl⟩
        subst eo
        exact do_put (Lb.idle hh) (pb.gr (lift Lb.mh Lb.at_ (.idle (Lb.mh.trans cut_same) hh))) k1 k2 hl n1 n2 rfl rfl rfl fun M' H' sM L' D' => hnx2 M' H' _ sM ⟨D', _, _, _, _, _, _, _, _, _, rfl⟩ L'
end
end My

set_option Elab.async false
set_option linter.all false
set_option maxRecDepth 100000
set_option maxHeartbeats 4000000
namespace My
open PySem PySem.Spec PyProof.Rows L2 L3
/-- a def of the text behind the top -/
structure At1 (K : PySem.W.Frag) (x : Str) (st : Stmt) (f : Addr) : Prop where
  ns : PySem.W.nsIn K mainGlobals x = some (some (.ref f))
  fn : ∃ fd, Fun K x x st f fd
/-- one that has a text for its default -/
structure AtD (K : PySem.W.Frag) (x : Str) (st : Stmt) (z : Str) (f : Addr) : Prop where
  ns : PySem.W.nsIn K mainGlobals x = some (some (.ref f))
  fn : ∃ fd, FunD K x x (defArgs st) (defBody st) (defScope st) [.str z] [] f fd
/-- a method of a class of the text -/
structure AtM (K : PySem.W.Frag) (C : Addr) (m q : Str) (st : Stmt) (f : Addr) : Prop where
  me : Meth K C m f
  fn : ∃ fd, Fun K m q st f fd
/-- a method with the default () -/
structure AtE (K : PySem.W.Frag) (C : Addr) (m q : Str) (st : Stmt) (e : Addr) (f : Addr) : Prop where
  me : Meth K C m f
  fn : ∃ fd, FunD K m q (defArgs st) (defBody st) (defScope st) [.ref e] [] f fd
/-- a class of the text -/
structure AtC (K : PySem.W.Frag) (x : Str) (C : Addr) : Prop where
  ns : PySem.W.nsIn K mainGlobals x = some (some (.ref C))
  cl : Cls K C
  mks : PySem.W.makesIn K C = true
  kc : PySem.W.keepIn K (.ref C) = true
abbrev s_NotDrawn_init : Stmt := inClass (topS 10) 0
theorem rai_NotDrawn {P : Program} {w : World} {K : PySem.W.Frag} {mg : Str → Option Value} {base : Heap} (gl : mg "NotDrawn" = some (.ref (He.ga K "NotDrawn"))) (F : SupF P K "NotDrawn" "NotDrawn.__init__" "literal" s_NotDrawn_init) : Rai P w K mg base 1 "NotDrawn" (He.ga K "NotDrawn") "literal" := by
  obtain ⟨fd, b, f⟩ := sup_ok (CX := CX0) (k := 0) (x := "literal") (sc := defScope s_NotDrawn_init) (args := defArgs s_NotDrawn_init) (w := w) (mg := mg) (base := base) F.S F.no (by decide) (by decide) (NdefX.nscope_by (by decide +kernel)) (by decide +kernel) ⟨_, rfl, rfl⟩ (fun env => ⟨_, rfl⟩) (fun kV doc pm an cdv ct cl us hl => match us, hl with | [_, _], _ => rfl)
  exact ⟨F.S.T, gl, _, fd, "literal", F.ini, F.ty, f, b⟩
theorem all_mk {l : PySem.W.OpenLaw} {w : World} {K : PySem.W.Frag} {h : Heap} {mg : Str → Option Value} {fa C CL f0 f1 f2 f3 f4 f5 f6 f7 f8 f9 f10 f11 f12 f13 f14 f15 f16 f17 f18 f19 f20 f21 f22 f23 f24 f25 f26 f27 f28 f29 f30 f31 f32 f33 f34 f35 f36 f37 f38 f39 g0 g1 g2 g3 g4 g5 g6 g7 g8 e0 : Addr} {lt : Tok} (X : K.In h) (G : h.Ns mainGlobals mg) (hfa : mg "law" = some (.ref fa))
    (clCode : AtC K "Code" C)
    (clLed : AtC K "Led" CL)
    (d0 : At1 K "name_of" s_name_of f0)
    (d1 : At1 K "opposite" s_opposite f1)
    (d2 : At1 K "is_list" s_is_list f2)
    (d3 : At1 K "is_literal" s_is_literal f3)
    (d4 : At1 K "first_wrong" s_first_wrong f4)
    (d5 : At1 K "ascending" s_ascending f5)
    (d6 : At1 K "is_name" s_is_name f6)
    (d7 : At1 K "checked_names" s_checked_names f7)
    (d8 : At1 K "checked_clauses" s_checked_clauses f8)
    (d9 : At1 K "open_ones" s_open_ones f9)
    (d10 : At1 K "chase" s_chase f10)
    (d11 : At1 K "draws" s_draws f11)
    (d12 : At1 K "_law_draw" s__law_draw f12)
    (d13 : At1 K "_law_pick" s__law_pick f13)
    (d14 : At1 K "_law_mixed" s__law_mixed f14)
    (d15 : At1 K "_law_fresh" s__law_fresh f15)
    (d16 : At1 K "_law_names" s__law_names f16)
    (d17 : At1 K "_law_neg" s__law_neg f17)
    (d18 : At1 K "_law_up" s__law_up f18)
    (d19 : At1 K "_law_fulls" s__law_fulls f19)
    (d20 : At1 K "_law_meets" s__law_meets f20)
    (d21 : At1 K "_law_fits" s__law_fits f21)
    (d22 : At1 K "_law_chase" s__law_chase f22)
    (d23 : At1 K "_law_literals" s__law_literals f23)
    (d24 : At1 K "_law_sided" s__law_sided f24)
    (d25 : At1 K "_law_clause" s__law_clause f25)
    (d26 : At1 K "_law_once" s__law_once f26)
    (d27 : At1 K "_law_code" s__law_code f27)
    (d28 : At1 K "_law_made" s__law_made f28)
    (d29 : At1 K "_law_begin" s__law_begin f29)
    (d30 : At1 K "_law_names_of" s__law_names_of f30)
    (d31 : At1 K "_law_put" s__law_put f31)
    (d32 : At1 K "_law_some_sign" s__law_some_sign f32)
    (d33 : At1 K "_law_draws" s__law_draws f33)
    (d34 : At1 K "_law_thinned" s__law_thinned f34)
    (d35 : At1 K "_law_follows" s__law_follows f35)
    (d36 : At1 K "_law_same" s__law_same f36)
    (d37 : At1 K "_law_told" s__law_told f37)
    (d38 : At1 K "_law_are_right" s__law_are_right f38)
    (d39 : At1 K "law" s_law f39)
    (e1 : AtE K C "__init__" "Code.__init__" s_Code_init e0 g0)
    (e2 : AtM K CL "__init__" "Led.__init__" s_Led_init g1)
    (e3 : AtM K CL "is_dead" "Led.is_dead" s_Led_is_dead g2)
    (e4 : AtM K CL "put" "Led.put" s_Led_put g3)
    (e5 : AtM K CL "undo" "Led.undo" s_Led_undo g4)
    (e6 : AtM K CL "choices" "Led.choices" s_Led_choices g5)
    (e7 : AtM K CL "thinned" "Led.thinned" s_Led_thinned g6)
    (e8 : AtM K CL "why" "Led.why" s_Led_why g7)
    (e9 : AtM K CL "blame" "Led.blame" s_Led_blame g8)
    (qCode0 : PySem.W.findIn K (.ref C) "sign_row" = some none)
    (qCode1 : PySem.W.findIn K (.ref C) "helper_row" = some none)
    (qCode2 : PySem.W.findIn K (.ref C) "names" = some none)
    (qCode3 : PySem.W.findIn K (.ref C) "clause_row" = some none)
    (qLed0 : PySem.W.findIn K (.ref CL) "kept" = some none)
    (qLed1 : PySem.W.findIn K (.ref CL) "put_row" = some none)
    (qLed2 : PySem.W.findIn K (.ref CL) "moments" = some none)
    (gL : PySem.W.nsIn K mainGlobals "LETTERS" = some (some (.str g_LETTERS lt)))
    (gxD : (He.Fa.glo "Dead").ok K = true)
    (kcD : PySem.W.keepIn K (.ref (He.ga K "Dead")) = true)
    (qxD : PySem.W.excIn K (He.ga K "Dead") PySem.HandSPX.veTail "ValueError.__new__" = true)
    (sbD : PySem.W.subIn K (.ref (He.ga K "Dead")) (.type "BaseException") = some true)
    (tyD : PySem.W.typeIn K (.ref (He.ga K "Dead")) = some (.type "type"))
    (gxN : (He.Fa.glo "NotDead").ok K = true)
    (kcN : PySem.W.keepIn K (.ref (He.ga K "NotDead")) = true)
    (qxN : PySem.W.excIn K (He.ga K "NotDead") PySem.HandSPX.veTail "ValueError.__new__" = true)
    (sbN : PySem.W.subIn K (.ref (He.ga K "NotDead")) (.type "BaseException") = some true)
    (tyN : PySem.W.typeIn K (.ref (He.ga K "NotDead")) = some (.type "type"))
    (gx_NotDrawn : (He.Fa.glo "NotDrawn").ok K = true)
    (sx_NotDrawn : SupF l.prog K "NotDrawn" "NotDrawn.__init__" "literal" s_NotDrawn_init)
    (ex_Dead_Dead : PySem.W.exmOne K (.ref (He.ga K "Dead")) (.ref (He.ga K "Dead")) = some true)
    (ex_NotDead_Dead : PySem.W.exmOne K (.ref (He.ga K "NotDead")) (.ref (He.ga K "Dead")) = some false)
    (ex_NotDead_NotDead : PySem.W.exmOne K (.ref (He.ga K "NotDead")) (.ref (He.ga K "NotDead")) = some true)
    (ex_NotDrawn_Dead : PySem.W.exmOne K (.ref (He.ga K "NotDrawn")) (.ref (He.ga K "Dead")) = some false)
    (ex_NotDrawn_NotDead : PySem.W.exmOne K (.ref (He.ga K "NotDrawn")) (.ref (He.ga K "NotDead")) = some false)
    (ex_NotDrawn_NotDrawn : PySem.W.exmOne K (.ref (He.ga K "NotDrawn")) (.ref (He.ga K "NotDrawn")) = some true)
    (z_len : PySem.W.nsIn K mainGlobals "len" = some none)
    (z_tuple : PySem.W.nsIn K mainGlobals "tuple" = some none)
    (z_list : PySem.W.nsIn K mainGlobals "list" = some none)
    (z_str : PySem.W.nsIn K mainGlobals "str" = some none)
    (z_int : PySem.W.nsIn K mainGlobals "int" = some none)
    (z_all : PySem.W.nsIn K mainGlobals "all" = some none)
    (z_any : PySem.W.nsIn K mainGlobals "any" = some none)
    (z_isinstance : PySem.W.nsIn K mainGlobals "isinstance" = some none)
    (z_enumerate : PySem.W.nsIn K mainGlobals "enumerate" = some none)
    (z_range : PySem.W.nsIn K mainGlobals "range" = some none)
    (z_repr : PySem.W.nsIn K mainGlobals "repr" = some none)
    (z_bool : PySem.W.nsIn K mainGlobals "bool" = some none)
    (z_dict : PySem.W.nsIn K mainGlobals "dict" = some none)
    : ∃ (fd : FuncData) (c c1 : Addr), (∀ (s : Shared) (v : Value), BindsTo s fd ⟨[v], []⟩ [("_law_script", v)]) ∧ (∃ (oc : Value) (od : Option Addr) (kV doc pm : Value) (an : Option Addr) (ct : Value) (osl : Array (Option Value)), K.lookup f39 = some ⟨oc, od, .func (PySem.W.fnOf "law" "law" (defArgs s_law) (defBody s_law) (defScope s_law) .none kV doc pm an (.ref c) ct), osl⟩) ∧ (∃ (oc : Value) (od : Option Addr) (kV doc pm : Value) (an : Option Addr) (ct : Value) (osl : Array (Option Value)), K.lookup f38 = some ⟨oc, od, .func (PySem.W.fnOf "_law_are_right" "_law_are_right" (defArgs s__law_are_right) (defBody s__law_are_right) (defScope s__law_are_right) .none kV doc pm an (.ref c1) ct), osl⟩) ∧ ∀ (base : Heap) (Pt P1 : Addr), K.In base → base.Ns mainGlobals mg → LamX.TabB base mg c Pt → LamX.TabB base mg c1 P1 → Pt ≠ P1 → FnG l.prog w K mg base CX0 10 fa fd ["_law_script"] (sp_law K Pt P1) := by
  have T0 : Gd mg := { len := PySem.W.mg_none_of X G z_len, tuple := PySem.W.mg_none_of X G z_tuple, list := PySem.W.mg_none_of X G z_list, str := PySem.W.mg_none_of X G z_str, int := PySem.W.mg_none_of X G z_int, all := PySem.W.mg_none_of X G z_all, any := PySem.W.mg_none_of X G z_any, isinstance := PySem.W.mg_none_of X G z_isinstance, enumerate := PySem.W.mg_none_of X G z_enumerate, range := PySem.W.mg_none_of X G z_range, repr := PySem.W.mg_none_of X G z_repr, bool := PySem.W.mg_none_of X G z_bool, dict := PySem.W.mg_none_of X G z_dict, g_LETTERS := ⟨_, PySem.W.mg_of X G gL⟩ }
  have TC : CodeT K mg C := ⟨clCode.cl, qCode0, qCode1, qCode2, qCode3⟩
  have TL : LedT K CL := ⟨clLed.cl, qLed0, qLed1, qLed2⟩
  have g_NotDrawn : mg "NotDrawn" = some (.ref (He.ga K "NotDrawn")) := He.glo_ok X G gx_NotDrawn
  obtain ⟨n0, fd0, F0⟩ := d0
  have b0 := F0.binds (ps := ["literal"]) fun _ _ _ _ _ _ us hl => match us, hl with | [_], _ => rfl
  obtain ⟨n1, fd1, F1⟩ := d1
  have b1 := F1.binds (ps := ["literal"]) fun _ _ _ _ _ _ us hl => match us, hl with | [_], _ => rfl
  obtain ⟨n2, fd2, F2⟩ := d2
  have b2 := F2.binds (ps := ["thing"]) fun _ _ _ _ _ _ us hl => match us, hl with | [_], _ => rfl
  obtain ⟨n3, fd3, F3⟩ := d3
  have b3 := F3.binds (ps := ["thing", "names"]) fun _ _ _ _ _ _ us hl => match us, hl with | [_, _], _ => rfl
  obtain ⟨n4, fd4, F4⟩ := d4
  have b4 := F4.binds (ps := ["things", "names"]) fun _ _ _ _ _ _ us hl => match us, hl with | [_, _], _ => rfl
  obtain ⟨n5, fd5, F5⟩ := d5
  have b5 := F5.binds (ps := ["literals", "names"]) fun _ _ _ _ _ _ us hl => match us, hl with | [_, _], _ => rfl
  obtain ⟨n6, fd6, F6⟩ := d6
  have b6 := F6.binds (ps := ["thing"]) fun _ _ _ _ _ _ us hl => match us, hl with | [_], _ => rfl
  obtain ⟨n7, fd7, F7⟩ := d7
  have b7 := F7.binds (ps := ["things", "known"]) fun _ _ _ _ _ _ us hl => match us, hl with | [_, _], _ => rfl
  obtain ⟨n8, fd8, F8⟩ := d8
  have b8 := F8.binds (ps := ["clauses", "names"]) fun _ _ _ _ _ _ us hl => match us, hl with | [_, _], _ => rfl
  obtain ⟨n9, fd9, F9⟩ := d9
  have b9 := F9.binds (ps := ["clause", "so"]) fun _ _ _ _ _ _ us hl => match us, hl with | [_, _], _ => rfl
  obtain ⟨n10, fd10, F10⟩ := d10
  have b10 := F10.binds (ps := ["clauses", "setting"]) fun _ _ _ _ _ _ us hl => match us, hl with | [_, _], _ => rfl
  obtain ⟨n11, fd11, F11⟩ := d11
  have b11 := F11.binds (ps := ["clauses", "setting", "literal"]) fun _ _ _ _ _ _ us hl => match us, hl with | [_, _, _], _ => rfl
  obtain ⟨n12, fd12, F12⟩ := d12
  have b12 := F12.binds (ps := ["_law_stream", "_law_many"]) fun _ _ _ _ _ _ us hl => match us, hl with | [_, _], _ => rfl
  obtain ⟨n13, fd13, F13⟩ := d13
  have b13 := F13.binds (ps := ["_law_stream", "_law_things"]) fun _ _ _ _ _ _ us hl => match us, hl with | [_, _], _ => rfl
  obtain ⟨n14, fd14, F14⟩ := d14
  have b14 := F14.binds (ps := ["_law_stream", "_law_things"]) fun _ _ _ _ _ _ us hl => match us, hl with | [_, _], _ => rfl
  obtain ⟨n15, fd15, F15⟩ := d15
  have b15 := F15.binds (ps := ["_law_stream", "_law_taken"]) fun _ _ _ _ _ _ us hl => match us, hl with | [_, _], _ => rfl
  obtain ⟨n16, fd16, F16⟩ := d16
  have b16 := F16.binds (ps := ["_law_stream", "_law_many"]) fun _ _ _ _ _ _ us hl => match us, hl with | [_, _], _ => rfl
  obtain ⟨n17, fd17, F17⟩ := d17
  have b17 := F17.binds (ps := ["_law_one"]) fun _ _ _ _ _ _ us hl => match us, hl with | [_], _ => rfl
  obtain ⟨n18, fd18, F18⟩ := d18
  have b18 := F18.binds (ps := ["_law_some", "_law_names_here"]) fun _ _ _ _ _ _ us hl => match us, hl with | [_, _], _ => rfl
  obtain ⟨n19, fd19, F19⟩ := d19
  have b19 := F19.binds (ps := ["_law_names_here"]) fun _ _ _ _ _ _ us hl => match us, hl with | [_], _ => rfl
  obtain ⟨n20, fd20, F20⟩ := d20
  have b20 := F20.binds (ps := ["_law_clause_here", "_law_some"]) fun _ _ _ _ _ _ us hl => match us, hl with | [_, _], _ => rfl
  obtain ⟨n21, fd21, F21⟩ := d21
  have b21 := F21.binds (ps := ["_law_clauses", "_law_some"]) fun _ _ _ _ _ _ us hl => match us, hl with | [_, _], _ => rfl
  obtain ⟨n22, fd22, F22⟩ := d22
  have b22 := F22.binds (ps := ["_law_clauses", "_law_half"]) fun _ _ _ _ _ _ us hl => match us, hl with | [_, _], _ => rfl
  obtain ⟨n23, fd23, F23⟩ := d23
  have b23 := F23.binds (ps := ["_law_names_here"]) fun _ _ _ _ _ _ us hl => match us, hl with | [_], _ => rfl
  obtain ⟨n24, fd24, F24⟩ := d24
  have b24 := F24.binds (ps := ["_law_stream", "_law_names_here"]) fun _ _ _ _ _ _ us hl => match us, hl with | [_, _], _ => rfl
  obtain ⟨n25, fd25, F25⟩ := d25
  have b25 := F25.binds (ps := ["_law_stream", "_law_names_here", "_law_most"]) fun _ _ _ _ _ _ us hl => match us, hl with | [_, _, _], _ => rfl
  obtain ⟨n26, fd26, F26⟩ := d26
  have b26 := F26.binds (ps := ["_law_clauses", "_law_names_here"]) fun _ _ _ _ _ _ us hl => match us, hl with | [_, _], _ => rfl
  obtain ⟨n27, fd27, F27⟩ := d27
  have b27 := F27.binds (ps := ["_law_stream", "_law_signs", "_law_helpers", "_law_many"]) fun _ _ _ _ _ _ us hl => match us, hl with | [_, _, _, _], _ => rfl
  obtain ⟨n28, fd28, F28⟩ := d28
  have b28 := F28.binds (ps := ["_law_c"]) fun _ _ _ _ _ _ us hl => match us, hl with | [_], _ => rfl
  obtain ⟨n29, fd29, F29⟩ := d29
  have b29 := F29.binds (ps := ["_law_c"]) fun _ _ _ _ _ _ us hl => match us, hl with | [_], _ => rfl
  obtain ⟨n30, fd30, F30⟩ := d30
  have b30 := F30.binds (ps := ["_law_m"]) fun _ _ _ _ _ _ us hl => match us, hl with | [_], _ => rfl
  obtain ⟨n31, fd31, F31⟩ := d31
  have b31 := F31.binds (ps := ["_law_m", "_law_literal"]) fun _ _ _ _ _ _ us hl => match us, hl with | [_, _], _ => rfl
  obtain ⟨n32, fd32, F32⟩ := d32
  have b32 := F32.binds (ps := ["_law_stream", "_law_m"]) fun _ _ _ _ _ _ us hl => match us, hl with | [_, _], _ => rfl
  obtain ⟨n33, fd33, F33⟩ := d33
  have b33 := F33.binds (ps := ["_law_clauses", "_law_some", "_law_literal"]) fun _ _ _ _ _ _ us hl => match us, hl with | [_, _, _], _ => rfl
  obtain ⟨n34, fd34, F34⟩ := d34
  have b34 := F34.binds (ps := ["_law_clauses", "_law_put_here", "_law_literal"]) fun _ _ _ _ _ _ us hl => match us, hl with | [_, _, _], _ => rfl
  obtain ⟨n35, fd35, F35⟩ := d35
  have b35 := F35.binds (ps := ["_law_fits_here", "_law_some", "_law_literal"]) fun _ _ _ _ _ _ us hl => match us, hl with | [_, _, _], _ => rfl
  obtain ⟨n36, fd36, F36⟩ := d36
  have b36 := F36.binds (ps := ["_law_found", "_law_due"]) fun _ _ _ _ _ _ us hl => match us, hl with | [_, _], _ => rfl
  obtain ⟨n37, fd37, F37⟩ := d37
  have b37 := F37.binds (ps := ["_law_ask"]) fun _ _ _ _ _ _ us hl => match us, hl with | [_], _ => rfl
  obtain ⟨n38, fd38, F38⟩ := d38
  have b38 := F38.binds (ps := ["_law_led", "_law_m", "_law_fits_here"]) fun _ _ _ _ _ _ us hl => match us, hl with | [_, _, _], _ => rfl
  obtain ⟨n39, fd39, F39⟩ := d39
  have b39 := F39.binds (ps := ["_law_script"]) fun _ _ _ _ _ _ us hl => match us, hl with | [_], _ => rfl
  obtain ⟨me0, gd0, E0⟩ := e1
  obtain ⟨es0, ev0, u0⟩ := E0.binds1 (ps := ["self", "signs", "clauses", "helpers"]) 4 1 (by simp) rfl fun _ _ _ _ _ _ _ us its hl hi => match us, its, hl, hi with | [_, _, _, _], [_], _, _ => ⟨_, rfl, rfl⟩
  cases ev0
  obtain ⟨me1, gd1, E1⟩ := e2
  have u1 := E1.binds (ps := ["self", "code"]) fun _ _ _ _ _ _ us hl => match us, hl with | [_, _], _ => rfl
  obtain ⟨me2, gd2, E2⟩ := e3
  have u2 := E2.binds (ps := ["self"]) fun _ _ _ _ _ _ us hl => match us, hl with | [_], _ => rfl
  obtain ⟨me3, gd3, E3⟩ := e4
  have u3 := E3.binds (ps := ["self", "literal"]) fun _ _ _ _ _ _ us hl => match us, hl with | [_, _], _ => rfl
  obtain ⟨me4, gd4, E4⟩ := e5
  have u4 := E4.binds (ps := ["self"]) fun _ _ _ _ _ _ us hl => match us, hl with | [_], _ => rfl
  obtain ⟨me5, gd5, E5⟩ := e6
  have u5 := E5.binds (ps := ["self"]) fun _ _ _ _ _ _ us hl => match us, hl with | [_], _ => rfl
  obtain ⟨me6, gd6, E6⟩ := e7
  have u6 := E6.binds (ps := ["self", "literal"]) fun _ _ _ _ _ _ us hl => match us, hl with | [_, _], _ => rfl
  obtain ⟨me7, gd7, E7⟩ := e8
  have u7 := E7.binds (ps := ["self", "literal"]) fun _ _ _ _ _ _ us hl => match us, hl with | [_, _], _ => rfl
  obtain ⟨me8, gd8, E8⟩ := e9
  have u8 := E8.binds (ps := ["self"]) fun _ _ _ _ _ _ us hl => match us, hl with | [_], _ => rfl
  have e := hfa.symm.trans (PySem.W.mg_of X G n39)
  cases e
  obtain ⟨oc, od, kV, doc, pm, an, cdv, ct, osl, efd, lk, hcc⟩ := F39.ex
  obtain ⟨cd, rfl⟩ : ∃ cd, cdv = Value.ref cd := by cases cdv with | ref cd => exact ⟨cd, rfl⟩ | _ => cases hcc
  subst efd
  have FC : FunC K "law" "law" s_law _ fa cd := ⟨oc, od, kV, doc, pm, an, ct, osl, rfl, lk, hcc⟩
  obtain ⟨oc1, od1, kV1, doc1, pm1, an1, cdv1, ct1, osl1, efd1, lk1, hcc1⟩ := F38.ex
  obtain ⟨cd1, rfl⟩ : ∃ cd, cdv1 = Value.ref cd := by cases cdv1 with | ref cd => exact ⟨cd, rfl⟩ | _ => cases hcc1
  have FC1 : FunC K "_law_are_right" "_law_are_right" s__law_are_right fd38 f38 cd1 := ⟨oc1, od1, kV1, doc1, pm1, an1, ct1, osl1, efd1, efd1 ▸ lk1, hcc1⟩
  refine ⟨PySem.W.fnOf "law" "law" (defArgs s_law) (defBody s_law) (defScope s_law) .none kV doc pm an (.ref cd) ct, cd, cd1, fun s v => ?_, ⟨oc, od, kV, doc, pm, an, ct, osl, lk⟩, ⟨oc1, od1, kV1, doc1, pm1, an1, ct1, osl1, efd1 ▸ lk1⟩, fun base Pt P1 _ _ TB TB1 hP1 => ?_⟩
  · exact .of_eq rfl
  have R_NotDrawn : Rai l.prog w K mg base 1 "NotDrawn" (He.ga K "NotDrawn") "literal" := rai_NotDrawn g_NotDrawn sx_NotDrawn
  have c_name_of : Cal l.prog w K mg base 1 "name_of" ["literal"] (sp_name_of K) := ⟨f0, fd0, ok_name_of F0, PySem.W.mg_of X G n0, F0.kp, b0⟩
  have c_opposite : Cal l.prog w K mg base 1 "opposite" ["literal"] (sp_opposite K) := ⟨f1, fd1, ok_opposite F1, PySem.W.mg_of X G n1, F1.kp, b1⟩
  have c_is_list : Cal l.prog w K mg base 1 "is_list" ["thing"] (sp_is_list K) := ⟨f2, fd2, ok_is_list F2 T0.toBi, PySem.W.mg_of X G n2, F2.kp, b2⟩
  have c_is_literal : Cal l.prog w K mg base 2 "is_literal" ["thing", "names"] (sp_is_literal K) := ⟨f3, fd3, ok_is_literal F3 T0.toBi c_name_of, PySem.W.mg_of X G n3, F3.kp, b3⟩
  have c_first_wrong : Cal l.prog w K mg base 3 "first_wrong" ["things", "names"] (sp_first_wrong K) := ⟨f4, fd4, ok_first_wrong F4 T0.toBi c_is_list c_name_of c_is_literal, PySem.W.mg_of X G n4, F4.kp, b4⟩
  have c_ascending : Cal l.prog w K mg base 1 "ascending" ["literals", "names"] (sp_ascending K) := ⟨f5, fd5, ok_ascending F5 T0.toBi, PySem.W.mg_of X G n5, F5.kp, b5⟩
  have c_is_name : Cal l.prog w K mg base 1 "is_name" ["thing"] (sp_is_name K) := ⟨f6, fd6, ok_is_name F6 T0.toGb, PySem.W.mg_of X G n6, F6.kp, b6⟩
  have c_checked_names : Cal l.prog w K mg base 2 "checked_names" ["things", "known"] (sp_checked_names K) := ⟨f7, fd7, ok_checked_names F7 T0.toGb c_is_name, PySem.W.mg_of X G n7, F7.kp, b7⟩
  have c_checked_clauses : Cal l.prog w K mg base 4 "checked_clauses" ["clauses", "names"] (sp_checked_clauses K) := ⟨f8, fd8, ok_checked_clauses F8 T0.toGb c_first_wrong c_ascending, PySem.W.mg_of X G n8, F8.kp, b8⟩
  have c_open_ones : Cal l.prog w K mg base 2 "open_ones" ["clause", "so"] (sp_open_ones K) := ⟨f9, fd9, ok_open_ones F9 c_opposite, PySem.W.mg_of X G n9, F9.kp, b9⟩
  have c_chase : Cal l.prog w K mg base 3 "chase" ["clauses", "setting"] (sp_chase K) := ⟨f10, fd10, ok_chase F10 T0.toGb c_open_ones, PySem.W.mg_of X G n10, F10.kp, b10⟩
  have c_draws : Cal l.prog w K mg base 4 "draws" ["clauses", "setting", "literal"] (sp_drawsO K) := ⟨f11, fd11, ok_drawsO F11 c_chase, PySem.W.mg_of X G n11, F11.kp, b11⟩
  have k_Code : Mak l.prog w K mg base 5 "Code" C ["self", "signs", "clauses", "helpers"] (sp_Code_init K C) := ⟨g0, gd0, ⟨clCode.mks, me0.at_, me0.fn, clCode.kc⟩, ok_Code_init E0 T0.toGb TC c_checked_names c_checked_clauses, PySem.W.mg_of X G clCode.ns, u0⟩
  have g_Dead : mg "Dead" = some (.ref (He.ga K "Dead")) := He.glo_ok X G gxD
  have RD : RawC K mg "Dead" (He.ga K "Dead") := ⟨g_Dead, kcD, qxD, sbD, tyD⟩
  have g_NotDead : mg "NotDead" = some (.ref (He.ga K "NotDead")) := He.glo_ok X G gxN
  have RN : RawC K mg "NotDead" (He.ga K "NotDead") := ⟨g_NotDead, kcN, qxN, sbN, tyN⟩
  have m_is_dead : Met l.prog w K mg base 1 CL "is_dead" ["self"] (sp_Led_is_dead K CL C) := ⟨g2, gd2, clLed.cl, me2, ok_Led_is_dead E2 TL, u2⟩
  have m_put : Met l.prog w K mg base 4 CL "put" ["self", "literal"] (sp_Led_put K CL C) := ⟨g3, gd3, clLed.cl, me3, ok_Led_put E3 T0.toGc TL TC m_is_dead c_is_literal c_opposite c_chase c_ascending, u3⟩
  have m_undo : Met l.prog w K mg base 1 CL "undo" ["self"] (sp_Led_undo K CL C) := ⟨g4, gd4, clLed.cl, me4, ok_Led_undo E4 TL, u4⟩
  have m_choices : Met l.prog w K mg base 1 CL "choices" ["self"] (sp_Led_choices K CL C) := ⟨g5, gd5, clLed.cl, me5, ok_Led_choices E5 T0.toGc TL, u5⟩
  have m_thinned : Met l.prog w K mg base 5 CL "thinned" ["self", "literal"] (sp_Led_thinned K CL C) := ⟨g6, gd6, clLed.cl, me6, ok_Led_thinned E6 T0.toGc TL TC c_draws, u6⟩
  have mX_why : MetX l.prog w K mg base 6 CL "why" ["self", "literal"] (sp_whyX K CL C (He.ga K "Dead") (He.ga K "NotDrawn")) := ⟨g7, gd7, clLed.cl, me7, ok_whyX E7 T0.toGc TL RD R_NotDrawn m_is_dead m_thinned, u7⟩
  have mX_blame : MetX l.prog w K mg base 6 CL "blame" ["self"] (sp_blameX K CL C (He.ga K "NotDead")) := ⟨g8, gd8, clLed.cl, me8, ok_blameX E8 TL RN m_is_dead m_thinned, u8⟩
  have k_Led : Mak l.prog w K mg base 4 "Led" CL ["self", "code"] (sp_Led_init K CL C) := ⟨g1, gd1, ⟨clLed.mks, me1.at_, me1.fn, clLed.kc⟩, ok_Led_init E1 T0.toGc TL TC c_chase, PySem.W.mg_of X G clLed.ns, u1⟩
  have c__law_draw : Cal l.prog w K mg base 1 "_law_draw" ["_law_stream", "_law_many"] (sp__law_draw K) := ⟨f12, fd12, ok__law_draw F12 T0.toGc, PySem.W.mg_of X G n12, F12.kp, b12⟩
  have c__law_pick : Cal l.prog w K mg base 2 "_law_pick" ["_law_stream", "_law_things"] (sp__law_pick K) := ⟨f13, fd13, ok__law_pick F13 T0.toGc c__law_draw, PySem.W.mg_of X G n13, F13.kp, b13⟩
  have c__law_mixed : Cal l.prog w K mg base 2 "_law_mixed" ["_law_stream", "_law_things"] (sp__law_mixed K) := ⟨f14, fd14, ok__law_mixed F14 T0.toGc c__law_draw, PySem.W.mg_of X G n14, F14.kp, b14⟩
  have c__law_fresh : Cal l.prog w K mg base 3 "_law_fresh" ["_law_stream", "_law_taken"] (sp__law_fresh K) := ⟨f15, fd15, ok__law_fresh F15 T0.toGc c__law_draw c__law_pick, PySem.W.mg_of X G n15, F15.kp, b15⟩
  have c__law_names : Cal l.prog w K mg base 4 "_law_names" ["_law_stream", "_law_many"] (sp__law_names K) := ⟨f16, fd16, ok__law_names F16 T0.toGc c__law_fresh, PySem.W.mg_of X G n16, F16.kp, b16⟩
  have c__law_neg : Cal l.prog w K mg base 1 "_law_neg" ["_law_one"] (sp__law_neg K) := ⟨f17, fd17, ok__law_neg F17, PySem.W.mg_of X G n17, F17.kp, b17⟩
  have c__law_up : Cal l.prog w K mg base 1 "_law_up" ["_law_some", "_law_names_here"] (sp__law_up K) := ⟨f18, fd18, ok__law_up F18 T0.toBi, PySem.W.mg_of X G n18, F18.kp, b18⟩
  have c__law_fulls : Cal l.prog w K mg base 1 "_law_fulls" ["_law_names_here"] (sp__law_fullsW K) := ⟨f19, fd19, ok__law_fullsW F19 T0.toGc, PySem.W.mg_of X G n19, F19.kp, b19⟩
  have c__law_meets : Cal l.prog w K mg base 1 "_law_meets" ["_law_clause_here", "_law_some"] (sp__law_meets K) := ⟨f20, fd20, ok__law_meets F20 T0.toGc, PySem.W.mg_of X G n20, F20.kp, b20⟩
  have c__law_fits : Cal l.prog w K mg base 2 "_law_fits" ["_law_clauses", "_law_some"] (sp__law_fits K) := ⟨f21, fd21, ok__law_fits F21 T0.toGc c__law_meets, PySem.W.mg_of X G n21, F21.kp, b21⟩
  have c__law_chase : Cal l.prog w K mg base 2 "_law_chase" ["_law_clauses", "_law_half"] (sp__law_chase K) := ⟨f22, fd22, ok__law_chase F22 T0 c__law_neg, PySem.W.mg_of X G n22, F22.kp, b22⟩
  have c__law_literals : Cal l.prog w K mg base 1 "_law_literals" ["_law_names_here"] (sp__law_literals K) := ⟨f23, fd23, ok__law_literals F23, PySem.W.mg_of X G n23, F23.kp, b23⟩
  have c__law_sided : Cal l.prog w K mg base 3 "_law_sided" ["_law_stream", "_law_names_here"] (sp__law_sided K) := ⟨f24, fd24, ok__law_sided F24 T0.toGc c__law_draw c__law_mixed, PySem.W.mg_of X G n24, F24.kp, b24⟩
  have c__law_clause : Cal l.prog w K mg base 4 "_law_clause" ["_law_stream", "_law_names_here", "_law_most"] (sp__law_clause K) := ⟨f25, fd25, ok__law_clause F25 T0.toGc c__law_draw c__law_sided, PySem.W.mg_of X G n25, F25.kp, b25⟩
  have c__law_once : Cal l.prog w K mg base 2 "_law_once" ["_law_clauses", "_law_names_here"] (sp__law_once K) := ⟨f26, fd26, ok__law_once F26 T0.toGc c__law_up, PySem.W.mg_of X G n26, F26.kp, b26⟩
  have c__law_code : Cal l.prog w K mg base 5 "_law_code" ["_law_stream", "_law_signs", "_law_helpers", "_law_many"] (sp__law_code K) := ⟨f27, fd27, ok__law_code F27 T0.toGc c__law_draw c__law_names c__law_clause c__law_once, PySem.W.mg_of X G n27, F27.kp, b27⟩
  have c__law_made : Cal l.prog w K mg base 7 "_law_made" ["_law_c"] (sp__law_made K C) := ⟨f28, fd28, ok__law_made F28 k_Code, PySem.W.mg_of X G n28, F28.kp, b28⟩
  have c__law_begin : Cal l.prog w K mg base 3 "_law_begin" ["_law_c"] (sp__law_begin K) := ⟨f29, fd29, ok__law_begin F29 c__law_chase, PySem.W.mg_of X G n29, F29.kp, b29⟩
  have c__law_names_of : Cal l.prog w K mg base 1 "_law_names_of" ["_law_m"] (sp__law_names_of K) := ⟨f30, fd30, ok__law_names_of F30, PySem.W.mg_of X G n30, F30.kp, b30⟩
  have c__law_put : Cal l.prog w K mg base 3 "_law_put" ["_law_m", "_law_literal"] (sp__law_put K) := ⟨f31, fd31, ok__law_put F31 T0.toGc c__law_chase c__law_up c__law_names_of, PySem.W.mg_of X G n31, F31.kp, b31⟩
  have c__law_some_sign : Cal l.prog w K mg base 3 "_law_some_sign" ["_law_stream", "_law_m"] (sp__law_some_sign K) := ⟨f32, fd32, ok__law_some_sign F32 c__law_pick c__law_draw, PySem.W.mg_of X G n32, F32.kp, b32⟩
  have c__law_draws : Cal l.prog w K mg base 3 "_law_draws" ["_law_clauses", "_law_some", "_law_literal"] (sp__law_draws K) := ⟨f33, fd33, ok__law_draws F33 c__law_chase, PySem.W.mg_of X G n33, F33.kp, b33⟩
  have c__law_thinned : Cal l.prog w K mg base 4 "_law_thinned" ["_law_clauses", "_law_put_here", "_law_literal"] (sp__law_thinned K) := ⟨f34, fd34, ok__law_thinned F34 T0.toGc c__law_draws, PySem.W.mg_of X G n34, F34.kp, b34⟩
  have c__law_follows : Cal l.prog w K mg base 2 "_law_follows" ["_law_fits_here", "_law_some", "_law_literal"] (sp__law_follows K) := ⟨f35, fd35, ok__law_follows F35 T0.toGc c__law_neg c__law_meets, PySem.W.mg_of X G n35, F35.kp, b35⟩
  have c__law_same : CalG l.prog w K mg base 1 "_law_same" ["_law_found", "_law_due"] (sp__law_same K) := ⟨f36, fd36, ok__law_same F36 T0.toGc, PySem.W.mg_of X G n36, F36.kp, b36⟩
  have cF__law_same : CalG l.prog w K mg base 1 "_law_same" ["_law_found", "_law_due"] (sp__law_sameF K) := ⟨f36, fd36, ok__law_sameF F36 T0.toGc, PySem.W.mg_of X G n36, F36.kp, b36⟩
  have RX : RefT K mg (He.ga K "Dead") (He.ga K "NotDead") (He.ga K "NotDrawn") := ⟨⟨f37, fd37, F37, PySem.W.mg_of X G n37, b37⟩, g_Dead, g_NotDead, g_NotDrawn, sx_NotDrawn.xf, sx_NotDrawn.no, ex_Dead_Dead, ex_NotDead_Dead, ex_NotDead_NotDead, ex_NotDrawn_Dead, ex_NotDrawn_NotDead, ex_NotDrawn_NotDrawn⟩
  have c__law_are_right : CalG l.prog w K mg base 9 "_law_are_right" ["_law_led", "_law_m", "_law_fits_here"] (sp__law_are_right K CL C P1) := ⟨f38, fd38, ok__law_are_right FC1 T0.toGc RX TB1 c__law_literals c__law_names_of c__law_thinned c__law_follows m_choices mX_why c__law_same, PySem.W.mg_of X G n38, F38.kp, b38⟩
  exact ok_law FC T0.toGc RX TB hP1 c__law_code c__law_begin c__law_made k_Led c__law_fulls c__law_names_of c__law_fits c__law_some_sign c__law_thinned c__law_are_right c__law_follows c__law_draw m_undo c__law_neg c__law_put m_put mX_why mX_blame c__law_same cF__law_same
end My

set_option Elab.async false
set_option linter.all false
set_option maxRecDepth 100000
set_option maxHeartbeats 0
namespace Hq
open PySem PySem.Spec PyProof.Rows L2 L3
section
variable {K : PySem.W.Frag}
theorem ns_of {x : Str} (c : (He.Fa.glo x).ok K = true) : PySem.W.nsIn K mainGlobals x = some (some (.ref (He.ga K x))) := He.eqO_ok c
theorem ns_none {x : Str} (c : (He.Fa.free x).ok K = true) : PySem.W.nsIn K mainGlobals x = some none := He.eqO_ok c
theorem ns_str {x z : Str} (c : (He.Fa.str x z).ok K = true) : ∃ t, PySem.W.nsIn K mainGlobals x = some (some (.str z t)) := by
  have c2 : (match PySem.W.nsIn K mainGlobals x with
    | some (some (.str y _)) => decide (y = z)
    | _ => false) = true := c
  cases e : PySem.W.nsIn K mainGlobals x with
  | none => rw [e] at c2; cases c2
  | some o =>
    rw [e] at c2
    cases o with
    | none => cases c2
    | some v =>
      cases v with
      | str y t =>
        have ej : y = z := of_decide_eq_true c2
        rw [ej]
        exact ⟨t, rfl⟩
      | _ => cases c2
theorem fun_of {x qn : Str} {st : Stmt} {f : Addr} (h : ∃ fd, FunD K x qn (defArgs st) (defBody st) (defScope st) [] [] f fd) : ∃ fd, Fun K x qn st f fd := by
  obtain ⟨fd, ⟨oc, od, dV, kV, doc, pm, an, cdv, ct, osl, e, l, c, d, _⟩, kp⟩ := h
  rcases d with ⟨_, rfl⟩ | ⟨h, _⟩
  · exact ⟨fd, ⟨oc, od, kV, doc, pm, an, cdv, ct, osl, e, l, c⟩, kp⟩
  · exact absurd rfl h
theorem at1_of {x : Str} {st : Stmt} (g : (He.Fa.glo x).ok K = true) (h : ∃ fd, FunD K x x (defArgs st) (defBody st) (defScope st) [] [] (He.ga K x) fd) : My.At1 K x st (He.ga K x) := ⟨ns_of g, fun_of h⟩
theorem atm_of {x m qn : Str} {st : Stmt} (g : (He.Fa.meth x m).ok K = true) (h : ∃ fd, FunD K m qn (defArgs st) (defBody st) (defScope st) [] [] (He.ma K (He.ga K x) m) fd) : My.AtM K (He.ga K x) m qn st (He.ma K (He.ga K x) m) := ⟨He.meth_ok g, fun_of h⟩
theorem ate_of {x m qn : Str} {st : Stmt} {e : Addr} (g : (He.Fa.meth x m).ok K = true) (h : ∃ fd, FunD K m qn (defArgs st) (defBody st) (defScope st) [.ref e] [] (He.ma K (He.ga K x) m) fd) : My.AtE K (He.ga K x) m qn st e (He.ma K (He.ga K x) m) := ⟨He.meth_ok g, h⟩
theorem atc_of {x : Str} (g : (He.Fa.glo x).ok K = true) (c : (He.Fa.cls x).ok K = true) (m : (He.Fa.mkr x).ok K = true) : My.AtC K x (He.ga K x) := by
  obtain ⟨c1, m2⟩ := He.ba m
  obtain ⟨c2, m3⟩ := He.ba m2
  obtain ⟨c3, c4⟩ := He.ba m3
  exact ⟨ns_of g, He.cls_ok c, c1, c4⟩
/-- the default of Code -/
def e0 (K : PySem.W.Frag) : Addr := He.dflAt ("Code", some "__init__") 0 K
end
/-! ### facts -/
def ns0 : List PySem.Str := ["_wall", "__name__", "OpenError", "BadNames", "BadClause", "Clash", "BadLiteral", "Dead", "IsSet", "NothingToUndo", "NotDrawn", "NotDead", "LETTERS", "is_list", "is_name", "checked_names", "name_of", "opposite", "is_literal", "first_wrong"]
def ns1 : List PySem.Str := ["ascending", "open_ones", "chase", "draws", "Led", "checked_clauses", "Code", "are_same", "_law_draw", "_law_pick", "_law_mixed", "_law_same", "_law_fresh", "_law_names", "_law_neg", "_law_up", "_law_fulls", "_law_literals", "_law_meets", "_law_fits"]
def ns2 : List PySem.Str := ["_law_chase", "_law_sided", "_law_clause", "_law_code", "_law_once", "_law_made", "_law_begin", "_law_names_of", "_law_put", "_law_some_sign", "_law_draws", "_law_thinned", "_law_told", "_law_follows", "_law_are_right"]
def ns : List PySem.Str := ns0 ++ ns1 ++ ns2
def fa0 : List He.Fa := [.glo "Code", .cls "Code", .mkr "Code", .glo "Led", .cls "Led", .mkr "Led", .glo "name_of", .glo "opposite", .glo "is_list", .glo "is_literal", .glo "first_wrong", .glo "ascending", .glo "is_name", .glo "checked_names", .glo "checked_clauses", .glo "open_ones", .glo "chase", .glo "draws", .glo "_law_draw", .glo "_law_pick"]
def fa1 : List He.Fa := [.glo "_law_mixed", .glo "_law_fresh", .glo "_law_names", .glo "_law_neg", .glo "_law_up", .glo "_law_fulls", .glo "_law_meets", .glo "_law_fits", .glo "_law_chase", .glo "_law_literals", .glo "_law_sided", .glo "_law_clause", .glo "_law_once", .glo "_law_code", .glo "_law_made", .glo "_law_begin", .glo "_law_names_of", .glo "_law_put", .glo "_law_some_sign", .glo "_law_draws"]
def fa2 : List He.Fa := [.glo "_law_thinned", .glo "_law_follows", .glo "_law_same", .glo "_law_told", .glo "_law_are_right", .glo "law", .meth "Code" "__init__", .meth "Led" "__init__", .meth "Led" "is_dead", .meth "Led" "put", .meth "Led" "undo", .meth "Led" "choices", .meth "Led" "thinned", .meth "Led" "why", .meth "Led" "blame", .noat "Code" "sign_row", .noat "Code" "helper_row", .noat "Code" "names", .noat "Code" "clause_row", .noat "Led" "kept"]
def fa3 : List He.Fa := [.noat "Led" "put_row", .noat "Led" "moments", .glo "NotDrawn", .exm "Dead" "Dead" true, .exm "NotDead" "Dead" false, .exm "NotDead" "NotDead" true, .exm "NotDrawn" "Dead" false, .exm "NotDrawn" "NotDead" false, .exm "NotDrawn" "NotDrawn" true, .free "len", .free "tuple", .free "list", .free "str", .free "int", .free "all", .free "any", .free "isinstance", .free "enumerate", .free "range", .free "repr"]
def fa4 : List He.Fa := [.free "bool", .free "dict", .str "LETTERS" My.g_LETTERS]
def fa : List He.Fa := fa0 ++ fa1 ++ fa2 ++ fa3 ++ fa4
def fn0 : List He.DefD := [⟨("name_of", none), "name_of", "name_of", L2.defArgs My.s_name_of, L2.defBody My.s_name_of, L2.defScope My.s_name_of, [], []⟩, ⟨("opposite", none), "opposite", "opposite", L2.defArgs My.s_opposite, L2.defBody My.s_opposite, L2.defScope My.s_opposite, [], []⟩, ⟨("is_list", none), "is_list", "is_list", L2.defArgs My.s_is_list, L2.defBody My.s_is_list, L2.defScope My.s_is_list, [], []⟩, ⟨("is_literal", none), "is_literal", "is_literal", L2.defArgs My.s_is_literal, L2.defBody My.s_is_literal, L2.defScope My.s_is_literal, [], []⟩, ⟨("first_wrong", none), "first_wrong", "first_wrong", L2.defArgs My.s_first_wrong, L2.defBody My.s_first_wrong, L2.defScope My.s_first_wrong, [], []⟩, ⟨("ascending", none), "ascending", "ascending", L2.defArgs My.s_ascending, L2.defBody My.s_ascending, L2.defScope My.s_ascending, [], []⟩, ⟨("is_name", none), "is_name", "is_name", L2.defArgs My.s_is_name, L2.defBody My.s_is_name, L2.defScope My.s_is_name, [], []⟩, ⟨("checked_names", none), "checked_names", "checked_names", L2.defArgs My.s_checked_names, L2.defBody My.s_checked_names, L2.defScope My.s_checked_names, [], []⟩, ⟨("checked_clauses", none), "checked_clauses", "checked_clauses", L2.defArgs My.s_checked_clauses, L2.defBody My.s_checked_clauses, L2.defScope My.s_checked_clauses, [], []⟩, ⟨("open_ones", none), "open_ones", "open_ones", L2.defArgs My.s_open_ones, L2.defBody My.s_open_ones, L2.defScope My.s_open_ones, [], []⟩]
def fn1 : List He.DefD := [⟨("chase", none), "chase", "chase", L2.defArgs My.s_chase, L2.defBody My.s_chase, L2.defScope My.s_chase, [], []⟩, ⟨("draws", none), "draws", "draws", L2.defArgs My.s_draws, L2.defBody My.s_draws, L2.defScope My.s_draws, [], []⟩, ⟨("_law_draw", none), "_law_draw", "_law_draw", L2.defArgs My.s__law_draw, L2.defBody My.s__law_draw, L2.defScope My.s__law_draw, [], []⟩, ⟨("_law_pick", none), "_law_pick", "_law_pick", L2.defArgs My.s__law_pick, L2.defBody My.s__law_pick, L2.defScope My.s__law_pick, [], []⟩, ⟨("_law_mixed", none), "_law_mixed", "_law_mixed", L2.defArgs My.s__law_mixed, L2.defBody My.s__law_mixed, L2.defScope My.s__law_mixed, [], []⟩, ⟨("_law_fresh", none), "_law_fresh", "_law_fresh", L2.defArgs My.s__law_fresh, L2.defBody My.s__law_fresh, L2.defScope My.s__law_fresh, [], []⟩, ⟨("_law_names", none), "_law_names", "_law_names", L2.defArgs My.s__law_names, L2.defBody My.s__law_names, L2.defScope My.s__law_names, [], []⟩, ⟨("_law_neg", none), "_law_neg", "_law_neg", L2.defArgs My.s__law_neg, L2.defBody My.s__law_neg, L2.defScope My.s__law_neg, [], []⟩, ⟨("_law_up", none), "_law_up", "_law_up", L2.defArgs My.s__law_up, L2.defBody My.s__law_up, L2.defScope My.s__law_up, [], []⟩, ⟨("_law_fulls", none), "_law_fulls", "_law_fulls", L2.defArgs My.s__law_fulls, L2.defBody My.s__law_fulls, L2.defScope My.s__law_fulls, [], []⟩]
def fn2 : List He.DefD := [⟨("_law_meets", none), "_law_meets", "_law_meets", L2.defArgs My.s__law_meets, L2.defBody My.s__law_meets, L2.defScope My.s__law_meets, [], []⟩, ⟨("_law_fits", none), "_law_fits", "_law_fits", L2.defArgs My.s__law_fits, L2.defBody My.s__law_fits, L2.defScope My.s__law_fits, [], []⟩, ⟨("_law_chase", none), "_law_chase", "_law_chase", L2.defArgs My.s__law_chase, L2.defBody My.s__law_chase, L2.defScope My.s__law_chase, [], []⟩, ⟨("_law_literals", none), "_law_literals", "_law_literals", L2.defArgs My.s__law_literals, L2.defBody My.s__law_literals, L2.defScope My.s__law_literals, [], []⟩, ⟨("_law_sided", none), "_law_sided", "_law_sided", L2.defArgs My.s__law_sided, L2.defBody My.s__law_sided, L2.defScope My.s__law_sided, [], []⟩, ⟨("_law_clause", none), "_law_clause", "_law_clause", L2.defArgs My.s__law_clause, L2.defBody My.s__law_clause, L2.defScope My.s__law_clause, [], []⟩, ⟨("_law_once", none), "_law_once", "_law_once", L2.defArgs My.s__law_once, L2.defBody My.s__law_once, L2.defScope My.s__law_once, [], []⟩, ⟨("_law_code", none), "_law_code", "_law_code", L2.defArgs My.s__law_code, L2.defBody My.s__law_code, L2.defScope My.s__law_code, [], []⟩, ⟨("_law_made", none), "_law_made", "_law_made", L2.defArgs My.s__law_made, L2.defBody My.s__law_made, L2.defScope My.s__law_made, [], []⟩, ⟨("_law_begin", none), "_law_begin", "_law_begin", L2.defArgs My.s__law_begin, L2.defBody My.s__law_begin, L2.defScope My.s__law_begin, [], []⟩]
def fn3 : List He.DefD := [⟨("_law_names_of", none), "_law_names_of", "_law_names_of", L2.defArgs My.s__law_names_of, L2.defBody My.s__law_names_of, L2.defScope My.s__law_names_of, [], []⟩, ⟨("_law_put", none), "_law_put", "_law_put", L2.defArgs My.s__law_put, L2.defBody My.s__law_put, L2.defScope My.s__law_put, [], []⟩, ⟨("_law_some_sign", none), "_law_some_sign", "_law_some_sign", L2.defArgs My.s__law_some_sign, L2.defBody My.s__law_some_sign, L2.defScope My.s__law_some_sign, [], []⟩, ⟨("_law_draws", none), "_law_draws", "_law_draws", L2.defArgs My.s__law_draws, L2.defBody My.s__law_draws, L2.defScope My.s__law_draws, [], []⟩, ⟨("_law_thinned", none), "_law_thinned", "_law_thinned", L2.defArgs My.s__law_thinned, L2.defBody My.s__law_thinned, L2.defScope My.s__law_thinned, [], []⟩, ⟨("_law_follows", none), "_law_follows", "_law_follows", L2.defArgs My.s__law_follows, L2.defBody My.s__law_follows, L2.defScope My.s__law_follows, [], []⟩, ⟨("_law_same", none), "_law_same", "_law_same", L2.defArgs My.s__law_same, L2.defBody My.s__law_same, L2.defScope My.s__law_same, [], []⟩, ⟨("_law_told", none), "_law_told", "_law_told", L2.defArgs My.s__law_told, L2.defBody My.s__law_told, L2.defScope My.s__law_told, [], []⟩, ⟨("_law_are_right", none), "_law_are_right", "_law_are_right", L2.defArgs My.s__law_are_right, L2.defBody My.s__law_are_right, L2.defScope My.s__law_are_right, [], []⟩, ⟨("law", none), "law", "law", L2.defArgs My.s_law, L2.defBody My.s_law, L2.defScope My.s_law, [], []⟩]
def fn4 : List He.DefD := [⟨("Code", some "__init__"), "__init__", "Code.__init__", L2.defArgs My.s_Code_init, L2.defBody My.s_Code_init, L2.defScope My.s_Code_init, [.adr Hq.e0], []⟩, ⟨("Led", some "__init__"), "__init__", "Led.__init__", L2.defArgs My.s_Led_init, L2.defBody My.s_Led_init, L2.defScope My.s_Led_init, [], []⟩, ⟨("Led", some "is_dead"), "is_dead", "Led.is_dead", L2.defArgs My.s_Led_is_dead, L2.defBody My.s_Led_is_dead, L2.defScope My.s_Led_is_dead, [], []⟩, ⟨("Led", some "put"), "put", "Led.put", L2.defArgs My.s_Led_put, L2.defBody My.s_Led_put, L2.defScope My.s_Led_put, [], []⟩, ⟨("Led", some "undo"), "undo", "Led.undo", L2.defArgs My.s_Led_undo, L2.defBody My.s_Led_undo, L2.defScope My.s_Led_undo, [], []⟩, ⟨("Led", some "choices"), "choices", "Led.choices", L2.defArgs My.s_Led_choices, L2.defBody My.s_Led_choices, L2.defScope My.s_Led_choices, [], []⟩, ⟨("Led", some "thinned"), "thinned", "Led.thinned", L2.defArgs My.s_Led_thinned, L2.defBody My.s_Led_thinned, L2.defScope My.s_Led_thinned, [], []⟩, ⟨("Led", some "why"), "why", "Led.why", L2.defArgs My.s_Led_why, L2.defBody My.s_Led_why, L2.defScope My.s_Led_why, [], []⟩, ⟨("Led", some "blame"), "blame", "Led.blame", L2.defArgs My.s_Led_blame, L2.defBody My.s_Led_blame, L2.defScope My.s_Led_blame, [], []⟩]
def fn : List He.DefD := fn0 ++ fn1 ++ fn2 ++ fn3 ++ fn4
abbrev R : PySem.W.OpenRow := PySem.W.OpenLaw.row PySem.Challenge.rw_lastopen_k22_why_and_blame
def fx (K : PySem.W.Frag) : Bool := ((He.Fa.glo "Dead").ok K) && ((PySem.W.keepIn K (.ref (He.ga K "Dead"))) && ((PySem.W.excIn K (He.ga K "Dead") PySem.HandSPX.veTail "ValueError.__new__") && ((decide (PySem.W.subIn K (.ref (He.ga K "Dead")) (.type "BaseException") = some true)) && ((decide (PySem.W.typeIn K (.ref (He.ga K "Dead")) = some (.type "type"))) && (((He.Fa.glo "NotDead").ok K) && ((PySem.W.keepIn K (.ref (He.ga K "NotDead"))) && ((PySem.W.excIn K (He.ga K "NotDead") PySem.HandSPX.veTail "ValueError.__new__") && ((decide (PySem.W.subIn K (.ref (He.ga K "NotDead")) (.type "BaseException") = some true)) && ((decide (PySem.W.typeIn K (.ref (He.ga K "NotDead")) = some (.type "type"))) && ((L3.supB R.prog K "NotDrawn" "NotDrawn.__init__" "literal") && (true)))))))))))
/-- what an object names, once each -/
def refs (o : Obj) : List Addr := match o.data with
  | .seq its _ => its.toList.flatMap He.refV
  | .dict es _ => es.toList.flatMap fun e => He.refV e.val
  | .func fd => He.refV fd.code ++ He.refV fd.defaults ++ fd.closure.map (·.2)
  | .cls cd => [cd.ns]
  | _ => []
def lay (g : Addr → Option Obj) : Nat → List Addr → List Addr
  | 0, l => l
  | n + 1, l => l ++ lay g n (l.flatMap fun a => match g a with
    | some o => refs o
    | none => [])
def xw (K : PySem.W.Frag) : List L3.FnC := [L3.fnC K "NotDrawn"]
def xv : List L3.FnC := [L3.fnCv "NotDrawn.__init__" My.s_NotDrawn_init]
abbrev lawD : He.Defn := ("law", none)
abbrev d1 : He.Defn := ("_law_are_right", none)
/-- the code objects and their tables: empty, not in K, apart -/
def TbD (d : He.Defn) (K : PySem.W.Frag) (h : Heap) : Prop := PySem.W.codeHdIn K (He.cT K d).1 (He.cT K d).2 = true ∧ K.lookup (He.cT K d).2 = none ∧ h.get? (He.cT K d).2 = some { cls := .none, data := .fields #[] }
def allD : List He.Defn := [lawD, d1]
def apart (K : PySem.W.Frag) : Bool := [d1].all fun d => !((He.cT K lawD).2 == (He.cT K d).2)
def Tb (K : PySem.W.Frag) (h : Heap) : Prop := (∀ d ∈ allD, TbD d K h) ∧ apart K = true
theorem tb_ok {h : Heap} {l : List Addr} (e : (He.tabsB h.get? allD (He.frT h.get? l) && apart (He.frT h.get? l)) = true) : Tb (He.frT h.get? l) h := by
  obtain ⟨e1, e2⟩ := He.ba e
  refine ⟨fun d hd => ?_, e2⟩
  obtain ⟨h3, h4⟩ := He.ba (List.all_eq_true.mp e1 d hd)
  cases q : h.get? (He.cT (He.frT h.get? l) d).2 with
  | none => rw [q] at h4; cases h4
  | some o =>
    rw [q] at h4
    have h4 : He.emptyTab o = true := h4
    exact ⟨h3, He.frT_none q h4, by rw [q, He.emptyTab_eq h4]⟩
theorem apart_ne {K : PySem.W.Frag} {d : He.Defn} (h : apart K = true) (hd : d ∈ [d1]) : (He.cT K lawD).2 ≠ (He.cT K d).2 := fun e => by
  have := List.all_eq_true.mp h d hd
  rw [e, beq_self_eq_true] at this
  cases this
def spL (K : PySem.W.Frag) (cs : List (Addr × Addr)) : Sp := match cs with
  | [a, a1] => My.sp_law K a.2 a1.2
  | _ => fun _ _ _ _ => True
abbrev Al : Type := ((Bool × Bool) × List L3.FnC) × He.AlD
def obK (g : Addr → Option Obj) (K : PySem.W.Frag) : Al := (((fx K, He.tabsB g allD K && apart K), xw K), He.obsD fa fn K)
def obX (g : Addr → Option Obj) : Al := obK g (He.frT g (lay g 5 [mainGlobals, cStatics]))
def hk : PySem.W.Hook where
  α := Al
  obs := fun s => obX s.heap.get?
  val := fun _ => (((true, true), xv), He.valD fn)
  says := fun _ h => ∃ K : PySem.W.Frag, K.In h ∧ He.SaysD fa fn K ∧ fx K = true ∧ xw K = xv ∧ Tb K h
  of := fun _ _ e => ⟨_, He.frT_in, congrArg Prod.snd e, congrArg (fun z => z.1.1.1) e, congrArg (fun z => z.1.2) e, tb_ok (congrArg (fun z => z.1.1.2) e)⟩
  keeps := fun _ _ _ ⟨K, hK, c1, c2, c3, t, t2⟩ k => ⟨K, PySem.W.Frag.In.keeps hK k, c1, c2, c3, fun d hd => let ⟨a, b, c⟩ := t d hd; ⟨a, b, k _ _ c⟩, t2⟩
theorem top : (R.prog.main.scope.names.lookup ("super" : Str)).isSome = false := by kernel_rfl
def ob (s : PySem.W.SharedT) : Al := obX (HandSHeadRun.getT s)
theorem ob_eq (s : PySem.W.SharedT) : ob s = hk.obs s.abs := by
  have e : HandSHeadRun.getT s = s.abs.heap.get? := funext (HandSHeadRun.getT_eq s)
  unfold ob
  rw [e] <;> rfl
theorem run (w : World) : HandSHeadRun.RunEq R (PySem.W.view R.prog [60]) hk ob 40000 ns w := by
  intro os
  kernel_rfl
theorem facts {w : World} {K : PySem.W.Frag} {h : Heap} {mg : Str → Option Value} {f : Addr} (X : K.In h) (G : h.Ns mainGlobals mg) (hfa : mg ("law" : Str) = some (.ref f)) (c : He.SaysD fa fn K) (cx : fx K = true) (cw : xw K = xv) (tb : Tb K h) :
    ∃ (fd : FuncData) (cs : List (Addr × Addr)), (∀ p ∈ cs, PySem.W.codeHdIn K p.1 p.2 = true ∧ K.lookup p.2 = none ∧ h.get? p.2 = some { cls := .none, data := .fields #[] }) ∧ (∀ (s : Shared) (v : Value), BindsTo s fd ⟨[v], []⟩ [("_law_script", v)]) ∧ ∀ base : Heap, K.In base → base.Ns mainGlobals mg → (∀ p ∈ cs, LamX.TabB base mg p.1 p.2) → FnG (PySem.Challenge.rw_lastopen_k22_why_and_blame).prog w K mg base CX0 10 f fd ["_law_script"] (spL K cs) := by
  obtain ⟨x0, cx⟩ := He.ba cx
  obtain ⟨x1, cx⟩ := He.ba cx
  obtain ⟨x2, cx⟩ := He.ba cx
  obtain ⟨x3, cx⟩ := He.ba cx
  obtain ⟨x4, cx⟩ := He.ba cx
  obtain ⟨x5, cx⟩ := He.ba cx
  obtain ⟨x6, cx⟩ := He.ba cx
  obtain ⟨x7, cx⟩ := He.ba cx
  obtain ⟨x8, cx⟩ := He.ba cx
  obtain ⟨x9, cx⟩ := He.ba cx
  obtain ⟨x10, cx⟩ := He.ba cx
  obtain ⟨lt, lL⟩ := Hq.ns_str (c.fact 82)
  obtain ⟨fd, cd, cd1, hb, ⟨oc, od, kV, doc, pm, an, ct, osl, lk⟩, ⟨oc1, od1, kV1, doc1, pm1, an1, ct1, osl1, lk1⟩, hF⟩ := My.all_mk (l := PySem.Challenge.rw_lastopen_k22_why_and_blame) X G hfa (Hq.atc_of (c.fact 0) (c.fact 1) (c.fact 2)) (Hq.atc_of (c.fact 3) (c.fact 4) (c.fact 5)) (Hq.at1_of (c.fact 6) (c.def_ 0)) (Hq.at1_of (c.fact 7) (c.def_ 1)) (Hq.at1_of (c.fact 8) (c.def_ 2)) (Hq.at1_of (c.fact 9) (c.def_ 3)) (Hq.at1_of (c.fact 10) (c.def_ 4)) (Hq.at1_of (c.fact 11) (c.def_ 5)) (Hq.at1_of (c.fact 12) (c.def_ 6)) (Hq.at1_of (c.fact 13) (c.def_ 7)) (Hq.at1_of (c.fact 14) (c.def_ 8)) (Hq.at1_of (c.fact 15) (c.def_ 9)) (Hq.at1_of (c.fact 16) (c.def_ 10)) (Hq.at1_of (c.fact 17) (c.def_ 11)) (Hq.at1_of (c.fact 18) (c.def_ 12)) (Hq.at1_of (c.fact 19) (c.def_ 13)) (Hq.at1_of (c.fact 20) (c.def_ 14)) (Hq.at1_of (c.fact 21) (c.def_ 15)) (Hq.at1_of (c.fact 22) (c.def_ 16)) (Hq.at1_of (c.fact 23) (c.def_ 17)) (Hq.at1_of (c.fact 24) (c.def_ 18)) (Hq.at1_of (c.fact 25) (c.def_ 19)) (Hq.at1_of (c.fact 26) (c.def_ 20)) (Hq.at1_of (c.fact 27) (c.def_ 21)) (Hq.at1_of (c.fact 28) (c.def_ 22)) (Hq.at1_of (c.fact 29) (c.def_ 23)) (Hq.at1_of (c.fact 30) (c.def_ 24)) (Hq.at1_of (c.fact 31) (c.def_ 25)) (Hq.at1_of (c.fact 32) (c.def_ 26)) (Hq.at1_of (c.fact 33) (c.def_ 27)) (Hq.at1_of (c.fact 34) (c.def_ 28)) (Hq.at1_of (c.fact 35) (c.def_ 29)) (Hq.at1_of (c.fact 36) (c.def_ 30)) (Hq.at1_of (c.fact 37) (c.def_ 31)) (Hq.at1_of (c.fact 38) (c.def_ 32)) (Hq.at1_of (c.fact 39) (c.def_ 33)) (Hq.at1_of (c.fact 40) (c.def_ 34)) (Hq.at1_of (c.fact 41) (c.def_ 35)) (Hq.at1_of (c.fact 42) (c.def_ 36)) (Hq.at1_of (c.fact 43) (c.def_ 37)) (Hq.at1_of (c.fact 44) (c.def_ 38)) (Hq.at1_of (c.fact 45) (c.def_ 39)) (Hq.ate_of (c.fact 46) (c.def_ 40)) (Hq.atm_of (c.fact 47) (c.def_ 41)) (Hq.atm_of (c.fact 48) (c.def_ 42)) (Hq.atm_of (c.fact 49) (c.def_ 43)) (Hq.atm_of (c.fact 50) (c.def_ 44)) (Hq.atm_of (c.fact 51) (c.def_ 45)) (Hq.atm_of (c.fact 52) (c.def_ 46)) (Hq.atm_of (c.fact 53) (c.def_ 47)) (Hq.atm_of (c.fact 54) (c.def_ 48)) (He.noat_ok (c.fact 55)) (He.noat_ok (c.fact 56)) (He.noat_ok (c.fact 57)) (He.noat_ok (c.fact 58)) (He.noat_ok (c.fact 59)) (He.noat_ok (c.fact 60)) (He.noat_ok (c.fact 61)) lL x0 x1 x2 (of_decide_eq_true x3) (of_decide_eq_true x4) x5 x6 x7 (of_decide_eq_true x8) (of_decide_eq_true x9) (c.fact 62) (supB_ok x10 (congrArg (fun l : List L3.FnC => l.getD 0 none) cw) top) (He.exm_ok (c.fact 63)) (He.exm_ok (c.fact 64)) (He.exm_ok (c.fact 65)) (He.exm_ok (c.fact 66)) (He.exm_ok (c.fact 67)) (He.exm_ok (c.fact 68)) (Hq.ns_none (c.fact 69)) (Hq.ns_none (c.fact 70)) (Hq.ns_none (c.fact 71)) (Hq.ns_none (c.fact 72)) (Hq.ns_none (c.fact 73)) (Hq.ns_none (c.fact 74)) (Hq.ns_none (c.fact 75)) (Hq.ns_none (c.fact 76)) (Hq.ns_none (c.fact 77)) (Hq.ns_none (c.fact 78)) (Hq.ns_none (c.fact 79)) (Hq.ns_none (c.fact 80)) (Hq.ns_none (c.fact 81))
  have ec : He.codeOf K lawD = cd := He.codeOf_eq lk rfl
  have ec1 : He.codeOf K d1 = cd1 := He.codeOf_eq lk1 rfl
  refine ⟨fd, [He.cT K lawD, He.cT K d1], fun p hp => ?_, hb, fun base B N TB => hF base _ _ B N (by have z := TB (He.cT K lawD) (by simp); rw [show (He.cT K lawD).1 = cd from ec] at z; exact z) (by have z := TB (He.cT K d1) (by simp); rw [show (He.cT K d1).1 = cd1 from ec1] at z; exact z) (apart_ne tb.2 (by simp))⟩
  obtain ⟨d, hd, rfl⟩ := List.mem_map.mp (show p ∈ allD.map (He.cT K) from hp)
  exact tb.1 d hd
end Hq
open PySem PySem.W PySem.Calls PyProof.Rows
theorem PySem.Challenge.cw_lastopen_k22_why_and_blame_holds : PySem.Challenge.rw_lastopen_k22_why_and_blame.Holds := by
  w_on; o_law
  refine HandSHeadRun.head_any (r := OpenLaw.row PySem.Challenge.rw_lastopen_k22_why_and_blame) (q := view (OpenLaw.row PySem.Challenge.rw_lastopen_k22_why_and_blame).prog [60]) (H := Hq.hk) (ob := Hq.ob) (M := 40000) (loose := Hq.ns) (d := HandSHeadRun.topDef (OpenLaw.row PySem.Challenge.rw_lastopen_k22_why_and_blame).prog 60) (kwd := []) Hq.ob_eq
    (by kernel_rfl) (fun s => by kernel_rfl) Hq.run (by kernel_rfl) (by kernel_rfl) (by kernel_rfl) (by rfl) (by first | assumption | decide +kernel) (by decide +kernel) ⟨rfl, rfl, rfl, rfl, rfl, by decide +kernel⟩ ?hw ?hc
  case hw => w_witness2
  case hc =>
    refine L3.walk_GTs (n := 63) (k := 10) (x := "_law_script") (sp := Hq.spL) (l := PySem.Challenge.rw_lastopen_k22_why_and_blame) rfl (by decide) (by kernel_rfl) ⟨rfl, by decide, by decide⟩ ?F ?S
    case S => exact fun K cs H a ns hl hb hP hs only => match cs, hP, only with
      | [za, za1], hP, only => let ⟨M, m1, m2, m3, m4⟩ := L3.start_laws (Pt := [za.2, za1.2]) (fun b hb => by obtain ⟨p, hp, e⟩ := List.mem_map.mp (show b ∈ [za, za1].map (·.2) from hb); rw [← e]; exact hP p hp) hs only; ⟨ns, M, .ref a, rfl, m1, m2, m3 _ (by simp), m3 _ (by simp), m4, hP za (by simp), hP za1 (by simp), fun _ => rfl⟩
      | [], _, _ => trivial
      | [_], _, _ => trivial
      | _ :: _ :: _ :: _, _, _ => trivial
    case F =>
      intro w mg fa h Y G hmg0
      obtain ⟨K, KX, c, cx, cw, tb⟩ := Y
      have hmg : mg ("law" : PySem.Str) = some (.ref fa) := by
        have e : (HandSHeadRun.topDef (OpenLaw.row PySem.Challenge.rw_lastopen_k22_why_and_blame).prog 60).name = ("law" : PySem.Str) := by kernel_rfl
        rw [← e]
        exact hmg0
      obtain ⟨fd, cs, ht, hb, hF⟩ := Hq.facts (w := w) KX G hmg c cx cw tb
      exact ⟨K, fd, cs, KX, ht, hb, hF⟩

