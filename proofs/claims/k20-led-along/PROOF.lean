import PyProof.Rows.All
import Wide.All
import OpenK.AllK
import Wide.FinOn
import HandS.ForMost
import HandS.Deep
import HandS.IsInst
import HandS.Conv
import HandS.DictComp
import HandS.EndBits
import HandS.Wide
import HandS.Flow
import KE.DataEq
import HandS.TupAny
import HandS.Walk
import KE.GoesEnum
import KE.KDictSum
import HandS.Defaults
import HandS.Style
import HandS.SlotsOwn
import HandS.Star
import HandS.OwnEq
import KE.DataFind
import HandS.More
import HandS.Text
import HandS.Strs
import KE.KSuper
import KE.KExcSuper
import KE.KExcMake
import HandS.Base
import HandS.Call
import HandS.Exc
import HandS.ExcInit
import HandS.Nested
import HandS.WordsExc
import HandS.ExcField
import HandS.TryMany
import HandS.TryOnly
import HandS.Words
import HandS.HeadHook1
import HandS.HeadHook2
import HandS.Lambda
import KE.KNestM
import HandS.HotCalls
import PySem.Challenge.RW_lastopen_k20_led_along
import HandS.Codes
import PyProof.EqKinds
import PyProof.FactsAll.dict_1
import PyProof.FactsAll.subtypes_3
import PyProof.FactsAll.subtypes_4
import OpenK.KMeth
import PyProof.SliceList
import KE.KRevSl
import KE.KOpsOwn
import HandS.ExcOwn
import HandS.DictEq
import HandS.NoneIn
import HandS.Head0
import HandS.Head1
import HandS.Head2
set_option Elab.async false
set_option linter.all false
set_option maxRecDepth 100000
set_option maxHeartbeats 1000000
namespace L3
open PySem L2

/-! the ghost part M of the heap: what never changes from here on -/
structure Gr (M H M' H' : Hp) : Prop where
  mm : Same M M'
  hh : Same H H'
  mh : Same M' H'
  nw : ∀ a o, M' a = some o → M a = some o ∨ H a = none ∨ ∃ xs, o = HO.tup xs
  nt : ∀ a ps, M' a = some (.tbl ps) → M a = some (.tbl ps)
theorem same_new {H : Hp} {p : Addr} {o : HO} (h : H p = none) : Same H (upd H p o) := fun b u e => by
  rw [upd_ne (ne_of_none e h)]; exact e
theorem same_mut {M H : Hp} {p : Addr} {o : HO} (e : Same M H) (h : M p = none) : Same M (upd H p o) := fun b u q => by
  rw [upd_ne (ne_of_none q h)]; exact e b u q
theorem Gr.refl {M H : Hp} (mh : Same M H) : Gr M H M H := ⟨Same.refl M, Same.refl H, mh, fun _ _ e => .inl e, fun _ _ e => e⟩
theorem Gr.trans {M H M1 H1 M2 H2 : Hp} (a : Gr M H M1 H1) (b : Gr M1 H1 M2 H2) : Gr M H M2 H2 :=
  ⟨a.mm.trans b.mm, a.hh.trans b.hh, b.mh, fun x o e => by
    rcases b.nw x o e with h | h | h
    · exact a.nw x o h
    · exact .inr (.inl (a.hh.free h))
    · exact .inr (.inr h), fun x ps e => a.nt x ps (b.nt x ps e)⟩
theorem upd_nt {M : Hp} {p : Addr} {o : HO} (hn : ∀ ps, o ≠ HO.tbl ps) (a : Addr) (ps : Array Value) (e : upd M p o a = some (.tbl ps)) : M a = some (.tbl ps) := by
  by_cases h : a = p
  · subst h; rw [upd_same] at e; exact absurd (Option.some.inj e) (hn ps)
  · rw [upd_ne h] at e; exact e
/-- a new object that is known from now on; one that may still change -/
theorem Gr.new {M H : Hp} {p : Addr} {o : HO} (mh : Same M H) (hp : H p = none) (hn : ∀ ps, o ≠ HO.tbl ps := by intro _ z; cases z) : Gr M H (upd M p o) (upd H p o) := by
  refine ⟨same_new (mh.free hp), same_new hp, fun b u e => ?_, fun b u e => ?_, upd_nt hn⟩
  · by_cases hb : b = p
    · subst hb; rw [upd_same] at e ⊢; exact e
    · rw [upd_ne hb] at e ⊢; exact mh b u e
  · by_cases hb : b = p
    · subst hb; exact .inr (.inl hp)
    · rw [upd_ne hb] at e; exact .inl e
theorem Gr.own {M H : Hp} {p : Addr} {o : HO} (mh : Same M H) (hp : H p = none) : Gr M H M (upd H p o) :=
  ⟨Same.refl M, same_new hp, same_mut mh (mh.free hp), fun _ _ e => .inl e, fun _ _ e => e⟩
/-- an object of ours changes -/
theorem Gr.mut {M0 H0 M H : Hp} {p : Addr} {o : HO} (g : Gr M0 H0 M H) (h0 : H0 p = none) (hm : M p = none) : Gr M0 H0 M (upd H p o) :=
  ⟨g.mm, same_mut g.hh h0, same_mut g.mh hm, g.nw, g.nt⟩
/-- an object of ours is known from now on -/
theorem Gr.freeze {M0 H0 M H : Hp} {p : Addr} {o : HO} (g : Gr M0 H0 M H) (h0 : H0 p = none) (hm : M p = none) (hp : H p = some o) (hn : ∀ ps, o ≠ HO.tbl ps := by intro _ z; cases z) : Gr M0 H0 (upd M p o) H := by
  refine ⟨g.mm.trans (same_new hm), g.hh, fun b u e => ?_, fun b u e => ?_, fun b ps e => g.nt b ps (upd_nt hn b ps e)⟩
  · by_cases hb : b = p
    · subst hb; rw [upd_same] at e; rw [hp]; exact e
    · rw [upd_ne hb] at e; exact g.mh b u e
  · by_cases hb : b = p
    · subst hb; exact .inr (.inl h0)
    · rw [upd_ne hb] at e; exact g.nw b u e
theorem Gr.keep {M H M' H' : Hp} {p : Addr} {o : HO} (g : Gr M H M' H') (hm : M p = none) (hp : H p = some o) (hn : ∀ xs, o ≠ HO.tup xs := by intro _ z; cases z) : M' p = none := by
  cases e : M' p with
  | none => rfl
  | some u =>
    rcases g.nw p u e with h | h | ⟨xs, h⟩
    · rw [hm] at h; cases h
    · rw [hp] at h; cases h
    · subst h
      have h1 := g.mh p _ e
      rw [g.hh p _ hp] at h1
      exact absurd (Option.some.inj h1) (hn xs)
/-- tuples that stand may be known at any time -/
def withT (M H : Hp) (bs : List Addr) : Hp := fun a => (M a).or (if a ∈ bs then H a else none)
theorem withT_in {M H : Hp} {bs : List Addr} {a : Addr} {o : HO} (mh : Same M H) (ha : a ∈ bs) (h : H a = some o) : withT M H bs a = some o := by
  unfold withT
  cases e : M a with
  | none => rw [if_pos ha]; exact h
  | some u => have := mh a u e; rw [h] at this; cases this; rfl
theorem Gr.tups {M H : Hp} {bs : List Addr} (mh : Same M H) (hb : ∀ b ∈ bs, ∃ xs, H b = some (.tup xs)) : Gr M H (withT M H bs) H := by
  refine ⟨fun a o e => by unfold withT; rw [e]; rfl, Same.refl H, fun a o e => ?_, fun a o e => ?_, fun a ps e => ?_⟩
  · unfold withT at e
    cases q : M a with
    | some u => rw [q] at e; cases e; exact mh a _ q
    | none =>
      rw [q] at e
      by_cases ha : a ∈ bs
      · rw [if_pos ha] at e; exact e
      · rw [if_neg ha] at e; cases e
  · unfold withT at e
    cases q : M a with
    | some u => rw [q] at e; exact .inl e
    | none =>
      rw [q] at e
      by_cases ha : a ∈ bs
      · rw [if_pos ha] at e
        obtain ⟨xs, h⟩ := hb a ha
        have e' : H a = some o := e
        rw [h] at e'
        cases e'
        exact .inr (.inr ⟨xs, rfl⟩)
      · rw [if_neg ha] at e; cases e
  · unfold withT at e
    cases q : M a with
    | some u => rw [q] at e; exact e
    | none =>
      rw [q] at e
      by_cases ha : a ∈ bs
      · rw [if_pos ha] at e
        obtain ⟨xs, h⟩ := hb a ha
        have e' : H a = some (.tbl ps) := e
        rw [h] at e'
        cases e'
      · rw [if_neg ha] at e; cases e
theorem rd_mono {H H' : Hp} {a : Addr} {u : HO} (e : Same H H') (h : Rd H a u) : Rd H' a u := by
  rcases h with h | ⟨o, h⟩
  · exact Or.inl (e a _ h)
  · exact Or.inr ⟨o, e a _ h⟩
theorem sl_mono {K : PySem.W.Frag} {H H' : Hp} {a : Addr} {xs : List V} (e : Same H H') (h : SqL K H a xs) : SqL K H' a xs := by
  rcases h with h | h
  · exact Or.inl (rd_mono e h)
  · exact Or.inr h
theorem st_mono {K : PySem.W.Frag} {H H' : Hp} {a : Addr} {xs : List V} (e : Same H H') (h : SqT K H a xs) : SqT K H' a xs := by
  rcases h with h | h
  · exact Or.inl (rd_mono e h)
  · exact Or.inr h
mutual
theorem dp_mono {K : PySem.W.Frag} {H H' : Hp} (e : Same H H') : ∀ {v : V} {d : PyData}, Dp K H v d → Dp K H' v d
  | _, _, .non => .non
  | _, _, .bl b => .bl b
  | _, _, .int i => .int i
  | _, _, .str x => .str x
  | _, _, .lst hs ha => .lst (sl_mono e hs) (dpa_mono e ha)
  | _, _, .tup hs ha => .tup (st_mono e hs) (dpa_mono e ha)
theorem dpa_mono {K : PySem.W.Frag} {H H' : Hp} (e : Same H H') : ∀ {vs : List V} {ds : List PyData}, DpAll K H vs ds → DpAll K H' vs ds
  | _, _, .nil => .nil
  | _, _, .cons h t => .cons (dp_mono e h) (dpa_mono e t)
end
end L3

set_option Elab.async false
set_option linter.all false
set_option maxRecDepth 100000
set_option maxHeartbeats 1000000
namespace L3
open PySem PySem.Spec PyProof.Rows L2

/-! defs whose text asks repr: no repr is under way around them -/
structure FnG (P : Program) (w : World) (K : PySem.W.Frag) (mg : Str → Option Value) (base : Heap) (CX : CXT) (k : Nat) (f : Addr) (fd : FuncData) (ps : List Str) (sp : Sp) : Prop where
  len (vs : List V) (H : Hp) (Q : VK) (E : XK) : sp vs H Q E → vs.length = ps.length
  run : ∀ (A : Around) (outer : List Env) (s : Shared) (H : Hp) (args : Args) (us : List Value) (vs : List V) (Q : VK) (E : XK), A.guards = some [] → Room k A →
    Env0 P w K mg base A outer s H → BindsTo s fd args (ps.zip us) → Vals vs us → sp vs H Q E → codeAny (model P w) A (.call (.ref f) args) (CR CX outer P w H s Q E) s
section
variable {P : Program} {w : World} {K : PySem.W.Frag} {mg : Str → Option Value} {base : Heap} {CX : CXT} {k : Nat} {f : Addr} {fd : FuncData} {ps : List Str} {sp : Sp}
theorem FnG.of (F : FnOk P w K mg base CX k f fd ps sp) : FnG P w K mg base CX k f fd ps sp :=
  ⟨F.len, fun A outer s H args us vs Q E _ hr he hb hv h => F.run A outer s H args us vs Q E hr he hb hv h⟩
theorem FnG.mono {j : Nat} (F : FnG P w K mg base CX j f fd ps sp) (h : j ≤ k) : FnG P w K mg base CX k f fd ps sp :=
  ⟨F.len, fun A outer s H args us vs Q E hg hr he hb hv hs => F.run A outer s H args us vs Q E hg (hr.mono h) he hb hv hs⟩
end
/-- a def of the text keeps its promise where no repr is under way: its body is walked in the new frame, and each way out of the body is a way out of the call -/
theorem fun_okG {P : Program} {w : World} {K : PySem.W.Frag} {mg : Str → Option Value} {base : Heap} {x qual : Str} {st : Stmt} {f : Addr} {fd : FuncData} {N ps : List Str} {k : Nat} {sp : Sp} (F : Fun K x qual st f fd) (S : FnScope N ps (defScope st))
    (ar : ∀ vs H Q E, sp vs H Q E → vs.length = ps.length) (hb : ∀ (cdv : Value) (A : Around) (outer : List Env) (s : Shared) (H : Hp) (vs : List V) (Q : VK) (E : XK), A.guards = some [] → Room k (A.deeper (envOfC qual (defScope st) s.heap.objs.size f cdv)) → sp vs H Q E →
      ∃ t, PSs (cxOf CX0 P w K mg base N qual (defScope st) f cdv A outer s H E).nox (defBody st) t ∧ t { nx := fun _ H' => Q .non H', rt := Q } (start N vs) H) :
    FnG P w K mg base CX0 (k + 1) f fd ps sp where
  len := ar
  run A outer s H args us vs Q E hgu hr e0 hbi rv hsp := by
    have ⟨c1, c2, c3, c4, c5, c6, cdv, c7, c8, efd, lk, hcd⟩ := F.ex
    subst efd
    have grown : ∀ b o, base.get? b = some o → s.heap.get? b = some o := fun b o e => (e0.bs b o e).1
    have inK := e0.mod.kin.keeps grown
    apply codeAny_call_function hr.depth (inK _ _ lk) rfl S.co S.gen rfl (PySem.W.codeRec_of inK hcd)
    apply hbi
    refine wpAny_newFunctionEnv_cells S.kind (fun ⟨n, v⟩ hy => ?_) fun env he s1 new => ?_
    · rcases S.par n (List.of_mem_zip hy).1 with q | q
      · exact .inl q
      · exact .inr ⟨q, PySem.W.cellsFrom_some _ _ _ (.inl q)⟩
    subst he
    have ⟨t, pt, q⟩ := hb cdv A outer s H vs Q E hgu (hr.deeper _) hsp
    have I0 := inv_start (CX := CX0) (E := E) S hr.hd e0 (ar _ _ _ _ hsp) rv new
    refine ⟨(e0.mod.nolimit.keeps grown).keeps new.toInCall.keep, codeAny_func (wpAny_mono (pt.nox.run [] s1 _ H _ I0 q) ?_ fun _ _ z => z)⟩
    rintro (_ | _ | _ | u) s2 h2
    · have ⟨_, _, J, z⟩ := h2
      exact ⟨V.non, _, J.os, J.bare, J.base, J.hok, rfl, z⟩
    · exact h2.elim fun _ h => h.elim fun _ h => h.2.elim
    · exact h2.elim fun _ h => h.elim fun _ h => h.2.elim
    · have ⟨v, _, _, J, ru, z⟩ := h2
      exact ⟨v, _, J.os, J.bare, J.base, J.hok, ru, z⟩
section
variable {X : Cx} {CX : CXT} {k : Nat} {f C : Addr} {fd : FuncData} {ps : List Str} {sp : Sp} {dvs : List V} {ds : List Value} {E : XK} {x : Str} {p pos : Pos} {e : Expr} {es : List Expr} {t : TA}
theorem run_fnG {pins : List (Addr × Obj)} {σ : L2.St} {H : Hp} {s : Shared} {Q : VK} {us : List Value} {vs : List V} (F : FnG X.prog X.w X.K X.mg X.base CX k f fd ps sp) (hgu : X.A.guards = some []) (hr : Room k X.A) (hb : Binds X.K fd ps ds) (hd : Vals dvs ds) (hx : Passes CX X E) (I : Inv X pins σ H s) (rv : Vals vs us)
    (h : sp (vs ++ dvs) H Q E) : wpAny (model X.prog X.w) X.A (call (.ref f) us) (EP X pins σ Q) X.xe s := by
  have rr := rv.append hd
  have bind := hb s us I.kIn (rr.length ▸ F.len _ _ _ _ h)
  apply wpAny_call
  apply codeAny_mono (F.run X.A X.stack s H ⟨us, []⟩ _ _ Q E hgu hr I.env0 bind rr h)
  rintro (e | fl) s' hq
  · exact hx pins σ H s e s' I hq
  · cases fl with
    | ret u => exact I.after hq
    | _ => exact hq.elim
theorem pe_callG (F : FnG X.prog X.w X.K X.mg X.base CX k f fd ps sp) (hgu : X.A.guards = some []) (hr : Room k X.A) (hg : Gl X x) (hm : X.mg x = some (.ref f)) (hk : PySem.W.keepIn X.K (.ref f) = true) (hb : Binds X.K fd ps ds) (hd : Vals dvs ds) (hx : Passes CX X E)
    (ha : PA X (e :: es) t) (hdb : (x == ("__debug__" : Str)) = false := by decide) (he : starEach (e :: es) X.env = (false, eval e X.env) :: starEach es X.env := by rfl) (hpl : (backTo pos (starEach es X.env)).any (·.1) = false := by rfl) :
    PE X (.Call (.Name x p) (e :: es) [] pos) (tCall sp dvs E t) :=
  ⟨fun pins s σ H Q I h => wpAny_Call_Name_kw (ld_glob I hg hm (PySem.W.callWith_K (h₀ := X.base) I.ok.mod.kin hk
    (thn (ha.run pos pins s σ H _ I h) fun us s1 ⟨vs, H1, I1, r, q⟩ => ⟨I1.kIn, run_fnG F hgu hr hb hd hx I1 r q⟩) he hpl) hdb)⟩

/-! repr of data -/
def rRepr (K : PySem.W.Frag) : List V → Hp → VK → Prop := fun xs H Q => ∃ v d, xs = [v] ∧ Dp K H v d ∧ d.showable = true ∧ d.depth ≤ 64 ∧ d.shown.length ≤ sizeLine ∧ Q (.str d.shown) H
mutual
theorem dp_nodict {K : PySem.W.Frag} {H : Hp} : ∀ {v : V} {d : PyData}, Dp K H v d → d.hasDict = false
  | _, _, .non => by simp only [PyData.hasDict]
  | _, _, .bl b => by simp only [PyData.hasDict]
  | _, _, .int i => by simp only [PyData.hasDict]
  | _, _, .str x => by simp only [PyData.hasDict]
  | _, _, .lst _ ha => by simp only [PyData.hasDict]; exact dpa_nodict ha
  | _, _, .tup _ ha => by simp only [PyData.hasDict]; exact dpa_nodict ha
theorem dpa_nodict {K : PySem.W.Frag} {H : Hp} : ∀ {vs : List V} {ds : List PyData}, DpAll K H vs ds → PyData.hasDictAll ds = false
  | _, _, .nil => by simp only [PyData.hasDictAll]
  | _, _, .cons h t => by simp only [PyData.hasDictAll]; rw [dp_nodict h, dpa_nodict t]; rfl
end
theorem call_repr (hgu : X.A.guards = some []) (hu : X.A.units + 70 < cLine) : CallR X (.builtin "repr") (rRepr X.K) := by
  rintro pins s σ H _ us Q I r ⟨v, d, rfl, hd, hs, hdp, hz, q⟩
  have ⟨u, eu, ru⟩ := vals1 r
  subst eu
  obtain ⟨as, rd⟩ := Dp.reads I d v u hd ru
  have hsm := PyData.noDict_hsm (as := as) (dp_nodict hd)
  have fin : ∀ h' u' tk, (∀ b o, s.heap.get? b = some o → h'.get? b = some o) → EP X pins σ Q (.str d.shown u') { s with heap := h', toks := tk } :=
    fun h' u' tk k => ⟨.str d.shown, H, I.kept k, ⟨_, rfl⟩, q⟩
  cases hd with
  | non =>
    cases ru
    simp only [PyData.shown] at fin
    exact PySem.P.repr_of_none (fin s.heap _ _ fun _ _ e => e)
  | bl b =>
    cases ru
    simp only [PyData.shown] at fin
    exact PySem.P.repr_of_bool (fin s.heap _ _ fun _ _ e => e)
  | int i =>
    obtain ⟨t, rfl⟩ := ru
    simp only [PyData.shown] at fin
    exact PySem.P.repr_of_int (by simpa [PyData.showable] using hs) (fin s.heap _ _ fun _ _ e => e)
  | str x =>
    obtain ⟨t, rfl⟩ := ru
    simp only [PyData.shown] at fin hz
    exact PySem.P.repr_of_str (fin s.heap _ _ fun _ _ e => e) hz
  | lst hl ha =>
    cases ru
    exact repr_of_reads' rd hs hsm hgu (by omega) (fun _ _ e => e) fin hz
  | tup hl ha =>
    cases ru
    exact repr_of_reads' rd hs hsm hgu (by omega) (fun _ _ e => e) fin hz
end
end L3

set_option Elab.async false
set_option linter.all false
set_option maxRecDepth 100000
set_option maxHeartbeats 1000000
namespace L3
open PySem PySem.Spec PyProof.Rows L2

/-! the law's own end, over a promise that knows the guards. The script stands in the written part, or it is the one object that is known at the start -/
def scrO (vs : List Value) : Obj := { cls := .type "list", data := .seq vs.toArray }
def scrH (K : PySem.W.Frag) (a : Addr) (vs : List Value) (xs : List V) : Hp := fun b => if b = a ∧ K.lookup a = none then some (.frz (scrO vs) (.lst xs)) else none
section
variable {K : PySem.W.Frag} {a : Addr} {vs : List Value} {xs : List V} {h : Heap} {P : Program} {w : World}
theorem scrH_some {b : Addr} {u : HO} (e : scrH K a vs xs b = some u) : b = a ∧ K.lookup a = none ∧ u = .frz (scrO vs) (.lst xs) := by
  unfold scrH at e
  split at e
  next c => exact ⟨c.1, c.2, (Option.some.inj e).symm⟩
  next => cases e
theorem scrH_sq (KX : K.In h) (ho : h.get? a = some (scrO vs)) (rv : Vals xs vs) (hz : xs.length ≤ sizeLine) : SqL K (scrH K a vs xs) a xs := by
  cases e : K.lookup a with
  | none => exact .inl (.inr ⟨_, if_pos ⟨rfl, e⟩⟩)
  | some o =>
    cases ho.symm.trans (KX a o e)
    exact .inr ⟨_, vs.toArray, _, e, rfl, rfl, rfl, (by rw [List.size_toArray, ← rv.length]; exact hz), rv⟩
theorem scrH_ok (ho : h.get? a = some (scrO vs)) (rv : Vals xs vs) (hz : xs.length ≤ sizeLine) : HOk P w (scrH K a vs xs) h := fun b u e => by
  have ⟨h1, _, h3⟩ := scrH_some e
  subst h1 h3
  exact ⟨ho, hz, vs, _, rv, ho⟩
/-- what is hidden of the heap is the script alone: no dict, nothing of the written part -/
theorem scrH_in (KX : K.In h) : K.In (hidT h (scrH K a vs xs)) := fun b o e => hidT_get (KX b o e) (by
  cases q : scrH K a vs xs b with
  | none => rfl
  | some u =>
    have z := scrH_some q
    rw [z.1, z.2.1] at e
    cases e)
theorem scrH_ns (ho : h.get? a = some (scrO vs)) {b : Addr} {m : Str → Option Value} (n : h.Ns b m) : (hidT h (scrH K a vs xs)).Ns b m := by
  obtain ⟨o, es, ep, e, d, r⟩ := n
  refine ⟨o, es, ep, hidT_get e ?_, d, r⟩
  cases q : scrH K a vs xs b with
  | none => rfl
  | some u =>
    rw [(scrH_some q).1, ho] at e
    cases e
    cases (show Data.seq vs.toArray _ = Data.dict es ep from d)
end
end L3

set_option Elab.async false
set_option linter.all false
set_option maxRecDepth 100000
set_option maxHeartbeats 1000000
namespace L3
open PySem PySem.Spec PyProof.Rows L2
abbrev Sl := L2.St

/-! operators by data -/
mutual
theorem dp_plain {K : PySem.W.Frag} {H : Hp} : ∀ {v : V} {d : PyData}, Dp K H v d → d.plain = true
  | _, _, .non => by simp only [PyData.plain]
  | _, _, .bl b => by simp only [PyData.plain]
  | _, _, .int i => by simp only [PyData.plain]
  | _, _, .str x => by simp only [PyData.plain]
  | _, _, .lst _ ha => by simp only [PyData.plain]; exact dpa_plain ha
  | _, _, .tup _ ha => by simp only [PyData.plain]; exact dpa_plain ha
theorem dpa_plain {K : PySem.W.Frag} {H : Hp} : ∀ {vs : List V} {ds : List PyData}, DpAll K H vs ds → PyData.plainAll ds = true
  | _, _, .nil => by simp only [PyData.plainAll]
  | _, _, .cons h t => by simp only [PyData.plainAll]; rw [dp_plain h, dpa_plain t]; rfl
end
/-- a list or a tuple of ds -/
def Sq (K : PySem.W.Frag) (ds : List PyData) (H : Hp) (v : V) : Prop := Dp K H v (.list ds) ∨ Dp K H v (.tuple ds)
theorem Sq.mono {K : PySem.W.Frag} {ds : List PyData} {H H' : Hp} {v : V} (e : Same H H') (h : Sq K ds H v) : Sq K ds H' v := h.imp (dp_mono e) (dp_mono e)
def rEqP (K : PySem.W.Frag) (neg : Bool) : R2 := fun x y H Q => ∃ d e, Dp K H x d ∧ Dp K H y e ∧ d.depth ≤ 60 ∧ Q (.bl (xor neg (PyData.eqv d e))) H
def rInP (K : PySem.W.Frag) (neg : Bool) : R2 := fun x y H Q => ∃ d ds, Dp K H x d ∧ Sq K ds H y ∧ d.depth ≤ 60 ∧ Q (.bl (xor neg (ds.any fun z => PyData.eqv z d))) H
section
variable {X : Cx}
theorem op_eqP (hu : X.A.units + 64 < cLine) : OpR X (compareOp .Eq) (rEqP X.K false) := by
  intro pins s σ H x y v u Q I rx ry ⟨d, e, hd, he, hz, q⟩
  obtain ⟨as, r1⟩ := Dp.reads I d x v hd rx
  obtain ⟨bs, r2⟩ := Dp.reads I e y u he ry
  exact SeqAt.eq_plain r1 r2 (dp_plain hd) (dp_plain he) (by omega) ⟨.bl _, H, I, rfl, by simpa using q⟩
theorem op_neP (hu : X.A.units + 64 < cLine) : OpR X (compareOp .NotEq) (rEqP X.K true) := by
  intro pins s σ H x y v u Q I rx ry ⟨d, e, hd, he, hz, q⟩
  obtain ⟨as, r1⟩ := Dp.reads I d x v hd rx
  obtain ⟨bs, r2⟩ := Dp.reads I e y u he ry
  exact SeqAt.ne_plain r1 r2 (dp_plain hd) (dp_plain he) (by omega) ⟨.bl _, H, I, rfl, by simpa using q⟩
theorem op_inP (hu : X.A.units + 64 < cLine) : OpR X (compareOp .In) (rInP X.K false) := by
  intro pins s σ H x y v u Q I rx ry ⟨d, ds, hd, hs, hz, q⟩
  obtain ⟨as, r1⟩ := Dp.reads I d x v hd rx
  rcases hs with hs | hs
  · obtain ⟨bs, r2⟩ := Dp.reads I _ y u hs ry
    exact SeqAt.in_list_data r2 r1 (by simpa only [PyData.plain] using dp_plain hs) (dp_plain hd) (by omega) ⟨.bl _, H, I, rfl, by simpa using q⟩
  · obtain ⟨bs, r2⟩ := Dp.reads I _ y u hs ry
    exact SeqAt.in_tuple_data r2 r1 (by simpa only [PyData.plain] using dp_plain hs) (dp_plain hd) (by omega) ⟨.bl _, H, I, rfl, by simpa using q⟩
theorem op_notInP (hu : X.A.units + 64 < cLine) : OpR X (compareOp .NotIn) (rInP X.K true) := by
  intro pins s σ H x y v u Q I rx ry ⟨d, ds, hd, hs, hz, q⟩
  obtain ⟨as, r1⟩ := Dp.reads I d x v hd rx
  rcases hs with hs | hs
  · obtain ⟨bs, r2⟩ := Dp.reads I _ y u hs ry
    exact SeqAt.notIn_list_data r2 r1 (by simpa only [PyData.plain] using dp_plain hs) (dp_plain hd) (by omega) ⟨.bl _, H, I, rfl, by simpa using q⟩
  · obtain ⟨bs, r2⟩ := Dp.reads I _ y u hs ry
    exact SeqAt.notIn_tuple_data r2 r1 (by simpa only [PyData.plain] using dp_plain hs) (dp_plain hd) (by omega) ⟨.bl _, H, I, rfl, by simpa using q⟩
/-- two readings of one expression, of one thing walked -/
theorem PE.or {e : Expr} {t u : TE} (h : PE X e t) (h' : PE X e u) : PE X e (fun σ H Q => t σ H Q ∨ u σ H Q) :=
  ⟨fun pins s σ H Q I q => q.elim (h.run pins s σ H Q I) (h'.run pins s σ H Q I)⟩
theorem PI.or {tg e : Expr} {t u : TI} (h : PI X tg e t) (h' : PI X tg e u) : PI X tg e (fun σ H R => t σ H R ∨ u σ H R) :=
  ⟨fun pins s σ H Q I q => q.elim (h.run pins s σ H Q I) (h'.run pins s σ H Q I)⟩
end

/-! what an expression is worth, over the known part M -/
abbrev Pr := Hp → V → Prop
abbrev Dd (K : PySem.W.Frag) (d : PyData) : Pr := fun M v => Dp K M v d
def Gv (te : TE) (σ : Sl) (M : Hp) (P : Pr) : Prop := ∀ H, Same M H → ∀ Q : VK, (∀ v M' H', Gr M H M' H' → P M' v → Q v H') → te σ H Q
def GvT (tt : TT) (σ : Sl) (M : Hp) (b : Bool) : Prop := ∀ H, Same M H → ∀ Q : Bool → Hp → Prop, (∀ M' H', Gr M H M' H' → Q b H') → tt σ H Q
/-- a new list, ours -/
def GvL (te : TE) (σ : Sl) (M : Hp) (P : Hp → List V → Prop) : Prop := ∀ H, Same M H → ∀ Q : VK, (∀ p vs M' H', Gr M H M' H' → H p = none → M' p = none → H' p = some (.lst vs) → P M' vs → Q (.ref p) H') → te σ H Q
def GvA (ta : TA) (σ : Sl) (M : Hp) (P : Hp → List V → Prop) : Prop := ∀ H, Same M H → ∀ Q : List V → Hp → Prop, (∀ vs M' H', Gr M H M' H' → P M' vs → Q vs H') → ta σ H Q
class Mono (P : Pr) : Prop where
  mono : ∀ {M M' : Hp} {v : V}, Same M M' → P M v → P M' v
instance {K : PySem.W.Frag} {d : PyData} : Mono (Dd K d) := ⟨fun e h => dp_mono e h⟩
instance {K : PySem.W.Frag} {ds : List PyData} : Mono (Sq K ds) := ⟨fun e h => h.mono e⟩
section
variable {K : PySem.W.Frag} {σ : Sl} {M M1 : Hp} {ta tb te : TE} {tt tu : TT} {P P1 : Pr} {b c : Bool} {v : V}
def jn (M1 M' : Hp) : Hp := fun a => (M1 a).or (M' a)
theorem jn_some {M1 M' : Hp} {a : Addr} {o : HO} (q : M1 a = some o) : jn M1 M' a = some o := by unfold jn; rw [q]; rfl
theorem jn_none {M1 M' : Hp} {a : Addr} (q : M1 a = none) : jn M1 M' a = M' a := by unfold jn; rw [q]; rfl
theorem Gr.join {M H M' H' M1 : Hp} (g : Gr M H M' H') (e : Same M M1) (h1 : Same M1 H) : Gr M1 H (jn M1 M') H' ∧ Same M' (jn M1 M') := by
  have k1 := h1.trans g.hh
  refine ⟨⟨fun a o q => jn_some q, g.hh, fun a o q => ?_, fun a o q => ?_, fun a ps q => ?_⟩, fun a o q => ?_⟩
  · cases z : M1 a with
    | some u => rw [jn_some z] at q; cases q; exact k1 a _ z
    | none => rw [jn_none z] at q; exact g.mh a o q
  · cases z : M1 a with
    | some u => rw [jn_some z] at q; exact .inl q
    | none =>
      rw [jn_none z] at q
      rcases g.nw a o q with y | y
      · rw [e a o y] at z; cases z
      · exact .inr y
  · cases z : M1 a with
    | some u => rw [jn_some z] at q; exact q
    | none =>
      rw [jn_none z] at q
      have y := e a _ (g.nt a ps q)
      rw [z] at y
      cases y
  · cases z : M1 a with
    | some u =>
      have y := k1 a _ z
      rw [g.mh a o q] at y
      cases y
      exact jn_some z
    | none => rw [jn_none z]; exact q
theorem Gv.le [Mono P] (h : Gv te σ M P) (e : Same M M1) : Gv te σ M1 P := fun H mh Q q =>
  h H (e.trans mh) Q fun v M' H' g p => q v _ H' (g.join e mh).1 (Mono.mono (g.join e mh).2 p)
theorem GvT.le (h : GvT tt σ M b) (e : Same M M1) : GvT tt σ M1 b := fun H mh Q q =>
  h H (e.trans mh) Q fun M' H' g => q _ H' (g.join e mh).1
/-- a reading over values -/
def RV (r : Hp → VK → Prop) (M : Hp) (P : Pr) : Prop := ∀ H, Same M H → ∀ Q : VK, (∀ v M' H', Gr M H M' H' → P M' v → Q v H') → r H Q
theorem gv_var {i : Nat} (h : σ[i]? = some (some v)) (p : P M v) : Gv (tVar i) σ M P := fun H mh Q q => ⟨v, h, q v M H (.refl mh) p⟩
theorem gv_c (p : P M v) : Gv (tC v) σ M P := fun H mh Q q => q v M H (.refl mh) p
theorem gv_op {r : R2} {R : Pr} [Mono P] [Mono P1] (ha : Gv ta σ M P) (hb : Gv tb σ M P1) (hr : ∀ M' x y, P M' x → P1 M' y → RV (r x y) M' R) : Gv (tOp r ta tb) σ M R := fun H mh Q q =>
  ha H mh _ fun x M1 H1 g1 p1 => (hb.le g1.mm) H1 g1.mh _ fun y M2 H2 g2 p2 => hr M2 x y (Mono.mono g2.mm p1) p2 H2 g2.mh Q fun v M' H' g p => q v M' H' ((g1.trans g2).trans g) p
theorem gv_is {P' : Pr} (h : Gv te σ M P) (e : ∀ M v, P M v → P' M v) : Gv te σ M P' := fun H mh Q q => h H mh Q fun v M' H' g p => q v M' H' g (e M' v p)
/-- tests -/
theorem gt_test {te : TE} (h : Gv te σ M (fun _ v => v = .bl b)) : GvT (tTest te) σ M b := fun H mh Q q => h H mh _ fun v M' H' g p => ⟨b, p, q M' H' g⟩
theorem gt_B {te : TE} (h : Gv te σ M (fun _ v => v = .bl b)) : GvT (tB te) σ M b := fun H mh Q q => h H mh _ fun v M' H' g p => ⟨b, p, q M' H' g⟩
theorem gt_and (h : GvT tt σ M b) (h2 : b = true → GvT tu σ M c) : GvT (tAnd tt tu) σ M (b && c) := fun H mh Q q => h H mh _ fun M1 H1 g1 => by
  cases b with
  | true => exact (h2 rfl).le g1.mm H1 g1.mh Q fun M' H' g => q M' H' (g1.trans g)
  | false => exact q M1 H1 g1
theorem gt_or (h : GvT tt σ M b) (h2 : b = false → GvT tu σ M c) : GvT (tOr tt tu) σ M (b || c) := fun H mh Q q => h H mh _ fun M1 H1 g1 => by
  cases b with
  | true => exact q M1 H1 g1
  | false => exact (h2 rfl).le g1.mm H1 g1.mh Q fun M' H' g => q M' H' (g1.trans g)
theorem gt_not (h : GvT tt σ M b) : GvT (tNot tt) σ M (!b) := fun H mh Q q => h H mh _ q
theorem gt_is (h : GvT tt σ M b) (e : b = c) : GvT tt σ M c := e ▸ h
abbrev Bl (b : Bool) : Pr := fun _ v => v = .bl b
abbrev It' (i : Int) : Pr := fun _ v => v = .int i
abbrev Tx (x : Str) : Pr := fun _ v => v = .str x
instance {b : Bool} : Mono (Bl b) := ⟨fun _ h => h⟩
instance {i : Int} : Mono (It' i) := ⟨fun _ h => h⟩
instance {x : Str} : Mono (Tx x) := ⟨fun _ h => h⟩
theorem gv_andV {ta tb : TE} (h : Gv ta σ M (Bl b)) (h2 : b = true → Gv tb σ M (Bl c)) : Gv (tAndV ta tb) σ M (Bl (b && c)) := fun H mh Q q => h H mh _ fun v M1 H1 g1 p => ⟨b, p, by
  cases b with
  | true => exact (h2 rfl).le g1.mm H1 g1.mh Q fun v M' H' g p => q v M' H' (g1.trans g) p
  | false => exact q _ M1 H1 g1 rfl⟩
theorem gv_notV {ta : TE} (h : Gv ta σ M (Bl b)) : Gv (tNotV ta) σ M (Bl (!b)) := fun H mh Q q => h H mh _ fun v M1 H1 g1 p => ⟨b, p, q _ M1 H1 g1 rfl⟩
theorem gv_if [Mono P] (h : GvT tt σ M b) (h1 : b = true → Gv ta σ M P) (h2 : b = false → Gv tb σ M P) : Gv (tIf tt ta tb) σ M P := fun H mh Q q => h H mh _ fun M1 H1 g1 => by
  cases b with
  | true => exact (h1 rfl).le g1.mm H1 g1.mh Q fun v M' H' g p => q v M' H' (g1.trans g) p
  | false => exact (h2 rfl).le g1.mm H1 g1.mh Q fun v M' H' g p => q v M' H' (g1.trans g) p
/-- operators -/
theorem rv_pure {r : Hp → VK → Prop} (h : ∀ H, Same M H → ∀ Q : VK, Q v H → r H Q) (p : P M v) : RV r M P := fun H mh Q q => h H mh Q (q v M H (.refl mh) p)
theorem gv_eq {neg : Bool} {d e : PyData} (ha : Gv ta σ M (Dd K d)) (hb : Gv tb σ M (Dd K e)) (hz : d.depth ≤ 60) : Gv (tOp (rEqP K neg) ta tb) σ M (Bl (xor neg (PyData.eqv d e))) :=
  gv_op ha hb fun M' x y px py => rv_pure (fun H mh Q q => ⟨d, e, dp_mono mh px, dp_mono mh py, hz, q⟩) rfl
theorem gv_isN {ta : TE} [Mono P] (h : Gv ta σ M P) (e : ∀ M v, P M v → decide (v = .non) = b) : Gv (tIsN ta) σ M (Bl b) := fun H mh Q q => h H mh _ fun v M1 H1 g1 p => q _ M1 H1 g1 (by rw [e M1 v p])
theorem gv_notN {ta : TE} [Mono P] (h : Gv ta σ M P) (e : ∀ M v, P M v → decide (v = .non) = b) : Gv (tNotN ta) σ M (Bl (!b)) := fun H mh Q q => h H mh _ fun v M1 H1 g1 p => q _ M1 H1 g1 (by rw [e M1 v p])
/-- arguments -/
theorem ga_nil : GvA tNil σ M (fun _ vs => vs = []) := fun H mh Q q => q [] M H (.refl mh) rfl
theorem ga_cons {tr : TA} {R : Hp → List V → Prop} [Mono P] (h : Gv te σ M P) (hr : ∀ M1, Same M M1 → GvA tr σ M1 R) : GvA (tCons te tr) σ M (fun M vs => ∃ v r, vs = v :: r ∧ P M v ∧ R M r) := fun H mh Q q =>
  h H mh _ fun x M1 H1 g1 p1 => hr M1 g1.mm H1 g1.mh _ fun vs M2 H2 g2 p2 => q _ M2 H2 (g1.trans g2) ⟨x, vs, rfl, Mono.mono g2.mm p1, p2⟩
/-- displays -/
theorem gv_tup {ta : TA} {R : Hp → List V → Prop} {P : Pr} (h : GvA ta σ M R) (hz : ∀ M vs, R M vs → vs.length ≤ sizeLine) (hp : ∀ M vs p, R M vs → M p = none → P (upd M p (.tup vs)) (.ref p)) : Gv (tTup ta) σ M P := fun H mh Q q =>
  h H mh _ fun vs M1 H1 g1 p1 => ⟨hz M1 vs p1, fun p np => q _ _ _ (g1.trans (.new g1.mh np)) (hp M1 vs p p1 (g1.mh.free np))⟩
theorem gl_lst {ta : TA} {R : Hp → List V → Prop} (h : GvA ta σ M R) (hz : ∀ M vs, R M vs → vs.length ≤ sizeLine) : GvL (tLst ta) σ M R := fun H mh Q q =>
  h H mh _ fun vs M1 H1 g1 p1 => ⟨hz M1 vs p1, fun p np => q p vs M1 _ (g1.trans (.own g1.mh np)) (g1.hh.free np) (g1.mh.free np) upd_same p1⟩
/-- our new list, known from now on -/
theorem GvL.gv {R : Hp → List V → Prop} (h : GvL te σ M R) (hp : ∀ M vs p, R M vs → M p = none → P (upd M p (.lst vs)) (.ref p)) : Gv te σ M P := fun H mh Q q =>
  h H mh Q fun p vs M' H' g h0 m0 hv r => q _ _ H' (g.freeze h0 m0 hv) (hp M' vs p r m0)
theorem GvL.le {R : Hp → List V → Prop} (hR : ∀ M M' vs, Same M M' → R M vs → R M' vs) (h : GvL te σ M R) (e : Same M M1) : GvL te σ M1 R := fun H mh Q q =>
  h H (e.trans mh) Q fun p vs M' H' g h0 m0 hv r => q p vs _ H' (g.join e mh).1 h0 (by rw [jn_none (mh.free h0)]; exact m0) hv (hR _ _ _ (g.join e mh).2 r)
end
end L3

set_option Elab.async false
set_option linter.all false
set_option maxRecDepth 100000
set_option maxHeartbeats 1000000
namespace L3
open PySem PySem.Spec PyProof.Rows L2
/-! walking a value: one rule for each kind of value, joined by «or» -/
abbrev RI := V → Hp → (It → Hp → Prop) → Prop
def PIv (X : Cx) (tg : Expr) (r : RI) : Prop :=
  ∀ {pins : List (Addr × Obj)} {s : Shared} {σ : Sl} {H : Hp} {R : It → Hp → Prop} {x : V} {u : Value}, Inv X pins σ H s → RelV x u → r x H R → wpAny (model X.prog X.w) X.A (pyIter u) (PIE X pins σ tg R) X.xe s
section
variable {X : Cx} {tg : Expr} {r r' : RI}
theorem PIv.or (h : PIv X tg r) (h' : PIv X tg r') : PIv X tg fun x H R => r x H R ∨ r' x H R := fun I rx q => q.elim (h I rx) (h' I rx)
theorem PIv.pi {l : Expr} {te : TE} (h : PIv X tg r) (hl : PE X l te) : PI X tg l fun σ H R => te σ H fun x H1 => r x H1 R where
  run pins s σ H R I q := thn (hl.run pins s σ H _ I q) fun u s1 ⟨_, _, I1, rx, q1⟩ => h I1 rx q1
theorem fps_new {pins : List (Addr × Obj)} {s : Shared} {σ : Sl} {H : Hp} {fp : List Addr} (I : Inv X pins σ H s) (h : ∀ b ∈ fp, s.heap.objs.size ≤ b) : ∀ b ∈ fp, FpOk X pins H b :=
  fun b hb => I.fpOk (h b hb) (I.hok.fresh (h b hb))
/-- a value whose iterator is one new object -/
theorem walk_new {pins : List (Addr × Obj)} {s : Shared} {σ : Sl} {H : Hp} {R : It → Hp → Prop} {u : Value} {o : Obj} {G : Heap → Prop} {J : It} {tn : Addr → Nat → Heap → Prop} (B : Begins u o G) (I : Inv X pins σ H s) (g : G s.heap)
    (T : ∀ it, Turn X.prog X.w X.K tg J [it] it (tn it)) (h0 : ∀ it h, h.get? it = some o → tn it 0 h) (q : R J H) : wpAny (model X.prog X.w) X.A (pyIter u) (PIE X pins σ tg R) X.xe s :=
  B.iter _ _ _ _ s _ g ⟨s.heap.objs.size, _, _, J, H, rfl, I.kept (t' := s.toks) (fun _ _ z => Heap.get?_push_of_some _ z), T _, h0 _ _ (Heap.get?_push_size _ B.free), fps_new I (by intro b hb; rw [List.mem_singleton.mp hb]; exact Nat.le_refl _), q⟩
def wLst (K : PySem.W.Frag) : RI := fun x H R => ∃ a xs, x = .ref a ∧ SqL K H a xs ∧ R (Itl K a) H
def wTup (K : PySem.W.Frag) : RI := fun x H R => ∃ a xs, x = .ref a ∧ SqT K H a xs ∧ R (Itt K a) H
theorem pv_lst : PIv X tg (wLst X.K) := fun I rx ⟨a, xs, ea, hs, q⟩ => by
  subst ea; cases rx
  let ⟨its, _, pl, _⟩ := I.list hs
  exact walk_new (begins_list a its.toArray) I pl.isList (turn_list a) (fun it h e => ⟨_, e, rfl, rfl⟩) q
theorem pv_tup : PIv X tg (wTup X.K) := fun I rx ⟨a, xs, ea, hs, q⟩ => by
  subst ea; cases rx
  let ⟨its, _, pl, _⟩ := I.tuple hs
  exact walk_new (begins_tuple a its.toArray) I pl (turn_tuple a) (fun it h e => ⟨_, e, rfl, rfl⟩) q
/-- a list or a tuple walked -/
def iSq (K : PySem.W.Frag) (te : TE) : TI := fun σ H R => te σ H fun x H1 => ∃ a, x = .ref a ∧ ((∃ xs, SqL K H1 a xs ∧ R (Itl K a) H1) ∨ ∃ xs, SqT K H1 a xs ∧ R (Itt K a) H1)
theorem pi_sq {l : Expr} {te : TE} (hl : PE X l te) : PI X tg l (iSq X.K te) :=
  PIv.pi (r := fun x H1 R => ∃ a, x = .ref a ∧ ((∃ xs, SqL X.K H1 a xs ∧ R (Itl X.K a) H1) ∨ ∃ xs, SqT X.K H1 a xs ∧ R (Itt X.K a) H1))
    (fun I rx ⟨a, ea, q⟩ => (pv_lst.or pv_tup) I rx (q.imp (fun ⟨xs, z⟩ => ⟨a, xs, ea, z⟩) fun ⟨xs, z⟩ => ⟨a, xs, ea, z⟩)) hl
end

/-! enumerate over anything whose items stand still -/
structure Still (P : Program) (w : World) (K : PySem.W.Frag) (a : Addr) (o : Obj) (rd : Hp → List V → Prop) (pt : Addr → Nat → Heap → Prop) (fx : List Value → Heap → Prop) : Prop where
  got : ∀ {X : Cx} {pins : List (Addr × Obj)} {σ : Sl} {H : Hp} {s : Shared} {xs : List V}, X.K = K → Inv X pins σ H s → rd H xs → ∃ its, Vals xs its ∧ fx its s.heap
  one : ∀ {X : Cx} {pins : List (Addr × Obj)} {σ : Sl} {H : Hp} {s : Shared} {xs ys : List V}, X.K = K → Inv X pins σ H s → rd H xs → rd H ys → xs = ys
  dr : ∀ {A : Around} {it : Addr} (its : List Value), A.handled = none → a ≠ it → Draws P w A it [it, a] its.toArray.size (fun i v => its.toArray[i]? = some v) (fun i h => pt it i h ∧ fx its h)
  live : ∀ {it : Addr} {i : Nat} {h : Heap}, pt it i h → ∃ ob, h.get? it = some ob ∧ ∀ v, ob.data ≠ .cell v
  mv : ∀ {it : Addr} {i : Nat} {h h' : Heap}, pt it i h → (∀ ob, h.get? it = some ob → h'.get? it = some ob) → pt it i h'
  lt : ∀ {its : List Value} {h : Heap}, fx its h → a < h.objs.size
  bg : ∀ its : List Value, Begins (.ref a) o (fx its)
  st : ∀ {it : Addr} {h : Heap}, h.get? it = some o → pt it 0 h
theorem still_lst {P : Program} {w : World} {K : PySem.W.Frag} (a : Addr) : Still P w K a { cls := .type "list_iterator", data := .fields #[.ref a, .int 0 0] } (fun H xs => SqL K H a xs) (fun it i h => h.IsListIter it a i) (fun its h => h.IsList a its.toArray) where
  got hk I h := by subst hk; let ⟨its, r, p, _⟩ := I.list h; exact ⟨its, r, p.isList⟩
  one hk I h h' := by subst hk; exact I.list_inj h h'
  dr its hh hn := Draws.list hh _ _ hn _
  live h := let ⟨ob, e, _, d⟩ := h; ⟨ob, e, fun v z => by rw [d] at z; exact nomatch z⟩
  mv h k := let ⟨ob, e, z⟩ := h; ⟨ob, k ob e, z⟩
  lt h := let ⟨_, e, _⟩ := h; Heap.lt_size e
  bg its := begins_list a its.toArray
  st h := ⟨_, h, rfl, rfl⟩
theorem still_tup {P : Program} {w : World} {K : PySem.W.Frag} (a : Addr) : Still P w K a { cls := .type "tuple_iterator", data := .fields #[.ref a, .int 0 0] } (fun H xs => SqT K H a xs) (fun it i h => h.IsTupleIter it a i) (fun its h => h.IsTuple a its.toArray) where
  got hk I h := by subst hk; let ⟨its, r, p, _⟩ := I.tuple h; exact ⟨its, r, p⟩
  one hk I h h' := by subst hk; exact I.tuple_inj h h'
  dr its hh hn := Draws.tuple hh _ _ hn _
  live h := let ⟨ob, e, _, d⟩ := h; ⟨ob, e, fun v z => by rw [d] at z; exact nomatch z⟩
  mv h k := let ⟨ob, e, z⟩ := h; ⟨ob, k ob e, z⟩
  lt h := let ⟨_, e, _⟩ := h; Heap.lt_size e
  bg its := begins_tuple a its.toArray
  st h := ⟨_, h, rfl, rfl⟩
/-- the walk: number and item as a new pair -/
def IeS (rd : Hp → List V → Prop) : It :=
  ⟨fun i H => ∃ xs, rd H xs ∧ i < xs.length, fun i H v H' => ∃ p x, v = .ref p ∧ H p = none ∧ H' = upd H p (.tup [.int (i : Nat), x]) ∧ ∀ xs, rd H xs → xs[i]? = some x, fun i H => ∃ xs, rd H xs ∧ xs.length = i⟩
theorem walk_eS {rd : Hp → List V → Prop} {xs : List V} : Walk (IeS rd) xs.length (fun H => rd H xs) (YPair (fun i => some (.int (i : Nat))) (fun i => xs[i]?)) :=
  ⟨fun _ _ hi q => ⟨xs, q, hi⟩, fun _ q => ⟨xs, q, rfl⟩, fun i _ _ _ _ q ⟨p, x, h1, h2, h3, h4⟩ => ⟨p, _, x, h1, h2, h3, rfl, h4 xs q⟩⟩
section
variable {P : Program} {w : World} {K : PySem.W.Frag} {a : Addr} {o : Obj} {rd : Hp → List V → Prop} {pt : Addr → Nat → Heap → Prop} {fx : List Value → Heap → Prop} {elts : List Expr} {kk : Nat} {tpos : Pos}
/-- where the two objects of the walk stand -/
def EnAt (pt : Addr → Nat → Heap → Prop) (e it : Addr) (i : Nat) (h : Heap) : Prop := ∃ old, IsEnum h e it (i : Nat) old ∧ pt it i h
theorem turn_eS (S : Still P w K a o rd pt fx) {e it : Addr} (n1 : e ≠ it) (n2 : e ≠ a) (n3 : a ≠ it) : Turn P w K (.Tuple elts kk tpos) (IeS rd) [e, it] e (EnAt pt e it) where
  mem := .head _
  obj := fun i h ⟨old, he, hp⟩ b hb => by
    cases hb with
    | head => exact ⟨_, he, fun v z => nomatch z⟩
    | tail _ hb => rw [List.mem_singleton.mp hb]; exact S.live hp
  keep := fun i h h' ⟨old, he, hp⟩ k => ⟨old, k e (.head _) _ he, S.mv hp (k it (.tail _ (.head _)))⟩
  self := fun A i s Q E ⟨old, he, _⟩ q => wpAny_pyIter_enum he q
  done := fun X e1 e2 e3 hc i pins s σ H E I hf ⟨old, he, hp⟩ ⟨xs, hx, hl⟩ => by
    subst e1 e2
    obtain ⟨its, rv, fx0⟩ := S.got e3 I hx
    have hi : i = its.toArray.size := by rw [List.size_toArray, ← rv.length, hl]
    subst hi
    have f := hf it (.tail _ (.head _))
    exact wpAny_pyNext_enum_endD (S.dr (A := X.A.in1) its (I.ok.hd hc) n3) he ⟨hp, fx0⟩ fun h' k => ⟨rfl, I.turned (t' := s.toks) k f.1 f.2.1 f.2.2.2.1 f.2.2.2.2.1 f.2.2.2.2.2⟩
  item := fun X e1 e2 e3 hc i pins s σ H E I hf ⟨old, he, hp⟩ ⟨xs, hx, hl⟩ => by
    subst e1 e2
    obtain ⟨its, rv, fx0⟩ := S.got e3 I hx
    have hlt : i < its.toArray.size := by rw [List.size_toArray, ← rv.length]; exact hl
    have be := Heap.lt_size he
    have bi : it < s.heap.objs.size := let ⟨_, z, _⟩ := S.live hp; Heap.lt_size z
    have out : e ∉ [it, a] := fun z => by
      cases z with
      | head => exact n1 rfl
      | tail _ z => exact n2 (List.mem_singleton.mp z)
    refine wpAny_pyNext_enum_itemD (S.dr (A := X.A.in1) its (I.ok.hd hc) n3) he ⟨hp, fx0⟩ hlt n1 out fun y h1 tk hy eo pt1 new _ kp => ⟨_, rfl, ?_⟩
    refine wpAny_letOwnedTupleGo_enum (s := { s with heap := h1, toks := tk + 1 }) eo fun h2 en sb => ?_
    obtain ⟨x, gx, rx⟩ : ∃ x, xs[i]? = some x ∧ RelV x y := by
      have z := rv.get (x := xs[i]) (List.getElem?_eq_getElem hl)
      obtain ⟨y', g, rr⟩ := z
      rw [List.getElem?_toArray, g] at hy
      exact ⟨_, List.getElem?_eq_getElem hl, Option.some.inj hy ▸ rr⟩
    have stands : h2.get? s.heap.objs.size = some { cls := .type "tuple", data := .seq #[.int i tk, y] } := (sb.2 _ (Nat.ne_of_gt be)).trans new
    have kept : ∀ b ob, b ∉ [e, it] → s.heap.get? b = some ob → h2.get? b = some ob := fun b ob hb z =>
      have m1 : b ≠ e := fun q => hb (q ▸ .head _)
      (sb.2 b m1).trans (kp b ob m1 (fun q => hb (q ▸ .tail _ (.head _))) z)
    have J := I.turnedNew (t' := tk + 1) (ob := .tup [.int (i : Nat), x]) kept hf (Nat.le_refl _) ⟨(by show 2 ≤ sizeLine; decide), [.int i tk, y], .cons ⟨_, rfl⟩ (.cons rx .nil), ⟨_, stands, rfl, _, rfl⟩⟩
    refine ⟨.ref s.heap.objs.size, _, J, rfl, ⟨_, x, rfl, I.hok.fresh (Nat.le_refl _), rfl, fun ys hy' => S.one e3 I hx hy' ▸ gx⟩, ⟨y, en, S.mv pt1.1 fun ob z => (sb.2 it (Ne.symm n1)).trans z⟩, fun b hb => ?_⟩
    have bb : b ≠ s.heap.objs.size := by
      cases hb with
      | head => exact Nat.ne_of_lt be
      | tail _ hb => rw [List.mem_singleton.mp hb]; exact Nat.ne_of_lt bi
    rw [upd_ne bb]
    exact (hf b hb).1
/-- enumerate(v): two new objects -/
theorem en_new {v : Value} {o : Obj} {G : Heap → Prop} (B : Begins v o G) : Meets (Builtin.«enumerate.__new__» ⟨[.type "enumerate", v], []⟩) fun _ R s => G s.heap ∧
    R (.ok (.ret (.ref (s.heap.push o).objs.size))) { s with heap := (s.heap.push o).push { cls := .type "enumerate", data := .fields #[.none, .bool false, .ref s.heap.objs.size, rawInt 0, .none, .none] } } := by
  refine Meets.of_wp fun prog w A R ⟨hp, gs, dn, tk, os⟩ q => ?_
  have isub := sub_enumerate
  have first {A' : Around} {E Q : Value → Shared → Prop} (z : Q (.ref hp.objs.size) ⟨hp.push o, gs, dn, tk, os⟩) : wpAny (model prog w) A' (pyIter v) Q E ⟨hp, gs, dn, tk, os⟩ := B.iter prog w A' E ⟨hp, gs, dn, tk, os⟩ Q q.1 z
  wp_walk using first
  refine wpAny_stack_any fun st => wpAny_pure ?_
  split
  next c _ _ _ _ _ => by_cases hcl : (c == Value.type "enumerate") = true <;> simp only [hcl] <;> wp_walk using first <;> exact ⟨_, rfl, q.2⟩
  next => wp_walk using first; exact ⟨_, rfl, q.2⟩
theorem en_walk {X : Cx} {pins : List (Addr × Obj)} {s : Shared} {σ : Sl} {H : Hp} {R : It → Hp → Prop} {xs : List V} (S : Still X.prog X.w X.K a o rd pt fx) (I : Inv X pins σ H s) (hx : rd H xs) (q : R (IeS rd) H) :
    wpAny (model X.prog X.w) X.A (call (.type "enumerate") [.ref a]) (fun v s1 => wpAny (model X.prog X.w) X.A (pyIter v) (PIE X pins σ (.Tuple elts kk tpos) R) X.xe s1) X.xe s := by
  obtain ⟨its, _, f0⟩ := S.got rfl I hx
  have la := S.lt f0
  have B := S.bg its
  have hN : (s.heap.push o).objs.size = s.heap.objs.size + 1 := Heap.size_push ..
  apply callType_new F.called_enumerate (by decide) (F.typeCall_enumerate_1 _) (F.newCall_enumerate_1 _) (fun ob => F.args_object_init_2 ob _) F.entry_enumerate_new (en_new B)
  refine ⟨f0, ?_⟩
  have top := Heap.get?_push_size (s.heap.push o) (o := ({ cls := .type "enumerate", data := .fields #[.none, .bool false, .ref s.heap.objs.size, rawInt 0, .none, .none] } : Obj)) rfl
  have below : ∀ b ob, (s.heap.push o).get? b = some ob → ((s.heap.push o).push { cls := .type "enumerate", data := .fields #[.none, .bool false, .ref s.heap.objs.size, rawInt 0, .none, .none] }).get? b = some ob := fun b ob z => Heap.get?_push_of_some _ z
  refine ⟨⟨_, top, rfl⟩, ?_⟩
  rw [hN] at top ⊢
  refine wpAny_pyIter_enum top ⟨_, [s.heap.objs.size + 1, s.heap.objs.size], _, IeS rd, H, rfl, I.kept (t' := s.toks) (fun b ob z => below b ob (Heap.get?_push_of_some _ z)), turn_eS S (Nat.succ_ne_self _) (Nat.ne_of_gt (Nat.lt_succ_of_lt la)) (Nat.ne_of_lt la), ⟨.none, top, S.st (below _ _ (Heap.get?_push_size _ B.free))⟩, fps_new I fun b hb => ?_, q⟩
  cases hb with
  | head => exact Nat.le_succ _
  | tail _ hb => rw [List.mem_singleton.mp hb]; exact Nat.le_refl _
end
def iEn (K : PySem.W.Frag) (ta : TA) : TI := fun σ H R => ta σ H fun vs H1 => ∃ a, vs = [.ref a] ∧ ((∃ xs, SqL K H1 a xs ∧ R (IeS fun H xs => SqL K H a xs) H1) ∨ ∃ xs, SqT K H1 a xs ∧ R (IeS fun H xs => SqT K H a xs) H1)
theorem pi_en {X : Cx} {e : Expr} {ta : TA} {p pos tpos : Pos} {elts : List Expr} {kk : Nat} (hg : Gl X "enumerate") (hm : X.mg "enumerate" = none) (ha : PA X [e] ta) (hs : starEach [e] X.env = [(false, eval e X.env)] := by rfl) :
    PI X (.Tuple elts kk tpos) (.Call (.Name "enumerate" p) [e] [] pos) (iEn X.K ta) where
  run pins s σ H R I h := by
    refine Call_ (ld_blt I hg hm boot_enumerate (PyProof.Rows.callWith_type1 (thn (ha.run pos pins s σ H _ I h) fun us s1 z => ?_) hs rfl))
    obtain ⟨vs, H1, I1, rvs, a, rfl, q⟩ := z
    obtain ⟨_, rfl, rfl⟩ := vals1 rvs
    rcases q with ⟨xs, hx, q⟩ | ⟨xs, hx, q⟩
    · exact en_walk (still_lst a) I1 hx q
    · exact en_walk (still_tup a) I1 hx q
end L3

set_option Elab.async false
set_option linter.all false
set_option maxRecDepth 100000
set_option maxHeartbeats 1000000
namespace L3
open PySem PySem.Spec PyProof.Rows L2
/-! typed relations -/
abbrev Rl (α : Type) := α → Pr
class Mon {α : Type} (R : Rl α) : Prop where
  mono : ∀ {x : α} {M M' : Hp} {v : V}, Same M M' → R x M v → R x M' v
instance {α : Type} {R : Rl α} [h : Mon R] {x : α} : Mono (R x) := ⟨fun e p => h.mono e p⟩
instance : Mon Tx := ⟨fun _ h => h⟩
instance : Mon It' := ⟨fun _ h => h⟩
instance : Mon Bl := ⟨fun _ h => h⟩
instance {K : PySem.W.Frag} : Mon (Dd K) := ⟨fun e h => dp_mono e h⟩
abbrev Pd {α : Type} (R : Rl α) (M : Hp) : List α → List V → Prop := Paired fun x v => R x M v
theorem Pd.mono {α : Type} {R : Rl α} [Mon R] {M M' : Hp} (e : Same M M') {xs : List α} {vs : List V} (h : Pd R M xs vs) : Pd R M' xs vs := Paired.mapP h fun _ _ q => Mon.mono e q
theorem pd_get {α β : Type} {F : α → β → Prop} : ∀ {xs : List α} {vs : List β} {i : Nat} {x : α}, Paired F xs vs → xs[i]? = some x → ∃ v, vs[i]? = some v ∧ F x v
  | _, _, _, _, .nil, e => by simp at e
  | _, _, 0, _, .cons h _, e => by
    have e' := Option.some.inj (show some _ = some _ from e)
    subst e'
    exact ⟨_, rfl, h⟩
  | _, _, i + 1, _, .cons _ t, e => pd_get (i := i) t (by simpa using e)
theorem pd_get' {α β : Type} {F : α → β → Prop} : ∀ {xs : List α} {vs : List β} {i : Nat} {v : β}, Paired F xs vs → vs[i]? = some v → ∃ x, xs[i]? = some x ∧ F x v
  | _, _, _, _, .nil, e => by simp at e
  | _, _, 0, _, .cons h _, e => by
    have e' := Option.some.inj (show some _ = some _ from e)
    subst e'
    exact ⟨_, rfl, h⟩
  | _, _, i + 1, _, .cons _ t, e => pd_get' (i := i) t (by simpa using e)
theorem pd_app {α β : Type} {F : α → β → Prop} : ∀ {xs ys : List α} {vs ws : List β}, Paired F xs vs → Paired F ys ws → Paired F (xs ++ ys) (vs ++ ws)
  | _, _, _, _, .nil, s => s
  | _, _, _, _, .cons r t, s => .cons r (pd_app t s)
theorem pd_take {α β : Type} {F : α → β → Prop} : ∀ {xs : List α} {vs : List β} (n : Nat), Paired F xs vs → Paired F (xs.take n) (vs.take n)
  | _, _, 0, _ => .nil
  | _, _, _ + 1, .nil => .nil
  | _, _, n + 1, .cons r t => .cons r (pd_take n t)
theorem pd_drop {α β : Type} {F : α → β → Prop} : ∀ {xs : List α} {vs : List β} (n : Nat), Paired F xs vs → Paired F (xs.drop n) (vs.drop n)
  | _, _, 0, h => h
  | _, _, _ + 1, .nil => .nil
  | _, _, n + 1, .cons _ t => pd_drop n t
def TupR (K : PySem.W.Frag) {α : Type} (R : Rl α) : Rl (List α) := fun xs M v => ∃ a vs, v = .ref a ∧ SqT K M a vs ∧ Pd R M xs vs
def LstR (K : PySem.W.Frag) {α : Type} (R : Rl α) : Rl (List α) := fun xs M v => ∃ a vs, v = .ref a ∧ SqL K M a vs ∧ Pd R M xs vs
def SqR (K : PySem.W.Frag) {α : Type} (R : Rl α) : Rl (List α) := fun xs M v => LstR K R xs M v ∨ TupR K R xs M v
section
variable {K : PySem.W.Frag} {α : Type} {R : Rl α}
instance [Mon R] : Mon (TupR K R) := ⟨fun e ⟨a, vs, h1, h2, h3⟩ => ⟨a, vs, h1, st_mono e h2, h3.mono e⟩⟩
instance [Mon R] : Mon (LstR K R) := ⟨fun e ⟨a, vs, h1, h2, h3⟩ => ⟨a, vs, h1, sl_mono e h2, h3.mono e⟩⟩
instance [Mon R] : Mon (SqR K R) := ⟨fun e h => h.imp (Mon.mono e) (Mon.mono e)⟩
theorem TupR.sq {xs : List α} {M : Hp} {v : V} (h : TupR K R xs M v) : SqR K R xs M v := .inr h
theorem LstR.sq {xs : List α} {M : Hp} {v : V} (h : LstR K R xs M v) : SqR K R xs M v := .inl h
/-- as data -/
def PyR (K : PySem.W.Frag) (R : Rl α) (e : α → PyData) : Prop := ∀ x M v, R x M v → Dp K M v (e x)
theorem py_str : PyR K Tx PyData.str := fun x M v h => by cases (show v = .str x from h); exact .str x
theorem py_int : PyR K It' PyData.int := fun x M v h => by cases (show v = .int x from h); exact .int x
theorem py_bl : PyR K Bl PyData.bool := fun x M v h => by cases (show v = .bl x from h); exact .bl x
theorem py_all {e : α → PyData} (h : PyR K R e) {M : Hp} : ∀ {xs : List α} {vs : List V}, Pd R M xs vs → DpAll K M vs (xs.map e)
  | _, _, .nil => .nil
  | _, _, .cons q t => .cons (h _ _ _ q) (py_all h t)
theorem py_tup {e : α → PyData} (h : PyR K R e) : PyR K (TupR K R) fun xs => .tuple (xs.map e) := fun xs M v ⟨a, vs, h1, h2, h3⟩ => by subst h1; exact .tup h2 (py_all h h3)
theorem py_lst {e : α → PyData} (h : PyR K R e) : PyR K (LstR K R) fun xs => .list (xs.map e) := fun xs M v ⟨a, vs, h1, h2, h3⟩ => by subst h1; exact .lst h2 (py_all h h3)
theorem py_sq {e : α → PyData} (h : PyR K R e) {xs : List α} {M : Hp} {v : V} (q : SqR K R xs M v) : Sq K (xs.map e) M v := q.imp (py_lst h _ _ _) (py_tup h _ _ _)
/-- e tells things apart as == does -/
def Inj (e : α → PyData) [DecidableEq α] : Prop := ∀ x y, PyData.eqv (e x) (e y) = decide (x = y)
theorem str_beq (x y : Str) : (x == y) = decide (x = y) := by
  by_cases h : x = y
  · subst h; simp
  · rw [decide_eq_false h]; exact beq_eq_false_iff_ne.mpr h
theorem inj_str : Inj PyData.str := fun x y => by simp only [PyData.eqv]; exact str_beq x y
theorem inj_int : Inj PyData.int := fun x y => by
  simp only [PyData.eqv]
  by_cases h : x = y
  · subst h; simp
  · rw [decide_eq_false h]; exact beq_eq_false_iff_ne.mpr h
theorem inj_all {e : α → PyData} [DecidableEq α] (h : Inj e) : ∀ xs ys : List α, PyData.eqvAll (xs.map e) (ys.map e) = decide (xs = ys)
  | [], [] => by simp [PyData.eqvAll]
  | [], _ :: _ => by simp [PyData.eqvAll]
  | _ :: _, [] => by simp [PyData.eqvAll]
  | x :: xs, y :: ys => by
    simp only [List.map_cons, PyData.eqvAll, h x y, inj_all h xs ys]
    by_cases h1 : x = y <;> by_cases h2 : xs = ys <;> simp [h1, h2]
theorem inj_tup {e : α → PyData} [DecidableEq α] (h : Inj e) : Inj fun xs : List α => PyData.tuple (xs.map e) := fun xs ys => by simp only [PyData.eqv]; exact inj_all h xs ys
theorem inj_lst {e : α → PyData} [DecidableEq α] (h : Inj e) : Inj fun xs : List α => PyData.list (xs.map e) := fun xs ys => by simp only [PyData.eqv]; exact inj_all h xs ys
theorem any_mem {e : α → PyData} [DecidableEq α] (h : Inj e) (x : α) : ∀ xs : List α, ((xs.map e).any fun z => PyData.eqv z (e x)) = decide (x ∈ xs)
  | [] => by simp
  | y :: ys => by
    rw [List.map_cons, List.any_cons, any_mem h x ys, h y x]
    by_cases h1 : x = y
    · subst h1; simp
    · have h2 : ¬ y = x := fun z => h1 z.symm
      simp [h1, h2]
end
section
variable {K : PySem.W.Frag} {σ : Sl} {M : Hp} {ta tb te ts : TE} {tt : TT} {α β : Type} {R : Rl α} {S : Rl β}
theorem gv_eqT {e : α → PyData} [DecidableEq α] [Mon R] {neg : Bool} {x y : α} (pe : PyR K R e) (ie : Inj e) (ha : Gv ta σ M (R x)) (hb : Gv tb σ M (R y)) (hz : (e x).depth ≤ 60) : Gv (tOp (rEqP K neg) ta tb) σ M (Bl (xor neg (decide (x = y)))) := by
  rw [← ie]
  exact gv_eq (gv_is ha fun M v h => pe _ _ _ h) (gv_is hb fun M v h => pe _ _ _ h) hz
theorem wipe1 {j : Nat} {v : V} : wipe ((wipe σ [j]).set j (some v)) [j] = wipe σ [j] := by
  show ((σ.set j none).set j (some v)).set j none = σ.set j none
  rw [List.set_set, List.set_set]
/-- a comprehension over a list or tuple -/
theorem gl_lc [Mon R] [Mon S] {j : Nat} {xs : List α} (hsrc : Gv ts σ M (SqR K R xs)) (hz : xs.length ≤ sizeLine) (t : α → Bool) (f : α → β)
    (ht : ∀ x ∈ xs, ∀ M1 v, Same M M1 → R x M1 v → GvT tt ((wipe σ [j]).set j (some v)) M1 (t x))
    (he : ∀ x ∈ xs, t x = true → ∀ M1 v, Same M M1 → R x M1 v → Gv te ((wipe σ [j]).set j (some v)) M1 (S (f x))) :
    GvL (tLc (iSq K ts) (gName j) tt te [j]) σ M fun M vs => Pd S M ((xs.filter t).map f) vs := by
  intro H mh Q q
  refine hsrc H mh _ fun v M1 H1 g1 hv => ?_
  have core : ∀ (J : It) (G : Hp → Prop) (vs : List V), Walk J vs.length G (YAt vs) → (∀ M2 H2, Same M1 M2 → Same M2 H2 → G H2) → Pd R M1 xs vs →
      ∀ D, H1 D = none → ∃ W : Nat → Nat → Hp → Prop, (∃ m, W 0 m (upd H1 D (.lst []))) ∧ ∀ i m H, W i m H →
        (J.stop i H ∧ Q (.ref D) H) ∨ (J.go i H ∧ ∃ Nx : Hp → Prop, (∀ H', Nx H' → ∃ m', m' < m ∧ W (i + 1) m' H') ∧ ∀ x H', J.yld i H x H' → gName j x (wipe σ [j]) H' fun σ2 H2 => wipe σ2 [j] = wipe σ [j] ∧ tt σ2 H2 fun b H3 =>
          if b = true then te σ2 H3 fun y H4 => ∃ acc, H4 D = some (.lst acc) ∧ acc.length < sizeLine ∧ Nx (upd H4 D (.lst (acc ++ [y]))) else Nx H3) := by
    intro J G vs w hG hp D hD
    refine lc_it w (fun i H' => ∃ M' ws, Gr M1 H1 M' H' ∧ M' D = none ∧ H' D = some (.lst ws) ∧ ws.length ≤ i ∧ Pd S M' (((xs.take i).filter t).map f) ws) ⟨M1, [], .own g1.mh hD, g1.mh.free hD, upd_same, Nat.le_refl _, .nil⟩ (fun i H' _ ⟨M', ws, g, _⟩ => hG M' H' g.mm g.mh) ?_ ?_
    · rintro i y H' H'' hi ⟨M', ws, g, m0, hw, hl, hpd⟩ ⟨rfl, hy⟩
      obtain ⟨x, hx, rx⟩ := pd_get' hp hy
      have hxm : x ∈ xs := List.mem_of_getElem? hx
      have et : xs.take (i + 1) = xs.take i ++ [x] := by rw [List.take_add_one, hx]; rfl
      have hil : i < xs.length := (List.getElem?_eq_some_iff.mp hx).1
      refine ⟨wipe1, ht x hxm M' y (g1.mm.trans g.mm) (Mon.mono g.mm rx) H'' g.mh _ fun M2 H2 g2 => ?_⟩
      cases ex : t x with
      | true =>
        refine he x hxm ex M2 y ((g1.mm.trans g.mm).trans g2.mm) (Mon.mono (g.mm.trans g2.mm) rx) H2 g2.mh _ fun z M3 H3 g3 hz3 => ?_
        have g' := (g.trans g2).trans g3
        have k3 : H3 D = some (.lst ws) := g3.hh _ _ (g2.hh _ _ hw)
        have m3 : M3 D = none := (g2.trans g3).keep m0 hw
        refine ⟨ws, k3, Nat.lt_of_lt_of_le (Nat.lt_of_le_of_lt hl hil) hz, M3, ws ++ [z], g'.mut hD m3, m3, upd_same, by rw [List.length_append]; exact Nat.succ_le_succ hl, ?_⟩
        rw [et, List.filter_append, List.map_append, List.filter_cons, ex]
        exact pd_app (hpd.mono (g2.mm.trans g3.mm)) (.cons hz3 .nil)
      | false =>
        refine ⟨M2, ws, g.trans g2, g2.keep m0 hw, g2.hh _ _ hw, Nat.le_succ_of_le hl, ?_⟩
        rw [et, List.filter_append, List.map_append, List.filter_cons, ex]
        show Pd S M2 (_ ++ []) ws
        rw [List.append_nil]
        exact hpd.mono g2.mm
    · rintro H' ⟨M', ws, g, m0, hw, hl, hpd⟩
      rw [List.take_of_length_le (by rw [hp.length]; exact Nat.le_refl _)] at hpd
      exact q D ws M' H' (g1.trans g) (g1.hh.free hD) m0 hw hpd
  rcases hv with ⟨a, vs, rfl, hs, hp⟩ | ⟨a, vs, rfl, hs, hp⟩
  · exact ⟨a, rfl, .inl ⟨vs, sl_mono g1.mh hs, core (Itl K a) (fun H => SqL K H a vs) vs walk_list (fun M2 H2 s1 s2 => sl_mono (s1.trans s2) hs) hp⟩⟩
  · exact ⟨a, rfl, .inr ⟨vs, st_mono g1.mh hs, core (Itt K a) (fun H => SqT K H a vs) vs walk_tup (fun M2 H2 s1 s2 => st_mono (s1.trans s2) hs) hp⟩⟩
end
end L3

set_option Elab.async false
set_option linter.all false
set_option maxRecDepth 100000
set_option maxHeartbeats 1000000
namespace L3
open PySem PySem.Spec PyProof.Rows L2
/-! promises of pure defs -/
section
variable {α β γ : Type}
def sp1 (R1 : Rl α) (pre : α → Prop) (R : α → Pr) : Sp := fun vs H Q _ => ∃ x M v, vs = [v] ∧ Same M H ∧ R1 x M v ∧ pre x ∧ ∀ u M' H', Gr M H M' H' → R x M' u → Q u H'
def sp2 (R1 : Rl α) (R2 : Rl β) (pre : α → β → Prop) (R : α → β → Pr) : Sp := fun vs H Q _ => ∃ x y M v w, vs = [v, w] ∧ Same M H ∧ R1 x M v ∧ R2 y M w ∧ pre x y ∧ ∀ u M' H', Gr M H M' H' → R x y M' u → Q u H'
/-- a new list comes back -/
def sl1 (R1 : Rl α) (pre : α → Prop) (R : α → Hp → List V → Prop) : Sp := fun vs H Q _ => ∃ x M v, vs = [v] ∧ Same M H ∧ R1 x M v ∧ pre x ∧
  ∀ p ws M' H', Gr M H M' H' → H p = none → M' p = none → H' p = some (.lst ws) → R x M' ws → Q (.ref p) H'
def sl2 (R1 : Rl α) (R2 : Rl β) (pre : α → β → Prop) (R : α → β → Hp → List V → Prop) : Sp := fun vs H Q _ => ∃ x y M v w, vs = [v, w] ∧ Same M H ∧ R1 x M v ∧ R2 y M w ∧ pre x y ∧
  ∀ p ws M' H', Gr M H M' H' → H p = none → M' p = none → H' p = some (.lst ws) → R x y M' ws → Q (.ref p) H'
variable {K : PySem.W.Frag} {σ : Sl} {M : Hp} {t1 t2 t3 ta te ts : TE} {R1 : Rl α} {R2 : Rl β} {R3 : Rl γ} {E : XK}
theorem gv_call1 {pre : α → Prop} {R : α → Pr} {x : α} (h1 : Gv t1 σ M (R1 x)) (hp : pre x) : Gv (tCall (sp1 R1 pre R) [] E (tCons t1 tNil)) σ M (R x) := fun H mh Q q =>
  h1 H mh _ fun v M1 H1 g1 p1 => ⟨x, M1, v, rfl, g1.mh, p1, hp, fun u M' H' g r => q u M' H' (g1.trans g) r⟩
theorem gv_call2 [Mon R1] [Mon R2] {pre : α → β → Prop} {R : α → β → Pr} {x : α} {y : β} (h1 : Gv t1 σ M (R1 x)) (h2 : Gv t2 σ M (R2 y)) (hp : pre x y) : Gv (tCall (sp2 R1 R2 pre R) [] E (tCons t1 (tCons t2 tNil))) σ M (R x y) := fun H mh Q q =>
  h1 H mh _ fun v M1 H1 g1 p1 => h2.le g1.mm H1 g1.mh _ fun w M2 H2 g2 p2 => ⟨x, y, M2, v, w, rfl, g2.mh, Mon.mono g2.mm p1, p2, hp, fun u M' H' g r => q u M' H' ((g1.trans g2).trans g) r⟩
theorem gl_call2 [Mon R1] [Mon R2] {pre : α → β → Prop} {R : α → β → Hp → List V → Prop} {x : α} {y : β} (h1 : Gv t1 σ M (R1 x)) (h2 : Gv t2 σ M (R2 y)) (hp : pre x y) : GvL (tCall (sl2 R1 R2 pre R) [] E (tCons t1 (tCons t2 tNil))) σ M (R x y) := fun H mh Q q =>
  h1 H mh _ fun v M1 H1 g1 p1 => h2.le g1.mm H1 g1.mh _ fun w M2 H2 g2 p2 => ⟨x, y, M2, v, w, rfl, g2.mh, Mon.mono g2.mm p1, p2, hp, fun p ws M' H' g h0 m0 hw r => q p ws M' H' ((g1.trans g2).trans g) ((g1.trans g2).hh.free h0) m0 hw r⟩
/-! built-ins -/
theorem gv_cb1 {r : List V → Hp → VK → Prop} {P P' : Pr} [Mono P] (h : Gv te σ M P) (hr : ∀ M' v, P M' v → RV (r [v]) M' P') : Gv (tCB r (tCons te tNil)) σ M P' := fun H mh Q q =>
  h H mh _ fun v M1 H1 g1 p1 => hr M1 v p1 H1 g1.mh Q fun u M' H' g r => q u M' H' (g1.trans g) r
theorem pd_bl {bs : List Bool} {M : Hp} : ∀ {vs : List V}, Pd Bl M bs vs → vs = bs.map V.bl := by
  induction bs with
  | nil => intro vs h; cases h; rfl
  | cons b bs ih => intro vs h; cases h with | cons q t => rw [ih t, (show _ = V.bl b from q)]; rfl
theorem pd_tx {xs : List Str} {M : Hp} : ∀ {vs : List V}, Pd Tx M xs vs → vs = xs.map V.str := by
  induction xs with
  | nil => intro vs h; cases h; rfl
  | cons b bs ih => intro vs h; cases h with | cons q t => rw [ih t, (show _ = V.str b from q)]; rfl
theorem pd_of_tx {M : Hp} : ∀ (xs : List Str), Pd Tx M xs (xs.map V.str)
  | [] => .nil
  | _ :: r => .cons rfl (pd_of_tx r)
theorem gv_all {bs : List Bool} (h : GvL te σ M fun M vs => Pd Bl M bs vs) : Gv (tCB (rAll K) (tCons te tNil)) σ M (Bl (bs.all id)) := fun H mh Q q =>
  h H mh _ fun p vs M' H' g h0 m0 hw r => ⟨p, bs, rfl, by rw [pd_bl r] at hw; exact .inl (.inl hw), q _ M' H' g rfl⟩
theorem gv_any {bs : List Bool} (h : GvL te σ M fun M vs => Pd Bl M bs vs) : Gv (tCB (rAny K) (tCons te tNil)) σ M (Bl (bs.any id)) := fun H mh Q q =>
  h H mh _ fun p vs M' H' g h0 m0 hw r => ⟨p, bs, rfl, by rw [pd_bl r] at hw; exact .inl (.inl hw), q _ M' H' g rfl⟩
def rTupOf (K : PySem.W.Frag) : List V → Hp → VK → Prop := fun xs H Q => ∃ p ys, xs = [.ref p] ∧ ((SqL K H p ys ∧ ∀ l, H l = none → Q (.ref l) (upd H l (.tup ys))) ∨ (SqT K H p ys ∧ Q (.ref p) H))
def rLstOf (K : PySem.W.Frag) : List V → Hp → VK → Prop := fun xs H Q => ∃ p ys, xs = [.ref p] ∧ (SqL K H p ys ∨ SqT K H p ys) ∧ ∀ l, H l = none → Q (.ref l) (upd H l (.lst ys))
def rLenOf (K : PySem.W.Frag) : List V → Hp → VK → Prop := fun xs H Q => ∃ p ys, xs = [.ref p] ∧ (SqL K H p ys ∨ SqT K H p ys) ∧ Q (.int ys.length) H
theorem gl_lstOf [Mon R1] {xs : List α} (h : Gv te σ M (SqR K R1 xs)) : GvL (tCB (rLstOf K) (tCons te tNil)) σ M fun M vs => Pd R1 M xs vs := fun H mh Q q =>
  h H mh _ fun v M1 H1 g1 hv => by
    rcases hv with ⟨a, vs, rfl, hs, hp⟩ | ⟨a, vs, rfl, hs, hp⟩
    · exact ⟨a, vs, rfl, .inl (sl_mono g1.mh hs), fun l nl => q l vs M1 _ (g1.trans (.own g1.mh nl)) (g1.hh.free nl) (g1.mh.free nl) upd_same hp⟩
    · exact ⟨a, vs, rfl, .inr (st_mono g1.mh hs), fun l nl => q l vs M1 _ (g1.trans (.own g1.mh nl)) (g1.hh.free nl) (g1.mh.free nl) upd_same hp⟩
/-! texts cut -/
/-! loops -/
variable {D : Ends} {tb : TS}
theorem s_for [Mon R1] {j : Nat} {xs : List α} {H : Hp} (mh : Same M H) (hsrc : Gv ts σ M (SqR K R1 xs)) (Pv : Hp → Nat → Sl → Hp → Hp → Prop)
    (h0 : ∀ M1 H1, Gr M H M1 H1 → Pv M1 0 σ M1 H1) (hk : ∀ M1 i σ' M' H', Pv M1 i σ' M' H' → Same M1 M' ∧ Same M' H')
    (hs : ∀ M1 i x v σ' M' H', Same M M1 → xs[i]? = some x → Pv M1 i σ' M' H' → R1 x M' v → tb { D with nx := fun σ2 H2 => ∃ M2, Pv M1 (i + 1) σ2 M2 H2, ct := fun σ2 H2 => ∃ M2, Pv M1 (i + 1) σ2 M2 H2, bk := D.nx } (σ'.set j (some v)) H')
    (hd : ∀ M1 σ' M' H', Same M M1 → Pv M1 xs.length σ' M' H' → D.nx σ' H') : tFor (iSq K ts) (gName j) tb D σ H := by
  refine hsrc H mh _ fun v M1 H1 g1 hv => ?_
  have core : ∀ (J : It) (G : Hp → Prop) (vs : List V), Walk J vs.length G (YAt vs) → (∀ M2 H2, Same M1 M2 → Same M2 H2 → G H2) → Pd R1 M1 xs vs →
      ∃ W : Nat → Nat → L2.St → Hp → Prop, (∃ m, W 0 m σ H1) ∧ ∀ i m σ H, W i m σ H →
        (J.stop i H ∧ D.nx σ H) ∨ (J.go i H ∧ ∃ N : L2.St → Hp → Prop, (∀ σ' H', N σ' H' → ∃ m', m' < m ∧ W (i + 1) m' σ' H') ∧ ∀ x H', J.yld i H x H' → gName j x σ H' fun σ2 H2 => tb { D with nx := N, ct := N, bk := D.nx } σ2 H2) := by
    intro J G vs w hG hp
    refine for_it w (fun i σ' H' => ∃ M', Pv M1 i σ' M' H') ⟨M1, h0 M1 H1 g1⟩ (fun i σ' H' _ ⟨M', p⟩ => hG M' H' (hk _ _ _ _ _ p).1 (hk _ _ _ _ _ p).2) ?_ ?_
    · rintro i y σ' H' H'' hi ⟨M', p⟩ ⟨rfl, hy⟩
      obtain ⟨x, hx, rx⟩ := pd_get' hp hy
      exact hs M1 i x y σ' M' _ g1.mm hx p (Mon.mono (hk _ _ _ _ _ p).1 rx)
    · rintro σ' H' ⟨M', p⟩
      rw [← hp.length] at p
      exact hd M1 σ' M' H' g1.mm p
  rcases hv with ⟨a, vs, rfl, hs', hp⟩ | ⟨a, vs, rfl, hs', hp⟩
  · exact ⟨a, rfl, .inl ⟨vs, sl_mono g1.mh hs', core (Itl K a) (fun H => SqL K H a vs) vs walk_list (fun M2 H2 s1 s2 => sl_mono (s1.trans s2) hs') hp⟩⟩
  · exact ⟨a, rfl, .inr ⟨vs, st_mono g1.mh hs', core (Itt K a) (fun H => SqT K H a vs) vs walk_tup (fun M2 H2 s1 s2 => st_mono (s1.trans s2) hs') hp⟩⟩
/-- for i, x in enumerate(xs) -/
theorem s_forE [Mon R1] {j k : Nat} {xs : List α} {H : Hp} (mh : Same M H) (hsrc : Gv ts σ M (SqR K R1 xs)) (Pv : Hp → Nat → Sl → Hp → Hp → Prop)
    (h0 : ∀ M1 H1, Gr M H M1 H1 → Pv M1 0 σ M1 H1) (hk : ∀ M1 i σ' M' H', Pv M1 i σ' M' H' → Same M1 M' ∧ Same M' H')
    (hs : ∀ M1 i x v σ' M' H' H'', Same M M1 → xs[i]? = some x → Pv M1 i σ' M' H' → Gr M' H' M' H'' → R1 x M' v →
      tb { D with nx := fun σ2 H2 => ∃ M2, Pv M1 (i + 1) σ2 M2 H2, ct := fun σ2 H2 => ∃ M2, Pv M1 (i + 1) σ2 M2 H2, bk := D.nx } ((σ'.set j (some (.int (i : Nat)))).set k (some v)) H'')
    (hd : ∀ M1 σ' M' H', Same M M1 → Pv M1 xs.length σ' M' H' → D.nx σ' H') : tFor (iEn K (tCons ts tNil)) (gTup K 2 (gCons (gName j) (gCons (gName k) gNil))) tb D σ H := by
  refine hsrc H mh _ fun v M1 H1 g1 hv => ?_
  have core : ∀ (J : It) (G : Hp → Prop) (vs : List V), Walk J vs.length G (YPair (fun i => some (.int (i : Nat))) fun i => vs[i]?) → (∀ M2 H2, Same M1 M2 → Same M2 H2 → G H2) → Pd R1 M1 xs vs →
      ∃ W : Nat → Nat → L2.St → Hp → Prop, (∃ m, W 0 m σ H1) ∧ ∀ i m σ H, W i m σ H →
        (J.stop i H ∧ D.nx σ H) ∨ (J.go i H ∧ ∃ N : L2.St → Hp → Prop, (∀ σ' H', N σ' H' → ∃ m', m' < m ∧ W (i + 1) m' σ' H') ∧ ∀ x H', J.yld i H x H' → gTup K 2 (gCons (gName j) (gCons (gName k) gNil)) x σ H' fun σ2 H2 => tb { D with nx := N, ct := N, bk := D.nx } σ2 H2) := by
    intro J G vs w hG hp
    refine for_it w (fun i σ' H' => ∃ M', Pv M1 i σ' M' H') ⟨M1, h0 M1 H1 g1⟩ (fun i σ' H' _ ⟨M', p⟩ => hG M' H' (hk _ _ _ _ _ p).1 (hk _ _ _ _ _ p).2) ?_ ?_
    · rintro i y σ' H' H'' hi ⟨M', p⟩ ⟨T, x1, x2, rfl, nT, rfl, e1, hy⟩
      cases e1
      obtain ⟨x, hx, rx⟩ := pd_get' hp hy
      have km := hk _ _ _ _ _ p
      refine ⟨T, _, rfl, .inl (.inl upd_same), rfl, _, _, rfl, _, _, rfl, rfl, ?_⟩
      exact hs M1 i x x2 σ' M' H' _ g1.mm hx p (.own km.2 nT) (Mon.mono km.1 rx)
    · rintro σ' H' ⟨M', p⟩
      rw [← hp.length] at p
      exact hd M1 σ' M' H' g1.mm p
  rcases hv with ⟨a, vs, rfl, hs', hp⟩ | ⟨a, vs, rfl, hs', hp⟩
  · exact ⟨a, rfl, .inl ⟨vs, sl_mono g1.mh hs', core (IeS fun H xs => SqL K H a xs) (fun H => SqL K H a vs) vs walk_eS (fun M2 H2 s1 s2 => sl_mono (s1.trans s2) hs') hp⟩⟩
  · exact ⟨a, rfl, .inr ⟨vs, st_mono g1.mh hs', core (IeS fun H xs => SqT K H a xs) (fun H => SqT K H a vs) vs walk_eS (fun M2 H2 s1 s2 => st_mono (s1.trans s2) hs') hp⟩⟩
end
end L3

set_option Elab.async false
set_option linter.all false
set_option maxRecDepth 100000
set_option maxHeartbeats 1000000
namespace L3
open PySem PySem.Spec PyProof.Rows L2
/-! one rule for each operator, whatever the kinds -/
def rDIn (neg : Bool) : R2 := fun x y H Q => ∃ a o, y = .ref a ∧ DGet H a x o ∧ Q (.bl (xor neg o.isSome)) H
def rSgn (neg : Bool) : R2 := fun x y H Q => ∃ (c : Nat) (z : Str), x = .str ⟨#[c]⟩ ∧ y = .str z ∧ Q (.bl (xor neg (decide (c ∈ z.cps.toList)))) H
def rInA (K : PySem.W.Frag) (neg : Bool) : R2 := fun x y H Q => rInP K neg x y H Q ∨ rDIn neg x y H Q ∨ rSgn neg x y H Q
def rAddI : R2 := rI0 fun i j => .int (i + j)
def rAddS : R2 := fun x y H Q => ∃ i j, x = .str i ∧ y = .str j ∧ i.length + j.length ≤ sizeLine ∧ Q (.str (i ++ j)) H
def rAddA (K : PySem.W.Frag) : R2 := fun x y H Q => rAddI x y H Q ∨ rAddS x y H Q ∨ rCatA K x y H Q ∨ rCat x y H Q
def rLenS : List V → Hp → VK → Prop := fun xs H Q => ∃ z, xs = [.str z] ∧ z.length ≤ sizeLine ∧ Q (.int z.length) H
def rLenD : List V → Hp → VK → Prop := fun xs H Q => ∃ a kvs, xs = [V.ref a] ∧ H a = some (.dK kvs) ∧ Q (.int kvs.length) H
def rLenA (K : PySem.W.Frag) : List V → Hp → VK → Prop := fun xs H Q => rLenOf K xs H Q ∨ rLenS xs H Q ∨ rLenD xs H Q
def rSlX (K : PySem.W.Frag) : V → Option Int → Option Int → Hp → VK → Prop := fun x lo hi H Q => rSlS x lo hi H Q ∨ rSlL K x lo hi H Q ∨ rSlA K x lo hi H Q
def rIxX (K : PySem.W.Frag) : R2 := fun x y H Q => rIxL K x y H Q ∨ rIxT K x y H Q ∨ rIxS x y H Q
section
variable {X : Cx}
theorem CallR.or {f : Value} {r r' : List V → Hp → VK → Prop} (h : CallR X f r) (h' : CallR X f r') : CallR X f (fun xs H Q => r xs H Q ∨ r' xs H Q) := fun pins s σ H xs us Q I rx q => q.elim (h pins s σ H xs us Q I rx) (h' pins s σ H xs us Q I rx)
theorem op_dIn (hu : X.A.units + 64 < cLine) : OpR X (compareOp .In) (rDIn false) := by
  intro pins s σ H x y v u Q I rx ry ⟨a, o, ey, g, q⟩
  subst ey
  cases ry
  exact d_in (by omega) I g rx fun s' I' => ⟨.bl _, H, I', rfl, by simpa using q⟩
theorem op_dNotIn (hu : X.A.units + 64 < cLine) : OpR X (compareOp .NotIn) (rDIn true) := by
  intro pins s σ H x y v u Q I rx ry ⟨a, o, ey, g, q⟩
  subst ey
  cases ry
  exact d_notIn (by omega) I g rx fun s' I' => ⟨.bl _, H, I', rfl, by simpa using q⟩
theorem op_sgn : OpR X (compareOp .In) (rSgn false) := by
  intro pins s σ H x y v u Q I rx ry ⟨c, z, e1, e2, q⟩
  exact op_in_sign pins s σ H x y v u Q I rx ry ⟨c, z, e1, e2, by simpa using q⟩
theorem op_nsgn : OpR X (compareOp .NotIn) (rSgn true) := by
  intro pins s σ H x y v u Q I rx ry ⟨c, z, e1, e2, q⟩
  exact op_notIn_sign pins s σ H x y v u Q I rx ry ⟨c, z, e1, e2, by simpa using q⟩
theorem op_inA (hu : X.A.units + 64 < cLine) : OpR X (compareOp .In) (rInA X.K false) := (op_inP hu).or ((op_dIn hu).or op_sgn)
theorem op_niA (hu : X.A.units + 64 < cLine) : OpR X (compareOp .NotIn) (rInA X.K true) := (op_notInP hu).or ((op_dNotIn hu).or op_nsgn)
theorem op_addA : OpR X (binaryOp .Add) (rAddA X.K) := OpR.or op_add (OpR.or op_add_str (OpR.or op_catA op_cat))
theorem call_lenA : CallR X (.builtin "len") (rLenA X.K) := CallR.or call_len_seq (CallR.or call_len_str call_lenD)
theorem sl_X : SlR X (rSlX X.K) := SlR.or sl_str (SlR.or sl_list sl_tupA)
theorem ix_X : IxR X (rIxX X.K) := IxR.or ix_list (IxR.or ix_tup ix_str)
theorem call_tupA : CallR X (.type "tuple") (rTupOf X.K) := call_tuple_of
theorem call_lstA : CallR X (.type "list") (rLstOf X.K) := call_list_of
end
/-! dicts whose keys are texts, each with True -/
def kvT (ks : List Str) : List (Key × V) := ks.map fun k => (Sum.inr k, V.bl true)
def DcR : Rl (List Str) := fun ks M v => ∃ a, v = .ref a ∧ Rd M a (.dK (kvT ks))
instance : Mon DcR := ⟨fun e ⟨a, h, r⟩ => ⟨a, h, rd_mono e r⟩⟩
theorem val_kvT (x : Str) : ∀ ks : List Str, (valV (kvT ks) (Sum.inr x : Key)).isSome = decide (x ∈ ks)
  | [] => rfl
  | k :: ks => by
    have ih := val_kvT x ks
    unfold valV kvT at ih ⊢
    rw [List.map_cons, List.find?_cons]
    by_cases h : k = x
    · subst h; simp
    · have h1 : ¬ (Sum.inr k : Key) = Sum.inr x := fun z => h (Sum.inr.inj z)
      have h2 : ¬ x = k := fun z => h z.symm
      simp only [h1, decide_false, List.mem_cons, h2, false_or]
      exact ih
/-- anything with texts that «in» asks -/
def CtR (K : PySem.W.Frag) : Rl (List Str) := fun xs M v => SqR K Tx xs M v ∨ DcR xs M v
instance {K : PySem.W.Frag} : Mon (CtR K) := ⟨fun e h => h.imp (Mon.mono e) (Mon.mono e)⟩
section
variable {K : PySem.W.Frag} {σ : Sl} {M : Hp} {ta tb te ts : TE} {tt : TT} {α β : Type} {R : Rl α} {S : Rl β}
theorem gv_inA {neg : Bool} {x : Str} {xs : List Str} (ha : Gv ta σ M (Tx x)) (hb : Gv tb σ M (CtR K xs)) : Gv (tOp (rInA K neg) ta tb) σ M (Bl (xor neg (decide (x ∈ xs)))) :=
  gv_op ha hb fun M' u w px py => rv_pure (fun H mh Q q => by
    rcases py with py | ⟨a, e, r⟩
    · exact .inl ⟨.str x, _, (by cases px; exact .str x), (py_sq py_str py).mono mh, (by simp [PyData.depth]), (by rw [any_mem inj_str]; exact q)⟩
    · subst e
      cases px
      exact .inr (.inl ⟨a, _, rfl, .inl ⟨_, Sum.inr x, rd_mono mh r, rfl, rfl⟩, by rw [val_kvT]; exact q⟩)) rfl
/-- .. of data -/
theorem gv_inD {e : α → PyData} [DecidableEq α] [Mon R] {neg : Bool} {x : α} {xs : List α} (pe : PyR K R e) (ie : Inj e) (ha : Gv ta σ M (R x)) (hb : Gv tb σ M (SqR K R xs)) (hz : (e x).depth ≤ 60) : Gv (tOp (rInA K neg) ta tb) σ M (Bl (xor neg (decide (x ∈ xs)))) :=
  gv_op ha hb fun M' u w px py => rv_pure (fun H mh Q q => .inl ⟨e x, _, dp_mono mh (pe _ _ _ px), (py_sq pe py).mono mh, hz, by rw [any_mem ie]; exact q⟩) rfl
theorem gv_sgn {neg : Bool} {c : Nat} {z : Str} (ha : Gv ta σ M (Tx ⟨#[c]⟩)) (hb : Gv tb σ M (Tx z)) : Gv (tOp (rInA K neg) ta tb) σ M (Bl (xor neg (decide (c ∈ z.cps.toList)))) :=
  gv_op ha hb fun M' u w px py => rv_pure (fun H mh Q q => .inr (.inr ⟨c, z, px, py, q⟩)) rfl
theorem gv_addSt {x y : Str} (ha : Gv ta σ M (Tx x)) (hb : Gv tb σ M (Tx y)) (hz : x.length + y.length ≤ sizeLine) : Gv (tOp (rAddA K) ta tb) σ M (Tx (x ++ y)) :=
  gv_op ha hb fun M' u w px py => rv_pure (fun H mh Q q => .inr (.inl ⟨x, y, px, py, hz, q⟩)) rfl
theorem gv_addIn {x y : Int} (ha : Gv ta σ M (It' x)) (hb : Gv tb σ M (It' y)) : Gv (tOp (rAddA K) ta tb) σ M (It' (x + y)) :=
  gv_op ha hb fun M' u w px py => rv_pure (fun H mh Q q => .inl ⟨x, y, px, py, q⟩) rfl
theorem gv_lenA [Mon R] {xs : List α} (h : Gv te σ M (SqR K R xs)) : Gv (tCB (rLenA K) (tCons te tNil)) σ M (It' xs.length) := gv_cb1 h fun M' v hv H mh Q q => by
  rcases hv with ⟨a, vs, rfl, hs, hp⟩ | ⟨a, vs, rfl, hs, hp⟩
  · exact .inl ⟨a, vs, rfl, .inl (sl_mono mh hs), q _ M' H (.refl mh) (by rw [hp.length])⟩
  · exact .inl ⟨a, vs, rfl, .inr (st_mono mh hs), q _ M' H (.refl mh) (by rw [hp.length])⟩
theorem gv_lenS {x : Str} (h : Gv te σ M (Tx x)) (hz : x.length ≤ sizeLine) : Gv (tCB (rLenA K) (tCons te tNil)) σ M (It' x.length) := gv_cb1 h fun M' v hv H mh Q q => .inr (.inl ⟨x, by rw [hv], hz, q _ M' H (.refl mh) rfl⟩)
theorem gv_cutS {tl th : TO} {x : Str} {lo hi : Option Int} (h : Gv te σ M (Tx x)) (hz : x.length ≤ sizeLine)
    (hl : ∀ (H : Hp) (Q : Option Int → Hp → Prop), Q lo H → tl σ H Q) (hh : ∀ (H : Hp) (Q : Option Int → Hp → Prop), Q hi H → th σ H Q) : Gv (tSl (rSlX K) te tl th) σ M (Tx (cutS x lo hi)) := fun H mh Q q =>
  h H mh _ fun v M1 H1 g1 p => hl H1 _ (hh H1 _ (.inl ⟨x, p, hz, q _ M1 H1 g1 rfl⟩))
/-- an item -/
theorem gv_ix [Mon R] {xs : List α} {i : Int} {x : α} (ha : Gv ta σ M (SqR K R xs)) (hb : Gv tb σ M (It' i)) (hx : atI xs i = some x) : Gv (tOp (rIxX K) ta tb) σ M (R x) := by
  refine gv_op ha hb fun M' u w pu pw => ?_
  cases (show w = .int i from pw)
  unfold atI at hx
  obtain ⟨j, hj, hx⟩ := Option.bind_eq_some_iff.mp hx
  rcases pu with ⟨a, vs, rfl, hs, hp⟩ | ⟨a, vs, rfl, hs, hp⟩
  all_goals
    obtain ⟨v, hv, rv⟩ := pd_get hp hx
    have ha : atI vs i = some v := by unfold atI; rw [← hp.length, hj]; exact hv
  · exact rv_pure (v := v) (fun H mh Q q => .inl ⟨a, vs, i, v, rfl, rfl, sl_mono mh hs, ha, q⟩) rv
  · exact rv_pure (v := v) (fun H mh Q q => .inr (.inl ⟨a, vs, i, v, rfl, rfl, st_mono mh hs, ha, q⟩)) rv
theorem gv_ixS {x : Str} {i : Int} {c : Nat} (ha : Gv ta σ M (Tx x)) (hb : Gv tb σ M (It' i)) (hz : x.length ≤ sizeLine) (hx : atI x.cps.toList i = some c) : Gv (tOp (rIxX K) ta tb) σ M (Tx ⟨#[c]⟩) :=
  gv_op ha hb fun M' u w pu pw => rv_pure (fun H mh Q q => .inr (.inr ⟨x, i, c, pu, pw, hz, hx, q⟩)) rfl
/-- a written tuple of two texts -/
theorem gv_tup2 {x y : Str} (h1 : Gv ta σ M (Tx x)) (h2 : Gv tb σ M (Tx y)) : Gv (tTup (tCons ta (tCons tb tNil))) σ M (TupR K Tx [x, y]) := fun H mh Q q =>
  h1 H mh _ fun v M1 H1 g1 p1 => h2.le g1.mm H1 g1.mh _ fun w M2 H2 g2 p2 => ⟨by show 2 ≤ sizeLine; decide, fun p np => q _ _ _ ((g1.trans g2).trans (.new g2.mh np)) ⟨p, _, rfl, .inl (.inl upd_same), .cons p1 (.cons p2 .nil)⟩⟩
end
end L3

set_option Elab.async false
set_option linter.all false
set_option maxRecDepth 100000
set_option maxHeartbeats 1000000
namespace L3
open PySem PySem.Spec PyProof.Rows L2
/-! calls of defs by name -/
def Cal (P : Program) (w : World) (K : PySem.W.Frag) (mg : Str → Option Value) (base : Heap) (k : Nat) (x : Str) (ps : List Str) (sp : Sp) : Prop :=
  ∃ f fd, FnOk P w K mg base CX0 k f fd ps sp ∧ mg x = some (.ref f) ∧ PySem.W.keepIn K (.ref f) = true ∧ Binds K fd ps []
theorem pe_f {X : Cx} {k : Nat} {x : Str} {ps : List Str} {sp : Sp} {e : Expr} {es : List Expr} {t : TA} {p pos : Pos} (c : Cal X.prog X.w X.K X.mg X.base k x ps sp) (hr : Room k X.A) (ha : PA X (e :: es) t) (hg : Gl X x := by rfl)
    (hdb : (x == ("__debug__" : Str)) = false := by decide) (he : starEach (e :: es) X.env = (false, eval e X.env) :: starEach es X.env := by rfl) (hpl : (backTo pos (starEach es X.env)).any (·.1) = false := by rfl) :
    PE X (.Call (.Name x p) (e :: es) [] pos) (tCall sp [] E0 t) :=
  let ⟨_, _, G, m, kp, b⟩ := c
  pe_call G hr hg m kp b .nil pass0 ha hdb he hpl
/-! small statements -/
section
variable {K : PySem.W.Frag} {σ : Sl} {M H : Hp} {te : TE} {P : Pr} {D : Ends} {tu tw tz : TS} {tt : TT} {b : Bool}
theorem s_ret (mh : Same M H) (h : Gv te σ M P) (k : ∀ v M' H', Gr M H M' H' → P M' v → D.rt v H') : tRet te D σ H := h H mh _ k
theorem s_retL {P : Hp → List V → Prop} (mh : Same M H) (h : GvL te σ M P) (k : ∀ p vs M' H', Gr M H M' H' → H p = none → M' p = none → H' p = some (.lst vs) → P M' vs → D.rt (.ref p) H') : tRet te D σ H := h H mh _ k
theorem s_asg {i : Nat} (mh : Same M H) (h : Gv te σ M P) (k : ∀ v M' H', Gr M H M' H' → P M' v → D.nx (σ.set i (some v)) H') : tAsg te (gName i) D σ H := h H mh _ k
theorem q_asg {i : Nat} (mh : Same M H) (h : Gv te σ M P) (k : ∀ v M' H', Gr M H M' H' → P M' v → tz D (σ.set i (some v)) H') : tSeq (tAsg te (gName i)) tz D σ H := h H mh _ k
theorem q_asgL {i : Nat} {P : Hp → List V → Prop} (mh : Same M H) (h : GvL te σ M P) (k : ∀ p vs M' H', Gr M H M' H' → H p = none → M' p = none → H' p = some (.lst vs) → P M' vs → tz D (σ.set i (some (.ref p))) H') : tSeq (tAsg te (gName i)) tz D σ H := h H mh _ k
theorem q_if (mh : Same M H) (h : GvT tt σ M b) (h1 : b = true → ∀ H', Same H H' → tu { D with nx := tz D } σ H') (h2 : b = false → ∀ H', Same H H' → tw { D with nx := tz D } σ H') : tSeq (tIfS tt tu tw) tz D σ H := h H mh _ fun M' H' g => by
  cases b with
  | true => exact h1 rfl H' g.hh
  | false => exact h2 rfl H' g.hh
theorem s_if (mh : Same M H) (h : GvT tt σ M b) (h1 : b = true → ∀ H', Same H H' → tu D σ H') (h2 : b = false → ∀ H', Same H H' → tw D σ H') : tIfS tt tu tw D σ H := h H mh _ fun M' H' g => by
  cases b with
  | true => exact h1 rfl H' g.hh
  | false => exact h2 rfl H' g.hh
theorem Gr.idle {M H H' : Hp} (mh : Same M H) (hh : Same H H') : Gr M H M H' := ⟨Same.refl M, hh, mh.trans hh, fun _ _ e => .inl e, fun _ _ e => e⟩
/-- an empty list, ours -/
theorem gl_nil : GvL (tLst tNil) σ M fun _ vs => vs = [] := gl_lst ga_nil fun _ vs h => by rw [h]; exact Nat.zero_le _
/-- xs.append(e), xs in slot i at p -/
theorem s_app {i : Nat} {p : Addr} {vs : List V} (mh : Same M H) (hi : σ[i]? = some (some (.ref p))) (hp : H p = some (.lst vs)) (hz : vs.length < sizeLine) (h : Gv te σ M P)
    (k : ∀ v M' H', Gr M H M' H' → P M' v → D.nx σ (upd H' p (.lst (vs ++ [v])))) : tDrop (tBM K "list" rAppend (tVar i) (tCons te tNil)) D σ H :=
  ⟨.ref p, hi, .inl ⟨rfl, _, .inl (.inl hp)⟩, h H mh _ fun v M' H' g r => ⟨p, vs, v, rfl, rfl, g.hh _ _ hp, hz, k v M' H' g r⟩⟩
/-- xs.extend(e), e a new list -/
theorem s_ext {i : Nat} {p : Addr} {vs : List V} {P : Hp → List V → Prop} (mh : Same M H) (hi : σ[i]? = some (some (.ref p))) (hp : H p = some (.lst vs)) (h : GvL te σ M P) (hz : ∀ M' ws, P M' ws → vs.length + ws.length ≤ sizeLine)
    (k : ∀ ws M' H', Gr M H M' H' → P M' ws → D.nx σ (upd H' p (.lst (vs ++ ws)))) : tDrop (tBM K "list" rExtend (tVar i) (tCons te tNil)) D σ H :=
  ⟨.ref p, hi, .inl ⟨rfl, _, .inl (.inl hp)⟩, h H mh _ fun b ws M' H' g h0 m0 hb r => ⟨p, b, vs, ws, rfl, rfl, g.hh _ _ hp, hb, hz M' ws r, k ws M' H' g r⟩⟩
end
/-- what we own: new since H0, not known to M -/
structure Own (H0 M H : Hp) (p : Addr) (vs : List V) : Prop where
  h0 : H0 p = none
  m : M p = none
  h : H p = some (.lst vs)
theorem Own.fr {H0 M H : Hp} {p : Addr} {vs : List V} (o : Own H0 M H p vs) (mh : Same M H) : Same (upd M p (.lst vs)) H := fun b u e => by
  by_cases hb : b = p
  · subst hb; rw [upd_same] at e; rw [o.h]; exact e
  · rw [upd_ne hb] at e; exact mh b u e
theorem Own.up {H0 M H : Hp} {p : Addr} {vs : List V} (o : Own H0 M H p vs) : Same M (upd M p (.lst vs)) := same_new o.m
theorem Own.idle {H0 M H H' : Hp} {p : Addr} {vs : List V} (o : Own H0 M H p vs) (hh : Same H H') : Own H0 M H' p vs := ⟨o.h0, o.m, hh _ _ o.h⟩
theorem Own.put {H0 M H : Hp} {p : Addr} {vs ws : List V} (o : Own H0 M H p vs) : Own H0 M (upd H p (.lst ws)) p ws := ⟨o.h0, o.m, upd_same⟩
theorem Own.lst {K : PySem.W.Frag} {α : Type} {R : Rl α} {H0 M H : Hp} {p : Addr} {vs : List V} {xs : List α} [Mon R] (o : Own H0 M H p vs) (h : Pd R M xs vs) : LstR K R xs (upd M p (.lst vs)) (.ref p) := ⟨p, vs, rfl, .inl (.inl upd_same), h.mono o.up⟩
theorem Own.step {H0 M H M' H' : Hp} {p : Addr} {vs : List V} (o : Own H0 M H p vs) (g : Gr M H M' H') : Own H0 M' H' p vs := ⟨o.h0, g.keep o.m o.h, g.hh _ _ o.h⟩
section
variable {K : PySem.W.Frag} {σ : Sl} {M : Hp} {ts : TE} {α : Type} {R1 : Rl α} {D : Ends} {tb tz : TS}
theorem q_for [Mon R1] {j : Nat} {xs : List α} {H : Hp} (mh : Same M H) (hsrc : Gv ts σ M (SqR K R1 xs)) (Pv : Hp → Nat → Sl → Hp → Hp → Prop)
    (h0 : ∀ M1 H1, Gr M H M1 H1 → Pv M1 0 σ M1 H1) (hk : ∀ M1 i σ' M' H', Pv M1 i σ' M' H' → Same M1 M' ∧ Same M' H')
    (hs : ∀ M1 i x v σ' M' H', Same M M1 → xs[i]? = some x → Pv M1 i σ' M' H' → R1 x M' v → tb { D with nx := fun σ2 H2 => ∃ M2, Pv M1 (i + 1) σ2 M2 H2, ct := fun σ2 H2 => ∃ M2, Pv M1 (i + 1) σ2 M2 H2, bk := tz D } (σ'.set j (some v)) H')
    (hd : ∀ M1 σ' M' H', Same M M1 → Pv M1 xs.length σ' M' H' → tz D σ' H') : tSeq (tFor (iSq K ts) (gName j) tb) tz D σ H := s_for (D := { D with nx := tz D }) mh hsrc Pv h0 hk hs hd
theorem q_forE [Mon R1] {j k : Nat} {xs : List α} {H : Hp} (mh : Same M H) (hsrc : Gv ts σ M (SqR K R1 xs)) (Pv : Hp → Nat → Sl → Hp → Hp → Prop)
    (h0 : ∀ M1 H1, Gr M H M1 H1 → Pv M1 0 σ M1 H1) (hk : ∀ M1 i σ' M' H', Pv M1 i σ' M' H' → Same M1 M' ∧ Same M' H')
    (hs : ∀ M1 i x v σ' M' H' H'', Same M M1 → xs[i]? = some x → Pv M1 i σ' M' H' → Gr M' H' M' H'' → R1 x M' v →
      tb { D with nx := fun σ2 H2 => ∃ M2, Pv M1 (i + 1) σ2 M2 H2, ct := fun σ2 H2 => ∃ M2, Pv M1 (i + 1) σ2 M2 H2, bk := tz D } ((σ'.set j (some (.int (i : Nat)))).set k (some v)) H'')
    (hd : ∀ M1 σ' M' H', Same M M1 → Pv M1 xs.length σ' M' H' → tz D σ' H') : tSeq (tFor (iEn K (tCons ts tNil)) (gTup K 2 (gCons (gName j) (gCons (gName k) gNil))) tb) tz D σ H := s_forE (D := { D with nx := tz D }) mh hsrc Pv h0 hk hs hd
/-- the whole of a tuple of ours: tuple(xs) -/
theorem s_retTup {i : Nat} {p : Addr} {vs : List V} {H : Hp} (mh : Same M H) (hi : σ[i]? = some (some (.ref p))) (hp : H p = some (.lst vs))
    (k : ∀ l, H l = none → D.rt (.ref l) (upd H l (.tup vs))) : tRet (tCB (rTupOf K) (tCons (tVar i) tNil)) D σ H := ⟨.ref p, hi, p, vs, rfl, .inl ⟨.inl (.inl hp), k⟩⟩
end
end L3

set_option Elab.async false
set_option linter.all false
set_option maxRecDepth 100000
set_option maxHeartbeats 1000000
namespace L3
open PySem PySem.Spec PyProof.Rows L2
/-! isinstance of data -/
def tyN : PyData → String
  | .none => "NoneType" | .bool _ => "bool" | .int _ => "int" | .str _ => "str" | .list _ => "list" | .tuple _ => "tuple" | .dict _ => "dict"
theorem ty_of {K : PySem.W.Frag} {H : Hp} {v : V} {d : PyData} (h : Dp K H v d) : TyX K H v (.type (tyN d)) := by
  cases h with
  | non => exact .base .non
  | bl b => exact .base (.bl b)
  | int i => exact .base (.int i)
  | str x => exact .base (.str x)
  | lst hs ha =>
    rcases hs with (h | ⟨o, h⟩) | ⟨o, its, n, hk, hc, _⟩
    · exact .base (.lst h)
    · exact .base (.frz h)
    · exact .kList hk hc
  | tup hs ha =>
    rcases hs with (h | ⟨o, h⟩) | ⟨o, its, n, hk, hc, _⟩
    · exact .base (.tup h)
    · exact .fTuple h
    · exact .kTuple hk hc
section
variable {K : PySem.W.Frag} {σ : Sl} {M : Hp} {ta tb te ts : TE} {α : Type} {R : Rl α}
theorem gv_isi {d : PyData} {n : String} {b : Bool} (h : Gv ta σ M (Dd K d)) (hk : kitB (tyN d) n = some b) : Gv (tCB (rIsi K) (tCons ta (tCons (tC (.ty n)) tNil))) σ M (Bl b) := fun H mh Q q =>
  h H mh _ fun v M1 H1 g1 p => ⟨v, .ty n, _, _, b, rfl, .ty n, ty_of (dp_mono g1.mh p), kit_ty hk, q _ M1 H1 g1 rfl⟩
theorem gv_isi2 {d : PyData} {n m : String} {b c : Bool} (h : Gv ta σ M (Dd K d)) (hk : kitB (tyN d) n = some b) (hm : kitB (tyN d) m = some c) : Gv (tCB (rIsiT K) (tCons ta (tCons (tTup (tCons (tC (.ty n)) (tCons (tC (.ty m)) tNil))) tNil))) σ M (Bl (b || c)) := fun H mh Q q =>
  h H mh _ fun v M1 H1 g1 p => ⟨by show 2 ≤ sizeLine; decide, fun tp ntp => by
    refine ⟨v, tp, _, _, _, b || c, rfl, upd_same, .cons (.ty n) (.cons (.ty m) .nil), ty_of (dp_mono ((g1.mh).trans (same_new ntp)) p), ?_, q _ M1 _ (g1.trans (.own g1.mh ntp)) rfl⟩
    refine kitAny_cons (kit_ty hk) (fun hb => kitAny_cons (kit_ty hm) (fun hc => ?_) fun hc => ?_) fun h => ?_
    · rw [hb, hc]; exact kitAny_nil
    · rw [hb, hc]; rfl
    · rw [h]; rfl⟩
/-- None or a number -/
def OpN : Rl (Option Nat) := fun o _ v => v = match o with | none => .non | some i => .int (i : Nat)
instance : Mon OpN := ⟨fun _ h => h⟩
/-- None or something -/
def OpR' (R : Rl α) : Rl (Option α) := fun o M v => match o with | none => v = .non | some x => R x M v
instance [Mon R] : Mon (OpR' R) := ⟨fun {o M M' v} e h => by
  cases o with
  | none => exact h
  | some x => exact Mon.mono (R := R) e h⟩
theorem pd_d {M : Hp} : ∀ {vs : List V} {ds : List PyData}, DpAll K M vs ds → Pd (Dd K) M ds vs
  | _, _, .nil => .nil
  | _, _, .cons q t => .cons q (pd_d t)
theorem dp_sqL {ds : List PyData} {M : Hp} {v : V} (h : Dp K M v (.list ds)) : SqR K (Dd K) ds M v := by
  cases h with
  | lst hs ha => exact .inl ⟨_, _, rfl, hs, pd_d ha⟩
theorem dp_sqT {ds : List PyData} {M : Hp} {v : V} (h : Dp K M v (.tuple ds)) : SqR K (Dd K) ds M v := by
  cases h with
  | tup hs ha => exact .inr ⟨_, _, rfl, hs, pd_d ha⟩
end
end L3

set_option Elab.async false
set_option linter.all false
set_option maxRecDepth 100000
set_option maxHeartbeats 1000000
namespace L3
open PySem PySem.Spec PyProof.Rows L2
/-! anything walked: the items xs, each told by R -/
def GW {α : Type} (M1 : Hp) (J : It) (xs : List α) (R : Rl α) : Prop := ∃ (G : Hp → Prop) (Y : Nat → Hp → V → Hp → Prop), Walk J xs.length G Y ∧ (∀ M2 H2, Same M1 M2 → Same M2 H2 → G H2) ∧
  ∀ i M2 H2 v H3, Same M1 M2 → Same M2 H2 → i < xs.length → Y i H2 v H3 → ∃ x M3, xs[i]? = some x ∧ Gr M2 H2 M3 H3 ∧ R x M3 v
def GvI {α : Type} (wi : TI) (σ : Sl) (M : Hp) (xs : List α) (R : Rl α) : Prop := ∀ H, Same M H → ∀ Q : It → Hp → Prop, (∀ J M1 H1, Gr M H M1 H1 → GW M1 J xs R → Q J H1) → wi σ H Q
/-- a target: how the slots change -/
def TgOk {α : Type} (g : TG) (R : Rl α) (U : α → Hp → Sl → Sl → Prop) : Prop := ∀ x M v H σ (Q : L2.St → Hp → Prop), R x M v → Same M H → (∀ σ', U x M σ σ' → Q σ' H) → g v σ H Q
abbrev U1 {α : Type} (R : Rl α) (j : Nat) : α → Hp → Sl → Sl → Prop := fun x M σ σ' => ∃ v, R x M v ∧ σ' = σ.set j (some v)
/-- a pair in a tuple -/
def PrR (K : PySem.W.Frag) {α β : Type} (R : Rl α) (S : Rl β) : Rl (α × β) := fun x M v => ∃ a u w, v = .ref a ∧ SqT K M a [u, w] ∧ R x.1 M u ∧ S x.2 M w
instance {K : PySem.W.Frag} {α β : Type} {R : Rl α} {S : Rl β} [Mon R] [Mon S] : Mon (PrR K R S) := ⟨fun e ⟨a, u, w, h1, h2, h3, h4⟩ => ⟨a, u, w, h1, st_mono e h2, Mon.mono e h3, Mon.mono e h4⟩⟩
abbrev U2 {α β : Type} (R : Rl α) (S : Rl β) (j k : Nat) : α × β → Hp → Sl → Sl → Prop := fun x M σ σ' => ∃ v w, R x.1 M v ∧ S x.2 M w ∧ σ' = (σ.set j (some v)).set k (some w)
section
variable {K : PySem.W.Frag} {σ : Sl} {M : Hp} {ta tb te ts : TE} {tt : TT} {α β : Type} {R : Rl α} {S : Rl β} {wi : TI} {g : TG}
theorem tg_1 {j : Nat} : TgOk (gName j) R (U1 R j) := fun x M v H σ Q r mh q => q _ ⟨v, r, rfl⟩
theorem tg_2 {j k : Nat} : TgOk (gTup K 2 (gCons (gName j) (gCons (gName k) gNil))) (PrR K R S) (U2 R S j k) := by
  rintro x M v H σ Q ⟨a, u, w, rfl, h2, h3, h4⟩ mh q
  exact ⟨a, _, rfl, st_mono mh h2, rfl, u, _, rfl, w, _, rfl, rfl, q _ ⟨u, w, h3, h4, rfl⟩⟩
theorem gi_sq [Mon R] {xs : List α} (h : Gv ts σ M (SqR K R xs)) : GvI (iSq K ts) σ M xs R := fun H mh Q q => h H mh _ fun v M1 H1 g1 hv => by
  rcases hv with ⟨a, vs, rfl, hs, hp⟩ | ⟨a, vs, rfl, hs, hp⟩
  · refine ⟨a, rfl, .inl ⟨vs, sl_mono g1.mh hs, q _ M1 H1 g1 ⟨_, _, (by rw [hp.length]; exact walk_list (xs := vs)), fun M2 H2 s1 s2 => sl_mono (s1.trans s2) hs, ?_⟩⟩⟩
    rintro i M2 H2 v H3 s1 s2 hi ⟨rfl, hy⟩
    obtain ⟨x, hx, rx⟩ := pd_get' hp hy
    exact ⟨x, M2, hx, .refl s2, Mon.mono s1 rx⟩
  · refine ⟨a, rfl, .inr ⟨vs, st_mono g1.mh hs, q _ M1 H1 g1 ⟨_, _, (by rw [hp.length]; exact walk_tup (xs := vs)), fun M2 H2 s1 s2 => st_mono (s1.trans s2) hs, ?_⟩⟩⟩
    rintro i M2 H2 v H3 s1 s2 hi ⟨rfl, hy⟩
    obtain ⟨x, hx, rx⟩ := pd_get' hp hy
    exact ⟨x, M2, hx, .refl s2, Mon.mono s1 rx⟩
theorem gi_str {x : Str} (h : Gv ts σ M (Tx x)) : GvI (iStr ts) σ M x.cps.toList (fun c => Tx ⟨#[c]⟩) := fun H mh Q q => h H mh _ fun v M1 H1 g1 hv => by
  refine ⟨x, hv, q _ M1 H1 g1 ⟨_, _, (by rw [Array.length_toList]; exact walk_str (z := x)), fun _ _ _ _ => trivial, ?_⟩⟩
  rintro i M2 H2 v H3 s1 s2 hi ⟨rfl, c, hc, rfl⟩
  exact ⟨c, M2, by simpa using hc, .refl s2, rfl⟩
theorem gi_rng1 {n : Nat} (h : Gv te σ M (It' (n : Int))) (hn : n ≤ 1000000000) : GvI (iRng1 (tCons te tNil)) σ M (List.range n) (fun i => It' (i : Nat)) := fun H mh Q q => h H mh _ fun v M1 H1 g1 hv => by
  cases (show v = _ from hv)
  refine ⟨(n : Int), rfl, by omega, by omega, q _ M1 H1 g1 ⟨_, _, (by rw [List.length_range, Int.toNat_natCast]; exact walk_range), fun _ _ _ _ => trivial, ?_⟩⟩
  rintro i M2 H2 v H3 s1 s2 hi ⟨rfl, rfl⟩
  rw [List.length_range] at hi
  exact ⟨i, M2, by simp [hi], .refl s2, by show V.int _ = V.int _; rw [Int.zero_add]⟩
/-- the keys of a dict that is locked -/
def DcF : Rl (List Str) := fun ks M v => ∃ a o, v = .ref a ∧ M a = some (.frz o (.dK (kvT ks)))
instance : Mon DcF := ⟨fun e ⟨a, o, h, r⟩ => ⟨a, o, h, e _ _ r⟩⟩
theorem DcF.dc {ks : List Str} {M : Hp} {v : V} (h : DcF ks M v) : DcR ks M v := let ⟨a, o, e, r⟩ := h; ⟨a, e, .inr ⟨o, r⟩⟩
theorem gi_keys {ks : List Str} (h : Gv ts σ M (DcF ks)) : GvI (iKeys ts) σ M ks Tx := fun H mh Q q => h H mh _ fun v M1 H1 g1 ⟨a, o, e, r⟩ => by
  subst e
  have hl : (kvT ks).length = ks.length := by unfold kvT; rw [List.length_map]
  refine ⟨a, o, rfl, .inl ⟨_, g1.mh _ _ r, q _ M1 H1 g1 ⟨_, _, (by rw [← hl]; exact walk_keys (kvs := kvT ks)), fun M2 H2 s1 s2 => s2 _ _ (s1 _ _ r), ?_⟩⟩⟩
  rintro i M2 H2 v H3 s1 s2 hi ⟨rfl, k, w, hk, rfl⟩
  unfold kvT at hk
  rw [List.getElem?_map] at hk
  obtain ⟨x, hx, ex⟩ := Option.map_eq_some_iff.mp hk
  cases ex
  exact ⟨x, M2, hx, .refl s2, rfl⟩
theorem gl_comp [Mon S] {U : α → Hp → Sl → Sl → Prop} {vs : List Nat} {xs : List α} (hsrc : GvI wi σ M xs R) (htg : TgOk g R U) (hw : ∀ x M' σ', U x M' (wipe σ vs) σ' → wipe σ' vs = wipe σ vs) (hz : xs.length ≤ sizeLine) (t : α → Bool) (f : α → β)
    (ht : ∀ x ∈ xs, ∀ M1 σ', Same M M1 → U x M1 (wipe σ vs) σ' → GvT tt σ' M1 (t x))
    (he : ∀ x ∈ xs, t x = true → ∀ M1 σ', Same M M1 → U x M1 (wipe σ vs) σ' → Gv te σ' M1 (S (f x))) :
    GvL (tLc wi g tt te vs) σ M fun M ws => Pd S M ((xs.filter t).map f) ws := by
  intro H mh Q q
  refine hsrc H mh _ fun J M1 H1 g1 ⟨G, Y, w, hG, hY⟩ D hD => ?_
  refine lc_it w (fun i H' => ∃ M' ws, Gr M1 H1 M' H' ∧ M' D = none ∧ H' D = some (.lst ws) ∧ ws.length ≤ i ∧ Pd S M' (((xs.take i).filter t).map f) ws) ⟨M1, [], .own g1.mh hD, g1.mh.free hD, upd_same, Nat.le_refl _, .nil⟩ (fun i H' _ ⟨M', ws, g, _⟩ => hG M' H' g.mm g.mh) ?_ ?_
  · rintro i y H' H'' hi ⟨M', ws, g, m0, hw', hl, hpd⟩ hy
    obtain ⟨x, M0, hx, g0, rx⟩ := hY i M' H' y H'' g.mm g.mh hi hy
    have hxm : x ∈ xs := List.mem_of_getElem? hx
    have et : xs.take (i + 1) = xs.take i ++ [x] := by rw [List.take_add_one, hx]; rfl
    have gg := g.trans g0
    have sm := g1.mm.trans gg.mm
    have k0 : H'' D = some (.lst ws) := g0.hh _ _ hw'
    have m0' : M0 D = none := g0.keep m0 hw'
    refine htg x M0 y H'' _ _ rx gg.mh fun σ2 hU => ⟨hw x M0 σ2 hU, ht x hxm M0 σ2 sm hU H'' gg.mh _ fun M2 H2 g2 => ?_⟩
    cases ex : t x with
    | true =>
      refine (he x hxm ex M0 σ2 sm hU).le g2.mm H2 g2.mh _ fun z M3 H3 g3 hz3 => ?_
      have m3 : M3 D = none := (g2.trans g3).keep m0' k0
      refine ⟨ws, g3.hh _ _ (g2.hh _ _ k0), Nat.lt_of_lt_of_le (Nat.lt_of_le_of_lt hl hi) hz, M3, ws ++ [z], ((gg.trans g2).trans g3).mut hD m3, m3, upd_same, by rw [List.length_append]; exact Nat.succ_le_succ hl, ?_⟩
      rw [et, List.filter_append, List.map_append, List.filter_cons, ex]
      exact pd_app (hpd.mono ((g0.mm.trans g2.mm).trans g3.mm)) (.cons hz3 .nil)
    | false =>
      refine ⟨M2, ws, gg.trans g2, g2.keep m0' k0, g2.hh _ _ k0, Nat.le_succ_of_le hl, ?_⟩
      rw [et, List.filter_append, List.map_append, List.filter_cons, ex]
      show Pd S M2 (_ ++ []) ws
      rw [List.append_nil]
      exact hpd.mono (g0.mm.trans g2.mm)
  · rintro H' ⟨M', ws, g, m0, hw', hl, hpd⟩
    rw [List.take_length] at hpd
    exact q D ws M' H' (g1.trans g) (g1.hh.free hD) m0 hw' hpd
/-- the plain form: a name for the target -/
theorem gl_c1 [Mon S] {j : Nat} {xs : List α} (hsrc : GvI wi σ M xs R) (hz : xs.length ≤ sizeLine) (t : α → Bool) (f : α → β)
    (ht : ∀ x ∈ xs, ∀ M1 v, Same M M1 → R x M1 v → GvT tt ((wipe σ [j]).set j (some v)) M1 (t x))
    (he : ∀ x ∈ xs, t x = true → ∀ M1 v, Same M M1 → R x M1 v → Gv te ((wipe σ [j]).set j (some v)) M1 (S (f x))) : GvL (tLc wi (gName j) tt te [j]) σ M fun M ws => Pd S M ((xs.filter t).map f) ws :=
  gl_comp hsrc tg_1 (fun x M' σ' ⟨v, _, e⟩ => by subst e; exact wipe1) hz t f (fun x hx M1 σ' sm ⟨v, r, e⟩ => by subst e; exact ht x hx M1 v sm r) (fun x hx e M1 σ' sm ⟨v, r, e'⟩ => by subst e'; exact he x hx e M1 v sm r)
theorem gt_yes : GvT tYes σ M true := fun H mh Q q => q M H (.refl mh)
/-- without a test -/
theorem gl_m1 [Mon S] {j : Nat} {xs : List α} (hsrc : GvI wi σ M xs R) (hz : xs.length ≤ sizeLine) (f : α → β)
    (he : ∀ x ∈ xs, ∀ M1 v, Same M M1 → R x M1 v → Gv te ((wipe σ [j]).set j (some v)) M1 (S (f x))) : GvL (tLc wi (gName j) tYes te [j]) σ M fun M ws => Pd S M (xs.map f) ws := by
  have h := gl_c1 (tt := tYes) (te := te) (S := S) (j := j) hsrc hz (fun _ => true) f (fun _ _ _ _ _ _ => gt_yes) (fun x hx _ M1 v sm r => he x hx M1 v sm r)
  rw [List.filter_eq_self.mpr fun _ _ => rfl] at h
  exact h
variable {D : Ends} {tz tbd : TS}
/-- for over anything -/
theorem q_forG {U : α → Hp → Sl → Sl → Prop} {xs : List α} {H : Hp} (mh : Same M H) (hsrc : GvI wi σ M xs R) (htg : TgOk g R U) (Pv : Hp → Nat → Sl → Hp → Hp → Prop)
    (h0 : ∀ M1 H1, Gr M H M1 H1 → Pv M1 0 σ M1 H1) (hk : ∀ M1 i σ' M' H', Pv M1 i σ' M' H' → Same M1 M' ∧ Same M' H')
    (hs : ∀ M1 i x σ' M' H' M2 H2 σ2, Same M M1 → xs[i]? = some x → Pv M1 i σ' M' H' → Gr M' H' M2 H2 → U x M2 σ' σ2 →
      tbd { D with nx := fun σ2 H2 => ∃ M2, Pv M1 (i + 1) σ2 M2 H2, ct := fun σ2 H2 => ∃ M2, Pv M1 (i + 1) σ2 M2 H2, bk := tz D } σ2 H2)
    (hd : ∀ M1 σ' M' H', Same M M1 → Pv M1 xs.length σ' M' H' → tz D σ' H') : tSeq (tFor wi g tbd) tz D σ H := by
  refine hsrc H mh _ fun J M1 H1 g1 ⟨G, Y, w, hG, hY⟩ => ?_
  refine for_it w (fun i σ' H' => ∃ M', Pv M1 i σ' M' H') ⟨M1, h0 M1 H1 g1⟩ (fun i σ' H' _ ⟨M', p⟩ => hG M' H' (hk _ _ _ _ _ p).1 (hk _ _ _ _ _ p).2) ?_ ?_
  · rintro i y σ' H' H'' hi ⟨M', p⟩ hy
    have km := hk _ _ _ _ _ p
    obtain ⟨x, M2, hx, g2, rx⟩ := hY i M' H' y H'' km.1 km.2 hi hy
    exact htg x M2 y H'' σ' _ rx g2.mh fun σ2 hU => hs M1 i x σ' M' H' M2 H'' σ2 g1.mm hx p g2 hU
  · rintro σ' H' ⟨M', p⟩
    exact hd M1 σ' M' H' g1.mm p
/-- i ≤ j ≤ k -/
theorem gv_chain {tc : TE} {i j k : Int} (ha : Gv ta σ M (It' i)) (hb : Gv tb σ M (It' j)) (hc : Gv tc σ M (It' k)) :
    Gv (tChain (rI0 fun i j => .bl (decide (i ≤ j))) (rI0 fun i j => .bl (decide (i ≤ j))) ta tb tc) σ M (Bl (decide (i ≤ j) && decide (j ≤ k))) := fun H mh Q q =>
  ha H mh _ fun x M1 H1 g1 p1 => hb.le g1.mm H1 g1.mh _ fun y M2 H2 g2 p2 => ⟨i, j, p1, p2, decide (i ≤ j), rfl, by
    cases hd : decide (i ≤ j) with
    | true =>
      refine (hc.le (g1.mm.trans g2.mm)) H2 g2.mh _ fun z M3 H3 g3 p3 => ⟨j, k, p2, p3, q _ M3 H3 ((g1.trans g2).trans g3) ?_⟩
      rw [hd]; rfl
    | false =>
      refine q _ M2 H2 (g1.trans g2) ?_
      rw [hd]; rfl⟩
end
end L3

set_option Elab.async false
set_option linter.all false
set_option maxRecDepth 100000
set_option maxHeartbeats 2000000
namespace L3
open PySem PySem.Spec PyProof.Rows L2
/-! tuple(x) where x is collected -/
theorem tup_by {prog : Program} {w : World} {A : Around} {E : Value → Shared → Prop} {s : Shared} {T : String} {r : Addr} {n : Nat} {P : Nat → Value → Prop} {Q : Value → Shared → Prop} (ty : s.TypeIs (.ref r) T) (nt : (Value.type T == Value.type "tuple") = false) (hn : n ≤ sizeLine)
    (col : ∀ (B : Around) (F : Value → Shared → Prop) (R : List Value → Shared → Prop), B.handled = A.handled → (∀ (h' : Heap) (tk : Nat) (acc : Array Value), (∀ b o, s.heap.get? b = some o → h'.get? b = some o) → ItemsOf P acc n → R acc.toList { s with heap := h', toks := tk }) → wpAny (model prog w) B (collect (.ref r)) R F s)
    (fin : ∀ (h' : Heap) (tk : Nat) (acc : Array Value), (∀ b o, s.heap.get? b = some o → h'.get? b = some o) → ItemsOf P acc n → Q (.ref h'.objs.size) { s with heap := h'.push { cls := .type "tuple", data := .seq acc }, toks := tk }) :
    wpAny (model prog w) A (call (.type "tuple") [.ref r]) Q E s := by
  have made : codeAny (model prog w) A.in1 (.call (.builtin "tuple.__new__") ⟨[.type "tuple", .ref r], []⟩) (wants (fun v s1 => s1.TypeIs v "tuple" ∧ Q v s1) E) s := by
    apply codeAny_of_tree
    apply wpAny_bind
    apply wpAny_of_eq (F.newCall_tuple_1 _)
    refine wpAny_pure ⟨plainId_quiet F.plain_tuple_new _, codeAny_builtin F.entry_tuple_new ?_⟩
    rw [Around.under_plainId F.plain_tuple_new _]
    have a1 := sub_tuple_self
    have a2 := init_tuple_lookup
    have a3 := madeHere_tuple
    have here {F : Value → Shared → Prop} {R : List Value → Shared → Prop} := col A.in1.in1 F R rfl
    wp_walk using wpAny_typeOf ty, here
    intro h' tk acc kp it
    have sz : acc.size ≤ sizeLine := it.1 ▸ hn
    have same : acc.toList.toArray = acc := by simp
    rw [same]
    refine wpAny_bind (wpAny_pure (wpAny_bind (wpAny_newObj_type ?_ (show sizeOk (Data.seq acc) from sz))))
    exact wpAny_pure ⟨⟨_, Heap.get?_push_size _ rfl, rfl⟩, fin h' tk acc kp it⟩
  refine callType_codes F.called_tuple (F.typeCall_tuple_1 _) F.entry_object_init made fun v s1 h => ⟨h.1, F.args_object_init_2 v _, ?_⟩
  exact object_init_meets F.called_tuple.init.lookup F.called_tuple.made (by decide) prog w A.in1 _ s1 ⟨h.1, rfl, h.2⟩
/-- the keys of a dict with tuple keys -/
def rTupD : List V → Hp → VK → Prop := fun xs H Q => ∃ d kvs, xs = [V.ref d] ∧ Rd H d (.dT kvs) ∧ ∀ p bs, H p = none → IsKeys H kvs bs → Q (.ref p) (upd H p (.tup (bs.map V.ref)))
theorem call_tupD {X : Cx} (hc : X.calm = true) : CallR X (.type "tuple") rTupD := fun pins s σ H xs us Q I r ⟨d, kvs, ex, hd, q⟩ => by
  subst ex
  obtain ⟨_, rfl, rfl⟩ := r.one
  obtain ⟨z, low, ks, pr, o, es, ep, ho, exact_, hdt, he, _⟩ := (show ObjOk X.prog X.w H s.heap d (.dT kvs) from hd.ok I.hok)
  have S := kdl_raw (prog := X.prog) (w := X.w) low exact_ hdt
  have n1 : es.size = ks.length := size_of_entries he
  have n2 := Paired.length pr
  refine tup_by (S.type s ho) S.notTuple (n := es.size) (by omega) (fun B F R hB h => PySem.W.kdu_collect S (hB.trans (I.ok.hd hc)) ho (by omega) h) fun h' tk acc kp it => ?_
  have vals : acc.toList = (ks.map (·.2.1)).map Value.ref := by
    apply List.ext_getElem
    · rw [Array.length_toList, List.length_map, List.length_map, it.1, n1]
    · intro j h1 h2
      rw [Array.length_toList] at h1
      have hj : j < ks.length := by rw [← n1, ← it.1]; exact h1
      obtain ⟨en, g, v⟩ := it.2 j acc[j] (Array.getElem?_eq_getElem h1)
      have g2 := entry_at he j
      rw [g, List.getElem?_eq_getElem hj] at g2
      rw [Array.getElem_toList, v, List.getElem_map, List.getElem_map, Option.some.inj g2]
      rfl
  have I' : Inv X pins σ H { s with heap := h', toks := tk } := I.kept kp
  refine ⟨.ref h'.objs.size, _, I'.laid (t' := tk) (o := .tup ((ks.map (·.2.1)).map V.ref)) (fun b u e => Heap.get?_push_of_some _ e) (Nat.le_refl _) ?_, rfl, q _ _ (I'.hok.fresh (Nat.le_refl _)) (isKeys_of pr)⟩
  refine ⟨by simp only [List.length_map]; omega, acc.toList, vals ▸ vals_refs _, ⟨_, Heap.get?_push_size _ rfl, rfl, 0, ?_⟩⟩
  simp
/-! the frame of a comprehension -/
abbrev InBlk (X : Cx) (scope : Scope) (J : Cx → Prop) : Prop := ∀ (s : Shared) (H : Hp) (C : Addr) (cl : List (Str × Addr)) (fp : List Addr), J (X.blk s H scope (compEnvC scope cl C X.env) fp)
section
variable {X : Cx} {pins : List (Addr × Obj)} {σ τ : Sl} {H0 H : Hp} {s0 s : Shared} {scope : Scope} {ce : Env} {fp : List Addr} {tn : Nat → Heap → Prop} {i : Nat}
theorem blk_fp (I : Inv (X.blk s0 H0 scope ce fp) [] τ H s) (h : ∀ b ∈ fp, H b = none) : ∀ b ∈ fp, FpOk (X.blk s0 H0 scope ce fp) [] H b := fun b hb =>
  have x := I.ok.exf b hb
  ⟨h b hb, x.1, I.ok.exfs b hb, .inl hb, x.2, fun p hp => (List.not_mem_nil (a := p) hp).elim⟩
/-- out of the frame -/
theorem blk_out (I0 : Inv X pins σ H0 s0) (f0 : ∀ b ∈ fp, FpOk X pins H0 b) (I : Inv (X.blk s0 H0 scope ce fp) [] τ H s) : Inv X pins σ H s :=
  I0.call' (ch := fp) I.os I.base I.hok I.bare fun b hb => have z := (f0 b hb).2; ⟨z.2.2.1, z.1, z.2.2.2.1, z.2.2.2.2⟩
/-- its variables let go -/
theorem blk_end (I0 : Inv X pins σ H0 s0) (f0 : ∀ b ∈ fp, FpOk X pins H0 b) (hC : ce.locals = s0.heap.objs.size) (I : Inv (X.blk s0 H0 scope ce fp) [] τ H s) :
    ∃ m, s.heap.Ns s0.heap.objs.size m ∧ ∀ h', Heap.SameBut s0.heap.objs.size s.heap h' → Inv X pins σ H { s with heap := h' } := by
  have fr : H s0.heap.objs.size = none := hC ▸ I.free
  have z := I0.fpOk (Nat.le_refl _) fr
  have O := blk_out I0 f0 I
  obtain ⟨m, ns, _⟩ := I.loc
  exact ⟨m, hC ▸ ns, fun h' sb => O.turned (t' := s.toks) (fun b o hb e => (sb.2 b hb).trans e) fr z.2.1 z.2.2.2.1 z.2.2.2.2.1 z.2.2.2.2.2⟩
/-- the frame between two turns: the walk stands ahead of item i -/
structure Ahead (Y : Cx) (fp : List Addr) (tn : Nat → Heap → Prop) (τ : Sl) (i : Nat) (H : Hp) (s : Shared) : Prop where
  inv : Inv Y [] τ H s
  at_ : tn i s.heap
  off : ∀ b ∈ fp, H b = none
/-- one item drawn, stored, looked at; whoever goes on from there may close the turn -/
theorem blk_turn {tg : Expr} {ifs : List Expr} {J : It} {it : Addr} {g : TG} {tt : TT} {vs : List Nat} {Body : Sl → Hp → Prop} {Nx : Hp → Prop} {E : Value → Shared → Prop} {F0 : Shared → Prop} {Fy Fn : Shared → Prop}
    (T : Turn X.prog X.w X.K tg J fp it tn) (hc : X.calm = true) (pg : PG (X.blk s0 H0 scope ce fp) tg g) (pt : PTs (X.blk s0 H0 scope ce fp) ifs tt) (a : Ahead (X.blk s0 H0 scope ce fp) fp tn (wipe σ vs) i H s) (go : J.go i H)
    (step : ∀ x H', J.yld i H x H' → g x (wipe σ vs) H' fun σ2 H2 => wipe σ2 vs = wipe σ vs ∧ tt σ2 H2 fun b H3 => if b = true then Body σ2 H3 else Nx H3)
    (yes : ∀ pl σ2 H2 s2, Inv (X.blk s0 H0 scope ce fp) pl σ2 H2 s2 → Body σ2 H2 → (∀ H' s', Inv (X.blk s0 H0 scope ce fp) pl σ2 H' s' → Ahead (X.blk s0 H0 scope ce fp) fp tn (wipe σ vs) (i + 1) H' s') → Fy s2)
    (no : ∀ H' s', Ahead (X.blk s0 H0 scope ce fp) fp tn (wipe σ vs) (i + 1) H' s' → Nx H' → Fn s') :
    wpAny (model X.prog X.w) X.A (pyNext (.ref it)) (fun r s1 => match r with
      | none => F0 s1
      | some v => wpAny (model X.prog X.w) X.A (letOwnedTupleGo tg (.ref it) v) (fun _ s2 => wpAny (model X.prog X.w) X.A (assign tg ce v) (fun _ s3 =>
          wpAny (model X.prog X.w) X.A (forIn ifs true fun c r => if r = true then do let ok ← isTrue c ce (eval c ce); pure (ForInStep.yield ok) else pure (ForInStep.yield r)) (fun ok s4 => if ok = true then Fy s4 else Fn s4) E s3) E s2) E s1) E s := by
  refine thnF (T.item (X.blk s0 H0 scope ce fp) rfl rfl rfl hc i [] s _ H _ a.inv (blk_fp a.inv a.off) a.at_ go) fun r s1 ⟨v, hr, h1⟩ => ?_
  subst hr
  refine thnF h1 fun _ s2 ⟨x, H2, I2, rx, y2, st2, off2⟩ => ?_
  have P2 := I2.pinned (blk_fp I2 off2) (T.obj _ _ st2)
  refine thnF (pg.run _ s2 _ H2 x v _ P2 rx (step x H2 y2)) fun _ s3 ⟨σ3, H3, I3, hw, q3⟩ => ?_
  have close : ∀ H' s', Inv (X.blk s0 H0 scope ce fp) ([] ++ pinsAt fp s2.heap) σ3 H' s' → Ahead (X.blk s0 H0 scope ce fp) fp tn (wipe σ vs) (i + 1) H' s' := fun H' s' I' => by
    have pin : ∀ b ∈ fp, ∀ o, s2.heap.get? b = some o → s'.heap.get? b = some o ∧ H' b = none := fun b hb o e =>
      have z := I'.pin (b, o) (List.mem_append_right _ (List.mem_append_right _ (mem_pinsAt hb e)))
      ⟨z.1, z.2.1⟩
    refine ⟨(I'.unpinned (pins := [])).weak (hw ▸ wipe_length σ3 vs) fun j v e => (wipe_some (hw ▸ e : (wipe σ3 vs)[j]? = _)).1, T.keep _ _ _ st2 fun b hb o e => (pin b hb o e).1, fun b hb => ?_⟩
    obtain ⟨o, e, _⟩ := T.obj _ _ st2 b hb
    exact (pin b hb o e).2
  refine thnF (pt.run _ s3 σ3 H3 _ I3 q3) fun ok s4 ⟨H4, I4, q4⟩ => ?_
  cases ok with
  | true => exact yes _ σ3 H4 s4 I4 q4 close
  | false => exact no H4 s4 (close H4 s4 I4) q4
/-- D[b] = r, b a tuple key -/
theorem put_T {E : Value → Shared → Prop} {D b : Addr} {kvs : List (List Key × V)} {k : List Key} {v : V} {r : Value} {Q : Unit → Shared → Prop} (hu : X.A.units + 1 < cLine) (I : Inv X pins σ H s) (hD : H D = some (.dT kvs)) (hz : kvs.length < sizeLine) (hb : H b = some (.tup (k.map kV))) (rv : RelV v r)
    (h : ∀ s', Inv X pins σ (upd H D (.dT (putK kvs k v))) s' → Q () s') : wpAny (model X.prog X.w) X.A (dictSet D (.ref b) r) Q E s := by
  have ⟨_, low, xs, rel, dd⟩ := dt_of I.hok hD
  have room : (tupleKind (mixKind X.prog X.w)).room X.A := Nat.lt_of_succ_lt hu
  apply wpAny_dictSet_heap room (key_of I.hok hb) dd (hsz := Paired.length rel ▸ Nat.le_of_lt hz)
  intro h' ⟨q, es, ep, hq, d1, d2, d3, _, d4⟩ sb
  have len : (putK kvs k v).length ≤ sizeLine := Nat.le_trans (length_putK kvs k v) hz
  have other : ∀ c ys, H c = some (.tup ys) → upd H D (.dT (putK kvs k v)) c = some (.tup ys) := fun c ys e => (upd_ne (ne_of e hD nofun)).trans e
  exact h _ (d_write I (by rw [hD]; trivial) sb ⟨q, hq⟩ ⟨len, low, _, (rel.put k hb rv).keeps other, q, es, ep, hq, d1, d2, d3, d4⟩)
end
/-! a dict comprehension whose keys are tuples -/
/-- the key c, the value z put in; then nx -/
def KeyPut (D : Addr) (tk tv : TE) (nx : Hp → Prop) : Sl → Hp → Prop := fun σ H => tk σ H fun y H1 => tv σ H1 fun z H2 => ∃ kvs k c, y = .ref c ∧ H2 c = some (.tup (List.map kV k)) ∧ H2 D = some (.dT kvs) ∧ kvs.length < sizeLine ∧ nx (upd H2 D (.dT (putK kvs k z)))
/-- what a turn is asked: the end, or an item with which the count goes down -/
def DcTurn (J : It) (g : TG) (tt : TT) (tk tv : TE) (τ : Sl) (vs : List Nat) (D : Addr) (fin : Hp → Prop) (W : Nat → Nat → Hp → Prop) (i m : Nat) (H : Hp) : Prop :=
  J.stop i H ∧ fin H ∨ J.go i H ∧ ∀ x H', J.yld i H x H' → g x τ H' fun σ2 H2 => wipe σ2 vs = τ ∧ tt σ2 H2 fun b H3 =>
    if b = true then KeyPut D tk tv (fun H4 => ∃ m', m' < m ∧ W (i + 1) m' H4) σ2 H3 else ∃ m', m' < m ∧ W (i + 1) m' H3
def tDcT (wi : TI) (g : TG) (tt : TT) (tk tv : TE) (vs : List Nat) : TE := fun σ H Q => wi σ H fun J H1 => ∀ D, H1 D = none → ∃ W : Nat → Nat → Hp → Prop,
  (∃ m, W 0 m (upd H1 D (.dT []))) ∧ ∀ i m H, W i m H → DcTurn J g tt tk tv (wipe σ vs) vs D (Q (.ref D)) W i m H
section
variable {X : Cx} {kx vx tg iter : Expr} {ifs : List Expr} {scope : Scope} {own : List (Str × Nat)} {pos : Pos} {wi : TI} {g : TG} {tt : TT} {tk tv : TE}
/-- the loop, once the frame stands -/
theorem dcT_loop {pins : List (Addr × Obj)} {σ : Sl} {H0 : Hp} {s0 s : Shared} {ce : Env} {fp : List Addr} {it D : Addr} {J : It} {tn : Nat → Heap → Prop} {Q : VK} {W : Nat → Nat → Hp → Prop} {m0 : Nat} (hu : X.A.units + 64 < cLine) (hc : X.calm = true) (T : Turn X.prog X.w X.K tg J fp it tn)
    (I0 : Inv X pins σ H0 s0) (f0 : ∀ b ∈ fp, FpOk X pins H0 b) (hC : ce.locals = s0.heap.objs.size) (pg : PG (X.blk s0 H0 scope ce fp) tg g) (pt : PTs (X.blk s0 H0 scope ce fp) ifs tt) (pk : PE (X.blk s0 H0 scope ce fp) kx tk) (pv : PE (X.blk s0 H0 scope ce fp) vx tv)
    (turn : ∀ i m H, W i m H → DcTurn J g tt tk tv (wipe σ (own.map (·.2))) (own.map (·.2)) D (Q (.ref D)) W i m H)
    (w0 : W 0 m0 H0) (a0 : Ahead (X.blk s0 H0 scope ce fp) fp tn (wipe σ (own.map (·.2))) 0 H0 s) :
    codeAny (model X.prog X.w) X.A (.compLoop (.DictComp kx vx [⟨tg, iter, ifs, 0⟩] scope pos) 0 (.ref it) (.ref D) ce) (compPost (model X.prog X.w) X.A X.xe none (EP X pins σ Q) (.ref D) s0.heap.objs.size) s := by
  refine compLoop_anyD (fun n s' => ∃ i H', W i n H' ∧ Ahead (X.blk s0 H0 scope ce fp) fp tn (wipe σ (own.map (·.2))) i H' s') (fun n s1 ⟨i, H1, w1, a1⟩ => ?_) m0 ⟨0, H0, w0, a0⟩
  rcases turn i n H1 w1 with ⟨stop, q⟩ | ⟨go, step⟩
  · refine thnF (T.done (X.blk s0 H0 scope ce fp) rfl rfl rfl hc i [] s1 _ H1 _ a1.inv (blk_fp a1.inv a1.off) a1.at_ stop) fun r s2 ⟨hr, I2⟩ => ?_
    subst hr
    obtain ⟨m, ns, out⟩ := blk_end I0 f0 hC I2
    exact ⟨m, ns, fun h' sb => ⟨.ref D, H1, out h' sb, rfl, q⟩⟩
  · have on : ∀ H' s', Ahead (X.blk s0 H0 scope ce fp) fp tn (wipe σ (own.map (·.2))) (i + 1) H' s' → (∃ m', m' < n ∧ W (i + 1) m' H') → ∃ m, m < n ∧ ∃ i H', W i m H' ∧ Ahead (X.blk s0 H0 scope ce fp) fp tn (wipe σ (own.map (·.2))) i H' s' := fun H' s' a' ⟨m', lt, w'⟩ => ⟨m', lt, i + 1, H', w', a'⟩
    refine blk_turn T hc pg pt a1 go step (fun pl σ2 H2 s2 I2 q2 close => ?_) on
    refine thnF (pk.run pl s2 σ2 H2 _ I2 q2) fun kv s3 ⟨y, H3, I3, ry, q3⟩ => thnF (pv.run pl s3 σ2 H3 _ I3 q3) fun vv s4 ⟨z, H4, I4, rz, kvs, k, c, ey, hk, hD, hz, nx⟩ => ?_
    subst ey
    obtain rfl : kv = .ref c := ry
    exact put_T (X := X.blk s0 H0 scope ce fp) (by show X.A.units + 1 < cLine; omega) I4 hD hz hk rz fun s5 I5 => on _ _ (close _ _ I5) nx
theorem pe_dcT (hu : X.A.units + 64 < cLine) (hc : X.calm = true) (hN : X.N.Nodup) (hi : PI X tg iter wi) (ok : BlkOk X.N X.env.scope scope own) (hg : InBlk X scope fun Y => PG Y tg g) (ht : InBlk X scope fun Y => PTs Y ifs tt)
    (hk : InBlk X scope fun Y => PE Y kx tk) (he : InBlk X scope fun Y => PE Y vx tv) (hs : ∀ x, foldedSetIterable iter X.env x = pure x := by intro _; rfl) :
    PE X (.DictComp kx vx [⟨tg, iter, ifs, 0⟩] scope pos) (tDcT wi g tt tk tv (own.map (·.2))) where
  run pins s σ H Q I h := by
    rw [arm_eval_DictComp]
    have cells : closureFor scope X.env = pure (cloFrom X.env.cells scope.names []) := closure_ok fun y hy e => I.ok.has _ (ok.free y hy e)
    refine wpAny_comprehension_free rfl hs cells ok.kind (fun y hy e => e ▸ ok.uniq y hy) (thn (hi.run pins s σ H _ I h) fun _ s1 h1 => thn h1 fun _ s2 ⟨it, fp, tn, J, H2, e, I2, T, st, f2, q⟩ => ?_)
    subst e
    have nD := I2.hok.fresh (Nat.le_refl s2.heap.objs.size)
    obtain ⟨W, ⟨m0, w0⟩, turn⟩ := q _ nD
    have below : ∀ b ∈ fp, b < s2.heap.objs.size := fun b hb => let ⟨_, e, _⟩ := T.obj _ _ st b hb; Heap.lt_size e
    have I3 := I2.laid (t' := s2.toks) (h' := s2.heap.push { cls := .type "dict", data := .dict #[] }) (fun b o e => Heap.get?_push_of_some _ e) (Nat.le_refl _) (dt_empty s2.heap I2.big)
    have off : ∀ b ∈ fp, upd H2 s2.heap.objs.size (.dT []) b = none := fun b hb => (upd_ne (Nat.ne_of_lt (below b hb))).trans (f2 b hb).1
    have f3 : ∀ b ∈ fp, FpOk X pins (upd H2 s2.heap.objs.size (.dT [])) b := fun b hb => ⟨off b hb, (f2 b hb).2⟩
    refine wpAny_newObj_type (newEnv_comp ?_)
    have I4 := block_start I3 ok hN fun b hb => ⟨f3 b hb, by show b < (s2.heap.push _).objs.size; rw [Heap.size_push]; exact Nat.lt_succ_of_lt (below b hb)⟩
    have st4 := T.keep _ _ _ st fun b _ o e => pushCells_keeps scope.names _ _ _ (Heap.get?_push_of_some { cls := .type "dict", data := .dict #[] } (Heap.get?_push_of_some { cls := .type "dict", data := .dict #[] } e))
    have loop := dcT_loop (kx := kx) (vx := vx) (iter := iter) (pos := pos) (Q := Q) hu hc T I3 f3 rfl (hg _ _ _ _ _) (ht _ _ _ _ _) (hk _ _ _ _ _) (he _ _ _ _ _) turn w0 ⟨I4, st4, off⟩
    exact codeAny_compStart_dict loop (T.self X.A 0 _ _ _ st4 loop)
end
end L3

set_option Elab.async false
set_option linter.all false
set_option maxRecDepth 100000
set_option maxHeartbeats 1000000
namespace L3
open PySem PySem.Spec PyProof.Rows L2
/-- a tuple of texts that stands in the heap itself; a tuple of anything -/
def TT : Rl (List Str) := fun xs M v => ∃ a, v = .ref a ∧ M a = some (.tup (xs.map V.str))
instance : Mon TT := ⟨fun e ⟨a, h, r⟩ => ⟨a, h, e _ _ r⟩⟩
theorem TT.tup {K : PySem.W.Frag} {xs : List Str} {M : Hp} {v : V} (h : TT xs M v) : TupR K Tx xs M v := let ⟨a, e, r⟩ := h; ⟨a, _, e, .inl (.inl r), pd_of_tx xs⟩
theorem TT.sq {K : PySem.W.Frag} {xs : List Str} {M : Hp} {v : V} (h : TT xs M v) : SqR K Tx xs M v := .inr h.tup
theorem py_TT {K : PySem.W.Frag} : PyR K TT fun xs => .tuple (xs.map .str) := fun xs M v h => py_tup py_str _ _ _ h.tup
theorem TT.new {M : Hp} {p : Addr} (xs : List Str) : TT xs (upd M p (.tup (xs.map V.str))) (.ref p) := ⟨p, rfl, upd_same⟩
theorem inj_TT : Inj fun xs : List Str => PyData.tuple (xs.map .str) := inj_tup inj_str
def TuR {α : Type} (R : Rl α) : Rl (List α) := fun xs M v => ∃ a vs, v = .ref a ∧ M a = some (.tup vs) ∧ Pd R M xs vs
def LiR {α : Type} (R : Rl α) : Rl (List α) := fun xs M v => ∃ a vs, v = .ref a ∧ M a = some (.lst vs) ∧ Pd R M xs vs
section
variable {K : PySem.W.Frag} {α : Type} {R : Rl α}
instance [Mon R] : Mon (TuR R) := ⟨fun e ⟨a, vs, h1, h2, h3⟩ => ⟨a, vs, h1, e _ _ h2, h3.mono e⟩⟩
instance [Mon R] : Mon (LiR R) := ⟨fun e ⟨a, vs, h1, h2, h3⟩ => ⟨a, vs, h1, e _ _ h2, h3.mono e⟩⟩
theorem TuR.tup {xs : List α} {M : Hp} {v : V} (h : TuR R xs M v) : TupR K R xs M v := let ⟨a, vs, e, r, p⟩ := h; ⟨a, vs, e, .inl (.inl r), p⟩
theorem TuR.sq {xs : List α} {M : Hp} {v : V} (h : TuR R xs M v) : SqR K R xs M v := .inr h.tup
theorem LiR.lst {xs : List α} {M : Hp} {v : V} (h : LiR R xs M v) : LstR K R xs M v := let ⟨a, vs, e, r, p⟩ := h; ⟨a, vs, e, .inl (.inl r), p⟩
theorem LiR.sq {xs : List α} {M : Hp} {v : V} (h : LiR R xs M v) : SqR K R xs M v := .inl h.lst
end
/-! tuple({x: True for x in xs}): each once -/
def onceP {α : Type} [DecidableEq α] (acc : List α) (x : α) : List α := if x ∈ acc then acc else acc ++ [x]
def once {α : Type} [DecidableEq α] (xs : List α) : List α := xs.foldl onceP []
def ent (acc : List (List Str)) : List (List Key × V) := acc.map fun c => (c.map Sum.inr, V.bl true)
theorem inr_inj : ∀ {a b : List Str}, a.map (Sum.inr : Str → Key) = b.map Sum.inr → a = b
  | [], [], _ => rfl
  | [], _ :: _, h => by simp at h
  | _ :: _, [], h => by simp at h
  | x :: a, y :: b, h => by
    simp only [List.map_cons, List.cons.injEq, Sum.inr.injEq] at h
    rw [h.1, inr_inj h.2]
theorem putK_ent (acc : List (List Str)) (c : List Str) : putK (ent acc) (c.map Sum.inr) (V.bl true) = ent (onceP acc c) := by
  unfold putK onceP
  have e : ((ent acc).any fun kv => decide (kv.1 = c.map Sum.inr)) = decide (c ∈ acc) := by
    unfold ent
    rw [List.any_map]
    induction acc with
    | nil => simp
    | cons x r ih =>
      rw [List.any_cons, ih]
      by_cases h : c = x
      · subst h; simp
      · have h1 : ¬ x.map (Sum.inr : Str → Key) = c.map Sum.inr := fun z => h (inr_inj z).symm
        simp [h, h1]
  rw [e]
  by_cases h : c ∈ acc
  · rw [decide_eq_true h, if_pos rfl, if_pos h]
    unfold ent
    rw [List.map_map]
    refine List.map_congr_left fun x _ => ?_
    show (if _ then _ else _) = _
    by_cases h2 : x.map (Sum.inr : Str → Key) = c.map Sum.inr
    · rw [if_pos h2]
    · rw [if_neg h2]
  · rw [decide_eq_false h, if_neg (by simp), if_neg h]
    unfold ent
    rw [List.map_append]
    rfl
theorem key_V (c : List Str) : (c.map (Sum.inr : Str → Key)).map kV = c.map V.str := by rw [List.map_map]; rfl
theorem onceP_len {α : Type} [DecidableEq α] (acc : List α) (x : α) : (onceP acc x).length ≤ acc.length + 1 := by
  unfold onceP; split
  · omega
  · simp
section
variable {K : PySem.W.Frag} {σ : Sl} {M : Hp} {wi : TI}
theorem gv_once {j : Nat} {xs : List (List Str)} (hj : j < σ.length) (hsrc : GvI wi σ M xs TT) (hz : xs.length ≤ sizeLine) :
    Gv (tCB rTupD (tCons (tDcT wi (gName j) tYes (tVar j) (tC (.bl true)) [j]) tNil)) σ M (TuR TT (once xs)) := by
  intro H mh Q q
  refine hsrc H mh _ fun J M1 H1 g1 ⟨G, Y, w, hG, hY⟩ D hD => ?_
  let Pv : Nat → Hp → Prop := fun i H' => ∃ M' acc, Gr M1 H1 M' H' ∧ M' D = none ∧ acc = (xs.take i).foldl onceP [] ∧ acc.length ≤ i ∧ H' D = some (.dT (ent acc))
  refine ⟨fun i m H' => m = xs.length - i ∧ i ≤ xs.length ∧ Pv i H', ⟨xs.length, by omega, Nat.zero_le _, M1, [], .own g1.mh hD, g1.mh.free hD, rfl, Nat.le_refl _, upd_same⟩, ?_⟩
  rintro i m H' ⟨rfl, hi, M', acc, g, m0, eacc, hl, hw⟩
  by_cases hlt : i < xs.length
  · refine .inr ⟨w.goes i H' hlt (hG M' H' g.mm g.mh), fun y H2 hy => ?_⟩
    obtain ⟨x, M2, hx, g2, ⟨b, rfl, rb⟩⟩ := hY i M' H' y H2 g.mm g.mh hlt (w.yields i H' y H2 hlt (hG M' H' g.mm g.mh) hy)
    have et : xs.take (i + 1) = xs.take i ++ [x] := by rw [List.take_add_one, hx]; rfl
    have hs : ((wipe σ [j]).set j (some (V.ref b)))[j]? = some (some (V.ref b)) := by rw [List.getElem?_set_self (by rw [wipe_length]; exact hj)]
    refine ⟨wipe1, .ref b, hs, ent acc, x.map Sum.inr, b, rfl, by rw [key_V]; exact g2.mh _ _ rb, g2.hh _ _ hw, by unfold ent; rw [List.length_map]; exact Nat.lt_of_le_of_lt hl (Nat.lt_of_lt_of_le hlt hz), ?_⟩
    refine ⟨xs.length - (i + 1), by omega, rfl, hlt, M2, onceP acc x, (g.trans g2).mut hD (g2.keep m0 hw), g2.keep m0 hw, by rw [et, List.foldl_append, ← eacc]; rfl, Nat.le_trans (onceP_len acc x) (Nat.succ_le_succ hl), ?_⟩
    rw [upd_same, putK_ent]
  · have e : i = xs.length := by omega
    subst e
    rw [List.take_length] at eacc
    refine .inl ⟨w.stops H' (hG M' H' g.mm g.mh), D, ent acc, rfl, .inl hw, fun p bs np hk => ?_⟩
    have hbs : ∀ b ∈ bs, ∃ ys, H' b = some (.tup ys) := by
      intro b hb
      have go : ∀ {kvs : List (List Key × V)} {bs : List Addr}, IsKeys H' kvs bs → ∀ b ∈ bs, ∃ ys, H' b = some (.tup ys) := by
        intro kvs bs h
        induction h with
        | nil => intro b hb; cases hb
        | cons q _ ih =>
          intro b hb
          rcases List.mem_cons.mp hb with rfl | hb
          · exact ⟨_, q⟩
          · exact ih b hb
      exact go hk b hb
    have gt := Gr.tups g.mh hbs
    have hpd : Pd TT (withT M' H' bs) acc (bs.map V.ref) := by
      have go : ∀ {acc : List (List Str)} {cs : List Addr}, (∀ c ∈ cs, c ∈ bs) → IsKeys H' (ent acc) cs → Pd TT (withT M' H' bs) acc (cs.map V.ref) := by
        intro acc
        induction acc with
        | nil => intro cs _ h; cases h; exact .nil
        | cons x r ih =>
          intro cs hc h
          cases h with
          | cons q t => exact .cons ⟨_, rfl, withT_in g.mh (hc _ List.mem_cons_self) (by rw [← key_V]; exact q)⟩ (ih (fun c h => hc c (List.mem_cons_of_mem _ h)) t)
      exact go (fun c h => h) hk
    have gn := Gr.new (o := .tup (bs.map V.ref)) gt.mh np
    refine q _ _ _ (((g1.trans g).trans gt).trans gn) ⟨p, _, rfl, upd_same, ?_⟩
    unfold once
    rw [← eacc]
    exact hpd.mono gn.mm
end
end L3

set_option Elab.async false
set_option linter.all false
set_option maxRecDepth 100000
set_option maxHeartbeats 1000000
namespace L3
open PySem PySem.Spec PyProof.Rows L2
/-! something of ours is lent to the known part while an expression runs -/
def del (M : Hp) (x : Addr) : Hp := fun a => if a = x then none else M a
theorem del_ne {M : Hp} {x a : Addr} (h : a ≠ x) : del M x a = M a := if_neg h
theorem del_at {M : Hp} {x : Addr} : del M x x = none := if_pos rfl
class Stb (P : Pr) : Prop where
  del : ∀ {M : Hp} {v : V} {x : Addr} {o : HO}, (∀ xs, o ≠ HO.tup xs) → M x = some o → P M v → P (del M x) v
class Stl {α : Type} (R : Rl α) : Prop where
  del : ∀ {y : α} {M : Hp} {v : V} {x : Addr} {o : HO}, (∀ xs, o ≠ HO.tup xs) → M x = some o → R y M v → R y (del M x) v
instance {α : Type} {R : Rl α} [h : Stl R] {y : α} : Stb (R y) := ⟨fun a b c => h.del a b c⟩
instance : Stl Tx := ⟨fun _ _ h => h⟩
instance : Stl It' := ⟨fun _ _ h => h⟩
instance : Stl Bl := ⟨fun _ _ h => h⟩
instance : Stl OpN := ⟨fun _ _ h => h⟩
theorem tup_ne {M : Hp} {a x : Addr} {o : HO} {xs : List V} (hn : ∀ xs, o ≠ HO.tup xs) (hx : M x = some o) (ha : M a = some (.tup xs)) : a ≠ x := fun z => by
  subst z; rw [hx] at ha; exact hn xs (Option.some.inj ha)
instance : Stl TT := ⟨fun hn hx ⟨a, e, r⟩ => ⟨a, e, by rw [del_ne (tup_ne hn hx r)]; exact r⟩⟩
theorem Pd.del {α : Type} {R : Rl α} [Stl R] {M : Hp} {x : Addr} {o : HO} (hn : ∀ xs, o ≠ HO.tup xs) (hx : M x = some o) {ys : List α} {vs : List V} (h : Pd R M ys vs) : Pd R (L3.del M x) ys vs := Paired.mapP h fun _ _ q => Stl.del hn hx q
instance {α : Type} {R : Rl α} [Stl R] : Stl (TuR R) := ⟨fun hn hx ⟨a, vs, e, r, p⟩ => ⟨a, vs, e, by rw [del_ne (tup_ne hn hx r)]; exact r, p.del hn hx⟩⟩
theorem same_lent {M H : Hp} {x : Addr} {o : HO} (mh : Same M H) (hx : H x = some o) : Same (upd M x o) H := fun b u e => by
  by_cases hb : b = x
  · subst hb; rw [upd_same] at e; rw [hx]; exact e
  · rw [upd_ne hb] at e; exact mh b u e
theorem Gr.back {M H M' H' : Hp} {x : Addr} {o : HO} (g : Gr (upd M x o) H M' H') (hm : M x = none) : Gr M H (del M' x) H' := by
  refine ⟨fun a u e => ?_, g.hh, fun a u e => ?_, fun a u e => ?_, fun a ps e => by
    by_cases ha : a = x
    · subst ha; rw [del_at] at e; cases e
    · rw [del_ne ha] at e
      have h := g.nt a ps e
      rw [upd_ne ha] at h
      exact h⟩
  · have na : a ≠ x := ne_of_none e hm
    rw [del_ne na]
    exact g.mm a u (by rw [upd_ne na]; exact e)
  · by_cases ha : a = x
    · subst ha; rw [del_at] at e; cases e
    · rw [del_ne ha] at e; exact g.mh a u e
  · by_cases ha : a = x
    · subst ha; rw [del_at] at e; cases e
    · rw [del_ne ha] at e
      rcases g.nw a u e with h | h
      · rw [upd_ne ha] at h; exact .inl h
      · exact .inr h
section
variable {K : PySem.W.Frag} {σ : Sl} {M H : Hp} {te : TE} {P : Pr} {x : Addr} {o : HO}
theorem Gv.lend [Stb P] (h : Gv te σ (upd M x o) P) (hm : M x = none) (mh : Same M H) (hx : H x = some o) (hn : ∀ xs, o ≠ HO.tup xs) {Q : VK} (q : ∀ v M' H', Gr M H M' H' → M' x = none → H' x = some o → P M' v → Q v H') : te σ H Q :=
  h H (same_lent mh hx) Q fun v M' H' g p => q v _ H' (g.back hm) del_at (g.hh _ _ hx) (Stb.del hn (g.mm x o upd_same) p)
end
/-! our instance -/
structure OwnI (H0 M H : Hp) (x C dx : Addr) (fs : List (Str × V)) : Prop where
  h0 : H0 x = none
  m : M x = none
  h : H x = some (.ins C dx fs)
theorem ins_nt {C dx : Addr} {fs : List (Str × V)} : ∀ xs, HO.ins C dx fs ≠ HO.tup xs := by intro _ z; cases z
/-- self.f = e, self in slot i -/
theorem s_fld {K : PySem.W.Frag} {σ : Sl} {M H : Hp} {te : TE} {P : Pr} {D : Ends} {i : Nat} {x C dx : Addr} {fs : List (Str × V)} {f : Str} [Stb P] (mh : Same M H) (hm : M x = none) (hx : H x = some (.ins C dx fs)) (hi : σ[i]? = some (some (.ref x))) (cl : Cls K C) (na : NoAttr K C f) (hl : fs.length < 1000)
    (h : Gv te σ (upd M x (.ins C dx fs)) P) (k : ∀ v M' H', Gr M H M' H' → M' x = none → P M' v → D.nx σ (upd H' x (.ins C dx (putF f v fs)))) : sFld K (tVar i) te f D σ H :=
  h.lend hm mh hx ins_nt fun v M' H' g m0 hx' p => ⟨.ref x, hi, x, C, dx, fs, rfl, hx', cl, na, hl, k v M' H' g m0 p⟩
theorem q_fld {K : PySem.W.Frag} {σ : Sl} {M H : Hp} {te : TE} {P : Pr} {D : Ends} {tz : TS} {i : Nat} {x C dx : Addr} {fs : List (Str × V)} {f : Str} [Stb P] (mh : Same M H) (hm : M x = none) (hx : H x = some (.ins C dx fs)) (hi : σ[i]? = some (some (.ref x))) (cl : Cls K C) (na : NoAttr K C f) (hl : fs.length < 1000)
    (h : Gv te σ (upd M x (.ins C dx fs)) P) (k : ∀ v M' H', Gr M H M' H' → M' x = none → P M' v → tz D σ (upd H' x (.ins C dx (putF f v fs)))) : tSeq (sFld K (tVar i) te f) tz D σ H :=
  s_fld (D := { D with nx := tz D }) mh hm hx hi cl na hl h k
theorem gv_self {K : PySem.W.Frag} {σ : Sl} {M : Hp} {P : Pr} {i : Nat} {x C dx : Addr} {fs : List (Str × V)} {f : Str} {u : V} (hi : σ[i]? = some (some (.ref x))) (hx : M x = some (.ins C dx fs)) (cl : Cls K C) (na : NoAttr K C f) (l : fs.lookup f = some u) (p : P M u) : Gv (tFld K (tVar i) f) σ M P :=
  fun H mh Q q => ⟨.ref x, hi, x, C, dx, fs, u, rfl, mh _ _ hx, cl, na, l, q u M H (.refl mh) p⟩
theorem putF_len {f : Str} {v : V} {fs : List (Str × V)} {n : Nat} (h : fs.length ≤ n) : (putF f v fs).length ≤ n + 1 := Nat.le_trans (length_putF f v fs) (Nat.succ_le_succ h)
theorem lt1000 {n m : Nat} (h : n ≤ m) (hm : m < 1000 := by decide) : n < 1000 := Nat.lt_of_le_of_lt h hm
/-- e.f of an instance that is known -/
theorem gv_fld {K : PySem.W.Frag} {σ : Sl} {M : Hp} {te : TE} {P P' : Pr} {f : Str} [Mono P'] (h : Gv te σ M P') (hf : ∀ M' v, P' M' v → ∃ a C dx fs u, v = .ref a ∧ M' a = some (.ins C dx fs) ∧ Cls K C ∧ NoAttr K C f ∧ fs.lookup f = some u ∧ P M' u) : Gv (tFld K te f) σ M P := fun H mh Q q =>
  h H mh _ fun v M1 H1 g1 p1 => let ⟨a, C, dx, fs, u, e, hm, cl, na, l, p⟩ := hf M1 v p1; ⟨a, C, dx, fs, u, e, g1.mh _ _ hm, cl, na, l, q _ M1 H1 g1 p⟩
section
variable {K : PySem.W.Frag} {σ : Sl} {M : Hp} {ta tb te : TE} {α : Type} {R : Rl α}
/-- tuple + tuple -/
theorem gv_addT [Mon R] {xs ys : List α} (ha : Gv ta σ M (TuR R xs)) (hb : Gv tb σ M (TuR R ys)) (hz : xs.length + ys.length ≤ sizeLine) : Gv (tOp (rAddA K) ta tb) σ M (TuR R (xs ++ ys)) := by
  refine gv_op ha hb fun M' u w ⟨a, vs, e1, r1, p1⟩ ⟨b, ws, e2, r2, p2⟩ H mh Q q => .inr (.inr (.inl ⟨a, b, vs, ws, e1, e2, .inl (.inl (mh _ _ r1)), .inl (.inl (mh _ _ r2)), by rw [← p1.length, ← p2.length]; exact hz, fun e => ?_, fun e1 e2 => ?_, fun _ _ p np => ?_⟩))
  · subst e; cases p1
    exact q _ M' H (.refl mh) ⟨b, ws, rfl, r2, p2⟩
  · subst e2; cases p2
    exact q _ M' H (.refl mh) ⟨a, vs, rfl, r1, by rw [List.append_nil]; exact p1⟩
  · exact q _ _ _ (.new mh np) ⟨p, _, rfl, upd_same, Pd.mono (R := R) (same_new (mh.free np)) (pd_app p1 p2)⟩
theorem TT.ts {xs : List Str} {M : Hp} {v : V} (h : TT xs M v) : TuR Tx xs M v := let ⟨a, e, r⟩ := h; ⟨a, _, e, r, pd_of_tx xs⟩
theorem TuR.tt {xs : List Str} {M : Hp} {v : V} (h : TuR Tx xs M v) : TT xs M v := let ⟨a, vs, e, r, p⟩ := h; ⟨a, e, by rw [← pd_tx p]; exact r⟩
theorem gv_addTT {xs ys : List Str} (ha : Gv ta σ M (TT xs)) (hb : Gv tb σ M (TT ys)) (hz : xs.length + ys.length ≤ sizeLine) : Gv (tOp (rAddA K) ta tb) σ M (TT (xs ++ ys)) :=
  gv_is (gv_addT (R := Tx) (gv_is ha fun _ _ h => h.ts) (gv_is hb fun _ _ h => h.ts) hz) fun _ _ h => h.tt
theorem gv_nilT : Gv (tTup tNil) σ M (TT []) := gv_tup ga_nil (fun _ vs h => by rw [h]; exact Nat.zero_le _) fun M' vs p h _ => by subst h; exact ⟨p, rfl, upd_same⟩
end
/-- a def with defaults, no exception leaves it -/
theorem funD_ok {P : Program} {w : World} {K : PySem.W.Frag} {mg : Str → Option Value} {base : Heap} {x qual : Str} {params : Arguments} {body : List Stmt} {scope : Scope} {dvs : List V} {kws : List (Str × V)} {f : Addr} {fd : FuncData} {N ps : List Str} {k : Nat} {sp : Sp}
    (F : FunD K x qual params body scope dvs kws f fd) (S : FnScope N ps scope) (len : ∀ vs H Q E, sp vs H Q E → vs.length = ps.length)
    (hb : ∀ (cdv : Value) (A : Around) (outer : List Env) (s : Shared) (H : Hp) (vs : List V) (Q : VK) (E : XK), Room k (A.deeper (envOfC qual scope s.heap.objs.size f cdv)) → sp vs H Q E →
      ∃ t, PSs (cxOf CX0 P w K mg base N qual scope f cdv A outer s H E).nox body t ∧ t { nx := fun _ H' => Q .non H', rt := Q } (start N vs) H) : FnOk P w K mg base CX0 (k + 1) f fd ps sp :=
  FunD.ok F S len fun cdv A outer s H vs Q E hr hs => let ⟨t, h, q⟩ := hb cdv A outer s H vs Q E hr hs; ⟨t, h.nox, q⟩
end L3

set_option Elab.async false
set_option linter.all false
set_option maxRecDepth 100000
set_option maxHeartbeats 1000000
namespace L3
open PySem PySem.Spec PyProof.Rows L2
/-! a dict of ours whose keys are texts -/
def GvK (te : TE) (σ : Sl) (M : Hp) (ks : List Str) : Prop := ∀ H, Same M H → ∀ Q : VK, (∀ p M' H', Gr M H M' H' → H p = none → M' p = none → H' p = some (.dK (kvT ks)) → Q (.ref p) H') → te σ H Q
theorem putK_kvT (acc : List Str) (x : Str) : putK (kvT acc) (Sum.inr x : Key) (V.bl true) = kvT (onceP acc x) := by
  unfold putK onceP
  have e : ((kvT acc).any fun kv => decide (kv.1 = (Sum.inr x : Key))) = decide (x ∈ acc) := by
    unfold kvT
    rw [List.any_map]
    induction acc with
    | nil => simp
    | cons y r ih =>
      rw [List.any_cons, ih]
      by_cases h : x = y
      · subst h; simp
      · have h1 : ¬ (Sum.inr y : Key) = Sum.inr x := fun z => h (Sum.inr.inj z).symm
        simp [h, h1]
  rw [e]
  by_cases h : x ∈ acc
  · rw [decide_eq_true h, if_pos rfl, if_pos h]
    unfold kvT
    rw [List.map_map]
    refine List.map_congr_left fun y _ => ?_
    show (if _ then _ else _) = _
    by_cases h2 : (Sum.inr y : Key) = Sum.inr x
    · rw [if_pos h2]
    · rw [if_neg h2]
  · rw [decide_eq_false h, if_neg (by simp), if_neg h]
    unfold kvT
    rw [List.map_append]
    rfl
theorem kvT_len (ks : List Str) : (kvT ks).length = ks.length := by unfold kvT; rw [List.length_map]
section
variable {K : PySem.W.Frag} {σ : Sl} {M : Hp} {wi : TI}
theorem gk_dc {j : Nat} {xs : List Str} (hj : j < σ.length) (hsrc : GvI wi σ M xs Tx) (hz : xs.length ≤ sizeLine) : GvK (tDc wi (gName j) tYes (tVar j) (tC (.bl true)) [j]) σ M (once xs) := by
  intro H mh Q q
  refine hsrc H mh _ fun J M1 H1 g1 ⟨G, Y, w, hG, hY⟩ D hD => ?_
  let Pv : Nat → Hp → Prop := fun i H' => ∃ M' acc, Gr M1 H1 M' H' ∧ M' D = none ∧ acc = (xs.take i).foldl onceP [] ∧ acc.length ≤ i ∧ H' D = some (.dK (kvT acc))
  refine ⟨fun i m H' => m = xs.length - i ∧ i ≤ xs.length ∧ Pv i H', ⟨xs.length, by omega, Nat.zero_le _, M1, [], .own g1.mh hD, g1.mh.free hD, rfl, Nat.le_refl _, upd_same⟩, ?_⟩
  rintro i m H' ⟨rfl, hi, M', acc, g, m0, eacc, hl, hw⟩
  by_cases hlt : i < xs.length
  · refine .inr ⟨w.goes i H' hlt (hG M' H' g.mm g.mh), Pv (i + 1), fun H2 p2 => ⟨xs.length - (i + 1), by omega, rfl, hlt, p2⟩, fun y H2 hy => ?_⟩
    obtain ⟨x, M2, hx, g2, ry⟩ := hY i M' H' y H2 g.mm g.mh hlt (w.yields i H' y H2 hlt (hG M' H' g.mm g.mh) hy)
    cases (show y = _ from ry)
    have et : xs.take (i + 1) = xs.take i ++ [x] := by rw [List.take_add_one, hx]; rfl
    have hs : ((wipe σ [j]).set j (some (V.str x)))[j]? = some (some (V.str x)) := by rw [List.getElem?_set_self (by rw [wipe_length]; exact hj)]
    refine ⟨wipe1, .str x, hs, kvT acc, Sum.inr x, rfl, g2.hh _ _ hw, by rw [kvT_len]; exact Nat.lt_of_le_of_lt hl (Nat.lt_of_lt_of_le hlt hz), ?_⟩
    refine ⟨M2, onceP acc x, (g.trans g2).mut hD (g2.keep m0 hw), g2.keep m0 hw, by rw [et, List.foldl_append, ← eacc]; rfl, Nat.le_trans (onceP_len acc x) (Nat.succ_le_succ hl), ?_⟩
    rw [upd_same, putK_kvT]
  · have e : i = xs.length := by omega
    subst e
    rw [List.take_length] at eacc
    unfold once at q
    rw [← eacc] at q
    exact .inl ⟨w.stops H' (hG M' H' g.mm g.mh), q D M' H' (g1.trans g) (g1.hh.free hD) m0 hw⟩
end
/-- what we own: a dict -/
structure OwnK (H0 M H : Hp) (p : Addr) (ks : List Str) : Prop where
  h0 : H0 p = none
  m : M p = none
  h : H p = some (.dK (kvT ks))
theorem OwnK.step {H0 M H M' H' : Hp} {p : Addr} {ks : List Str} (o : OwnK H0 M H p ks) (g : Gr M H M' H') : OwnK H0 M' H' p ks := ⟨o.h0, g.keep o.m o.h, g.hh _ _ o.h⟩
theorem OwnK.idle {H0 M H H' : Hp} {p : Addr} {ks : List Str} (o : OwnK H0 M H p ks) (hh : Same H H') : OwnK H0 M H' p ks := ⟨o.h0, o.m, hh _ _ o.h⟩
theorem OwnK.put {H0 M H : Hp} {p : Addr} {ks ls : List Str} (o : OwnK H0 M H p ks) : OwnK H0 M (upd H p (.dK (kvT ls))) p ls := ⟨o.h0, o.m, upd_same⟩
/-- another thing of ours changes -/
theorem OwnK.off {H0 M H : Hp} {p b : Addr} {ks : List Str} {u : HO} (o : OwnK H0 M H p ks) (h : p ≠ b) : OwnK H0 M (upd H b u) p ks := ⟨o.h0, o.m, by rw [upd_ne h]; exact o.h⟩
theorem Own.off {H0 M H : Hp} {p b : Addr} {vs : List V} {u : HO} (o : Own H0 M H p vs) (h : p ≠ b) : Own H0 M (upd H b u) p vs := ⟨o.h0, o.m, by rw [upd_ne h]; exact o.h⟩
theorem OwnK.ne {H0 M H : Hp} {p b : Addr} {ks : List Str} {vs : List V} (o : OwnK H0 M H p ks) (q : Own H0 M H b vs) : p ≠ b := ne_of o.h q.h (by intro z; cases z)
theorem OwnK.lent {H0 M H : Hp} {p : Addr} {ks : List Str} (o : OwnK H0 M H p ks) (mh : Same M H) : Same (upd M p (.dK (kvT ks))) H := same_lent mh o.h
theorem OwnK.ct {K : PySem.W.Frag} {M : Hp} {p : Addr} {ks : List Str} : CtR K ks (upd M p (.dK (kvT ks))) (.ref p) := .inr ⟨p, rfl, .inl upd_same⟩
theorem kt_nt {kvs : List (Key × V)} : ∀ xs, HO.dK kvs ≠ HO.tup xs := by intro _ z; cases z
theorem ls_nt {vs : List V} : ∀ xs, HO.lst vs ≠ HO.tup xs := by intro _ z; cases z
/-! a thing is locked for good behind an expression -/
def tFrz (te : TE) : TE := fun σ H Q => te σ H fun v H1 => ∃ a u, v = .ref a ∧ H1 a = some u ∧ Mut (some u) ∧ ∀ o, Q v (upd H1 a (.frz o u))
theorem pe_frz {X : Cx} {e : Expr} {te : TE} (h : PE X e te) : PE X e (tFrz te) := by
  refine ⟨fun pins s σ H Q I hw => thn (h.run pins s σ H _ I hw) fun v s1 ⟨x, H1, I1, r, a, u, ex, ha, mu, q⟩ => ?_⟩
  obtain ⟨od, I2⟩ := I1.lock ha mu
  exact ⟨x, _, I2, r, q od⟩
section
variable {K : PySem.W.Frag} {σ : Sl} {M : Hp} {D : Ends} {tc : L2.TT} {tb tz : TS}
theorem q_while {H : Hp} (W : Nat → Sl → Hp → Hp → Prop) {m0 : Nat} (h0 : W m0 σ M H) (hs : ∀ m σ' M' H', W m σ' M' H' → ∃ b Mp, Same Mp H' ∧ GvT tc σ' Mp b ∧
      (b = true → ∀ H1, Same H' H1 → tb { D with nx := fun σ2 H2 => ∃ m' M2, m' < m ∧ W m' σ2 M2 H2, ct := fun σ2 H2 => ∃ m' M2, m' < m ∧ W m' σ2 M2 H2, bk := tz D } σ' H1) ∧ (b = false → ∀ H1, Same H' H1 → tz D σ' H1)) :
    tSeq (tWhile tc tb) tz D σ H := by
  refine ⟨fun m σ' H' => ∃ M', W m σ' M' H', ⟨m0, M, h0⟩, ?_⟩
  rintro m σ' H' ⟨M', w⟩
  obtain ⟨b, Mp, mp, hb, h1, h2⟩ := hs m σ' M' H' w
  refine hb H' mp _ fun M2 H2 g => ?_
  cases b with
  | true => exact ⟨_, fun σ2 H3 ⟨m', M3, hm, w'⟩ => ⟨m', hm, M3, w'⟩, h1 rfl H2 g.hh⟩
  | false => exact h2 rfl H2 g.hh
end
end L3

set_option Elab.async false
set_option linter.all false
set_option maxRecDepth 100000
set_option maxHeartbeats 1000000
namespace L3
open PySem PySem.Spec PyProof.Rows L2
/-! a dict of ours is lent -/
class Sdk (P : Pr) : Prop where
  del : ∀ {M : Hp} {v : V} {x : Addr} {kvs : List (Key × V)}, M x = some (.dK kvs) → P M v → P (L3.del M x) v
class Sdl {α : Type} (R : Rl α) : Prop where
  del : ∀ {y : α} {M : Hp} {v : V} {x : Addr} {kvs : List (Key × V)}, M x = some (.dK kvs) → R y M v → R y (L3.del M x) v
instance {α : Type} {R : Rl α} [h : Sdl R] {y : α} : Sdk (R y) := ⟨fun b c => h.del b c⟩
instance {α : Type} {R : Rl α} [h : Stl R] : Sdl R := ⟨fun b c => h.del kt_nt b c⟩
theorem Pd.delK {α : Type} {R : Rl α} [Sdl R] {M : Hp} {x : Addr} {kvs : List (Key × V)} (hx : M x = some (.dK kvs)) {ys : List α} {vs : List V} (h : Pd R M ys vs) : Pd R (L3.del M x) ys vs := Paired.mapP h fun _ _ q => Sdl.del hx q
instance {α : Type} {R : Rl α} [Sdl R] : Sdl (LiR R) := ⟨fun hx ⟨a, vs, e, r, p⟩ => ⟨a, vs, e, by
  rw [del_ne (fun z => by subst z; rw [hx] at r; cases r)]; exact r, p.delK hx⟩⟩
instance {α : Type} {R : Rl α} [h : Sdl R] : Sdl (OpR' R) := ⟨fun {y M v x kvs} hx r => by
  cases y with
  | none => exact r
  | some y => exact h.del hx r⟩
section
variable {K : PySem.W.Frag} {σ : Sl} {M H : Hp} {te : TE} {P : Pr} {x : Addr} {kvs : List (Key × V)} {D : Ends} {tz : TS}
theorem Gv.lendK [Sdk P] (h : Gv te σ (upd M x (.dK kvs)) P) (hm : M x = none) (mh : Same M H) (hx : H x = some (.dK kvs)) {Q : VK} (q : ∀ v M' H', Gr M H M' H' → M' x = none → H' x = some (.dK kvs) → P M' v → Q v H') : te σ H Q :=
  h H (same_lent mh hx) Q fun v M' H' g p => q v _ H' (g.back hm) del_at (g.hh _ _ hx) (Sdk.del (g.mm x _ upd_same) p)
theorem q_asgK {i : Nat} [Sdk P] (mh : Same M H) (hm : M x = none) (hx : H x = some (.dK kvs)) (h : Gv te σ (upd M x (.dK kvs)) P) (k : ∀ v M' H', Gr M H M' H' → P M' v → tz D (σ.set i (some v)) H') : tSeq (tAsg te (gName i)) tz D σ H :=
  h.lendK hm mh hx fun v M' H' g _ _ p => k v M' H' g p
theorem q_if0 {tt : L2.TT} {b : Bool} {tu : TS} (mh : Same M H) (h : GvT tt σ M b) (h1 : b = true → ∀ H', Same H H' → tu { D with nx := tz D } σ H') (h2 : b = false → ∀ H', Same H H' → tz D σ H') : tSeq (tIfS tt tu tNext) tz D σ H := q_if mh h h1 h2
theorem s_if0 {tt : L2.TT} {b : Bool} {tu : TS} (mh : Same M H) (h : GvT tt σ M b) (h1 : b = true → ∀ H', Same H H' → tu D σ H') (h2 : b = false → ∀ H', Same H H' → D.nx σ H') : tIfS tt tu tNext D σ H := s_if mh h h1 h2
/-! arguments one by one -/
variable {tr ta : TA} {QA : List V → Hp → Prop}
theorem a_V (mh : Same M H) (h : Gv te σ M P) (k : ∀ v M' H', Gr M H M' H' → P M' v → tr σ H' fun vs H2 => QA (v :: vs) H2) : tCons te tr σ H QA := h H mh _ k
theorem a_L {P : Hp → List V → Prop} (mh : Same M H) (h : GvL te σ M P) (k : ∀ p vs M' H', Gr M H M' H' → H p = none → M' p = none → H' p = some (.lst vs) → P M' vs → tr σ H' fun us H2 => QA (.ref p :: us) H2) : tCons te tr σ H QA := h H mh _ k
theorem a_K {ks : List Str} (mh : Same M H) (h : GvK te σ M ks) (k : ∀ p M' H', Gr M H M' H' → H p = none → M' p = none → H' p = some (.dK (kvT ks)) → tr σ H' fun us H2 => QA (.ref p :: us) H2) : tCons te tr σ H QA := h H mh _ k
theorem a_nil (k : QA [] H) : tNil σ H QA := k
theorem q_par3 {i j l : Nat} (h : ta σ H fun vs H1 => ∃ u v w, vs = [u, v, w] ∧ tz D (((σ.set i (some u)).set j (some v)).set l (some w)) H1) : tSeq (tPar3 i j l ta) tz D σ H := h
theorem q_par2 {i j : Nat} (h : ta σ H fun vs H1 => ∃ u v, vs = [u, v] ∧ tz D ((σ.set i (some u)).set j (some v)) H1) : tSeq (tPar i j ta) tz D σ H := h
theorem s_dputT {i : Nat} {p : Addr} {so : List Str} {l : Str} {tk : TE} (mh : Same M H) (hi : σ[i]? = some (some (.ref p))) (hp : H p = some (.dK (kvT so))) (hz : so.length < sizeLine) (h : Gv tk σ M (Tx l))
    (k : ∀ M' H', Gr M H M' H' → D.nx σ (upd H' p (.dK (kvT (onceP so l))))) : sDPut (tVar i) tk (tC (.bl true)) D σ H :=
  ⟨.ref p, hi, h H mh _ fun v M' H' g r => ⟨p, _, rfl, .inl ⟨kvT so, Sum.inr l, g.hh _ _ hp, r, by rw [kvT_len]; exact hz, rfl⟩, by rw [putK_kvT]; exact k M' H' g⟩⟩
theorem q_dputT {i : Nat} {p : Addr} {so : List Str} {l : Str} {tk : TE} (mh : Same M H) (hi : σ[i]? = some (some (.ref p))) (hp : H p = some (.dK (kvT so))) (hz : so.length < sizeLine) (h : Gv tk σ M (Tx l))
    (k : ∀ M' H', Gr M H M' H' → tz D σ (upd H' p (.dK (kvT (onceP so l))))) : tSeq (sDPut (tVar i) tk (tC (.bl true))) tz D σ H := s_dputT (D := { D with nx := tz D }) mh hi hp hz h k
theorem q_app {i : Nat} {p : Addr} {vs : List V} (mh : Same M H) (hi : σ[i]? = some (some (.ref p))) (hp : H p = some (.lst vs)) (hz : vs.length < sizeLine) (h : Gv te σ M P)
    (k : ∀ v M' H', Gr M H M' H' → P M' v → tz D σ (upd H' p (.lst (vs ++ [v])))) : tSeq (tDrop (tBM K "list" rAppend (tVar i) (tCons te tNil))) tz D σ H := s_app (D := { D with nx := tz D }) mh hi hp hz h k
theorem Own.new' {M0 H0 M H : Hp} {p : Addr} {vs : List V} (g : Gr M0 H0 M H) (np : H p = none) : Own H0 M (upd H p (.lst vs)) p vs := ⟨g.hh.free np, g.mh.free np, upd_same⟩
theorem Own.both {H0 M H : Hp} {p b : Addr} {vs : List V} {u : HO} (o : Own H0 M H p vs) (h : p ≠ b) : Own H0 (upd M b u) (upd H b u) p vs := ⟨o.h0, by rw [upd_ne h]; exact o.m, by rw [upd_ne h]; exact o.h⟩
end
end L3

set_option Elab.async false
set_option linter.all false
set_option maxRecDepth 100000
set_option maxHeartbeats 1000000
namespace L3
open PySem PySem.Spec PyProof.Rows L2
/-! len(x) by an own __len__ -/
section
variable {X : Cx} {CX : CXT} {pins : List (Addr × Obj)} {σ : L2.St} {H : Hp} {s : Shared} {a C dx f : Addr} {fs : List (Str × V)} {k : Nat} {fd : FuncData} {ps : List Str} {sp : Sp} {E : XK}
theorem own_inst (I : Inv X pins σ H s) (e : H a = some (.ins C dx fs)) : ∃ ox od, PySem.W.InstAt s.heap a ox C od := let ⟨_, O, _⟩ := ins_get I.hok e; let ⟨_, J, _⟩ := O.look; ⟨_, _, J⟩
/-- the callee runs somewhat deeper -/
theorem run_deep {A : Around} {Q : VK} {us : List Value} {vs : List V} (F : FnOk X.prog X.w X.K X.mg X.base CX k f fd ps sp) (hr : Room k A) (e0 : Env0 X.prog X.w X.K X.mg X.base A X.stack s H) (hb : Binds X.K fd ps []) (hx : Passes CX X E)
    (I : Inv X pins σ H s) (r : Vals vs us) (h : sp vs H Q E) : wpAny (model X.prog X.w) A (call (.ref f) us) (EP X pins σ Q) X.xe s := by
  have hl : (us ++ []).length = ps.length := by rw [List.append_nil, ← r.length]; exact F.len _ _ _ _ h
  have hb' := hb s us I.kIn hl
  rw [List.append_nil] at hb'
  refine wpAny_call (codeAny_mono (F.run A X.stack s H ⟨us, []⟩ us vs Q E hr e0 hb' r h) fun r s' hq => ?_)
  cases r with
  | error e => exact hx pins σ H s e s' I hq
  | ok fl =>
    cases fl with
    | ret u => exact I.after hq
    | next => exact False.elim hq
    | brk => exact False.elim hq
    | cont => exact False.elim hq
def rLenO (C : Addr) (sp : Sp) : List V → Hp → VK → Prop := fun xs H Q => ∃ a dx fs, xs = [V.ref a] ∧ H a = some (.ins C dx fs) ∧ sp [.ref a] H (fun v H' => ∃ n : Nat, v = .int (n : Nat) ∧ n ≤ 1000000000 ∧ Q v H') E0
/-- a class with an own __len__ -/
structure OwnLen (P : Program) (w : World) (K : PySem.W.Frag) (mg : Str → Option Value) (base : Heap) (k : Nat) (C : Addr) (sp : Sp) : Prop where
  ok : ∃ f fd, FnOk P w K mg base CX0 k f fd ["self"] sp ∧ PySem.W.findIn K (.ref C) "__len__" = some (some (.ref f)) ∧ PySem.W.isFn K (.ref f) = true ∧ Binds K fd ["self"] []
theorem call_lenO (o : OwnLen X.prog X.w X.K X.mg X.base k C sp) (hr : Room (k + 1) X.A) : CallR X (.builtin "len") (rLenO C sp) := by
  intro pins s σ H xs us Q I r h
  obtain ⟨f, fd, F, hs, hf, hb⟩ := o.ok
  obtain ⟨a, dx, fs, rfl, ha, q⟩ := h
  obtain ⟨u, rfl, ru⟩ := r.one
  cases (show u = Value.ref a from ru)
  obtain ⟨ox, od, J⟩ := own_inst I ha
  obtain ⟨m, hF⟩ := I.fr
  refine PySem.W.len_K hF I.ok.mod.kin J hs hf (wpAny_mono (run_deep (us := [.ref a]) (vs := [.ref a]) F hr.in1 I.env0.in1 hb pass0 I (.cons rfl .nil) q) (fun w s' z => ?_) fun _ _ x => x)
  obtain ⟨z', H', I', rz, n, ei, hn, qz⟩ := z
  subst ei
  obtain ⟨t, e⟩ := (show ∃ t, w = Value.int n t from rz)
  cases e
  exact ⟨⟨by omega, by omega⟩, .int n, H', I'.tok _, ⟨_, rfl⟩, qz⟩
end
section
variable {α : Type} {σ : Sl} {M : Hp} {te : TE} {R1 : Rl α} {C : Addr}
theorem gv_lenO {pre : α → Prop} {R : α → Pr} {x : α} {n : Nat} (h : Gv te σ M (R1 x)) (hi : ∀ M v, R1 x M v → ∃ a dx fs, v = .ref a ∧ M a = some (.ins C dx fs)) (hp : pre x) (hn : n ≤ 1000000000) (hR : ∀ M v, R x M v → v = .int (n : Nat)) :
    Gv (tCB (rLenO C (sp1 R1 pre R)) (tCons te tNil)) σ M (It' n) := fun H mh Q q => h H mh _ fun v M1 H1 g1 p1 => by
  obtain ⟨a, dx, fs, rfl, ha⟩ := hi M1 v p1
  exact ⟨a, dx, fs, rfl, g1.mh _ _ ha, x, M1, _, rfl, g1.mh, p1, hp, fun u M' H' g r => ⟨n, hR _ _ r, hn, q _ M' H' (g1.trans g) (hR _ _ r)⟩⟩
end
section
variable {σ : Sl} {M H : Hp} {te : TE} {ta : TA} {P : Pr} {D : Ends} {tz : TS} {g : TG} {sp : Sp}
theorem q_asgC (h : ta σ H fun vs H1 => sp (vs ++ []) H1 (fun v H2 => g v σ H2 fun σ' H3 => tz D σ' H3) E0) : tSeq (tAsg (tCall sp [] E0 ta) g) tz D σ H := h
end
end L3

set_option Elab.async false
set_option linter.all false
set_option maxRecDepth 100000
set_option maxHeartbeats 1000000
namespace L3
open PySem PySem.Spec PyProof.Rows L2
/-! the law's stream: two lists that change behind all else -/
structure Strm where
  a : Addr
  b : Addr
namespace Strm
def off (S : Strm) (x : Addr) : Prop := x = S.a ∨ x = S.b
instance {S : Strm} {x : Addr} : Decidable (S.off x) := by unfold off; infer_instance
def cut (S : Strm) (H : Hp) : Hp := fun x => if S.off x then none else H x
/-- the stream stands, k draws are left -/
structure At (S : Strm) (k : Nat) (H : Hp) : Prop where
  ne : S.a ≠ S.b
  ex : ∃ (cells : List Int) (x n m : Int), H S.a = some (.lst [.ref S.b, .int x, .int n, .int m]) ∧ H S.b = some (.lst (cells.map V.int)) ∧ 0 ≤ x ∧ 0 ≤ n ∧ n + k ≤ 10000000 ∧ 0 ≤ m ∧ m < 2147483647
variable {S : Strm} {H H' M M' : Hp} {x p : Addr} {o : HO} {j k : Nat}
theorem cut_off (h : S.off x) : S.cut H x = none := if_pos h
theorem cut_on (h : ¬ S.off x) : S.cut H x = H x := if_neg h
theorem on_of (h : S.cut H x = some o) : ¬ S.off x := fun z => by rw [cut_off z] at h; cases h
theorem of_cut (h : S.cut H x = some o) : H x = some o := by rw [← cut_on (S := S) (H := H) (on_of h)]; exact h
theorem cut_same : Same (S.cut H) H := fun _ _ h => of_cut h
theorem cut_upd (h : ¬ S.off p) : S.cut (upd H p o) = upd (S.cut H) p o := by
  funext y
  by_cases hy : y = p
  · subst hy; rw [cut_on h, upd_same, upd_same]
  · rw [upd_ne hy]
    by_cases ho : S.off y
    · rw [cut_off ho, cut_off ho]
    · rw [cut_on ho, cut_on ho, upd_ne hy]
theorem At.le (h : S.At k H) (e : j ≤ k) : S.At j H := let ⟨c, x, n, m, h1, h2, h3, h4, h5, h6⟩ := h.ex; ⟨h.ne, c, x, n, m, h1, h2, h3, h4, by omega, h6⟩
theorem At.same (h : S.At k H) (e : Same H H') : S.At k H' := let ⟨c, x, n, m, h1, h2, h3⟩ := h.ex; ⟨h.ne, c, x, n, m, e _ _ h1, e _ _ h2, h3⟩
theorem At.upd (h : S.At k H) (hp : ¬ S.off p) : S.At k (upd H p o) := let ⟨c, x, n, m, h1, h2, h3⟩ := h.ex
  ⟨h.ne, c, x, n, m, by rw [upd_ne (fun z => hp (.inl z.symm))]; exact h1, by rw [upd_ne (fun z => hp (.inr z.symm))]; exact h2, h3⟩
theorem At.at_ (h : S.At k H) (ho : S.off x) : ∃ vs, H x = some (.lst vs) := let ⟨c, y, n, m, h1, h2, h3⟩ := h.ex; by
  rcases ho with rfl | rfl
  · exact ⟨_, h1⟩
  · exact ⟨_, h2⟩
theorem At.fresh (h : S.At k H) (hp : H p = none) : ¬ S.off p := fun z => by obtain ⟨vs, e⟩ := h.at_ z; rw [hp] at e; cases e
theorem At.cutn (h : S.At k H) (hp : H p = none) : S.cut H p = none := by rw [cut_on (h.fresh hp)]; exact hp
theorem off_none (mh : Same M (S.cut H)) (ho : S.off x) : M x = none := by
  cases e : M x with
  | none => rfl
  | some o => have := mh x o e; rw [cut_off ho] at this; cases this
theorem lift (mh : Same M (S.cut H)) (h : S.At k H) (g : Gr M H M' H') : Gr M (S.cut H) M' (S.cut H') := by
  refine ⟨g.mm, fun y u e => ?_, fun y u e => ?_, fun y u e => ?_, g.nt⟩
  · rw [cut_on (on_of e)]; exact g.hh y u (of_cut e)
  · have ny : ¬ S.off y := fun z => by
      obtain ⟨vs, hy⟩ := h.at_ z
      rw [g.keep (off_none mh z) hy] at e
      cases e
    rw [cut_on ny]; exact g.mh y u e
  · rcases g.nw y u e with z | z | z
    · exact .inl z
    · by_cases ho : S.off y
      · exact .inr (.inl (cut_off ho))
      · exact .inr (.inl (by rw [cut_on ho]; exact z))
    · exact .inr (.inr z)
end Strm
open Strm
/-- a value behind draws -/
def GvS (S : Strm) (c : Nat) (te : TE) (σ : Sl) (M : Hp) (P : Pr) : Prop := ∀ H k, Same M (S.cut H) → S.At (k + c) H → ∀ Q : VK, (∀ v M' H', Gr M (S.cut H) M' (S.cut H') → S.At k H' → P M' v → Q v H') → te σ H Q
def GvTS (S : Strm) (c : Nat) (tt : L2.TT) (σ : Sl) (M : Hp) (B : Bool → Prop) : Prop := ∀ H k, Same M (S.cut H) → S.At (k + c) H → ∀ Q : Bool → Hp → Prop, (∀ b M' H', Gr M (S.cut H) M' (S.cut H') → S.At k H' → B b → Q b H') → tt σ H Q
def GvLS (S : Strm) (c : Nat) (te : TE) (σ : Sl) (M : Hp) (P : Hp → List V → Prop) : Prop := ∀ H k, Same M (S.cut H) → S.At (k + c) H → ∀ Q : VK,
  (∀ p vs M' H', Gr M (S.cut H) M' (S.cut H') → S.At k H' → S.cut H p = none → M' p = none → S.cut H' p = some (.lst vs) → P M' vs → Q (.ref p) H') → te σ H Q
def GvIS {α : Type} (S : Strm) (c : Nat) (wi : TI) (σ : Sl) (M : Hp) (G : List α → Prop) (R : Rl α) : Prop := ∀ H k, Same M (S.cut H) → S.At (k + c) H → ∀ Q : It → Hp → Prop, (∀ J xs M1 H1, Gr M (S.cut H) M1 (S.cut H1) → S.At k H1 → G xs → GW M1 J xs R → Q J H1) → wi σ H Q
/-- some x that is good -/
def Ex {α : Type} (R : Rl α) (good : α → Prop) : Pr := fun M v => ∃ x, good x ∧ R x M v
instance {α : Type} {R : Rl α} [Mon R] {good : α → Prop} : Mono (Ex R good) := ⟨fun e ⟨x, g, r⟩ => ⟨x, g, Mon.mono e r⟩⟩
section
variable {K : PySem.W.Frag} {S : Strm} {c c1 c2 : Nat} {σ : Sl} {M M1 : Hp} {ta tb te : TE} {tt tu : L2.TT} {P P1 : Pr} {α : Type} {R : Rl α}
theorem Gv.s (h : Gv te σ M P) : GvS S 0 te σ M P := fun H k mh at_ Q q => h H (mh.trans cut_same) Q fun v M' H' g p => q v M' H' (lift mh at_ g) (at_.same g.hh) p
theorem GvT.s {b : Bool} (h : GvT tt σ M b) : GvTS S 0 tt σ M (· = b) := fun H k mh at_ Q q => h H (mh.trans cut_same) Q fun M' H' g => q b M' H' (lift mh at_ g) (at_.same g.hh) rfl
theorem GvI.s {wi : TI} {xs : List α} (h : GvI wi σ M xs R) : GvIS S 0 wi σ M (· = xs) R := fun H k mh at_ Q q => h H (mh.trans cut_same) Q fun J M' H' g w => q J xs M' H' (lift mh at_ g) (at_.same g.hh) rfl w
theorem GvL.s {P : Hp → List V → Prop} (h : GvL te σ M P) : GvLS S 0 te σ M P := fun H k mh at_ Q q => h H (mh.trans cut_same) Q fun p vs M' H' g h0 m0 hp r =>
  q p vs M' H' (lift mh at_ g) (at_.same g.hh) (Strm.At.cutn at_ h0) m0 (by rw [cut_on (Strm.At.fresh at_ h0)]; exact hp) r
theorem GvS.is {P' : Pr} (h : GvS S c te σ M P) (e : ∀ M v, P M v → P' M v) : GvS S c te σ M P' := fun H k mh at_ Q q => h H k mh at_ Q fun v M' H' g a p => q v M' H' g a (e M' v p)
theorem GvS.cost (h : GvS S c te σ M P) (e : c ≤ c1) : GvS S c1 te σ M P := fun H k mh at_ Q q => h H k mh (at_.le (by omega)) Q q
theorem GvLS.cost {P : Hp → List V → Prop} (h : GvLS S c te σ M P) (e : c ≤ c1) : GvLS S c1 te σ M P := fun H k mh at_ Q q => h H k mh (at_.le (by omega)) Q q
theorem GvTS.cost {B : Bool → Prop} (h : GvTS S c tt σ M B) (e : c ≤ c1) : GvTS S c1 tt σ M B := fun H k mh at_ Q q => h H k mh (at_.le (by omega)) Q q
theorem GvTS.is {B B' : Bool → Prop} (h : GvTS S c tt σ M B) (e : ∀ b, B b → B' b) : GvTS S c tt σ M B' := fun H k mh at_ Q q => h H k mh at_ Q fun b M' H' g a p => q b M' H' g a (e b p)
theorem GvS.le [Mono P] (h : GvS S c te σ M P) (e : Same M M1) : GvS S c te σ M1 P := fun H k mh at_ Q q =>
  h H k (e.trans mh) at_ Q fun v M' H' g a p => q v _ H' (g.join e mh).1 a (Mono.mono (g.join e mh).2 p)
theorem GvTS.le {B : Bool → Prop} (h : GvTS S c tt σ M B) (e : Same M M1) : GvTS S c tt σ M1 B := fun H k mh at_ Q q => h H k (e.trans mh) at_ Q fun b M' H' g a p => q b _ H' (g.join e mh).1 a p
theorem GvLS.gv {R : Hp → List V → Prop} (h : GvLS S c te σ M R) (hp : ∀ M vs p, R M vs → M p = none → P (upd M p (.lst vs)) (.ref p)) : GvS S c te σ M P := fun H k mh at_ Q q =>
  h H k mh at_ Q fun p vs M' H' g a h0 m0 hw r => q (.ref p) _ H' (g.freeze h0 m0 hw) a (hp M' vs p r m0)
theorem GvLS.is {R R' : Hp → List V → Prop} (h : GvLS S c te σ M R) (e : ∀ M vs, R M vs → R' M vs) : GvLS S c te σ M R' := fun H k mh at_ Q q => h H k mh at_ Q fun p vs M' H' g a h0 m0 hw r => q p vs M' H' g a h0 m0 hw (e M' vs r)
theorem gs_op {r : R2} {R : Pr} [Mono P] [Mono P1] (ha : GvS S c1 ta σ M P) (hb : GvS S c2 tb σ M P1) (hr : ∀ M' x y, P M' x → P1 M' y → RV (r x y) M' R) : GvS S (c1 + c2) (tOp r ta tb) σ M R := fun H k mh at_ Q q =>
  ha H (k + c2) mh (at_.le (by omega)) _ fun x M1 H1 g1 a1 p1 => hb.le g1.mm H1 k g1.mh a1 _ fun y M2 H2 g2 a2 p2 =>
    hr M2 x y (Mono.mono g2.mm p1) p2 H2 (g2.mh.trans cut_same) _ fun v M3 H3 g3 p3 => q v M3 H3 ((g1.trans g2).trans (lift g2.mh a2 g3)) (a2.same g3.hh) p3
theorem gts_test (h : GvS S c te σ M P) {B : Bool → Prop} (e : ∀ M v, P M v → ∃ b, v = .bl b ∧ B b) : GvTS S c (tTest te) σ M B := fun H k mh at_ Q q => h H k mh at_ _ fun v M' H' g a p => let ⟨b, e1, e2⟩ := e M' v p; ⟨b, e1, q b M' H' g a e2⟩
theorem gts_or {B C : Bool → Prop} (h : GvTS S c1 tt σ M B) (h2 : B false → GvTS S c2 tu σ M C) : GvTS S (c1 + c2) (tOr tt tu) σ M (fun b => (b = true ∧ B true) ∨ (B false ∧ C b)) := fun H k mh at_ Q q => h H (k + c2) mh (at_.le (by omega)) _ fun b M1 H1 g1 a1 p => by
  cases b with
  | true => exact q true M1 H1 g1 (a1.le (by omega)) (.inl ⟨rfl, p⟩)
  | false => exact (h2 p).le g1.mm H1 k g1.mh a1 _ fun b2 M2 H2 g2 a2 p2 => q b2 M2 H2 (g1.trans g2) a2 (.inr ⟨p, p2⟩)
theorem gs_if {B : Bool → Prop} [Mono P] (h : GvTS S c1 tt σ M B) (h1 : B true → GvS S c2 ta σ M P) (h2 : B false → GvS S c2 tb σ M P) : GvS S (c1 + c2) (tIf tt ta tb) σ M P := fun H k mh at_ Q q => h H (k + c2) mh (at_.le (by omega)) _ fun b M1 H1 g1 a1 p => by
  cases b with
  | true => exact (h1 p).le g1.mm H1 k g1.mh a1 _ fun v M2 H2 g2 a2 p2 => q v M2 H2 (g1.trans g2) a2 p2
  | false => exact (h2 p).le g1.mm H1 k g1.mh a1 _ fun v M2 H2 g2 a2 p2 => q v M2 H2 (g1.trans g2) a2 p2
theorem gis_sq [Mon R] {ts : TE} {good : List α → Prop} (h : GvS S c ts σ M (Ex (SqR K R) good)) : GvIS S c (iSq K ts) σ M good R := fun H k mh at_ Q q => h H k mh at_ _ fun v M1 H1 g1 a1 ⟨xs, gx, hv⟩ =>
  gi_sq (K := K) (σ := σ) (M := M1) (ts := tC v) (gv_c hv) H1 (g1.mh.trans cut_same) _ fun J M2 H2 g2 w => q J xs M2 H2 (g1.trans (lift g1.mh a1 g2)) (a1.same g2.hh) gx w
theorem gis_rng1 {good : Nat → Prop} (h : GvS S c te σ M (Ex (fun n : Nat => It' (n : Int)) good)) (hn : ∀ n, good n → n ≤ 1000000000) : GvIS S c (iRng1 (tCons te tNil)) σ M (fun xs => ∃ n, good n ∧ xs = List.range n) (fun i => It' (i : Nat)) := fun H k mh at_ Q q => h H k mh at_ _ fun v M1 H1 g1 a1 ⟨n, gx, hv⟩ =>
  gi_rng1 (σ := σ) (M := M1) (te := tC v) (gv_c hv) (hn n gx) H1 (g1.mh.trans cut_same) _ fun J M2 H2 g2 w => q J _ M2 H2 (g1.trans (lift g1.mh a1 g2)) (a1.same g2.hh) ⟨n, gx, rfl⟩ w
end
end L3

set_option Elab.async false
set_option linter.all false
set_option maxRecDepth 100000
set_option maxHeartbeats 1000000
namespace L3
open PySem PySem.Spec PyProof.Rows L2
open Strm
instance {α : Type} {R : Rl α} [h : Stl R] {good : α → Prop} : Stb (Ex R good) := ⟨fun a b ⟨x, g, r⟩ => ⟨x, g, h.del a b r⟩⟩
/-! statements behind draws -/
section
variable {K : PySem.W.Frag} {S : Strm} {c c1 c2 k : Nat} {σ : Sl} {M H : Hp} {ta tb te : TE} {tt tu : L2.TT} {P P1 : Pr} {α β : Type} {R : Rl α} {D : Ends} {tz tx tw : TS}
theorem z_ret (mh : Same M (S.cut H)) (a : S.At (k + c) H) (h : GvS S c te σ M P) (q : ∀ v M' H', Gr M (S.cut H) M' (S.cut H') → S.At k H' → P M' v → D.rt v H') : tRet te D σ H := h H k mh a _ q
theorem z_retL {P : Hp → List V → Prop} (mh : Same M (S.cut H)) (a : S.At (k + c) H) (h : GvLS S c te σ M P)
    (q : ∀ p vs M' H', Gr M (S.cut H) M' (S.cut H') → S.At k H' → S.cut H p = none → M' p = none → S.cut H' p = some (.lst vs) → P M' vs → D.rt (.ref p) H') : tRet te D σ H := h H k mh a _ q
theorem z_asg {i : Nat} (mh : Same M (S.cut H)) (a : S.At (k + c) H) (h : GvS S c te σ M P) (q : ∀ v M' H', Gr M (S.cut H) M' (S.cut H') → S.At k H' → P M' v → tz D (σ.set i (some v)) H') : tSeq (tAsg te (gName i)) tz D σ H := h H k mh a _ q
theorem z_asgL {i : Nat} {P : Hp → List V → Prop} (mh : Same M (S.cut H)) (a : S.At (k + c) H) (h : GvLS S c te σ M P)
    (q : ∀ p vs M' H', Gr M (S.cut H) M' (S.cut H') → S.At k H' → S.cut H p = none → M' p = none → S.cut H' p = some (.lst vs) → P M' vs → tz D (σ.set i (some (.ref p))) H') : tSeq (tAsg te (gName i)) tz D σ H := h H k mh a _ q
theorem z_if {B : Bool → Prop} (mh : Same M (S.cut H)) (a : S.At (k + c) H) (h : GvTS S c tt σ M B) (h1 : B true → ∀ M' H', Gr M (S.cut H) M' (S.cut H') → S.At k H' → tx { D with nx := tz D } σ H') (h2 : B false → ∀ M' H', Gr M (S.cut H) M' (S.cut H') → S.At k H' → tz D σ H') :
    tSeq (tIfS tt tx tNext) tz D σ H := h H k mh a _ fun b M' H' g a' p => by
  cases b with
  | true => exact h1 p M' H' g a'
  | false => exact h2 p M' H' g a'
/-- a list of ours changes -/
theorem cut_put {p : Addr} {o u : HO} (hp : S.cut H p = some o) : S.cut (upd H p u) = upd (S.cut H) p u := cut_upd (on_of hp)
/-- something of ours is lent -/
theorem GvS.lend {x : Addr} {o : HO} [Stb P] (h : GvS S c te σ (upd M x o) P) (hm : M x = none) (mh : Same M (S.cut H)) (a : S.At (k + c) H) (hx : S.cut H x = some o) (hn : ∀ xs, o ≠ HO.tup xs) {Q : VK}
    (q : ∀ v M' H', Gr M (S.cut H) M' (S.cut H') → S.At k H' → P M' v → Q v H') : te σ H Q :=
  h H k (same_lent mh hx) a Q fun v M' H' g a' p => q v _ H' (g.back hm) a' (Stb.del hn (g.mm x o upd_same) p)
/-- for over anything, drawing -/
theorem z_for {wi : TI} {g : TG} {tbd : TS} {U : α → Hp → Sl → Sl → Prop} {G : List α → Prop} (mh : Same M (S.cut H)) (a : S.At (k + c) H) (hsrc : GvIS S c wi σ M G R) (htg : TgOk g R U) (Pv : List α → Hp → Nat → Sl → Hp → Hp → Prop)
    (h0 : ∀ xs M1 H1, G xs → Gr M (S.cut H) M1 (S.cut H1) → S.At k H1 → Pv xs M1 0 σ M1 H1) (hk : ∀ xs M1 i σ' M' H', Pv xs M1 i σ' M' H' → Same M1 M' ∧ Same M' (S.cut H') ∧ S.At 0 H')
    (hs : ∀ xs M1 i x σ' M' H' M2 H2 σ2, G xs → Same M M1 → xs[i]? = some x → Pv xs M1 i σ' M' H' → Gr M' H' M2 H2 → U x M2 σ' σ2 →
      tbd { D with nx := fun σ2 H2 => ∃ M2, Pv xs M1 (i + 1) σ2 M2 H2, ct := fun σ2 H2 => ∃ M2, Pv xs M1 (i + 1) σ2 M2 H2, bk := tz D } σ2 H2)
    (hd : ∀ xs M1 σ' M' H', G xs → Same M M1 → Pv xs M1 xs.length σ' M' H' → tz D σ' H') : tSeq (tFor wi g tbd) tz D σ H := by
  refine hsrc H k mh a _ fun J xs M1 H1 g1 a1 gx ⟨GG, Y, w, hG, hY⟩ => ?_
  refine for_it w (fun i σ' H' => ∃ M', Pv xs M1 i σ' M' H') ⟨M1, h0 xs M1 H1 gx g1 a1⟩ (fun i σ' H' _ ⟨M', p⟩ => hG M' H' (hk _ _ _ _ _ _ p).1 ((hk _ _ _ _ _ _ p).2.1.trans cut_same)) ?_ ?_
  · rintro i y σ' H' H'' hi ⟨M', p⟩ hy
    have km := hk _ _ _ _ _ _ p
    obtain ⟨x, M2, hx, g2, rx⟩ := hY i M' H' y H'' km.1 (km.2.1.trans cut_same) hi hy
    exact htg x M2 y H'' σ' _ rx g2.mh fun σ2 hU => hs xs M1 i x σ' M' H' M2 H'' σ2 gx g1.mm hx p g2 hU
  · rintro σ' H' ⟨M', p⟩
    exact hd xs M1 σ' M' H' gx g1.mm p
/-- a comprehension without a test, drawing at each item -/
theorem gls_m1 {T : Rl β} [Mon T] {j n : Nat} {wi : TI} {G : List α → Prop} {good : α → β → Prop} (hsrc : GvIS S c1 wi σ M G R) (hn : ∀ xs, G xs → xs.length ≤ n) (hz : n ≤ sizeLine)
    (he : ∀ xs, G xs → ∀ x ∈ xs, ∀ M1 v, Same M M1 → R x M1 v → GvS S c2 te ((wipe σ [j]).set j (some v)) M1 (Ex T (good x))) :
    GvLS S (c1 + n * c2) (tLc wi (gName j) tYes te [j]) σ M fun M ws => ∃ xs ys, G xs ∧ Paired good xs ys ∧ Pd T M ys ws := by
  intro H k mh at_ Q q
  refine hsrc H (k + n * c2) mh (at_.le (by omega)) _ fun J xs M1 H1 g1 a1 gx ⟨GG, Y, w, hG, hY⟩ D hD => ?_
  have hxn := hn xs gx
  have nD := a1.fresh hD
  refine lc_it w (fun i H' => ∃ M' ys ws, Gr M1 (S.cut H1) M' (S.cut H') ∧ S.At (k + (n - i) * c2) H' ∧ M' D = none ∧ S.cut H' D = some (.lst ws) ∧ ws.length ≤ i ∧ Paired good (xs.take i) ys ∧ Pd T M' ys ws)
    ⟨M1, [], [], by rw [cut_upd nD]; exact .own g1.mh (a1.cutn hD), a1.upd nD, g1.mh.free (a1.cutn hD), by rw [cut_upd nD, upd_same], Nat.le_refl _, .nil, .nil⟩ (fun i H' _ ⟨M', ys, ws, g, _⟩ => hG M' H' g.mm (g.mh.trans cut_same)) ?_ ?_
  · rintro i y H' H'' hi ⟨M', ys, ws, g, a', m0, hw', hl, hg, hpd⟩ hy
    obtain ⟨x, M0, hx, g0, rx⟩ := hY i M' H' y H'' g.mm (g.mh.trans cut_same) hi hy
    have hxm : x ∈ xs := List.mem_of_getElem? hx
    have et : xs.take (i + 1) = xs.take i ++ [x] := by rw [List.take_add_one, hx]; rfl
    have gg := g.trans (lift g.mh a' g0)
    have ag := a'.same g0.hh
    have k0 : S.cut H'' D = some (.lst ws) := (lift g.mh a' g0).hh _ _ hw'
    have m0' : M0 D = none := (lift g.mh a' g0).keep m0 hw'
    have hni : n - i = (n - (i + 1)) + 1 := by omega
    refine ⟨wipe1, ?_⟩
    show te _ H'' _
    refine he xs gx x hxm M0 y (g1.mm.trans gg.mm) rx H'' (k + (n - (i + 1)) * c2) gg.mh (ag.le (by rw [hni, Nat.add_mul]; omega)) _ fun z M3 H3 g3 a3 ⟨b, gb, hb⟩ => ?_
    have m3 : M3 D = none := g3.keep m0' k0
    have k3 := g3.hh _ _ k0
    have n3 := on_of k3
    refine ⟨ws, of_cut k3, Nat.lt_of_lt_of_le (Nat.lt_of_le_of_lt hl hi) (Nat.le_trans hxn hz), M3, ys ++ [b], ws ++ [z], by rw [cut_upd n3]; exact (gg.trans g3).mut (a1.cutn hD) m3, a3.upd n3, m3, by rw [cut_upd n3, upd_same], by rw [List.length_append]; exact Nat.succ_le_succ hl, ?_, ?_⟩
    · rw [et]; exact pd_app hg (.cons gb .nil)
    · exact pd_app (hpd.mono ((lift g.mh a' g0).mm.trans g3.mm)) (.cons hb .nil)
  · rintro H' ⟨M', ys, ws, g, a', m0, hw', hl, hg, hpd⟩
    rw [List.take_length] at hg
    exact q D ws M' H' (g1.trans g) (a'.le (by omega)) (g1.hh.free (a1.cutn hD)) m0 hw' ⟨xs, ys, gx, hg, hpd⟩
end
/-! promises of defs that draw -/
section
variable {α β γ : Type} {S : Strm} {c : Nat} {σ : Sl} {M : Hp} {t1 t2 t3 : TE} {R1 : Rl α} {R2 : Rl β} {R3 : Rl γ} {i : Nat}
def spS1 (R1 : Rl α) (pre : α → Prop) (c : α → Nat) (R : α → Pr) : Sp := fun vs H Q _ => ∃ (S : Strm) (x : α) (M : Hp) (v : V) (k : Nat), vs = [.ref S.a, v] ∧ Same M (S.cut H) ∧ S.At (k + c x) H ∧ R1 x M v ∧ pre x ∧ ∀ u M' H', Gr M (S.cut H) M' (S.cut H') → S.At k H' → R x M' u → Q u H'
def slS1 (R1 : Rl α) (pre : α → Prop) (c : α → Nat) (R : α → Hp → List V → Prop) : Sp := fun vs H Q _ => ∃ (S : Strm) (x : α) (M : Hp) (v : V) (k : Nat), vs = [.ref S.a, v] ∧ Same M (S.cut H) ∧ S.At (k + c x) H ∧ R1 x M v ∧ pre x ∧
  ∀ p ws M' H', Gr M (S.cut H) M' (S.cut H') → S.At k H' → S.cut H p = none → M' p = none → S.cut H' p = some (.lst ws) → R x M' ws → Q (.ref p) H'
def slS2 (R1 : Rl α) (R2 : Rl β) (pre : α → β → Prop) (c : α → β → Nat) (R : α → β → Hp → List V → Prop) : Sp := fun vs H Q _ => ∃ (S : Strm) (x : α) (y : β) (M : Hp) (v w : V) (k : Nat), vs = [.ref S.a, v, w] ∧ Same M (S.cut H) ∧ S.At (k + c x y) H ∧ R1 x M v ∧ R2 y M w ∧ pre x y ∧
  ∀ p ws M' H', Gr M (S.cut H) M' (S.cut H') → S.At k H' → S.cut H p = none → M' p = none → S.cut H' p = some (.lst ws) → R x y M' ws → Q (.ref p) H'
theorem gs_call1 {pre : α → Prop} {cs : α → Nat} {R : α → Pr} {x : α} (hi : σ[i]? = some (some (.ref S.a))) (h1 : Gv t1 σ M (R1 x)) (hp : pre x) : GvS S (cs x) (tCall (spS1 R1 pre cs R) [] E0 (tCons (tVar i) (tCons t1 tNil))) σ M (R x) := fun H k mh a Q q =>
  ⟨_, hi, h1 H (mh.trans cut_same) _ fun v M1 H1 g1 p1 => ⟨S, x, M1, v, k, rfl, (lift mh a g1).mh, a.same g1.hh, p1, hp, fun u M' H' g a' r => q u M' H' ((lift mh a g1).trans g) a' r⟩⟩
theorem gls_call1 {pre : α → Prop} {cs : α → Nat} {R : α → Hp → List V → Prop} {x : α} (hi : σ[i]? = some (some (.ref S.a))) (h1 : Gv t1 σ M (R1 x)) (hp : pre x) : GvLS S (cs x) (tCall (slS1 R1 pre cs R) [] E0 (tCons (tVar i) (tCons t1 tNil))) σ M (R x) := fun H k mh a Q q =>
  ⟨_, hi, h1 H (mh.trans cut_same) _ fun v M1 H1 g1 p1 => ⟨S, x, M1, v, k, rfl, (lift mh a g1).mh, a.same g1.hh, p1, hp, fun p ws M' H' g a' h0 m0 hw r => q p ws M' H' ((lift mh a g1).trans g) a' ((lift mh a g1).hh.free h0) m0 hw r⟩⟩
theorem gls_call2 [Mon R1] [Mon R2] {pre : α → β → Prop} {cs : α → β → Nat} {R : α → β → Hp → List V → Prop} {x : α} {y : β} (hi : σ[i]? = some (some (.ref S.a))) (h1 : Gv t1 σ M (R1 x)) (h2 : Gv t2 σ M (R2 y)) (hp : pre x y) :
    GvLS S (cs x y) (tCall (slS2 R1 R2 pre cs R) [] E0 (tCons (tVar i) (tCons t1 (tCons t2 tNil)))) σ M (R x y) := fun H k mh a Q q =>
  ⟨_, hi, h1 H (mh.trans cut_same) _ fun v M1 H1 g1 p1 => h2.le g1.mm H1 g1.mh _ fun w M2 H2 g2 p2 => ⟨S, x, y, M2, v, w, k, rfl, (lift mh a (g1.trans g2)).mh, a.same (g1.trans g2).hh, Mon.mono g2.mm p1, p2, hp,
    fun p ws M' H' g a' h0 m0 hw r => q p ws M' H' ((lift mh a (g1.trans g2)).trans g) a' ((lift mh a (g1.trans g2)).hh.free h0) m0 hw r⟩⟩
end
end L3

set_option Elab.async false
set_option linter.all false
set_option maxRecDepth 100000
set_option maxHeartbeats 1000000
namespace L3
open PySem PySem.Spec PyProof.Rows L2
open Strm
namespace Strm
variable {S : Strm} {H H' M M' : Hp} {x p : Addr} {o : HO} {j k : Nat}
/-- the stream lent -/
def full (S : Strm) (M H : Hp) : Hp := fun x => if S.off x then H x else M x
theorem full_off (h : S.off x) : S.full M H x = H x := if_pos h
theorem full_on (h : ¬ S.off x) : S.full M H x = M x := if_neg h
theorem full_same (mh : Same M (S.cut H)) : Same (S.full M H) H := fun y u e => by
  by_cases h : S.off y
  · rw [full_off h] at e; exact e
  · rw [full_on h] at e; exact of_cut (mh y u e)
theorem cut_updo (h : S.off p) : S.cut (upd H p o) = S.cut H := by
  funext y
  by_cases ho : S.off y
  · rw [cut_off ho, cut_off ho]
  · rw [cut_on ho, cut_on ho, upd_ne (fun z => ho (by rw [z]; exact h))]
theorem unfull (mh : Same M (S.cut H)) (g : Gr (S.full M H) H M' H') : Gr M (S.cut H) (S.cut M') (S.cut H') := by
  refine ⟨fun y u e => ?_, fun y u e => ?_, fun y u e => ?_, fun y u e => ?_, fun y ps e => by
    have h := g.nt y ps (of_cut e)
    rw [full_on (on_of e)] at h
    exact h⟩
  · have ny := on_of (mh y u e)
    rw [cut_on ny]; exact g.mm y u (by rw [full_on ny]; exact e)
  · rw [cut_on (on_of e)]; exact g.hh y u (of_cut e)
  · rw [cut_on (on_of e)]; exact g.mh y u (of_cut e)
  · have ny := on_of e
    rcases g.nw y u (of_cut e) with z | z | z
    · rw [full_on ny] at z; exact .inl z
    · exact .inr (.inl (by rw [cut_on ny]; exact z))
    · exact .inr (.inr z)
end Strm
def cellD (cells : List Int) (x n m : Int) : List PyData := [.list (cells.map .int), .int x, .int n, .int m]
structure StAt (S : Strm) (H : Hp) (cells : List Int) (x n m : Int) : Prop where
  ne : S.a ≠ S.b
  a : H S.a = some (.lst [.ref S.b, .int x, .int n, .int m])
  b : H S.b = some (.lst (cells.map V.int))
/-- one statement, then what follows it is proved once -/
theorem q_cut {t tz : TS} {D : Ends} {σ : Sl} {H : Hp} (J : Sl → Hp → Prop) (h : ∀ nx, (∀ σ H, J σ H → nx σ H) → t { D with nx := nx } σ H) (hz : ∀ σ H, J σ H → tz D σ H) : tSeq t tz D σ H := h _ hz
section
variable {K : PySem.W.Frag} {S : Strm} {c k : Nat} {σ : Sl} {M H H' : Hp} {te : TE} {D : Ends} {tz tb : TS} {cells : List Int} {x n m : Int}
theorem StAt.same (st : StAt S H cells x n m) (e : Same H H') : StAt S H' cells x n m := ⟨st.ne, e _ _ st.a, e _ _ st.b⟩
theorem pd_int {M : Hp} : ∀ (cs : List Int), Pd (Dd K) M (cs.map PyData.int) (cs.map V.int)
  | [] => .nil
  | c :: r => .cons (.int c) (pd_int r)
theorem dpa_pd {M : Hp} {ds : List PyData} {vs : List V} (h : Pd (Dd K) M ds vs) : DpAll K M vs ds := by
  induction h with
  | nil => exact .nil
  | cons q _ ih => exact .cons q ih
theorem StAt.sq (st : StAt S H cells x n m) : SqR K (Dd K) (cellD cells x n m) (S.full M H) (.ref S.a) :=
  .inl ⟨_, _, rfl, .inl (.inl (by rw [full_off (.inl rfl)]; exact st.a)), .cons (.lst (.inl (.inl (by rw [full_off (.inr rfl)]; exact st.b))) (dpa_pd (pd_int cells))) (.cons (.int x) (.cons (.int n) (.cons (.int m) .nil)))⟩
/-- stream[j] = e -/
theorem z_subE {j : Int} {jn : Nat} {z : Int} (hσ : σ[0]? = some (some (.ref S.a))) (mh : Same M (S.cut H)) (st : StAt S H cells x n m) (hj : ixN 4 j = some jn) (h : Gv te σ (S.full M H) (It' z))
    (q : ∀ M' H', Gr M (S.cut H) M' (S.cut H') → H' S.a = some (.lst ([V.ref S.b, .int x, .int n, .int m].set jn (.int z))) → H' S.b = some (.lst (cells.map V.int)) → D.nx σ H') :
    tAsg te (gSub (tVar 0) (tC (.int j)) rSetL) D σ H := h H (full_same mh) _ fun v M' H' g p => by
  have st' := st.same g.hh
  refine ⟨.ref S.a, hσ, S.a, _, j, jn, rfl, rfl, st'.a, hj, ?_⟩
  cases (show v = _ from p)
  refine q _ _ (by rw [cut_updo (.inl rfl)]; exact unfull mh g) upd_same ?_
  rw [upd_ne (Ne.symm st.ne)]
  exact st'.b
theorem z_sub {j : Int} {jn : Nat} {z : Int} (hσ : σ[0]? = some (some (.ref S.a))) (mh : Same M (S.cut H)) (st : StAt S H cells x n m) (hj : ixN 4 j = some jn) (h : Gv te σ (S.full M H) (It' z))
    (q : ∀ M' H', Gr M (S.cut H) M' (S.cut H') → H' S.a = some (.lst ([V.ref S.b, .int x, .int n, .int m].set jn (.int z))) → H' S.b = some (.lst (cells.map V.int)) → tz D σ H') :
    tSeq (tAsg te (gSub (tVar 0) (tC (.int j)) rSetL)) tz D σ H := z_subE (D := { D with nx := tz D }) hσ mh st hj h q
end
end L3

set_option Elab.async false
set_option linter.all false
set_option maxRecDepth 100000
set_option maxHeartbeats 1000000
namespace L3
open PySem PySem.Spec PyProof.Rows L2
open Strm
section
variable {σ : Sl} {M H : Hp} {te0 te : TE}
/-- [e for k in range(n)], n told while something of ours is lent -/
theorem lc_rngL {x : Addr} {o : HO} {n j : Nat} (h : Gv te0 σ (upd M x o) (It' (n : Int))) (hm : M x = none) (mh : Same M H) (hx : H x = some o) (hn : n ≤ 1000000000) (ho : ∀ xs, o ≠ HO.tup xs) {Q : VK} (Pv : Addr → Nat → Hp → Hp → Prop)
    (h0 : ∀ M1 H1 D, Gr M H M1 H1 → H1 D = none → Pv D 0 M1 (upd H1 D (.lst [])))
    (hs : ∀ D i M' H', i < n → Pv D i M' H' → te ((wipe σ [j]).set j (some (.int (i : Nat)))) H' fun z H3 => ∃ acc, H3 D = some (.lst acc) ∧ acc.length < sizeLine ∧ ∃ M3, Pv D (i + 1) M3 (upd H3 D (.lst (acc ++ [z]))))
    (hd : ∀ D M' H', Pv D n M' H' → Q (.ref D) H') : tLc (iRng1 (tCons te0 tNil)) (gName j) tYes te [j] σ H Q := by
  refine h.lend hm mh hx ho fun v M1 H1 g1 _ _ hv => ?_
  cases (show v = _ from hv)
  refine ⟨(n : Int), rfl, by omega, by omega, fun D hD => ?_⟩
  have w := walk_range (lo := 0) (n := (n : Int).toNat)
  refine lc_it w (fun i H' => ∃ M', Pv D i M' H') ⟨M1, h0 M1 H1 D g1 hD⟩ (fun _ _ _ _ => trivial) ?_ ?_
  · rintro i y H' H'' hi ⟨M', p⟩ ⟨rfl, rfl⟩
    rw [Int.toNat_natCast] at hi
    have e0 : (fun i : Nat => V.int (0 + (i : Int))) i = V.int (i : Nat) := by show V.int _ = V.int _; rw [Int.zero_add]
    rw [e0]
    exact ⟨wipe1, hs D i M' _ hi p⟩
  · rintro H' ⟨M', p⟩
    rw [Int.toNat_natCast] at p
    exact hd D M' H' p
end
end L3
namespace L3
open PySem PySem.Spec PyProof.Rows L2
open Strm
section
variable {K : PySem.W.Frag} {S : Strm} {c k : Nat} {σ : Sl} {M H : Hp} {te ta tb : TE} {P : Pr} {α β : Type} {R : Rl α} {T : Rl β} {D : Ends} {tz : TS} {g : TG} {U : α → Hp → Sl → Sl → Prop}
theorem z_asgT {x : α} (mh : Same M (S.cut H)) (a : S.At (k + c) H) (h : GvS S c te σ M (R x)) (htg : TgOk g R U) (q : ∀ σ' M' H', Gr M (S.cut H) M' (S.cut H') → S.At k H' → U x M' σ σ' → tz D σ' H') : tSeq (tAsg te g) tz D σ H :=
  h H k mh a _ fun v M' H' g' a' r => htg x M' v H' σ _ r (g'.mh.trans cut_same) fun σ' u => q σ' M' H' g' a' u
theorem gv_pair [Mon R] [Mon T] {x : α} {y : β} (h1 : Gv ta σ M (R x)) (h2 : Gv tb σ M (T y)) : Gv (tTup (tCons ta (tCons tb tNil))) σ M (PrR K R T (x, y)) := fun H mh Q q =>
  h1 H mh _ fun v M1 H1 g1 p1 => h2.le g1.mm H1 g1.mh _ fun w M2 H2 g2 p2 => ⟨by show 2 ≤ sizeLine; decide, fun p np => q _ _ _ ((g1.trans g2).trans (.new g2.mh np)) ⟨p, _, _, rfl, .inl (.inl upd_same), Mon.mono (g2.mm.trans (same_new (g2.mh.free np))) p1, Mon.mono (same_new (g2.mh.free np)) p2⟩⟩
/-- constants in a row -/
def tCs : List V → TA
  | [] => tNil
  | v :: r => tCons (tC v) (tCs r)
theorem ga_cs : ∀ vs : List V, GvA (tCs vs) σ M fun _ ws => ws = vs
  | [] => ga_nil
  | v :: r => fun H mh Q q => ga_cs r H mh _ fun ws M' H' g e => q _ M' H' g (by rw [e])
theorem gl_cs (vs : List V) (hz : vs.length ≤ 1000) : GvL (tLst (tCs vs)) σ M fun _ ws => ws = vs := gl_lst (ga_cs vs) fun _ ws e => by rw [e]; exact Nat.le_trans hz (by decide)
theorem gv_strs (xs : List Str) (hz : xs.length ≤ 1000) : Gv (tLst (tCs (xs.map V.str))) σ M (LiR Tx xs) := (gl_cs _ (by rw [List.length_map]; exact hz)).gv fun M vs p e m => by subst e; exact ⟨p, _, rfl, upd_same, pd_of_tx xs⟩
theorem pd_of_it {M : Hp} : ∀ (xs : List Int), Pd It' M xs (xs.map V.int)
  | [] => .nil
  | _ :: r => .cons rfl (pd_of_it r)
theorem gv_ints (xs : List Int) (hz : xs.length ≤ 1000) : Gv (tLst (tCs (xs.map V.int))) σ M (LiR It' xs) := (gl_cs _ (by rw [List.length_map]; exact hz)).gv fun M vs p e m => by subst e; exact ⟨p, _, rfl, upd_same, pd_of_it xs⟩
/-- sep.join(a new list of texts) -/
theorem gs_join {good : List Str → Prop} {x : Str} (h : GvLS S c te σ M fun M ws => ∃ ys, good ys ∧ Pd Tx M ys ws) (hz : ∀ ys, good ys → (ys.map (·.length)).sum + ys.length * x.length ≤ 16777216) :
    GvS S c (tM1 (fun x xs H Q => ∃ a p, ∃ ys : List Str, x = .str a ∧ xs = [.ref p] ∧ (SqL K H p (ys.map V.str) ∨ SqT K H p (ys.map V.str)) ∧ (ys.map (·.length)).sum + ys.length * a.length ≤ 16777216 ∧ Q (.str (Txt.join a ys)) H) (tC (.str x)) te) σ M (Ex (fun ys => Tx (Txt.join x ys)) good) := fun H k mh a Q q =>
  ⟨⟨x, rfl⟩, h H k mh a _ fun p vs M' H' g a' h0 m0 hw ⟨ys, gy, hp⟩ => ⟨x, p, ys, rfl, rfl, .inl (.inl (.inl (by rw [← pd_tx hp]; exact of_cut hw))), hz ys gy, q _ M' H' g a' ⟨ys, gy, rfl⟩⟩⟩
end
end L3
namespace L3
open PySem PySem.Spec PyProof.Rows L2
open Strm
section
variable {K : PySem.W.Frag} {S : Strm} {c k : Nat} {σ : Sl} {M H : Hp} {te : TE} {P : Pr} {D : Ends} {tz : TS}
/-- xs.append(e), e asks xs itself -/
theorem z_appL {i : Nat} {p : Addr} {vs : List V} [Stb P] (mh : Same M (S.cut H)) (a : S.At (k + c) H) (hi : σ[i]? = some (some (.ref p))) (hm : M p = none) (hp : S.cut H p = some (.lst vs)) (hz : vs.length < sizeLine) (h : GvS S c te σ (upd M p (.lst vs)) P)
    (q : ∀ v M' H', Gr M (S.cut H) M' (S.cut H') → S.At k H' → P M' v → D.nx σ (upd H' p (.lst (vs ++ [v])))) : tDrop (tBM K "list" rAppend (tVar i) (tCons te tNil)) D σ H :=
  ⟨.ref p, hi, .inl ⟨rfl, _, .inl (.inl (of_cut hp))⟩, h.lend hm mh a hp ls_nt fun v M' H' g a' r => ⟨p, vs, v, rfl, rfl, of_cut (g.hh _ _ hp), hz, q v M' H' g a' r⟩⟩
end
/-- a list of ours behind the stream -/
structure OwS (S : Strm) (H0 M H : Hp) (p : Addr) (vs : List V) : Prop where
  o : Own (S.cut H0) M (S.cut H) p vs
theorem OwS.put {S : Strm} {H0 M H : Hp} {p : Addr} {vs ws : List V} (o : OwS S H0 M H p vs) : OwS S H0 M (upd H p (.lst ws)) p ws := ⟨by rw [cut_put o.o.h]; exact o.o.put⟩
theorem OwS.step {S : Strm} {H0 M H M' H' : Hp} {p : Addr} {vs : List V} (o : OwS S H0 M H p vs) (g : Gr M (S.cut H) M' (S.cut H')) : OwS S H0 M' H' p vs := ⟨o.o.step g⟩
theorem OwS.mut {S : Strm} {M0 H0 M H : Hp} {p : Addr} {vs ws : List V} (o : OwS S H0 M H p vs) (g : Gr M0 (S.cut H0) M (S.cut H)) : Gr M0 (S.cut H0) M (S.cut (upd H p (.lst ws))) := by rw [cut_put o.o.h]; exact g.mut o.o.h0 o.o.m
theorem OwS.on {S : Strm} {H0 M H : Hp} {p : Addr} {vs : List V} (o : OwS S H0 M H p vs) : ¬ S.off p := on_of o.o.h
end L3
namespace L3
open PySem PySem.Spec PyProof.Rows L2
open Strm
def cutL {α : Type} (xs : List α) (lo hi : Option Int) : List α := (xs.drop (HT.sIx xs.length 0 lo)).take (HT.sIx xs.length xs.length hi - HT.sIx xs.length 0 lo)
theorem pd_cut {α : Type} {R : Rl α} {M : Hp} {xs : List α} {vs : List V} {lo hi : Option Int} (h : Pd R M xs vs) : Pd R M (cutL xs lo hi) (cutV vs lo hi) := by
  have e : cutV vs lo hi = cutL vs lo hi := rfl
  rw [e]
  unfold cutL
  rw [← h.length]
  exact pd_take _ (pd_drop _ h)
theorem cut_sub {α : Type} (xs : List α) (lo hi : Option Int) : (cutL xs lo hi).Sublist xs := (List.take_sublist _ _).trans (List.drop_sublist _ _)
section
variable {K : PySem.W.Frag} {S : Strm} {c1 c2 : Nat} {σ : Sl} {M : Hp} {te th : TE} {α : Type} {R : Rl α}
theorem gl_cut [Mon R] {tl th : TO} {xs : List α} {lo hi : Option Int} (h : Gv te σ M (LstR K R xs)) (hl : ∀ (H : Hp) (Q : Option Int → Hp → Prop), Q lo H → tl σ H Q) (hh : ∀ (H : Hp) (Q : Option Int → Hp → Prop), Q hi H → th σ H Q) :
    GvL (tSl (rSlX K) te tl th) σ M fun M ws => Pd R M (cutL xs lo hi) ws := fun H mh Q q =>
  h H mh _ fun v M1 H1 g1 ⟨a, vs, e, hs, hp⟩ => hl H1 _ (hh H1 _ (.inr (.inl ⟨a, vs, e, sl_mono g1.mh hs, fun p np => q p _ M1 _ (g1.trans (.own g1.mh np)) (g1.hh.free np) (g1.mh.free np) upd_same (pd_cut hp)⟩)))
theorem gls_cut [Mon R] {good : List α → Prop} (h : GvS S c1 te σ M (Ex (LiR R) good)) (hh : GvS S c2 th σ M (Ex It' fun _ => True)) :
    GvLS S (c1 + c2) (tSl (rSlX K) te tNoPart (tPart th)) σ M fun M ws => ∃ xs i, good xs ∧ Pd R M (cutL xs none (some i)) ws := fun H k mh at_ Q q =>
  h H (k + c2) mh (at_.le (by omega)) _ fun v M1 H1 g1 a1 ⟨xs, gx, a, vs, e, hs, hp⟩ => hh.le g1.mm H1 k g1.mh a1 _ fun w M2 H2 g2 a2 ⟨i, _, ew⟩ =>
    ⟨i, ew, .inr (.inl ⟨a, vs, e, .inl (.inl (of_cut (g2.mh _ _ (g2.mm _ _ hs)))), fun p np => by
      have n2 := a2.fresh np
      exact q p _ M2 _ ((g1.trans g2).trans (by rw [cut_upd n2]; exact .own g2.mh (a2.cutn np))) (a2.upd n2) ((g1.trans g2).hh.free (a2.cutn np)) (g2.mh.free (a2.cutn np)) (by rw [cut_upd n2, upd_same]) ⟨xs, i, gx, (pd_cut hp).mono g2.mm⟩⟩)⟩
end
end L3
namespace L3
open PySem PySem.Spec PyProof.Rows L2
section
end
end L3

set_option Elab.async false
set_option linter.all false
set_option maxRecDepth 100000
set_option maxHeartbeats 1000000
namespace L3
open PySem PySem.Spec PyProof.Rows L2
open Strm
/-! instances made by name -/
def Mak (P : Program) (w : World) (K : PySem.W.Frag) (mg : Str → Option Value) (base : Heap) (k : Nat) (x : Str) (C : Addr) (ps : List Str) (sp : Sp) : Prop :=
  ∃ f fd, Mk K C f ∧ FnOk P w K mg base CX0 k f fd ps sp ∧ mg x = some (.ref C) ∧ Binds K fd ps []
theorem pe_mk {X : Cx} {k : Nat} {x : Str} {C : Addr} {ps : List Str} {sp : Sp} {e : Expr} {es : List Expr} {t : TA} {p pos : Pos} (c : Mak X.prog X.w X.K X.mg X.base k x C ps sp) (hr : Room (k + 1) X.A) (ha : PA X (e :: es) t) (hg : Gl X x := by rfl)
    (hdb : (x == ("__debug__" : Str)) = false := by decide) (he : starEach (e :: es) X.env = (false, eval e X.env) :: starEach es X.env := by rfl) (hpl : (backTo pos (starEach es X.env)).any (·.1) = false := by rfl) :
    PE X (.Call (.Name x p) (e :: es) [] pos) (tMake C sp [] E0 t) :=
  let ⟨_, _, M, F, m, b⟩ := c
  pe_make M F hr hg m b .nil pass0 ha hdb he hpl
theorem cut_take {α : Type} (xs : List α) (n : Nat) : cutL xs none (some (n : Int)) = xs.take n := by
  unfold cutL
  rw [HT.sIx_none, HT.sIx_nat]
  simp only [List.drop_zero, Nat.sub_zero]
  by_cases h : n ≤ xs.length
  · rw [Nat.min_eq_left h]
  · rw [Nat.min_eq_right (by omega), List.take_length, List.take_of_length_le (by omega)]
theorem cut_drop {α : Type} (xs : List α) (n : Nat) : cutL xs (some (n : Int)) none = xs.drop n := by
  unfold cutL
  rw [HT.sIx_none, HT.sIx_nat]
  by_cases h : n ≤ xs.length
  · rw [Nat.min_eq_left h, List.take_of_length_le (by rw [List.length_drop]; omega)]
  · rw [Nat.min_eq_right (by omega), List.drop_length, List.drop_of_length_le (by omega)]; simp
/-- three keys -/
theorem merge3 {a b c : Str} {u v w : V} (h1 : a ≠ b) (h2 : a ≠ c) (h3 : b ≠ c) : mergeK [] [(Sum.inr a, u), (Sum.inr b, v), (Sum.inr c, w)] = [(Sum.inr a, u), (Sum.inr b, v), (Sum.inr c, w)] := by
  have e1 : ¬ (Sum.inr a : Key) = Sum.inr b := fun z => h1 (Sum.inr.inj z)
  have e2 : ¬ (Sum.inr a : Key) = Sum.inr c := fun z => h2 (Sum.inr.inj z)
  have e3 : ¬ (Sum.inr b : Key) = Sum.inr c := fun z => h3 (Sum.inr.inj z)
  simp [mergeK, putK, e1, e2, e3]
section
end
end L3
namespace L3
open PySem PySem.Spec PyProof.Rows L2
open Strm
section
variable {K : PySem.W.Frag} {S : Strm} {c k : Nat} {σ : Sl} {M H : Hp} {te t1 t2 t3 : TE} {P : Pr} {tr : TA} {QA : List V → Hp → Prop}
theorem z_V (mh : Same M (S.cut H)) (a : S.At (k + c) H) (h : GvS S c te σ M P) (q : ∀ v M' H', Gr M (S.cut H) M' (S.cut H') → S.At k H' → P M' v → tr σ H' fun vs H2 => QA (v :: vs) H2) : tCons te tr σ H QA := h H k mh a _ q
end
end L3
namespace L3
open PySem PySem.Spec PyProof.Rows L2
/-- a, b = x, y through a real tuple -/
def Fin2 (K : PySem.W.Frag) (i j : Nat) (tz : TS) (D : Ends) (σ : Sl) : List V → Hp → Prop := fun vs H1 => vs.length ≤ sizeLine ∧ ∀ p, H1 p = none → gTup K 2 (gCons (gName i) (gCons (gName j) gNil)) (.ref p) σ (upd H1 p (.tup vs)) fun σ' H' => tz D σ' H'
theorem q_asg2 {K : PySem.W.Frag} {i j : Nat} {tz : TS} {D : Ends} {σ : Sl} {H : Hp} {ta : TA} (h : ta σ H (Fin2 K i j tz D σ)) : tSeq (tAsg (tTup ta) (gTup K 2 (gCons (gName i) (gCons (gName j) gNil)))) tz D σ H := h
theorem fin2 {K : PySem.W.Frag} {i j : Nat} {tz : TS} {D : Ends} {σ : Sl} {H1 : Hp} {u v : V} (h : ∀ p, H1 p = none → tz D ((σ.set i (some u)).set j (some v)) (upd H1 p (.tup [u, v]))) : Fin2 K i j tz D σ [u, v] H1 :=
  ⟨by show 2 ≤ sizeLine; decide, fun p np => ⟨p, _, rfl, .inl (.inl upd_same), rfl, u, _, rfl, v, _, rfl, rfl, h p np⟩⟩
end L3
namespace L3
open PySem PySem.Spec PyProof.Rows L2
end L3
namespace L3
open PySem PySem.Spec PyProof.Rows L2
def CalG (P : Program) (w : World) (K : PySem.W.Frag) (mg : Str → Option Value) (base : Heap) (k : Nat) (x : Str) (ps : List Str) (sp : Sp) : Prop :=
  ∃ f fd, FnG P w K mg base CX0 k f fd ps sp ∧ mg x = some (.ref f) ∧ PySem.W.keepIn K (.ref f) = true ∧ Binds K fd ps []
theorem pe_fG {X : Cx} {k : Nat} {x : Str} {ps : List Str} {sp : Sp} {e : Expr} {es : List Expr} {t : TA} {p pos : Pos} (c : CalG X.prog X.w X.K X.mg X.base k x ps sp) (hgu : X.A.guards = some []) (hr : Room k X.A) (ha : PA X (e :: es) t) (hg : Gl X x := by rfl)
    (hdb : (x == ("__debug__" : Str)) = false := by decide) (he : starEach (e :: es) X.env = (false, eval e X.env) :: starEach es X.env := by rfl) (hpl : (backTo pos (starEach es X.env)).any (·.1) = false := by rfl) :
    PE X (.Call (.Name x p) (e :: es) [] pos) (tCall sp [] E0 t) :=
  let ⟨_, _, G, m, kp, b⟩ := c
  pe_callG G hgu hr hg m kp b .nil pass0 ha hdb he hpl
end L3

set_option Elab.async false
set_option linter.all false
set_option maxRecDepth 100000
set_option maxHeartbeats 1000000
namespace L3
open PySem PySem.Spec PyProof.Rows L2
open Strm
section
variable {K : PySem.W.Frag} {S : Strm} {c k : Nat} {σ : Sl} {M H : Hp} {te t1 t2 t3 : TE} {ta tr : TA} {tt : L2.TT} {tx tz : TS} {P : Pr} {D : Ends} {α β γ : Type} {R : Rl α} {R1 : Rl α} {R2 : Rl β} {R3 : Rl γ} {QA : List V → Hp → Prop} {E : XK}
theorem q_asgS {i : Nat} (h : te σ H fun v H1 => tz D (σ.set i (some v)) H1) : tSeq (tAsg te (gName i)) tz D σ H := h
theorem lst_in {Q : VK} (h : ta σ H fun vs H1 => vs.length ≤ sizeLine ∧ ∀ p, H1 p = none → Q (.ref p) (upd H1 p (.lst vs))) : tLst ta σ H Q := h
/-- list + list -/
theorem gl_addL [Mon R] {xs ys : List α} (h1 : Gv t1 σ M (LiR R xs)) (h2 : Gv t2 σ M (LiR R ys)) (hz : xs.length + ys.length ≤ sizeLine) : GvL (tOp (rAddA K) t1 t2) σ M fun M ws => Pd R M (xs ++ ys) ws := fun H mh Q q =>
  h1 H mh _ fun v M1 H1 g1 p1 => h2.le g1.mm H1 g1.mh _ fun w M2 H2 g2 p2 => by
    obtain ⟨a, us, e1, r1, d1⟩ := (Mon.mono g2.mm p1 : LiR R xs M2 v)
    obtain ⟨b, ws, e2, r2, d2⟩ := p2
    exact .inr (.inr (.inr ⟨a, b, us, ws, e1, e2, g2.mh _ _ r1, g2.mh _ _ r2, by rw [← d1.length, ← d2.length]; exact hz, fun p np => q p _ M2 _ ((g1.trans g2).trans (.own g2.mh np)) ((g1.trans g2).hh.free np) (g2.mh.free np) upd_same (pd_app d1 d2)⟩))
end
section
end
theorem pd_itv {M : Hp} {xs : List Int} {vs : List V} (h : Pd It' M xs vs) : vs = xs.map V.int := by
  induction h with
  | nil => rfl
  | cons q _ ih => rw [ih, show _ = V.int _ from q]; rfl
theorem inj_bl : Inj PyData.bool := fun a b => by cases a <;> cases b <;> simp [PyData.eqv]
end L3

set_option Elab.async false
set_option linter.all false
set_option maxRecDepth 100000
set_option maxHeartbeats 1000000
namespace L3
open PySem PySem.Spec PyProof.Rows L2
open Strm
section
end
/-! methods -/
def Met (P : Program) (w : World) (K : PySem.W.Frag) (mg : Str → Option Value) (base : Heap) (k : Nat) (C : Addr) (m : Str) (ps : List Str) (sp : Sp) : Prop := ∃ f fd, Cls K C ∧ Meth K C m f ∧ FnOk P w K mg base CX0 k f fd ps sp ∧ Binds K fd ps []
section
variable {X : Cx} {k : Nat} {C : Addr} {m : Str} {ps : List Str} {sp : Sp} {o e : Expr} {es : List Expr} {to : TE} {t : TA} {apos pos : Pos} {pl : Sem Bool}
theorem pe_m (c : Met X.prog X.w X.K X.mg X.base k C m ps sp) (hr : Room k X.A) (ho : PE X o to) (ha : PA X (e :: es) t) (hst : starEach (e :: es) X.env = (false, eval e X.env) :: starEach es X.env := by rfl) (hpl : (backTo pos (starEach es X.env)).any (·.1) = false := by rfl)
    (ht : eval (.Call (.Attribute o m apos) (e :: es) [] pos) X.env = (do let ov ← eval o X.env; standAt apos.atName; let (f, first) ← holding [ov] (getMethod ov m pl); callWith pos f first (backTo pos (starEach (e :: es) X.env)) (backToKw pos (keywordEach [] X.env))) := by rfl) :
    PE X (.Call (.Attribute o m apos) (e :: es) [] pos) (tMeth C m sp [] E0 to t) := by
  obtain ⟨f, fd, cl, hm, F, hb⟩ := c
  exact pe_meth ho cl hm F hr hb .nil pass0 ha hst hpl ht
theorem pe_m0 (c : Met X.prog X.w X.K X.mg X.base k C m ps sp) (hr : Room k X.A) (ho : PE X o to)
    (ht : eval (.Call (.Attribute o m apos) [] [] pos) X.env = (do let ov ← eval o X.env; standAt apos.atName; let (f, first) ← holding [ov] (getMethod ov m pl); callWith pos f first (backTo pos (starEach [] X.env)) (backToKw pos (keywordEach [] X.env))) := by rfl) :
    PE X (.Call (.Attribute o m apos) [] [] pos) (tMeth C m sp [] E0 to tNil) := by
  obtain ⟨f, fd, cl, hm, F, hb⟩ := c
  exact pe_meth0 ho cl hm F hr hb .nil pass0 ht
end
section
variable {σ : Sl} {M : Hp} {α β : Type} {R1 : Rl α} {R2 : Rl β} {to te : TE} {C : Addr} {m : Str}
/-- an instance of C without a variable of the method's name -/
def InsR (C : Addr) (m : Str) (P : Pr) : Prop := ∀ M v, P M v → ∃ a dx fs, v = .ref a ∧ M a = some (.ins C dx fs) ∧ fs.lookup m = none
theorem gv_met1 {pre : α → Prop} {R : α → Pr} {x : α} (hi : InsR C m (R1 x)) (h : Gv to σ M (R1 x)) (hp : pre x) : Gv (tMeth C m (sp1 R1 pre R) [] E0 to tNil) σ M (R x) := fun H mh Q q => h H mh _ fun v M1 H1 g1 p1 => by
  obtain ⟨a, dx, fs, e, ha, hl⟩ := hi M1 v p1
  exact ⟨a, dx, fs, e, g1.mh _ _ ha, hl, x, M1, v, rfl, g1.mh, p1, hp, fun u M' H' g r => q u M' H' (g1.trans g) r⟩
theorem gl_met1 {pre : α → Prop} {R : α → Hp → List V → Prop} {x : α} (hi : InsR C m (R1 x)) (h : Gv to σ M (R1 x)) (hp : pre x) : GvL (tMeth C m (sl1 R1 pre R) [] E0 to tNil) σ M (R x) := fun H mh Q q => h H mh _ fun v M1 H1 g1 p1 => by
  obtain ⟨a, dx, fs, e, ha, hl⟩ := hi M1 v p1
  exact ⟨a, dx, fs, e, g1.mh _ _ ha, hl, x, M1, v, rfl, g1.mh, p1, hp, fun p vs M' H' g h0 m0 hw r => q p vs M' H' (g1.trans g) (g1.hh.free h0) m0 hw r⟩
end
/-! dicts with tuple keys, known -/
def DtR : Rl (List (List Str)) := fun ks M v => ∃ a, v = .ref a ∧ M a = some (.dT (ent ks))
instance : Mon DtR := ⟨fun e ⟨a, h, r⟩ => ⟨a, h, e _ _ r⟩⟩
section
end
end L3

set_option Elab.async false
set_option linter.all false
set_option maxRecDepth 100000
set_option maxHeartbeats 1000000
namespace L3
open PySem PySem.Spec PyProof.Rows L2
/-! *d in a display, d a dict with texts for keys -/
def tStarK (te : TE) (t : TA) : TA := fun σ H Q => te σ H fun x H1 => ∃ d ks, x = V.ref d ∧ Rd H1 d (.dK (kvT ks)) ∧ t σ H1 fun ys H2 => Q (ks.map V.str ++ ys) H2
section
variable {X : Cx} {e : Expr} {es : List Expr} {te : TE} {t : TA} {p : Pos}
theorem pa_starK (hc : X.calm = true) (he : PE X e te) (hr : PA X es t) (hs : starEach (.Starred e p :: es) X.env = (true, eval e X.env) :: starEach es X.env := by rfl) : PA X (.Starred e p :: es) (tStarK te t) where
  run pos pins s σ H Q I h := by
    apply PySem.W.items_star _ hs
    refine thn (he.run pins s σ H _ I h) fun v s1 z => ?_
    obtain ⟨_, H1, I1, rv, d, ks, rfl, hd, q⟩ := z
    obtain rfl : v = Value.ref d := rv
    have ⟨z, low, vs, rk, dd⟩ := (show ObjOk X.prog X.w H1 s1.heap d (.dK (kvT ks)) from hd.ok I1.hok)
    have ⟨ep, at_⟩ := dd.dictAt
    have S := PySem.W.kdl_dict (prog := X.prog) (w := X.w) (knd := mixKind X.prog X.w) (kvs := vs) (ep := ep) low
    have n1 : (kvT ks).length = vs.length := Paired.length rk
    have n2 : (kvT ks).length = ks.length := by unfold kvT; rw [List.length_map]
    unfold PySem.W.StarOf notIterableAtAll
    refine wpAny_bind (wpAny_specialOf (S.type s1 at_) PySem.F.slot_dict_iter.lookup (wpAny_pure ⟨rfl, PySem.W.kdu_collect S (I1.ok.hd hc) at_ (by omega) fun h' tk acc kp it => ?_⟩))
    have I2 : Inv X pins σ H1 { s1 with heap := h', toks := tk } := I1.kept kp
    have rel : Vals (ks.map V.str) acc.toList := by
      refine vals_of_at (by have h1 := it.1; have h2 : acc.toList.length = acc.size := Array.length_toList; rw [List.length_map, h2]; omega) fun j x u hx hu => ?_
      rw [Array.getElem?_toList] at hu
      obtain ⟨k, y, hk, is⟩ := it.2 j u hu
      have keys := congrArg (fun l => l[j]?) (KV.keys rk)
      simp only [kvT, List.map_map, List.getElem?_map, hk] at keys
      rw [List.getElem?_map] at hx
      cases hj : ks[j]? with
      | none => rw [hj] at hx; cases hx
      | some a =>
        rw [hj] at hx keys
        cases Option.some.inj hx
        have ek : (Sum.inr a : Key) = k := Option.some.inj keys
        rw [← ek] at is
        exact keyIs_rel (show keyIs (Sum.inr a) u = true from is)
    exact thn (hr.run pos pins _ σ H1 _ I2 q) fun ws s3 ⟨us, H3, I3, r3, q3⟩ => ⟨_, H3, I3, rel.append r3, q3⟩
end
/-! defs called with defaults -/
section
end
end L3

set_option Elab.async false
set_option linter.all false
set_option maxRecDepth 100000
set_option maxHeartbeats 1000000
namespace L3
open PySem PySem.Spec PyProof.Rows L2
/-! x in o, x not in o by an own __contains__; o == p, o != p by an own __eq__ -/
theorem ne_slot : Slot "object" "__ne__" "object.__ne__" := PySem.F.slot_object_ne
section
variable {X : Cx} {CX : CXT} {pins : List (Addr × Obj)} {σ : L2.St} {H : Hp} {s : Shared} {C : Addr} {k : Nat} {ps : List Str} {sp : Sp} {E : XK}
/-- a class with an own method of a special name -/
def OwnSp (P : Program) (w : World) (K : PySem.W.Frag) (mg : Str → Option Value) (base : Heap) (k : Nat) (C : Addr) (nm : Str) (ps : List Str) (sp : Sp) : Prop :=
  ∃ f fd, FnOk P w K mg base CX0 k f fd ps sp ∧ PySem.W.findIn K (.ref C) nm = some (some (.ref f)) ∧ PySem.W.isFn K (.ref f) = true ∧ Binds K fd ps []
def rInO (C : Addr) (sp : Sp) (neg : Bool) : R2 := fun x y H Q => ∃ a dx fs, y = V.ref a ∧ H a = some (.ins C dx fs) ∧ sp [.ref a, x] H (fun v H' => ∃ b, v = .bl b ∧ Q (.bl (xor neg b)) H') E0
theorem op_inO (o : OwnSp X.prog X.w X.K X.mg X.base k C "__contains__" ps sp) (hr : Room k X.A) : OpR X (compareOp .In) (rInO C sp false) := by
  intro pins s σ H x y u v Q I rx ry h
  obtain ⟨f, fd, F, hs, hf, hb⟩ := o
  obtain ⟨a, dx, fs, rfl, ha, q⟩ := h
  cases (show v = Value.ref a from ry)
  obtain ⟨ox, od, J⟩ := own_inst I ha
  obtain ⟨m, hF⟩ := I.fr
  refine PySem.W.in_K hF I.ok.mod.kin J hs hf (wpAny_mono (run_deep (us := [.ref a, u]) (vs := [.ref a, x]) F hr I.env0 hb pass0 I (.cons rfl (.cons rx .nil)) q) (fun w s' z => ?_) fun _ _ x => x)
  obtain ⟨z', H', I', rz, b, e, qz⟩ := z
  subst e
  cases (show w = Value.bool b from rz)
  exact wpAny_truthy_bool ⟨.bl b, H', I', rfl, by simpa using qz⟩
def rEqO (C : Addr) (sp : Sp) (neg : Bool) : R2 := fun x y H Q => ∃ a b dx dy fs gs, x = V.ref a ∧ y = V.ref b ∧ H a = some (.ins C dx fs) ∧ H b = some (.ins C dy gs) ∧ sp [.ref a, .ref b] H (fun v H' => ∃ c, v = .bl c ∧ Q (.bl (xor neg c)) H') E0
theorem op_eqO (o : OwnSp X.prog X.w X.K X.mg X.base k C "__eq__" ps sp) (hr : Room k X.A) : OpR X (compareOp .Eq) (rEqO C sp false) := by
  intro pins s σ H x y u v Q I rx ry h
  obtain ⟨f, fd, F, hs, hf, hb⟩ := o
  obtain ⟨a, b, dx, dy, fs, gs, rfl, rfl, ha, hb', q⟩ := h
  cases (show u = Value.ref a from rx)
  cases (show v = Value.ref b from ry)
  obtain ⟨ox, od, J⟩ := own_inst I ha
  obtain ⟨oy, od', J'⟩ := own_inst I hb'
  obtain ⟨m, hF⟩ := I.fr
  refine PySem.W.cmp_K (op := .Eq) (tb := .ref C) hr.units0 hF I.ok.mod.kin J J'.type (by simp [PySem.W.notFirst]) hs hf (wpAny_mono (run_deep (us := [.ref a, .ref b]) (vs := [.ref a, .ref b]) F hr I.env0 hb pass0 I (.cons rfl (.cons rfl .nil)) q) (fun w s' z => ?_) fun _ _ x => x)
  obtain ⟨z', H', I', rz, c, e, qz⟩ := z
  subst e
  cases (show w = Value.bool c from rz)
  exact ⟨.bl c, H', I', rfl, by simpa using qz⟩
/-- a class that has object's != -/
structure NeObj (K : PySem.W.Frag) (C : Addr) : Prop where
  ne : PySem.W.findIn K (.ref C) "__ne__" = some (some (.builtin "object.__ne__"))
  ob : PySem.W.subIn K (.ref C) (.type "object") = some true
theorem ne_bound {M : Model} {A : Around} {F : Value → Shared → Prop} {K : PySem.W.Frag} {x : Addr} {ox : Obj} {od : Option Obj} {r : Value} {Z : Option Value → Shared → Prop} (KX : K.In s.heap) (n : NeObj K C) (J : PySem.W.InstAt s.heap x ox C od)
    (go : wpAny M A (call (.builtin "object.__ne__") [.ref x, r]) (fun v => Z (some v)) F s) : wpAny M A (callSpecialIfBound? (.ref x) "__ne__" [r]) Z F s := by
  have last : wpAny M A (do let v ← call (.builtin "object.__ne__") ([Value.ref x] ++ [r]); pure (some v)) Z F s := wpAny_bind (wpAny_mono go (fun _ _ z => wpAny_pure z) fun _ _ z => z)
  unfold callSpecialIfBound? bindSpecialIfBound?
  refine wpAny_holding (wpAny_bind (wpAny_bind (wpAny_bind (J.type.here ((PySem.W.looks_findIn KX n.ne).here ?_)))))
  simp only [ne_slot.bind]
  refine wpAny_bind (wpAny_askSetting (wpAny_ite ?_))
  split
  · exact wpAny_bind (wpAny_pure (wpAny_pure last))
  · exact wpAny_tryCatch (wpAny_bind (wpAny_pure (wpAny_pure last)))
theorem ne_check {M : Model} {A : Around} {F : Value → Shared → Prop} {K : PySem.W.Frag} {x : Addr} {ox : Obj} {od : Option Obj} {r : Value} {Z : Unit → Shared → Prop} (KX : K.In s.heap) (n : NeObj K C) (J : PySem.W.InstAt s.heap x ox C od) (z : Z () s) :
    wpAny M A (checkBuiltinCall "object.__ne__" ⟨[.ref x, r], []⟩) Z F s := by
  unfold checkBuiltinCall
  simp only [PySem.F.cmpKind_ne, PySem.F.cmpSplit_ne]
  refine wpAny_bind ?_
  unfold isInstance
  refine wpAny_bind (J.type.here ((PySem.W.looks_subIn KX n.ob).here ?_))
  have ar := PySem.F.cmpArgs_ne (.ref x) r
  show wpAny M A (match Manifest.signature? "object.__ne__" with | none => pure () | some g => Bind.checkArgs "object.__ne__" g ⟨[.ref x, r], []⟩) Z F s
  cases sg : Manifest.signature? "object.__ne__" with
  | none => exact wpAny_pure z
  | some g =>
    unfold argsOk at ar
    rw [sg] at ar
    show wpAny M A (Bind.checkArgs "object.__ne__" g ⟨[.ref x, r], []⟩) Z F s
    rw [show Bind.checkArgs "object.__ne__" g ⟨[.ref x, r], []⟩ = pure () from ar]
    exact wpAny_pure z
theorem op_neO (o : OwnSp X.prog X.w X.K X.mg X.base k C "__eq__" ps sp) (n : NeObj X.K C) (hr : Room (k + 1) X.A) : OpR X (compareOp .NotEq) (rEqO C sp true) := by
  intro pins s σ H x y u v Q I rx ry h
  obtain ⟨f, fd, F, hs, hf, hb⟩ := o
  obtain ⟨a, b, dx, dy, fs, gs, rfl, rfl, ha, hb', q⟩ := h
  cases (show u = Value.ref a from rx)
  cases (show v = Value.ref b from ry)
  obtain ⟨ox, od, J⟩ := own_inst I ha
  obtain ⟨oy, od', J'⟩ := own_inst I hb'
  obtain ⟨m, hF⟩ := I.fr
  have KX := I.ok.mod.kin.keeps hF.keep
  have body : wpAny (model X.prog X.w) X.A.in1 (Builtin.«object.__ne__» ⟨[.ref a, .ref b], []⟩) (fun fin s' => ∃ c, fin = .done (.ret (.bool c)) ∧ EP X pins σ Q (.bool c) s') X.xe s := by
    unfold Builtin.«object.__ne__»
    refine wpAny_bind (wpAny_pure ?_)
    refine wpAny_bind (wpAny_cRoomFor hr.in1.units0 ?_)
    refine wpAny_bind (PySem.W.ifBound_K KX J hs hf (wpAny_mono (run_deep (us := [.ref a, .ref b]) (vs := [.ref a, .ref b]) F hr.in1 I.env0.in1 hb pass0 I (.cons rfl (.cons rfl .nil)) q) (fun w s' z => ?_) fun _ _ x => x))
    obtain ⟨z', H', I', rz, c, e, qz⟩ := z
    subst e
    cases (show w = Value.bool c from rz)
    refine wpAny_bind (wpAny_truthy_bool (wpAny_pure ⟨!c, rfl, .bl (!c), H', I', rfl, by simpa using qz⟩))
  have one : wpAny (model X.prog X.w) X.A (tryCompare (.ref a) "__ne__" (.ref b)) (fun r s' => ∃ c, r = some (.bool c) ∧ EP X pins σ Q (.bool c) s') X.xe s := by
    unfold tryCompare
    refine wpAny_bind (ne_bound KX n J (wpAny_call (codeAny_call_builtin ne_slot.plain PySem.F.cmpEntry_ne (ne_check KX n J (wpAny_mono body (fun fin s' z => ?_) fun _ _ x => x)))))
    obtain ⟨c, rfl, qz⟩ := z
    exact wpAny_pure ⟨c, rfl, qz⟩
  show wpAny (model X.prog X.w) X.A (richCompare .NotEq (.ref a) (.ref b)) (EP X pins σ Q) X.xe s
  unfold richCompare
  simp only [oneThing_ref]
  refine wpAny_holding (wpAny_bind (wpAny_cRoomFor hr.units0 (wpAny_bind (J.type.here (wpAny_bind (J'.type.here ?_))))))
  rw [if_neg (by simp)]
  refine wpAny_bind (wpAny_pure ?_)
  simp only [Bool.false_eq_true, if_false]
  refine wpAny_bind (wpAny_mono one (fun r s' z => ?_) fun _ _ e => e)
  obtain ⟨c, rfl, qz⟩ := z
  exact wpAny_pure qz
end
end L3

set_option Elab.async false
set_option linter.all false
set_option maxRecDepth 100000
set_option maxHeartbeats 1000000
namespace L3
open PySem PySem.Spec PyProof.Rows L2
/-! lists of data: remove, index; insert -/
section
variable {K : PySem.W.Frag} {σ : Sl} {M H : Hp} {te tb : TE} {P : Pr} {D : Ends} {tz : TS} {α : Type} {R : Rl α}
/-- what isinstance asks of a class of the text -/
structure InsF (K : PySem.W.Frag) (C : Addr) : Prop where
  cl : Cls K C
  gc : PySem.W.findIn K (.ref C) "__class__" = some (some (.builtin "object.__class__"))
  sp : PySem.W.specialIn K (.builtin "object.__class__") "__get__" = some (some (.builtin "getset_descriptor.__get__"))
  tk : PySem.W.takesIn K (.builtin "object.__class__") = some true
  mr : PySem.W.mroIn K C (.type "object") = some true
/-- isinstance(x, C), x an instance of C -/
theorem gv_isC {C : Addr} (I : InsF K C) (h : Gv te σ M P) (hi : ∀ M v, P M v → ∃ a dx fs, v = .ref a ∧ M a = some (.ins C dx fs)) : Gv (tCB (rIsi K) (tCons te (tCons (tC (.ref C)) tNil))) σ M (Bl true) := fun H mh Q q =>
  h H mh _ fun v M1 H1 g1 p1 => by
    obtain ⟨a, dx, fs, rfl, ha⟩ := hi M1 v p1
    exact ⟨_, _, .ref C, .ref C, true, rfl, .own C, .base (.ins (g1.mh _ _ ha) I.cl I.gc I.sp I.tk I.mr), by unfold PySem.W.kitOne; simp, q _ M1 H1 g1 rfl⟩
end
section
variable {α β : Type} {σ : Sl} {M : Hp} {ta tb : TE} {R1 : Rl α} {R2 : Rl β} {C : Addr}
/-- x in o, o == p by own methods -/
theorem gv_inO [Mon R1] [Mon R2] {pre : α → β → Prop} {B : α → β → Bool} {x : α} {y : β} {neg : Bool} (ha : Gv ta σ M (R2 y)) (hb : Gv tb σ M (R1 x)) (hi : ∀ M v, R1 x M v → ∃ a dx fs, v = .ref a ∧ M a = some (.ins C dx fs)) (hp : pre x y) :
    Gv (tOp (rInO C (sp2 R1 R2 pre fun x y => Bl (B x y)) neg) ta tb) σ M (Bl (xor neg (B x y))) := fun H mh Q q =>
  ha H mh _ fun v M1 H1 g1 p1 => hb.le g1.mm H1 g1.mh _ fun w M2 H2 g2 p2 => by
    obtain ⟨a, dx, fs, rfl, h2⟩ := hi M2 w p2
    exact ⟨a, dx, fs, rfl, g2.mh _ _ h2, x, y, M2, _, v, rfl, g2.mh, p2, Mon.mono g2.mm p1, hp, fun u M' H' g r => ⟨_, r, q _ M' H' ((g1.trans g2).trans g) rfl⟩⟩
theorem gv_eqO [Mon R1] {pre : α → α → Prop} {B : α → α → Bool} {x y : α} {neg : Bool} (ha : Gv ta σ M (R1 x)) (hb : Gv tb σ M (R1 y)) (hi : ∀ z M v, R1 z M v → ∃ a dx fs, v = .ref a ∧ M a = some (.ins C dx fs)) (hp : pre x y) :
    Gv (tOp (rEqO C (sp2 R1 R1 pre fun x y => Bl (B x y)) neg) ta tb) σ M (Bl (xor neg (B x y))) := fun H mh Q q =>
  ha H mh _ fun v M1 H1 g1 p1 => hb.le g1.mm H1 g1.mh _ fun w M2 H2 g2 p2 => by
    have p12 : R1 x M2 v := Mon.mono g2.mm p1
    obtain ⟨a, dx, fs, rfl, h1⟩ := hi x M2 v p12
    obtain ⟨b, dy, gs, rfl, h2⟩ := hi y M2 w p2
    exact ⟨a, b, dx, dy, fs, gs, rfl, rfl, g2.mh _ _ h1, g2.mh _ _ h2, x, y, M2, _, _, rfl, g2.mh, p12, p2, hp, fun u M' H' g r => ⟨_, r, q _ M' H' ((g1.trans g2).trans g) rfl⟩⟩
end
end L3

set_option Elab.async false
set_option linter.all false
set_option maxRecDepth 100000
set_option maxHeartbeats 1000000
namespace L3
open PySem PySem.Spec PyProof.Rows L2
/-! instances made with defaults -/
def MakD (P : Program) (w : World) (K : PySem.W.Frag) (mg : Str → Option Value) (base : Heap) (k : Nat) (x : Str) (C : Addr) (ps : List Str) (dvs : List V) (sp : Sp) : Prop :=
  ∃ f fd ds, Mk K C f ∧ FnOk P w K mg base CX0 k f fd ps sp ∧ mg x = some (.ref C) ∧ Binds K fd ps ds ∧ Vals dvs ds
theorem pe_mkD {X : Cx} {k : Nat} {x : Str} {C : Addr} {ps : List Str} {dvs : List V} {sp : Sp} {e : Expr} {es : List Expr} {t : TA} {p pos : Pos} (c : MakD X.prog X.w X.K X.mg X.base k x C ps dvs sp) (hr : Room (k + 1) X.A) (ha : PA X (e :: es) t) (hg : Gl X x := by rfl)
    (hdb : (x == ("__debug__" : Str)) = false := by decide) (he : starEach (e :: es) X.env = (false, eval e X.env) :: starEach es X.env := by rfl) (hpl : (backTo pos (starEach es X.env)).any (·.1) = false := by rfl) : PE X (.Call (.Name x p) (e :: es) [] pos) (tMake C sp dvs E0 t) :=
  let ⟨_, _, _, M, F, m, b, d⟩ := c
  pe_make M F hr hg m b d pass0 ha hdb he hpl
end L3

set_option Elab.async false
set_option linter.all false
set_option maxRecDepth 100000
set_option maxHeartbeats 1000000
namespace L3
open PySem PySem.Spec PyProof.Rows L2
section
end
end L3

set_option Elab.async false
set_option linter.all false
set_option maxRecDepth 100000
set_option maxHeartbeats 1000000
namespace L3
open PySem PySem.Spec PyProof.Rows L2
/-! texts cut, lists repeated, several things of ours lent, a dict of new lists -/
section
variable {K : PySem.W.Frag} {σ : Sl} {M H : Hp} {to te ta tb ts : TE} {α : Type} {R : Rl α}
/-! several things of ours, lent at once -/
def delS (M : Hp) (bs : List Addr) : Hp := fun x => if x ∈ bs then none else M x
theorem lentS {bs : List Addr} (mh : Same M H) : Same (withT M H bs) H := fun a o e => by
  unfold withT at e
  cases q : M a with
  | some u => rw [q] at e; cases e; exact mh a _ q
  | none =>
    rw [q] at e
    by_cases ha : a ∈ bs
    · rw [if_pos ha] at e; exact e
    · rw [if_neg ha] at e; cases e
theorem delS_on {bs : List Addr} {a : Addr} (h : a ∉ bs) : delS M bs a = M a := if_neg h
theorem delS_off {bs : List Addr} {a : Addr} (h : a ∈ bs) : delS M bs a = none := if_pos h
end
section
end
end L3

set_option Elab.async false
set_option linter.all false
set_option maxRecDepth 100000
set_option maxHeartbeats 2000000
namespace L3
open PySem PySem.Spec PyProof.Rows PySem.Calls L2 NdefX
/-! own exceptions whose __init__ says super().__init__('..') and then self.f = x -/
/-- the body of such an __init__ -/
abbrev supBody (p0 p1 p2 p3 p4 p5 p6 p7 p8 p9 : Pos) (k : Nat) (tx : Str) (f x : Str) : List Stmt :=
  [.Expr (.Call (.Attribute (.Call (.Name "super" p0) [] [] p1) "__init__" p2) [.Constant (.str tx) k p3] [] p4) p5, .Assign [.Attribute (.Name "self" p6) f p7] (.Name x p8) p9]
/-- what the written part says of the class at C and its __init__ at fI -/
structure SupC (P : Program) (K : PySem.W.Frag) (C fI : Addr) (q : Str) (args : Arguments) (body : List Stmt) (sc : Scope) : Prop where
  T : OexC K C
  fn : ∃ oc od kV doc pm an cda ct osl cc cl cld csl ccl cdd vs ccs file tf, K.lookup fI = some ⟨oc, od, .func (PySem.W.fnX "__init__" q args body sc [("__class__", cc)] .none kV doc pm an (.ref cda) ct), osl⟩ ∧ PySem.W.codeIn K (.ref cda) q = true ∧
    K.lookup cc = some ⟨cl, cld, .cell (some (.ref C)), csl⟩ ∧ K.lookup cda = some ⟨ccl, cdd, .fields vs, ccs⟩ ∧ vs[2]? = some (.str file tf) ∧ ((P.main.file : Str) == file) = true
  sup : PySem.W.nsIn K mainGlobals "super" = some none
  opq : PySem.W.nsIn K cStatics "thirdparty.any" = some none
  hm : PySem.W.ks_superIn K C C "__init__" = some (some (.builtin "ValueError.__init__"))
  hB : PySem.W.subIn K (.ref C) (.type "ValueError") = some true
  hS : PySem.W.mroIn K C (.ref C) = some true
  top : (P.main.scope.names.lookup ("super" : Str)).isSome = false
/-- what such an __init__ does -/
def spSup (K : PySem.W.Frag) (C : Addr) (f : Str) : Sp := fun vs H Q _ => ∃ a v, vs = [.ref a, v] ∧ H a = some (exo a C none) ∧ ∀ dx, H dx = none → dx ≠ a → Q .non (upd (upd H dx (exd dx [(f, v)])) a (exo a C (some dx)))
section
variable {prog : Program} {w : World} {A : Around} {E : Value → Shared → Prop}
/-- the wrapper of ValueError.__init__, called -/
theorem call_mw {u e t0 C : Addr} {dv : Option Addr} {h : Heap} {g : Array GenState} {d : Drawn} {t : Nat} {os : OsState} {rest : List Value} {Q : Value → Shared → Prop} {nm q : Str} {N : Addr} {bs bm : List Value} {hdct : Bool} {sn : List Str} {sub : List Value} {ab : Bool} {col : Option Bool} {dd : Option Addr} {k0 k1 k2 k3 k5 : Option Value}
    (hC : h.get? C = some (excClassObj nm q C N bs bm hdct sn sub ab col dd k0 k1 k2 k3 k5 "ValueError.__new__")) (he : h.get? e = some (PySem.W.excRec (.ref C) t0 dv .none .none (.bool false))) (hu : h.get? u = some (PySem.W.kxs_mw "ValueError.__init__" e)) (hz : rest.length ≤ sizeLine)
    (hq : ∀ h', (∀ b o, b ≠ e → h.get? b = some o → h'.get? b = some o) → h'.get? e = some (PySem.W.excRec (.ref C) h.objs.size dv .none .none (.bool false)) → Q .none ⟨h', g, d, t, os⟩) : wpAny (model prog w) A (call (.ref u) rest) Q E ⟨h, g, d, t, os⟩ := by
  refine wpAny_call (codeAny_of_tree ?_)
  show wpAny _ A.in1 (callAny (.ref u) ⟨rest, []⟩) _ _ _
  simp only [callAny]
  refine wpAny_bind (wpAny_load hu ?_)
  simp only [PySem.W.kxs_mw, show (Value.type "method-wrapper" == Value.type "method" || Value.type "method-wrapper" == Value.type "builtin_function_or_method" || Value.type "method-wrapper" == Value.type "method-wrapper") = true by decide, if_true]
  refine PySem.W.KFB.if_so (by decide) ?_
  refine wpAny_bind (PySem.W.check_bound_init PySem.F.excBase_ValueError.toExcCallFacts hC he rfl ?_)
  refine wpAny_bind (wpAny_pure (wpAny_pure ?_))
  refine ⟨plainId_quiet PySem.F.excBase_ValueError.init.plain _, codeAny_builtin PySem.F.excBase_ValueError.initEntry ?_⟩
  exact PySem.W.exc_init_tree he hz fun h' k e' _ => hq h' k e'
end
/-- FnOk of such an __init__ -/
theorem sup_ok {CX : CXT} {P : Program} {w : World} {K : PySem.W.Frag} {mg : Str → Option Value} {base : Heap} {k : Nat} {C fI : Addr} {q : Str} {args : Arguments} {sc : Scope} {p0 p1 p2 p3 p4 p5 p6 p7 p8 p9 : Pos} {kk : Nat} {tx f x : Str}
    (S : SupC P K C fI q args (supBody p0 p1 p2 p3 p4 p5 p6 p7 p8 p9 kk tx f x) sc) (hno : PySem.W.findIn K (.ref C) f = some none) (hx1 : (x == ("__debug__" : Str)) = false) (hx2 : (x == ("__classdict__" : Str)) = false) (NS : NScope ["self", x, "__class__"] ["self", x] ["__class__"] sc) (hks : sc.names.lookup ("super" : Str) = some .globalImplicit)
    (har : ∃ ar : Arg, (args.posonlyargs ++ args.args).head? = some ar ∧ ar.arg = "self") (hev : ∀ env : Env, ∃ pl : Sem Bool, eval (.Call (.Attribute (.Call (.Name "super" p0) [] [] p1) "__init__" p2) [.Constant (.str tx) kk p3] [] p4) env = (do
      let ov ← attributeBase (.Call (.Name "super" p0) [] [] p1) "__init__" env (eval (.Call (.Name "super" p0) [] [] p1) env)
      standAt p2.atName
      let (f, first) ← holding [ov] (getMethod ov "__init__" pl)
      callWith p4 f first (backTo p4 (starEach [.Constant (.str tx) kk p3] env)) []))
    (hbind : ∀ (kV doc pm : Value) (an : Option Addr) (cdv ct : Value) (cl : List (Str × Addr)) (us : List Value), us.length = 2 → bindArgs (PySem.W.fnX "__init__" q args (supBody p0 p1 p2 p3 p4 p5 p6 p7 p8 p9 kk tx f x) sc cl .none kV doc pm an cdv ct) ⟨us, []⟩ = pure (([("self" : Str), x]).zip us)) :
    ∃ fd, Binds K fd ["self", x] [] ∧ FnOk P w K mg base CX (k + 1) fI fd ["self", x] (spSup K C f) := by
  obtain ⟨oc, od, kV, doc, pm, an, cda, ct, osl, cc, cl, cld, csl, ccl, cdd, vs, ccs, file, tf, lk, hcd, hcell, hcode, hvs, hfile⟩ := S.fn
  refine ⟨PySem.W.fnX "__init__" q args (supBody p0 p1 p2 p3 p4 p5 p6 p7 p8 p9 kk tx f x) sc [("__class__", cc)] .none kV doc pm an (.ref cda) ct, .all fun us hl => hbind _ _ _ _ _ _ _ us hl, ⟨fun vs H Q E h => ?_, fun A outer s H as us vs' Q E hr e0 hb r hsp => ?_⟩⟩
  · obtain ⟨a, v, rfl, _⟩ := h
    rfl
  have hl : vs'.length = 2 := by obtain ⟨a, v, rfl, _⟩ := hsp; rfl
  have KB : ∀ b o, K.lookup b = some o → s.heap.get? b = some o ∧ H b = none := fun b o e => e0.bs b o (e0.mod.kin b o e)
  have KX : K.In s.heap := fun b o e => (KB b o e).1
  have lim : s.heap.NoLimit := e0.mod.nolimit.keeps fun b o e => (e0.bs b o e).1
  let F : NF := ⟨"__init__", q, args, supBody p0 p1 p2 p3 p4 p5 p6 p7 p8 p9 kk tx f x, sc, [("__class__", cc)], cda⟩
  have hl2 : us.length = 2 := by rw [← r.length]; exact hl
  refine ks_codeAny_call_defAt hr.depth (KX _ _ lk) rfl lim (PySem.W.codeRec_of KX hcd) rfl hb NS.nocell (fun ⟨n, _⟩ hy => NS.par n (List.of_mem_zip hy).1) (fun h₁ hns kp => ?_) NS.co NS.gen NS.kind
  have one : ∀ {y : Str} {c : Addr}, F.cl.lookup y = some c → y = "__class__" ∧ c = cc := fun {y c} e => by
    have e : (match (y == ("__class__" : Str)) with | true => some cc | false => none) = some c := e
    cases hy : (y == ("__class__" : Str)) with
    | true => rw [hy] at e; exact ⟨beq_iff_eq.mp hy, (Option.some.inj e).symm⟩
    | false => rw [hy] at e; cases e
  have CA : CellsAt F.cl ["__class__"] [none] s.heap H := by
    refine ⟨rfl, fun y c e => ?_, fun x y c e1 e2 => (one e1).1.trans (one e2).1.symm, fun i y e => ?_⟩
    · obtain ⟨rfl, rfl⟩ := one e
      exact ⟨(KB _ _ hcell).2, _, ⟨_, (KB _ _ hcell).1, rfl⟩⟩
    · cases i with
      | zero =>
        cases (show (some ("__class__" : Str)) = some y from e)
        exact ⟨cc, rfl, fun v e => by cases (show (some none : Option (Option V)) = some (some v) from e)⟩
      | succ i => cases (show (none : Option Str) = some y from by simpa using e)
  have I : Inv (ncx CX P w K mg base ["self", x, "__class__"] F fI A outer s H E) [] (startF ["self", x, "__class__"] vs' [none]) H { s with heap := h₁, toks := s.toks + (([("self" : Str), x]).zip us).length } := inv_startN NS hr.hd e0 hl r CA hns kp
  obtain ⟨a, v, rfl, ha, hq⟩ := hsp
  obtain ⟨u0, u1, rfl⟩ : ∃ u0 u1, us = [u0, u1] := match us, hl2 with | [u0, u1], _ => ⟨u0, u1, rfl⟩
  obtain rfl : u0 = .ref a := by cases r with | cons r1 _ => exact r1
  obtain ⟨env, henv⟩ : ∃ env, env = envF F fI s.heap.objs.size := ⟨_, rfl⟩
  have goal : _root_.PySem.wpAt (model P w) (A.deeper env) (.func F.body env) (execs F.body env) (fun f s' => CR CX outer P w H s Q E (.ok (.ret (match f with | .ret v => v | _ => .none))) s')
      (fun e s' => wpAny (model P w) (A.deeper env) (leaving env e) (fun _ s'' => CR CX outer P w H s Q E (.error e) s'') (fun e' s'' => CR CX outer P w H s Q E (.error e') s'') s') { s with heap := h₁, toks := s.toks + (([("self" : Str), x]).zip [Value.ref a, u1]).length } := by
    have hk : env.scope.kind = .function := by rw [henv]; exact NS.kind
    have hin : interactive env = false := by unfold interactive; rw [hk]; rfl
    obtain ⟨pl, he⟩ := hev env
    refine ks_wpAt_execs_cons (ks_wpAt_Expr_any (ks_wpAt_MethodCall (pl := pl) ?_ he) hin ?_)
    · obtain ⟨ar, har1, har2⟩ := har
      have nd2 : ([("self" : Str), x] : List Str).Nodup := by
        have h := NS.nd
        have h2 : ([("self" : Str), x] ++ [("__class__" : Str)]).Nodup := h
        exact (List.nodup_append.mp h2).1
      have m0 : (([("self" : Str), x]).zip [Value.ref a, u1]).reverse.lookup ("self" : Str) = some (.ref a) := zip_look nd2 (i := 0) rfl rfl
      obtain ⟨nm, qC, NC, bs, bm, sn, sub, ab, col, dd, k0, k1, k2, k3, k5, hC, hbm⟩ := S.T.cls
      have hcl : PySem.W.clsIn K C = some { name := nm, bases := bs, mro := .ref C :: bm, ns := NC, qualname := qC, hasDict := true, slotNames := sn, subclasses := sub, abstract := ab, collection := col, hasDel := false } := by unfold PySem.W.clsIn; rw [hC] <;> rfl
      have KX1 : K.In h₁ := KX.keeps kp
      obtain ⟨t1, hoe⟩ := exo_at e0.hok ha
      have hoe1 := kp _ _ hoe
      obtain ⟨mb, hb1, hb2⟩ := e0.mod.blt
      have kB : ∀ b o, base.get? b = some o → h₁.get? b = some o := fun b o e => kp _ _ (e0.bs b o e).1
      refine ks_wpAt_super_base (cc := cda) (f := fI) (ar := ar) (by rw [henv]; exact hks) (by rw [henv]; exact NS.frk _ (by simp)) (by decide) (by rw [henv]) (kp _ _ (KX _ _ lk)) rfl har1 (by rw [henv]) (kp _ _ (KX _ _ hcode)) rfl hvs hfile S.top ?_
      refine PySem.W.ks_loadName_global hk (by rw [henv]; exact hks) (Calls.loadGlobal_builtin (mg := mg) (mb := mb) (by rw [henv]; exact e0.mod.glob.keeps kB) (PySem.W.mg_none_of e0.mod.kin e0.mod.glob S.sup) (by rw [henv]; exact hb1.keeps kB) ((hb2 "super" (by decide)).trans (by kernel_rfl)) ⟨rfl, ?_⟩)
      refine wpAny_loadName_free hk (by rw [henv]; exact NS.frk _ (by simp)) (by rw [henv]; rfl) ⟨_, KX1 _ _ hcell, rfl⟩ ?_
      rw [har2]
      refine wpAny_loadName_local hk (by rw [henv]; exact NS.par _ (by simp)) (by rw [henv]; exact hns) m0 ?_
      refine ks_wpAny_isType_cls (KX1 _ _ hC) rfl ⟨rfl, ?_⟩
      refine ks_wpAny_call_super (KX1 _ _ hC) rfl hoe1 rfl (fun c z => by cases z) (PySem.W.looks_mroIn KX1 S.hS) (fun h2 e2 k2 => ?_)
      have KX2 : K.In h2 := KX1.keeps k2
      have I2 : PySem.W.InstAt h2 a _ C none := ⟨k2 _ _ hoe1, rfl, rfl, trivial⟩
      have hm := S.hm
      unfold PySem.W.ks_superIn at hm
      rw [hcl] at hm
      refine PySem.W.kxs_getMethod PySem.W.kxs_ValueError e2 (PySem.W.looks_opaque KX2 S.opq) (l₀ := .ref C :: bm) (fun A Q E s k q => wpAny_bind ((PySem.W.looks_clsIn KX2 hcl) A _ E s k (wpAny_pure q))) rfl KX2 hm (I2.type.andThen (PySem.W.looks_subIn KX2 S.hB)) (PySem.W.ks_ne KX2 I2 hcl) (by decide) ?_
      -- the wrapper stands
      obtain ⟨u, hu⟩ : ∃ u, u = h2.objs.size := ⟨_, rfl⟩
      have k3 : ∀ b o, h₁.get? b = some o → (h2.push (PySem.W.kxs_mw "ValueError.__init__" a)).get? b = some o := fun b o e => Heap.get?_push_of_some _ (k2 _ _ e)
      have eu : (h2.push (PySem.W.kxs_mw "ValueError.__init__" a)).get? u = some (PySem.W.kxs_mw "ValueError.__init__" a) := by rw [hu]; exact Heap.get?_push_size _ rfl
      have lu : h₁.objs.size ≤ u := by
        rw [hu]
        refine Nat.le_of_not_lt fun z => ?_
        obtain ⟨oS, hS⟩ : ∃ oS, h2.get? h₁.objs.size = some oS := ⟨_, e2⟩
        exact absurd (Heap.lt_size hS) (Nat.not_lt.mpr (Nat.le_of_lt z))
      have I3 : Inv (ncx CX P w K mg base ["self", x, "__class__"] F fI A outer s H E) [] (startF ["self", x, "__class__"] [.ref a, v] [none]) H { s with heap := h2.push (PySem.W.kxs_mw "ValueError.__init__" a), toks := s.toks + (([("self" : Str), x]).zip [Value.ref a, u1]).length + 1 } := I.kept (t' := s.toks + (([("self" : Str), x]).zip [Value.ref a, u1]).length + 1) k3
      have I4 : Inv (ncx CX P w K mg base ["self", x, "__class__"] F fI A outer s H E) [(u, PySem.W.kxs_mw "ValueError.__init__" a)] (startF ["self", x, "__class__"] [.ref a, v] [none]) H { s with heap := h2.push (PySem.W.kxs_mw "ValueError.__init__" a), toks := s.toks + (([("self" : Str), x]).zip [Value.ref a, u1]).length + 1 } := I3.pins_of fun p hp => by
        rw [List.mem_singleton.mp hp]
        exact ⟨eu, I.hok.fresh lu, fun z => by
          have := I.lt
          rw [← z] at this
          exact absurd (Nat.lt_of_lt_of_le this lu) (Nat.lt_irrefl _), I.nofs lu, fun v z => by cases z⟩
      rw [← hu]
      show wpAny (model P w) (A.deeper env) (callWith p4 (.ref u) [] (backTo p4 (starEach [.Constant (.str tx) kk p3] env)) []) _ _ _
      refine PySem.W.kxs_callWith1 (i := "ValueError.__init__") (x := a) (h₀ := h₁) (L := s.heap.objs.size) (news := [(u, PySem.W.kxs_mw "ValueError.__init__" a)]) (fun p hp => ?_) (by simp) ?_ (by rfl) (by rfl)
      · rw [List.mem_singleton.mp hp]
        refine ⟨eu, fun z => ?_, ?_⟩
        · have z : u = s.heap.objs.size := z
          have := I.lt
          have this : s.heap.objs.size < h₁.objs.size := this
          omega
        · show h₁.get? u = none
          cases e : h₁.get? u with
          | none => rfl
          | some o => exact absurd (Heap.lt_size e) (Nat.not_lt.mpr lu)
      rw [henv]
      refine thn ((pa_cons (X := ncx CX P w K mg base ["self", x, "__class__"] F fI A outer s H E) (pe_str (x := tx)) pa_nil).run p4 [(u, PySem.W.kxs_mw "ValueError.__init__" a)] _ _ H (fun vs H' => vs = [.str tx] ∧ H' = H) I4 ⟨rfl, rfl⟩) fun us s5 hAP => ?_
      obtain ⟨vs5, H5, I5, r5, rfl, rfl⟩ := hAP
      have hu5 := (I5.pin (u, PySem.W.kxs_mw "ValueError.__init__" a) (List.mem_append_right _ List.mem_cons_self)).1
      obtain ⟨t5, he5⟩ := exo_at I5.hok ha
      have hz5 : us.length ≤ sizeLine := by rw [← r5.length]; show 1 ≤ sizeLine; decide
      obtain ⟨h5, g5, d5, tk5, os5⟩ := s5
      refine ⟨hu5, call_mw (I5.kIn _ _ hC) he5 hu5 hz5 fun h6 k6 e6 => ?_⟩
      have J := I5.write (t' := tk5) (x := a) (e := a) (o := exo a C none) (by rw [ha]; exact True.intro) (.inl rfl) k6 ⟨_, e6⟩ (exo_ok e6)
      have eH : upd H5 a (exo a C none) = H5 := by
        funext b
        by_cases hb : b = a
        · rw [hb, upd_same, ha]
        · rw [upd_ne hb]
      rw [eH] at J
      have J2 := J.pins_of (pins' := []) fun p hp => absurd hp (by simp)
      refine wpAt_of_wpAny (wpAny_mono ((pss_one (ps_ost (X := ncx CX P w K mg base ["self", x, "__class__"] F fI A outer s H5 E) (pv 0 rfl (.inl (NS.par _ (by simp)))) (pv 1 rfl (.inl (NS.par _ (by simp))) hx1 hx2))).run [] _ _ H5 { nx := fun _ H' => Q .non H', rt := Q } J2 ?_) (fun fl s' hs => ?_) fun e s' z => z)
      · exact ⟨v, rfl, .ref a, rfl, a, C, rfl, S.T, hno, .inl ⟨ha, fun dx n ne => hq dx n ne⟩⟩
      · have fin : ∀ {σ' : L2.St} {H' : Hp} {v : V} {u : Value}, Inv (ncx CX P w K mg base ["self", x, "__class__"] F fI A outer s H5 E) [] σ' H' s' → L2.RelV v u → Q v H' → CE outer P w H5 s Q u s' :=
          fun {σ' H' v u} J rv q => ⟨v, H', J.os, J.bare, J.base, J.hok, rv, q⟩
        cases fl with
        | ret u =>
          obtain ⟨v, σ', H', J, rv, q⟩ := hs
          exact fin J rv q
        | next =>
          obtain ⟨σ', H', J, q⟩ := hs
          exact fin (v := V.non) (u := Value.none) J rfl q
        | brk =>
          obtain ⟨_, _, _, q⟩ := hs
          exact False.elim q
        | cont =>
          obtain ⟨_, _, _, q⟩ := hs
          exact False.elim q
    · rfl
  rw [henv] at goal
  exact goal
end L3

set_option Elab.async false
set_option linter.all false
set_option maxRecDepth 100000
set_option maxHeartbeats 2000000
namespace L3
open PySem PySem.Spec PyProof.Rows L2
/-! own exceptions raised, caught, asked for their field -/
/-- an own exception class x of the module, its instances made with one thing, kept as field f -/
structure Rai (P : Program) (w : World) (K : PySem.W.Frag) (mg : Str → Option Value) (base : Heap) (k : Nat) (x : Str) (C : Addr) (f : Str) : Prop where
  T : OexC K C
  gl : mg x = some (.ref C)
  ini : ∃ (fI : Addr) (fd : FuncData) (p : Str), PySem.W.findIn K (.ref C) "__init__" = some (some (.ref fI)) ∧ PySem.W.typeIn K (.ref fI) = some (.type "function") ∧ FnOk P w K mg base CX0 k fI fd ["self", p] (spSup K C f) ∧ Binds K fd ["self", p] []
/-- raise C(e) -/
def tRai (K : PySem.W.Frag) (C : Addr) (f : Str) (W : WX) (te : TE) : TS := fun _ σ H => tMkO C (spSup K C f) [] (tCons te tNil) σ H fun cls d H' => W cls d σ H'
theorem ps_rai {X : Cx} {W : WX} {k : Nat} {x : Str} {C : Addr} {f : Str} {e : Expr} {te : TE} {p p2 p3 : Pos} (R : Rai X.prog X.w X.K X.mg X.base k x C f) (hr : Room (k + 1) X.A) (hc : X.calm = true) (tk : Takes X W) (h : PA X [e] (tCons te tNil)) (hg : Gl X x := by rfl)
    (hdb : (x == ("__debug__" : Str)) = false := by decide) (he : starEach [e] X.env = (false, eval e X.env) :: starEach [] X.env := by rfl) (hpl : (backTo p2 (starEach [] X.env)).any (·.1) = false := by rfl) :
    PS X (.Raise (some (.Call (.Name x p) [e] [] p2)) none p3) (tRai X.K C f W te) :=
  let ⟨_, _, _, h1, h2, h3, h4⟩ := R.ini
  ps_raise hc tk (pmk_oex R.T h1 h2 h3 hr h4 .nil pass0 hg R.gl h hdb he hpl)
theorem s_rai {K : PySem.W.Frag} {C : Addr} {f : Str} {W : WX} {te : TE} {D : Ends} {σ : Sl} {M H : Hp} {P : Pr} (mh : Same M H) (h : Gv te σ M P) (q : ∀ v M' H' d, Gr M H M' H' → P M' v → H' d = none → W (.ref C) (some d) σ (upd H' d (.xd [(f, v)]))) : tRai K C f W te D σ H :=
  h H mh _ fun v M1 H1 g1 p1 => ⟨by show 1 ≤ 1000; decide, fun a na => ⟨a, v, rfl, upd_same, fun dx ndx nda => ⟨rfl, dx, [(f, v)], upd_same, by rw [upd_ne nda]; exact upd_same, by rw [upd_ne nda] at ndx; exact ndx, by
    have nd1 : H1 dx = none := by rw [upd_ne nda] at ndx; exact ndx
    have e : upd (L2.del (upd (upd (upd H1 a (exo a C none)) dx (exd dx [(f, v)])) a (exo a C (some dx))) a) dx (.xd [(f, v)]) = upd H1 dx (.xd [(f, v)]) := by
      funext b
      by_cases hb : b = dx
      · rw [hb, upd_same, upd_same]
      · rw [upd_ne hb, upd_ne hb]
        by_cases ha : b = a
        · rw [ha, L2.del_same, na]
        · rw [L2.del_ne ha, upd_ne ha, upd_ne hb, upd_ne ha]
    rw [e]
    exact q v M1 H1 dx g1 p1 nd1⟩⟩⟩
end L3

set_option Elab.async false
set_option linter.all false
set_option maxRecDepth 100000
set_option maxHeartbeats 2000000
namespace L3
open PySem PySem.Spec PyProof.Rows L2
/-! what the head must see of an own exception class, as a Boolean -/
def oexM (C : Addr) (cd : ClassData) : List Value → List (Option Value) → Bool
  | .ref C' :: bm, [_, _, _, _, some (.builtin n), _] => decide (C' = C) && (decide (n = "ValueError.__new__") && (cd.hasDict && (!cd.hasDel && PySem.HandSPX.refsVE bm)))
  | _, _ => false
def oexB (K : PySem.W.Frag) (C : Addr) : Bool := match K.lookup C with
  | some ⟨.type c, _, .cls cd, sl⟩ => decide (c = "type") && oexM C cd cd.mro sl.toList
  | _ => false
theorem oexM_ok {C : Addr} {cd : ClassData} {mro : List Value} {sl : List (Option Value)} (h : oexM C cd mro sl = true) : ∃ bm k0 k1 k2 k3 k5, mro = .ref C :: bm ∧ sl = [k0, k1, k2, k3, some (.builtin "ValueError.__new__"), k5] ∧ cd.hasDict = true ∧ cd.hasDel = false ∧ PySem.HandSPX.refsVE bm = true := by
  unfold oexM at h
  split at h
  · rename_i C' bm a0 a1 a2 a3 n a5
    obtain ⟨g1, h2⟩ := He.ba h
    obtain ⟨g2, h2⟩ := He.ba h2
    obtain ⟨g3, h2⟩ := He.ba h2
    obtain ⟨g4, g5⟩ := He.ba h2
    cases of_decide_eq_true g1
    cases of_decide_eq_true g2
    exact ⟨_, _, _, _, _, _, rfl, rfl, g3, by simpa using g4, g5⟩
  · cases h
theorem oexB_ok {K : PySem.W.Frag} {C : Addr} (h : oexB K C = true) : ∃ nm q N bs bm sn sub ab col dd k0 k1 k2 k3 k5, K.lookup C = some (excClassObj nm q C N bs bm true sn sub ab col dd k0 k1 k2 k3 k5 "ValueError.__new__") ∧ PySem.HandSPX.refsVE bm = true := by
  unfold oexB at h
  cases e : K.lookup C with
  | none => rw [e] at h; cases h
  | some o =>
    obtain ⟨oc, od, dt, ⟨sl⟩⟩ := o
    rw [e] at h
    cases oc with
    | type c =>
      cases dt with
      | cls cd =>
        obtain ⟨h1, h2⟩ := He.ba (show (decide (c = "type") && oexM C cd cd.mro sl) = true from h)
        cases of_decide_eq_true h1
        obtain ⟨bm, a0, a1, a2, a3, a5, e1, rfl, e3, e4, g5⟩ := oexM_ok h2
        obtain ⟨nm, bs, mro, ns, qn, hd, sn, sb, ab, col, del⟩ := cd
        dsimp only at e1 e3 e4
        subst e1 e3 e4
        exact ⟨nm, qn, ns, bs, bm, sn, sb, ab, col, od, a0, a1, a2, a3, a5, rfl, g5⟩
      | _ => cases h
    | _ => cases dt <;> cases h
/-- the words of the __init__ at fI -/
abbrev FnC : Type := Option (Str × Str × Arguments × FuncBody × Scope × Addr × List Str × Addr)
def fnC (K : PySem.W.Frag) (x : Str) : FnC := match K.lookup (He.ma K (He.ga K x) "__init__") with
  | some ⟨_, _, .func fd, _⟩ => some (fd.name, fd.qualname, fd.params, fd.body, fd.scope, fd.globals, fd.closure.map (·.1), fd.builtins)
  | _ => none
def fnCv (q : Str) (st : Stmt) : FnC := some ("__init__", q, defArgs st, .stmts (defBody st), defScope st, mainGlobals, ["__class__"], builtinsNs)
/-- its cell, its code, its defaults -/
def cellB (K : PySem.W.Frag) (C : Addr) : List (Str × Addr) → Bool
  | [(_, cc)] => (match K.lookup cc with
    | some ⟨_, _, .cell (some (.ref D)), _⟩ => decide (D = C)
    | _ => false)
  | _ => false
def fileB (P : Program) (K : PySem.W.Frag) : Value → Bool
  | .ref cda => (match K.lookup cda with
    | some ⟨_, _, .fields vs, _⟩ => (match (vs[2]? : Option Value) with
      | some (.str file _) => (P.main.file : Str) == file
      | _ => false)
    | _ => false)
  | _ => false
def noneB : Value → Bool
  | .none => true
  | _ => false
def restB (P : Program) (K : PySem.W.Frag) (x q : Str) : Bool := match K.lookup (He.ma K (He.ga K x) "__init__") with
  | some ⟨_, _, .func fd, _⟩ => PySem.W.codeIn K fd.code q && (fileB P K fd.code && (cellB K (He.ga K x) fd.closure && noneB fd.defaults))
  | _ => false
theorem cellB_ok {K : PySem.W.Frag} {C : Addr} {cl : List (Str × Addr)} (h : cellB K C cl = true) (e : cl.map (·.1) = [("__class__" : Str)]) : ∃ cc oc od osl, cl = [(("__class__" : Str), cc)] ∧ K.lookup cc = some ⟨oc, od, .cell (some (.ref C)), osl⟩ := by
  match cl, h, e with
  | [(n, cc)], h, e =>
    obtain rfl : n = "__class__" := by simpa using e
    have h : (match K.lookup cc with
      | some ⟨_, _, .cell (some (.ref D)), _⟩ => decide (D = C)
      | _ => false) = true := h
    split at h
    · rename_i oc od D osl hl
      cases of_decide_eq_true h
      exact ⟨cc, oc, od, osl, rfl, hl⟩
    · cases h
theorem fileB_ok {P : Program} {K : PySem.W.Frag} {v : Value} (h : fileB P K v = true) : ∃ cda ccl cdd vs ccs file tf, v = .ref cda ∧ K.lookup cda = some ⟨ccl, cdd, .fields vs, ccs⟩ ∧ vs[2]? = some (.str file tf) ∧ ((P.main.file : Str) == file) = true := by
  cases v with
  | ref cda =>
    have h : (match K.lookup cda with
      | some ⟨_, _, .fields vs, _⟩ => (match (vs[2]? : Option Value) with
        | some (.str file _) => (P.main.file : Str) == file
        | _ => false)
      | _ => false) = true := h
    split at h
    · rename_i ccl cdd vs ccs hl
      split at h
      · rename_i file tf hv
        exact ⟨cda, ccl, cdd, vs, ccs, file, tf, rfl, hl, hv, h⟩
      · cases h
    · cases h
  | _ => cases h
/-- all else of the class -/
def supB (P : Program) (K : PySem.W.Frag) (x q f : Str) : Bool :=
  oexB K (He.ga K x) && (decide (PySem.W.findIn K (.ref (He.ga K x)) "__setattr__" = some (some (.builtin "object.__setattr__"))) && (decide (PySem.W.subIn K (.ref (He.ga K x)) (.type "BaseException") = some true) && (decide (PySem.W.typeIn K (.ref (He.ga K x)) = some (.type "type")) &&
  (PySem.W.keepIn K (.ref (He.ga K x)) && (decide (PySem.W.nsIn K mainGlobals "super" = some none) && (decide (PySem.W.nsIn K cStatics "thirdparty.any" = some none) && (decide (PySem.W.ks_superIn K (He.ga K x) (He.ga K x) "__init__" = some (some (.builtin "ValueError.__init__"))) &&
  (decide (PySem.W.subIn K (.ref (He.ga K x)) (.type "ValueError") = some true) && (decide (PySem.W.mroIn K (He.ga K x) (.ref (He.ga K x)) = some true) && (decide (PySem.W.findIn K (.ref (He.ga K x)) "__init__" = some (some (.ref (He.ma K (He.ga K x) "__init__")))) &&
  (decide (PySem.W.typeIn K (.ref (He.ma K (He.ga K x) "__init__")) = some (.type "function")) && (decide (PySem.W.findIn K (.ref (He.ga K x)) f = some none) && (xfB K (He.ga K x) && restB P K x q)))))))))))))
structure SupF (P : Program) (K : PySem.W.Frag) (x q f : Str) (st : Stmt) : Prop where
  S : SupC P K (He.ga K x) (He.ma K (He.ga K x) "__init__") q (defArgs st) (defBody st) (defScope st)
  xf : XfC K (He.ga K x)
  ini : PySem.W.findIn K (.ref (He.ga K x)) "__init__" = some (some (.ref (He.ma K (He.ga K x) "__init__")))
  ty : PySem.W.typeIn K (.ref (He.ma K (He.ga K x) "__init__")) = some (.type "function")
  no : PySem.W.findIn K (.ref (He.ga K x)) f = some none
theorem supB_ok {P : Program} {K : PySem.W.Frag} {x q f : Str} {st : Stmt} (h : supB P K x q f = true) (e : fnC K x = fnCv q st) (top : (P.main.scope.names.lookup ("super" : Str)).isSome = false) : SupF P K x q f st := by
  obtain ⟨a1, h⟩ := He.ba h
  obtain ⟨a2, h⟩ := He.ba h
  obtain ⟨a3, h⟩ := He.ba h
  obtain ⟨a4, h⟩ := He.ba h
  obtain ⟨a5, h⟩ := He.ba h
  obtain ⟨a6, h⟩ := He.ba h
  obtain ⟨a7, h⟩ := He.ba h
  obtain ⟨a8, h⟩ := He.ba h
  obtain ⟨a9, h⟩ := He.ba h
  obtain ⟨b1, h⟩ := He.ba h
  obtain ⟨b2, h⟩ := He.ba h
  obtain ⟨b3, h⟩ := He.ba h
  obtain ⟨b4, h⟩ := He.ba h
  obtain ⟨b5, b6⟩ := He.ba h
  refine ⟨⟨⟨oexB_ok a1, of_decide_eq_true a2, of_decide_eq_true a3, of_decide_eq_true a4, a5⟩, ?_, of_decide_eq_true a6, of_decide_eq_true a7, of_decide_eq_true a8, of_decide_eq_true a9, of_decide_eq_true b1, top⟩, xfB_ok b5, of_decide_eq_true b2, of_decide_eq_true b3, of_decide_eq_true b4⟩
  unfold restB at b6
  unfold fnC at e
  cases hl : K.lookup (He.ma K (He.ga K x) "__init__") with
  | none => rw [hl] at b6; cases b6
  | some o =>
    obtain ⟨oc, od, dt, osl⟩ := o
    rw [hl] at b6 e
    cases dt with
    | func fd =>
      obtain ⟨n1, n2, n3, n4, n5, n6, n7, n8, n9, n10, n11, n12, n13, n14, n15⟩ := fd
      have e2 : (some (n1, n2, n3, n4, n5, n6, n7.map (·.1), n15) : FnC) = fnCv q st := e
      unfold fnCv at e2
      simp only [Option.some.injEq, Prod.mk.injEq] at e2
      obtain ⟨h1, h2, h3, h4, h5, h6, h7, h8⟩ := e2
      subst h1 h2 h3 h4 h5 h6 h8
      obtain ⟨c1, d2⟩ := He.ba (show (PySem.W.codeIn K n13 n2 && (fileB P K n13 && (cellB K (He.ga K x) n7 && noneB n8))) = true from b6)
      obtain ⟨c2, d3⟩ := He.ba d2
      obtain ⟨c3, c4⟩ := He.ba d3
      obtain ⟨cc, cl, cld, csl, rfl, hcell⟩ := cellB_ok c3 h7
      obtain ⟨cda, ccl, cdd, vs, ccs, file, tf, rfl, hcode, hvs, hfile⟩ := fileB_ok c2
      obtain rfl : n8 = .none := by cases n8 <;> first | rfl | cases c4
      exact ⟨_, _, _, _, _, _, cda, _, _, cc, cl, cld, csl, ccl, cdd, vs, ccs, file, tf, rfl, c1, hcell, hcode, hvs, hfile⟩
    | _ => cases b6
end L3

set_option Elab.async false
set_option linter.all false
set_option maxRecDepth 100000
set_option maxHeartbeats 1000000
namespace L3
open PySem PySem.Spec PyProof.Rows L2
/-! ~o by an own __invert__, o <= p by an own __le__, o op p by an own method of both's class -/
section
end
/-! dicts with tuple keys, locked -/
def DtF : Rl (List (List Str)) := fun ks M v => ∃ a o, v = .ref a ∧ M a = some (.frz o (.dT (ent ks)))
instance : Mon DtF := ⟨fun e ⟨a, o, h, r⟩ => ⟨a, o, h, e _ _ r⟩⟩
section
end
end L3

set_option Elab.async false
set_option linter.all false
set_option maxRecDepth 100000
set_option maxHeartbeats 1000000
namespace L3
open PySem PySem.Spec PyProof.Rows L2 LamX
open Strm
/-! a lambda handed to a def of the law, behind the stream -/
section
variable {S : Strm} {H H' M M' : Hp} {j k : Nat} {Pt : Addr} {q : Str} {σ : Sl} {P : Pr}
theorem Strm.At.ext (h : S.At k H) (e : ExtN H H') : S.At k H' := let ⟨c, x, n, m, h1, h2, h3⟩ := h.ex; ⟨h.ne, c, x, n, m, e _ _ h1 (fun _ z => by cases z), e _ _ h2 (fun _ z => by cases z), h3⟩
/-- the state of a law with a table of code objects -/
structure LS (S : Strm) (Pt : Addr) (q : Str) (M H : Hp) (k : Nat) : Prop where
  mh : Same M (S.cut H)
  at_ : S.At k H
  tb : TabS H Pt q
  mp : M Pt = none
  nt : ∀ a ps, M a ≠ some (.tbl ps)
theorem LS.le (L : LS S Pt q M H k) (e : j ≤ k) : LS S Pt q M H j := ⟨L.mh, L.at_.le e, L.tb, L.mp, L.nt⟩
theorem LS.step (L : LS S Pt q M H k) (g : Gr M (S.cut H) M' (S.cut H')) (a : S.At j H') : LS S Pt q M' H' j := by
  have kp : ∀ x o, H x = some o → (∀ vs, o ≠ HO.lst vs) → S.cut H x = some o ∧ H' x = some o := fun x o e n => by
    have no : ¬ S.off x := fun z => by
      obtain ⟨vs, hv⟩ := L.at_.at_ z
      rw [hv] at e
      exact n vs (Option.some.inj e).symm
    have e1 : S.cut H x = some o := by rw [cut_on no]; exact e
    exact ⟨e1, of_cut (g.hh x o e1)⟩
  obtain ⟨ps, hP, ok, h3⟩ := L.tb
  have h1 := kp Pt _ hP (fun _ z => by cases z)
  refine ⟨g.mh, a, ⟨ps, h1.2, ok, fun pos cv hc => ?_⟩, g.keep L.mp h1.1, fun x qs e => L.nt x qs (g.nt x qs e)⟩
  obtain ⟨c, e1, e2⟩ := h3 pos cv hc
  exact ⟨c, e1, (kp c _ e2 (fun _ z => by unfold CodeO at z; cases z)).2⟩
/-- a step that leaves all as it is -/
theorem LS.idle (L : LS S Pt q M H k) (hh : Same H H') : LS S Pt q M H' k := by
  have m1 : Same M (S.cut H') := fun x o e => by
    have h1 := L.mh x o e
    rw [cut_on (on_of h1)]
    exact hh _ _ (of_cut h1)
  exact ⟨m1, L.at_.same hh, L.tb.ext hh, L.mp, L.nt⟩
theorem LS.put (L : LS S Pt q M H k) {p : Addr} {o : HO} {vs : List V} (hp : S.cut H p = some (.lst vs)) (hm : M p = none) : LS S Pt q M (upd H p o) k := by
  have no : ¬ S.off p := on_of hp
  have hp' := of_cut hp
  obtain ⟨ps, hP, ok, h3⟩ := L.tb
  have n1 : Pt ≠ p := fun z => by rw [z, hp'] at hP; cases hP
  refine ⟨by rw [cut_upd no]; exact same_mut L.mh hm, L.at_.upd no, ⟨ps, by rw [upd_ne n1]; exact hP, ok, fun pos cv hc => ?_⟩, L.mp, L.nt⟩
  obtain ⟨c, e1, e2⟩ := h3 pos cv hc
  have n2 : c ≠ p := fun z => by rw [z, hp'] at e2; unfold CodeO at e2; cases e2
  exact ⟨c, e1, by rw [upd_ne n2]; exact e2⟩
end
end L3

set_option Elab.async false
set_option linter.all false
set_option maxRecDepth 100000
set_option maxHeartbeats 1000000
namespace L3
open PySem PySem.Spec PyProof.Rows L2
/-! data among which an empty dict may stand -/
/-- data, or an empty dict -/
def DdF (K : PySem.W.Frag) : Rl PyData := fun d M v => Dd K d M v ∨ (d = .dict [] ∧ ∃ a, v = .ref a ∧ M a = some (.dK []))
/-- .. or a list of such -/
def DdE (K : PySem.W.Frag) : Rl PyData := fun d M v => DdF K d M v ∨ ∃ a ds vs, d = .list ds ∧ v = .ref a ∧ SqL K M a vs ∧ Pd (DdF K) M ds vs
instance {K : PySem.W.Frag} : Mon (DdF K) := ⟨fun e h => h.elim (fun h => .inl (dp_mono e h)) fun ⟨h1, a, h2, h3⟩ => .inr ⟨h1, a, h2, e _ _ h3⟩⟩
instance {K : PySem.W.Frag} : Mon (DdE K) := ⟨fun e h => h.elim (fun h => .inl (Mon.mono e h)) fun ⟨a, ds, vs, h1, h2, h3, h4⟩ => .inr ⟨a, ds, vs, h1, h2, sl_mono e h3, h4.mono e⟩⟩
theorem ty_F {K : PySem.W.Frag} {M : Hp} {d : PyData} {v : V} (h : DdF K d M v) : TyX K M v (.type (tyN d)) := by
  rcases h with h | ⟨rfl, a, rfl, h⟩
  · exact ty_of h
  · exact .base (.dK h)
theorem ty_E {K : PySem.W.Frag} {M : Hp} {d : PyData} {v : V} (h : DdE K d M v) : TyX K M v (.type (tyN d)) := by
  rcases h with h | ⟨a, ds, vs, rfl, rfl, hs, _⟩
  · exact ty_F h
  · rcases hs with (h | ⟨o, h⟩) | ⟨o, its, n, hk, hc, _⟩
    · exact .base (.lst h)
    · exact .base (.frz h)
    · exact .kList hk hc
section
variable {K : PySem.W.Frag} {σ : Sl} {M : Hp} {ta : TE}
theorem gv_isiF {d : PyData} {n : String} {b : Bool} (h : Gv ta σ M (DdF K d)) (hk : kitB (tyN d) n = some b) : Gv (tCB (rIsi K) (tCons ta (tCons (tC (.ty n)) tNil))) σ M (Bl b) := fun H mh Q q =>
  h H mh _ fun v M1 H1 g1 p => ⟨v, .ty n, _, _, b, rfl, .ty n, ty_F (Mon.mono g1.mh p), kit_ty hk, q _ M1 H1 g1 rfl⟩
theorem gv_isi2E {d : PyData} {n m : String} {b c : Bool} (h : Gv ta σ M (DdE K d)) (hk : kitB (tyN d) n = some b) (hm : kitB (tyN d) m = some c) : Gv (tCB (rIsiT K) (tCons ta (tCons (tTup (tCons (tC (.ty n)) (tCons (tC (.ty m)) tNil))) tNil))) σ M (Bl (b || c)) := fun H mh Q q =>
  h H mh _ fun v M1 H1 g1 p => ⟨by show 2 ≤ sizeLine; decide, fun tp ntp => by
    refine ⟨v, tp, _, _, _, b || c, rfl, upd_same, .cons (.ty n) (.cons (.ty m) .nil), ty_E (Mon.mono ((g1.mh).trans (same_new ntp)) p), ?_, q _ M1 _ (g1.trans (.own g1.mh ntp)) rfl⟩
    refine kitAny_cons (kit_ty hk) (fun hb => kitAny_cons (kit_ty hm) (fun hc => ?_) fun hc => ?_) fun h => ?_
    · rw [hb, hc]; exact kitAny_nil
    · rw [hb, hc]; rfl
    · rw [h]; rfl⟩
theorem sqF {ds : List PyData} {v : V} (h : SqR K (Dd K) ds M v) : SqR K (DdF K) ds M v := by
  rcases h with ⟨a, vs, e, hs, hp⟩ | ⟨a, vs, e, hs, hp⟩
  · exact .inl ⟨a, vs, e, hs, Paired.mapP hp fun _ _ q => .inl q⟩
  · exact .inr ⟨a, vs, e, hs, Paired.mapP hp fun _ _ q => .inl q⟩
end
end L3

set_option Elab.async false
set_option linter.all false
set_option maxRecDepth 100000
set_option maxHeartbeats 1000000
namespace L3
open PySem PySem.Spec PyProof.Rows L2
/-! a written dict of three texts, locked at the return: it can be walked -/
def Dc3F (a b c : Str) (R1 R2 R3 : Pr) : Pr := fun M v => ∃ p o u1 u2 u3, v = .ref p ∧ M p = some (.frz o (.dK [(Sum.inr a, u1), (Sum.inr b, u2), (Sum.inr c, u3)])) ∧ R1 M u1 ∧ R2 M u2 ∧ R3 M u3
section
variable {K : PySem.W.Frag} {σ : Sl} {M : Hp} {td ts t1 t2 t3 : TE} {P : Pr}
theorem gv_dgetF {R : Pr} {k : Str} (h : Gv td σ M P) (hr : ∀ M v, P M v → ∃ a o kvs u, v = .ref a ∧ M a = some (.frz o (.dK kvs)) ∧ valV kvs (Sum.inr k : Key) = some u ∧ R M u) : Gv (tDGet td (tC (.str k))) σ M R := fun H mh Q q => h H mh _ fun v M1 H1 g1 p1 => by
  obtain ⟨a, o, kvs, u, rfl, ha, hu, r⟩ := hr M1 v p1
  exact ⟨a, u, rfl, .inl ⟨kvs, Sum.inr k, .inr ⟨o, g1.mh _ _ ha⟩, rfl, hu.symm⟩, q u M1 H1 g1 r⟩
theorem gv_disp3F {a b c : Str} {R1 R2 R3 : Pr} [Mono R1] [Mono R2] [Mono R3] (h1 : Gv t1 σ M R1) (h2 : Gv t2 σ M R2) (h3 : Gv t3 σ M R3) (n1 : a ≠ b) (n2 : a ≠ c) (n3 : b ≠ c) :
    Gv (tFrz (tDisp [(tC (.str a), t1), (tC (.str b), t2), (tC (.str c), t3)])) σ M (Dc3F a b c R1 R2 R3) := fun H mh Q q p np => by
  have g0 := Gr.own (o := .dK []) mh np
  have m0 : M p = none := mh.free np
  have p0 : (upd H p (.dK [])) p = some (.dK []) := upd_same
  refine h1 _ g0.mh _ fun u1 M1 H1 g1 r1 => ?_
  refine h2.le g1.mm H1 g1.mh _ fun u2 M2 H2 g2 r2 => ?_
  refine h3.le (g1.mm.trans g2.mm) H2 g2.mh _ fun u3 M3 H3 g3 r3 => ?_
  have G := (g1.trans g2).trans g3
  have m3 : M3 p = none := G.keep m0 p0
  refine ⟨G.hh _ _ p0, [(Sum.inr a, u1), (Sum.inr b, u2), (Sum.inr c, u3)], rfl, by show 3 ≤ 15; decide, ?_⟩
  rw [merge3 n1 n2 n3]
  refine ⟨p, _, rfl, upd_same, trivial, fun o => ?_⟩
  have e3 := same_new (o := .frz o (.dK [(Sum.inr a, u1), (Sum.inr b, u2), (Sum.inr c, u3)])) m3
  exact q _ _ _ ((((g0.trans G).mut np m3).mut np m3).freeze np m3 upd_same) ⟨p, o, u1, u2, u3, rfl, upd_same, Mono.mono ((g2.mm.trans g3.mm).trans e3) r1, Mono.mono (g3.mm.trans e3) r2, Mono.mono e3 r3⟩
theorem gi_keys3 {a b c : Str} {R1 R2 R3 : Pr} (h : Gv ts σ M (Dc3F a b c R1 R2 R3)) : GvI (iKeys ts) σ M [a, b, c] Tx := fun H mh Q q => h H mh _ fun v M1 H1 g1 ⟨p, o, u1, u2, u3, e, r, _⟩ => by
  subst e
  refine ⟨p, o, rfl, .inl ⟨_, g1.mh _ _ r, q _ M1 H1 g1 ⟨_, _, walk_keys (kvs := [(Sum.inr a, u1), (Sum.inr b, u2), (Sum.inr c, u3)]), fun M2 H2 s1 s2 => s2 _ _ (s1 _ _ r), ?_⟩⟩⟩
  rintro i M2 H2 v H3 s1 s2 hi ⟨rfl, k, w, hk, rfl⟩
  match i, hk with
  | 0, hk => cases hk; exact ⟨a, M2, rfl, .refl s2, rfl⟩
  | 1, hk => cases hk; exact ⟨b, M2, rfl, .refl s2, rfl⟩
  | 2, hk => cases hk; exact ⟨c, M2, rfl, .refl s2, rfl⟩
end
section
end
end L3
namespace L3
open PySem PySem.Spec PyProof.Rows L2 LamX
open Strm
end L3

set_option Elab.async false
set_option linter.all false
set_option maxRecDepth 100000
set_option maxHeartbeats 1000000
namespace L3
open PySem PySem.Spec PyProof.Rows L2 LamX
/-! the law's own end, a table of code objects at Pt tracked from the start, empty -/
section
end
end L3

set_option Elab.async false
set_option linter.all false
set_option maxRecDepth 100000
set_option maxHeartbeats 1000000
namespace L3
open PySem PySem.Spec PyProof.Rows L2
/-! a quiet def (one that raises nothing and walks no range) called while an exception is handled -/
structure FnQ (P : Program) (w : World) (K : PySem.W.Frag) (mg : Str → Option Value) (base : Heap) (k : Nat) (f : Addr) (fd : FuncData) (ps : List Str) (sp : Sp) : Prop where
  len (vs : List V) (H : Hp) (Q : VK) (E : XK) : sp vs H Q E → vs.length = ps.length
  run : ∀ (A : Around) (outer : List Env) (s : Shared) (H : Hp) (args : Args) (us : List Value) (vs : List V) (Q : VK) (E : XK) (p : Addr × Obj), A.guards = some [] → L2H.RoomH k A → L2H.PinOk outer H s p →
    Env0 P w K mg base A outer s H → BindsTo s fd args (ps.zip us) → Vals vs us → sp vs H Q E → codeAny (model P w) A (.call (.ref f) args) (CR CX0 outer P w H s Q E) s
section
end
end L3

set_option Elab.async false
set_option linter.all false
set_option maxRecDepth 100000
set_option maxHeartbeats 4000000
namespace My
open PySem PySem.Spec PyProof.Rows L2 L3
def topS (i : Nat) : Stmt := PySem.Challenge.pw_lastopen_k20_led_along.main.body.getD i (.Pass ⟨0, 0, 0, 0⟩)
/-! the plain functions -/
def nameOf (x : Str) : Str := if cutS x none (some 1) = "-" then cutS x (some 1) none else x
def opp (x : Str) : Str := if cutS x none (some 1) = "-" then cutS x (some 1) none else "-" ++ x
def isListD : PyData → Bool
  | .list _ => true | .tuple _ => true | _ => false
def isLit (ns : List Str) : PyData → Bool
  | .str x => decide (nameOf x ∈ ns) | _ => false
def nameD : PyData → Str
  | .str x => nameOf x | _ => ""
def fwGo (ns : List Str) : List PyData → List Str → Nat → Option Nat
  | [], _, _ => none
  | d :: r, met, i => if isLit ns d = false ∨ nameD d ∈ met then some i else fwGo ns r (met ++ [nameD d]) (i + 1)
/-- the index of the first thing that is no literal, or whose name stood before -/
def firstWrong (ns : List Str) : PyData → Option Nat
  | .list ds => fwGo ns ds [] 0 | .tuple ds => fwGo ns ds [] 0 | _ => some 0
def shortD : PyData → Prop
  | .str x => x.length ≤ 1000 | _ => True
def shortL : PyData → Prop
  | .list ds => ds.length ≤ 1000000 ∧ ∀ d ∈ ds, shortD d | .tuple ds => ds.length ≤ 1000000 ∧ ∀ d ∈ ds, shortD d | _ => True
def asc (ls ns : List Str) : List Str := ns.flatMap fun n => [n, ("-" : Str) ++ n].filter fun l => decide (l ∈ ls)
/-- built-ins that the module does not shade -/
structure Bi (mg : Str → Option Value) : Prop where
  len : mg "len" = none
  tuple : mg "tuple" = none
  list : mg "list" = none
  str : mg "str" = none
  int : mg "int" = none
  all : mg "all" = none
  any : mg "any" = none
  isinstance : mg "isinstance" = none
  enumerate : mg "enumerate" = none
  range : mg "range" = none
  repr : mg "repr" = none
theorem sz1000 {n : Nat} (h : n ≤ 1000) : n ≤ sizeLine := Nat.le_trans h (by decide)
theorem szM {n : Nat} (h : n ≤ 16000000) : n ≤ sizeLine := Nat.le_trans h (by decide)
theorem szL {n : Nat} (h : n ≤ 16000000) : n < sizeLine := Nat.lt_of_le_of_lt h (by decide)
section
variable {P : Program} {w : World} {K : PySem.W.Frag} {mg : Str → Option Value} {base : Heap}
abbrev s_name_of : Stmt := topS 15
theorem sc_name_of : FnScope ["literal"] ["literal"] (defScope s_name_of) := ⟨rfl, rfl, rfl, by decide +kernel, rfl, by decide +kernel, by decide +kernel⟩
def sp_name_of (K : PySem.W.Frag) : Sp := sp1 Tx (fun x => x.length ≤ 1000) fun x => Tx (nameOf x)
theorem ok_name_of {f : Addr} {fd : FuncData} (F : Fun K "name_of" "name_of" s_name_of f fd) : FnOk P w K mg base CX0 1 f fd ["literal"] (sp_name_of K) := by
  refine F.ok sc_name_of (fun vs H Q E h => ?_) (fun cdv A outer s H vs Q E hr h => ?_)
  · obtain ⟨x, M, v, rfl, _⟩ := h
    rfl
  · obtain ⟨x, M, v, rfl, mh, r1, hp, q⟩ := h
    have hu := hr.units
    refine ⟨_, (pss_one (ps_ret (pe_ifExp (pt_cmpR (op_eqP hu) (pe_slice sl_X (pv 0) po_none (po_some pe_int)) pe_str (nomark _)) (pe_slice sl_X (pv 0) (po_some pe_int) po_none) (pv 0)))), ?_⟩
    have hv : Gv (tVar 0) (start ["literal"] [v]) M (Tx x) := gv_var rfl r1
    refine s_ret mh (gv_if (gt_test (gv_eqT py_str inj_str (gv_cutS hv (sz1000 hp) (fun _ _ h => h) (fun _ _ h => ⟨1, rfl, h⟩)) (gv_c rfl) (by simp [PyData.depth]))) (fun hb => gv_is (gv_cutS hv (sz1000 hp) (fun _ _ h => ⟨1, rfl, h⟩) fun _ _ h => h) fun M' v h => ?_) fun hb => gv_is hv fun M' v h => ?_) q
    · show Tx (nameOf x) M' v
      rw [show nameOf x = _ from if_pos (by simpa using hb)]; exact h
    · show Tx (nameOf x) M' v
      rw [show nameOf x = _ from if_neg (by simpa using hb)]; exact h
abbrev s_opposite : Stmt := topS 16
theorem sc_opposite : FnScope ["literal"] ["literal"] (defScope s_opposite) := ⟨rfl, rfl, rfl, by decide +kernel, rfl, by decide +kernel, by decide +kernel⟩
def sp_opposite (K : PySem.W.Frag) : Sp := sp1 Tx (fun x => x.length ≤ 1000) fun x => Tx (opp x)
theorem ok_opposite {f : Addr} {fd : FuncData} (F : Fun K "opposite" "opposite" s_opposite f fd) : FnOk P w K mg base CX0 1 f fd ["literal"] (sp_opposite K) := by
  refine F.ok sc_opposite (fun vs H Q E h => ?_) (fun cdv A outer s H vs Q E hr h => ?_)
  · obtain ⟨x, M, v, rfl, _⟩ := h
    rfl
  · obtain ⟨x, M, v, rfl, mh, r1, hp, q⟩ := h
    have hu := hr.units
    refine ⟨_, (pss_one (ps_ret (pe_ifExp (pt_cmpR (op_eqP hu) (pe_slice sl_X (pv 0) po_none (po_some pe_int)) pe_str (nomark _)) (pe_slice sl_X (pv 0) (po_some pe_int) po_none) (pe_op op_addA pe_str (pv 0))))), ?_⟩
    have hv : Gv (tVar 0) (start ["literal"] [v]) M (Tx x) := gv_var rfl r1
    refine s_ret mh (gv_if (gt_test (gv_eqT py_str inj_str (gv_cutS hv (sz1000 hp) (fun _ _ h => h) (fun _ _ h => ⟨1, rfl, h⟩)) (gv_c rfl) (by simp [PyData.depth]))) (fun hb => gv_is (gv_cutS hv (sz1000 hp) (fun _ _ h => ⟨1, rfl, h⟩) fun _ _ h => h) fun M' v h => ?_) fun hb => gv_is (gv_addSt (gv_c rfl) hv (szM (by show 1 + x.length ≤ _; omega))) fun M' v h => ?_) q
    · show Tx (opp x) M' v
      rw [show opp x = _ from if_pos (by simpa using hb)]; exact h
    · show Tx (opp x) M' v
      rw [show opp x = _ from if_neg (by simpa using hb)]; exact h
abbrev s_is_list : Stmt := topS 12
theorem sc_is_list : FnScope ["thing"] ["thing"] (defScope s_is_list) := ⟨rfl, rfl, rfl, by decide +kernel, rfl, by decide +kernel, by decide +kernel⟩
def sp_is_list (K : PySem.W.Frag) : Sp := sp1 (Dd K) (fun _ => True) fun d => Bl (isListD d)
theorem ok_is_list {f : Addr} {fd : FuncData} (F : Fun K "is_list" "is_list" s_is_list f fd) (T : Bi mg) : FnOk P w K mg base CX0 1 f fd ["thing"] (sp_is_list K) := by
  refine F.ok sc_is_list (fun vs H Q E h => ?_) (fun cdv A outer s H vs Q E hr h => ?_)
  · obtain ⟨x, M, v, rfl, _⟩ := h
    rfl
  · obtain ⟨d, M, v, rfl, mh, r1, hp, q⟩ := h
    refine ⟨_, (pss_one (ps_ret (pe_callB call_isiT (by rfl) T.isinstance boot_isinstance (pa_cons (pv 0) (pa_cons (pe_tup (pa_cons (pe_bltn (v := .ty "list") (u := .type "list") (by rfl) T.list (by decide +kernel) rfl) (pa_cons (pe_bltn (v := .ty "tuple") (u := .type "tuple") (by rfl) T.tuple (by decide +kernel) rfl) pa_nil))) pa_nil))))), ?_⟩
    have hv : Gv (tVar 0) (start ["thing"] [v]) M (Dd K d) := gv_var rfl r1
    cases d with
    | list _ => exact s_ret mh (gv_isi2 (b := true) (c := false) hv (by simp only [tyN]; decide +kernel) (by simp only [tyN]; decide +kernel)) q
    | tuple _ => exact s_ret mh (gv_isi2 (b := false) (c := true) hv (by simp only [tyN]; decide +kernel) (by simp only [tyN]; decide +kernel)) q
    | _ => exact s_ret mh (gv_isi2 (b := false) (c := false) hv (by simp only [tyN]; decide +kernel) (by simp only [tyN]; decide +kernel)) q
abbrev s_is_literal : Stmt := topS 17
theorem sc_is_literal : FnScope ["thing", "names"] ["thing", "names"] (defScope s_is_literal) := ⟨rfl, rfl, rfl, by decide +kernel, rfl, by decide +kernel, by decide +kernel⟩
def sp_is_literal (K : PySem.W.Frag) : Sp := sp2 (Dd K) (SqR K Tx) (fun d _ => shortD d) fun d ns => Bl (isLit ns d)
theorem ok_is_literal {f : Addr} {fd : FuncData} (F : Fun K "is_literal" "is_literal" s_is_literal f fd) (T : Bi mg) (c_name_of : Cal P w K mg base 1 "name_of" ["literal"] (sp_name_of K)) : FnOk P w K mg base CX0 2 f fd ["thing", "names"] (sp_is_literal K) := by
  refine F.ok sc_is_literal (fun vs H Q E h => ?_) (fun cdv A outer s H vs Q E hr h => ?_)
  · obtain ⟨x, y, M, v, w, rfl, _⟩ := h
    rfl
  · obtain ⟨d, ns, M, v, w, rfl, mh, r1, r2, hp, q⟩ := h
    have hu := hr.units
    refine ⟨_, (pss_one (ps_ret (pe_and (pe_callB call_isi (by rfl) T.isinstance boot_isinstance (pa_cons (pv 0) (pa_cons (pe_bltn (v := .ty "str") (u := .type "str") (by rfl) T.str (by decide +kernel) rfl) pa_nil))) (pe_one (pe_cmpR (op_inA hu) (pe_f c_name_of (hr.mono (by decide)) (pa_cons (pv 0) pa_nil)) (pv 1) (by rfl)))))), ?_⟩
    have hv : Gv (tVar 0) (start ["thing", "names"] [v, w]) M (Dd K d) := gv_var rfl r1
    cases d with
    | str x =>
      cases r1
      exact s_ret mh (gv_is (gv_andV (gv_isi (b := true) hv (by simp only [tyN]; decide +kernel)) fun _ => gv_inA (K := K) (gv_call1 (gv_var rfl rfl) hp) (gv_var rfl (.inl r2))) fun M' v h => by simpa [isLit] using h) q
    | _ => exact s_ret mh (gv_andV (c := false) (gv_isi (b := false) hv (by simp only [tyN]; decide +kernel)) fun h => nomatch h) q
end
end My

set_option Elab.async false
set_option linter.all false
set_option maxRecDepth 100000
set_option maxHeartbeats 4000000
namespace My
open PySem PySem.Spec PyProof.Rows L2 L3
section
variable {P : Program} {w : World} {K : PySem.W.Frag} {mg : Str → Option Value} {base : Heap}
abbrev s_first_wrong : Stmt := topS 18
theorem sc_first_wrong : FnScope ["things", "names", "met", "index", "thing"] ["things", "names"] (defScope s_first_wrong) := ⟨rfl, rfl, rfl, by decide +kernel, rfl, by decide +kernel, by decide +kernel⟩
def sp_first_wrong (K : PySem.W.Frag) : Sp := sp2 (Dd K) (SqR K Tx) (fun d _ => shortL d) fun d ns => OpN (firstWrong ns d)
theorem lit_shape {ns : List Str} {d : PyData} (h : isLit ns d = true) : ∃ x, d = .str x ∧ nameOf x ∈ ns := by
  cases d with
  | str x => exact ⟨x, rfl, by simpa [isLit] using h⟩
  | _ => exact absurd h (by simp [isLit])
theorem ok_first_wrong {f : Addr} {fd : FuncData} (F : Fun K "first_wrong" "first_wrong" s_first_wrong f fd) (T : Bi mg) (c_is_list : Cal P w K mg base 1 "is_list" ["thing"] (sp_is_list K)) (c_name_of : Cal P w K mg base 1 "name_of" ["literal"] (sp_name_of K))
    (c_is_literal : Cal P w K mg base 2 "is_literal" ["thing", "names"] (sp_is_literal K)) : FnOk P w K mg base CX0 3 f fd ["things", "names"] (sp_first_wrong K) := by
  refine F.ok sc_first_wrong (fun vs H Q E h => ?_) (fun cdv A outer s H vs Q E hr h => ?_)
  · obtain ⟨x, y, M, v, w, rfl, _⟩ := h
    rfl
  · obtain ⟨d, ns, M, v, w, rfl, mh, r1, r2, hp, q⟩ := h
    have hu := hr.units
    refine ⟨_, (pss_cons (ps_if (pt_not (pt_val (pe_f c_is_list (hr.mono (by decide)) (pa_cons (pv 0) pa_nil)))) (pss_one (ps_ret pe_int)) pss_nil)
      (pss_cons (ps_set (i := 2) sc_first_wrong.nd rfl (by first | exact .inl rfl | exact .inr rfl) (pe_lst pa_nil))
      (pss_cons (ps_for PassesOwn.never (by rfl) (pi_en (by rfl) T.enumerate (pa_cons (pv 0) pa_nil)) (pg_tup (by rfl) (pgs_cons (pg_name (i := 3) sc_first_wrong.nd rfl (by first | exact .inl rfl | exact .inr rfl)) (pgs_cons (pg_name (i := 4) sc_first_wrong.nd rfl (by first | exact .inl rfl | exact .inr rfl)) pgs_nil))) (pss_cons (ps_if (PW.pt (pw_or (pt_not (pt_val (pe_f c_is_literal (hr.mono (by decide)) (pa_cons (pv 4) (pa_cons (pv 1) pa_nil))))) (pw_or1 (pt_cmpR (op_inA hu) (pe_f c_name_of (hr.mono (by decide)) (pa_cons (pv 4) pa_nil)) (pv 2) (by rfl))))) (pss_one (ps_ret (pv 3))) pss_nil)
      (pss_one (ps_expr (pe_bm PySem.F.plainAttrs_list PySem.F.slot_list_append PySem.F.type_list_append mt_append (pv 2) (pa_cons (pe_f c_name_of (hr.mono (by decide)) (pa_cons (pv 4) pa_nil)) pa_nil))))))
      (pss_one (ps_ret pe_non))))), ?_⟩
    refine q_if mh (gt_not (gt_B (gv_call1 (gv_var rfl r1) trivial))) (fun hb H1 hh1 => ?_) (fun hb H1 hh1 => ?_)
    all_goals have g1 := Gr.idle mh hh1
    · refine s_ret g1.mh (P := It' 0) (gv_c rfl) fun v M' H' g r => q v M' H' (g1.trans g) ?_
      have : firstWrong ns d = some 0 := by
        cases d with
        | list _ => simp [isListD] at hb
        | tuple _ => simp [isListD] at hb
        | _ => rfl
      show v = match firstWrong ns d with | none => V.non | some i => V.int (i : Nat)
      rw [this]
      exact r
    · obtain ⟨ds, sq, efw, hlen, hsh⟩ : ∃ ds, SqR K (Dd K) ds M v ∧ firstWrong ns d = fwGo ns ds [] 0 ∧ ds.length ≤ 1000000 ∧ ∀ d ∈ ds, shortD d := by
        cases d with
        | list ds => exact ⟨ds, dp_sqL r1, rfl, hp.1, hp.2⟩
        | tuple ds => exact ⟨ds, dp_sqT r1, rfl, hp.1, hp.2⟩
        | _ => simp [isListD] at hb
      refine q_asgL g1.mh gl_nil fun p vs M2 H2 g2 h0 m0 hp2 hv => ?_
      subst hv
      have g02 := g1.trans g2
      refine q_forE (R1 := Dd K) (xs := ds) g2.mh (gv_var rfl (Mon.mono g02.mm sq))
        (fun M1' i σ' M' H' => ∃ y3 y4, Gr M H M' H' ∧ Same M1' M' ∧ Same M M' ∧ Own H M' H' p ((((ds.take i).map nameD)).map V.str) ∧ σ' = [some v, some w, some (.ref p), y3, y4] ∧ fwGo ns ds [] 0 = fwGo ns (ds.drop i) ((ds.take i).map nameD) i)
        (fun M3 H3 g3 => ⟨none, none, g02.trans g3, Same.refl _, (g02.trans g3).mm, Own.step ⟨g1.hh.free h0, m0, hp2⟩ g3, rfl, rfl⟩)
        (fun M3 i σ' M' H' ⟨_, _, g, s1, _⟩ => ⟨s1, g.mh⟩) ?_ ?_
      · rintro M3 i x v' σ' M' H' H'' sM hx ⟨y3, y4, g, s1, s2, ow, rfl, efw2⟩ gE rx
        have hxm : x ∈ ds := List.mem_of_getElem? hx
        have hil : i < ds.length := (List.getElem?_eq_some_iff.mp hx).1
        have g' := g.trans gE
        have ow' := ow.step gE
        have r2' : SqR K Tx ns M' w := Mon.mono s2 r2
        have et : ds.take (i + 1) = ds.take i ++ [x] := by rw [List.take_add_one, hx]; rfl
        have ed : ds.drop i = x :: ds.drop (i + 1) := by rw [List.drop_eq_getElem_cons hil]; congr 1; exact (List.getElem?_eq_some_iff.mp hx).2
        have up := ow'.up
        have pd := pd_of_tx (M := M') ((ds.take i).map nameD)
        refine q_if (ow'.fr g'.mh) (gt_or (c := decide (nameD x ∈ (ds.take i).map nameD)) (gt_not (gt_B (gv_call2 (R1 := Dd K) (R2 := SqR K Tx) (gv_var rfl (Mon.mono up rx)) (gv_var rfl (Mon.mono up r2')) (hsh x hxm)))) fun hl => ?_) (fun hb H4 hh4 => ?_) (fun hb H4 hh4 => ?_)
        · obtain ⟨y, rfl, _⟩ := lit_shape (d := x) (ns := ns) (by simpa using hl)
          cases rx
          exact gt_is (gt_test (gv_inA (K := K) (gv_call1 (gv_var rfl rfl) (hsh _ hxm)) (gv_var rfl (.inl (.inl (ow'.lst pd)))))) (by simp [nameD])
        · refine s_ret (P := It' (i : Nat)) (g'.mh.trans hh4) (gv_var rfl rfl) fun v5 M5 H5 g5 r5 => q v5 M5 H5 ((g'.trans (.idle g'.mh hh4)).trans g5) ?_
          show v5 = match firstWrong ns d with | none => V.non | some i => V.int (i : Nat)
          rw [efw, efw2, ed, fwGo, if_pos (by simpa using hb)]
          exact r5
        · obtain ⟨hb1, hb2⟩ : isLit ns x = true ∧ ¬ nameD x ∈ (ds.take i).map nameD := by simpa using hb
          obtain ⟨y, rfl, _⟩ := lit_shape hb1
          cases rx
          have g4 := g'.trans (.idle g'.mh hh4)
          have ow4 := ow'.idle hh4
          refine s_app (P := Tx (nameOf y)) g4.mh rfl ow4.h (szL (by simp; omega)) (gv_call1 (gv_var rfl rfl) (hsh _ hxm)) fun v5 M5 H5 g5 r5 => ?_
          cases r5
          have ow5 := ow4.step g5
          refine ⟨M5, _, _, (g4.trans g5).mut ow5.h0 ow5.m, s1.trans g5.mm, s2.trans g5.mm, ?_, rfl, ?_⟩
          · rw [et, List.map_append, List.map_append]
            exact ow5.put
          · rw [efw2, ed, fwGo, if_neg (by simpa using hb), et, List.map_append]
            rfl
      · rintro M3 σ' M' H' sM ⟨y3, y4, g, s1, s2, ow, rfl, efw2⟩
        refine s_ret g.mh (P := fun _ v => v = .non) (gv_c rfl) fun v M' H' g3 r => q v M' H' (g.trans g3) ?_
        show v = match firstWrong ns d with | none => V.non | some i => V.int (i : Nat)
        rw [efw, efw2, List.drop_length]
        exact r
end
end My

set_option Elab.async false
set_option linter.all false
set_option maxRecDepth 100000
set_option maxHeartbeats 4000000
namespace My
open PySem PySem.Spec PyProof.Rows L2 L3
section
variable {P : Program} {w : World} {K : PySem.W.Frag} {mg : Str → Option Value} {base : Heap}
def Shorts (ns : List Str) : Prop := ns.length ≤ 1000 ∧ ∀ n ∈ ns, n.length ≤ 900
abbrev s_ascending : Stmt := topS 19
theorem sc_ascending : FnScope ["literals", "names", "found", "name", "literal"] ["literals", "names"] (defScope s_ascending) := ⟨rfl, rfl, rfl, by decide +kernel, rfl, by decide +kernel, by decide +kernel⟩
def sp_ascending (K : PySem.W.Frag) : Sp := sp2 (CtR K) (SqR K Tx) (fun _ ns => Shorts ns) fun ls ns => TT (asc ls ns)
theorem asc_len (ls : List Str) : ∀ ns : List Str, (asc ls ns).length ≤ 2 * ns.length
  | [] => Nat.le_refl _
  | n :: ns => by
    have ih := asc_len ls ns
    have h2 := List.length_filter_le (fun l => decide (l ∈ ls)) [n, ("-" : Str) ++ n]
    unfold asc at ih ⊢
    rw [List.flatMap_cons, List.length_append, List.length_cons]
    simp only [List.length_cons, List.length_nil] at h2
    omega
theorem ok_ascending {f : Addr} {fd : FuncData} (F : Fun K "ascending" "ascending" s_ascending f fd) (T : Bi mg) : FnOk P w K mg base CX0 1 f fd ["literals", "names"] (sp_ascending K) := by
  refine F.ok sc_ascending (fun vs H Q E h => ?_) (fun cdv A outer s H vs Q E hr h => ?_)
  · obtain ⟨x, y, M, v, w, rfl, _⟩ := h
    rfl
  · obtain ⟨ls, ns, M, v, w, rfl, mh, r1, r2, hp, q⟩ := h
    have hu := hr.units
    refine ⟨_, (pss_cons (ps_set (i := 2) sc_ascending.nd rfl (by first | exact .inl rfl | exact .inr rfl) (pe_lst pa_nil))
      (pss_cons (ps_for PassesOwn.never (by rfl) (pi_sq (pv 1)) (pg_name (i := 3) sc_ascending.nd rfl (by first | exact .inl rfl | exact .inr rfl)) (pss_one (ps_expr (pe_bm PySem.F.plainAttrs_list PySem.F.slot_list_extend PySem.F.type_list_extend mt_extend (pv 2) (pa_cons (pe_lc (own := [("literal", 4)]) (g := (gName 4)) (tt := (tTest (tOp (rInA K false) (tVar 4) (tVar 0)))) (te := (tVar 4)) (by rfl) sc_ascending.nd (pi_sq (pe_tup (pa_cons (pv 3) (pa_cons (pe_op op_addA pe_str (pv 3)) pa_nil)))) (blkOk_by (by rfl)) (fun _ _ _ _ _ => (pg_name (i := 4) sc_ascending.nd rfl (by first | exact .inl rfl | exact .inr rfl))) (fun _ _ _ _ _ => (pts_one (pt_cmpR (op_inA hu) (pv 4) (pv 0) (by rfl)))) (fun _ _ _ _ _ => (pv 4))) pa_nil)))))
      (pss_one (ps_ret (pe_callTy call_tupA (by rfl) T.tuple boot_tuple (pa_cons (pv 2) pa_nil)))))), ?_⟩
    refine q_asgL mh gl_nil fun p vs M2 H2 g2 h0 m0 hp2 hv => ?_
    subst hv
    refine q_for (R1 := Tx) (xs := ns) g2.mh (gv_var rfl (Mon.mono g2.mm r2))
      (fun M1' i σ' M' H' => ∃ y3 y4, Gr M H M' H' ∧ Same M1' M' ∧ Same M M' ∧ Own H M' H' p ((asc ls (ns.take i)).map V.str) ∧ σ' = [some v, some w, some (.ref p), y3, y4])
      (fun M3 H3 g3 => ⟨none, none, g2.trans g3, Same.refl _, (g2.trans g3).mm, Own.step ⟨h0, m0, hp2⟩ g3, rfl⟩)
      (fun M3 i σ' M' H' ⟨_, _, g, s1, _⟩ => ⟨s1, g.mh⟩) ?_ ?_
    · rintro M3 i n v' σ' M' H' sM hx ⟨y3, y4, g, s1, s2, ow, rfl⟩ rx
      cases rx
      have hn : n.length ≤ 900 := hp.2 n (List.mem_of_getElem? hx)
      have hil : i < ns.length := (List.getElem?_eq_some_iff.mp hx).1
      have et : ns.take (i + 1) = ns.take i ++ [n] := by rw [List.take_add_one, hx]; rfl
      refine s_ext g.mh rfl ow.h (gl_lc (R := Tx) (S := Tx) (gv_is (gv_tup2 (K := K) (gv_var rfl rfl) (gv_addSt (gv_c rfl) (gv_var rfl rfl) (szM (by show 1 + n.length ≤ _; omega)))) fun _ _ h => .inr h) (by show 2 ≤ sizeLine; decide) (fun l => decide (l ∈ ls)) id
        (fun l _ M1 vl sm hl => gt_is (gt_test (gv_inA (K := K) (gv_var rfl hl) (gv_var rfl (Mon.mono (s2.trans sm) r1)))) (by simp)) (fun l _ _ M1 vl sm hl => gv_var rfl hl)) (fun M4 ws h => ?_) fun ws M4 H4 g4 h => ?_
      · have l1 := h.length
        have l2 := asc_len ls (ns.take i)
        have l3 := List.length_filter_le (fun l => decide (l ∈ ls)) [n, ("-" : Str) ++ n]
        have l4 := hp.1
        rw [List.length_map] at l1 ⊢
        rw [List.length_take] at l2
        simp only [List.length_cons, List.length_nil] at l3
        exact szM (by omega)
      · have e4 := pd_tx h
        subst e4
        have ow4 := ow.step g4
        refine ⟨M4, _, _, (g.trans g4).mut ow4.h0 ow4.m, s1.trans g4.mm, s2.trans g4.mm, ?_, rfl⟩
        have e5 : asc ls (ns.take (i + 1)) = asc ls (ns.take i) ++ ([n, ("-" : Str) ++ n].filter fun l => decide (l ∈ ls)).map id := by
          rw [et, List.map_id]; unfold asc; rw [List.flatMap_append]; simp
        rw [e5, List.map_append]
        exact ow4.put
    · rintro M3 σ' M' H' sM ⟨y3, y4, g, s1, s2, ow, rfl⟩
      rw [List.take_length] at ow
      exact s_retTup g.mh rfl ow.h fun l nl => q _ _ _ (g.trans (.new g.mh nl)) (TT.new _)
end
end My

set_option Elab.async false
set_option linter.all false
set_option maxRecDepth 100000
set_option maxHeartbeats 4000000
namespace My
open PySem PySem.Spec PyProof.Rows L2 L3
def g_LETTERS : Str := "abcdefghijklmnopqrstuvwxyz"
structure Gb (mg : Str → Option Value) : Prop extends Bi mg where
  g_LETTERS : ∃ t, mg "LETTERS" = some (.str My.g_LETTERS t)
def isNm (x : Str) : Bool := decide (1 ≤ x.length) && decide (x.length ≤ 8) && x.cps.toList.all fun c => decide (c ∈ g_LETTERS.cps.toList)
def isNmD : PyData → Bool
  | .str x => isNm x | _ => false
section
variable {P : Program} {w : World} {K : PySem.W.Frag} {mg : Str → Option Value} {base : Heap}
abbrev s_is_name : Stmt := topS 13
theorem sc_is_name : FnScope ["thing", "sign"] ["thing"] (defScope s_is_name) := ⟨rfl, rfl, rfl, by decide +kernel, rfl, by decide +kernel, by decide +kernel⟩
def sp_is_name (K : PySem.W.Frag) : Sp := sp1 (Dd K) (fun d => shortD d) fun d => Bl (isNmD d)
theorem ok_is_name {f : Addr} {fd : FuncData} (F : Fun K "is_name" "is_name" s_is_name f fd) (T : Gb mg) : FnOk P w K mg base CX0 1 f fd ["thing"] (sp_is_name K) := by
  refine F.ok sc_is_name (fun vs H Q E h => ?_) (fun cdv A outer s H vs Q E hr h => ?_)
  · obtain ⟨x, M, v, rfl, _⟩ := h
    rfl
  · obtain ⟨d, M, v, rfl, mh, r1, hp, q⟩ := h
    have hu := hr.units
    obtain ⟨tk, hL⟩ := T.g_LETTERS
    refine ⟨_, (pss_one (ps_ret (pe_and (pe_callB call_isi (by rfl) T.isinstance boot_isinstance (pa_cons (pv 0) (pa_cons (pe_bltn (v := .ty "str") (u := .type "str") (by rfl) T.str (by decide +kernel) rfl) pa_nil))) (pe_and (pe_chain op_le op_le pe_int (pe_callB call_lenA (by rfl) T.len boot_len (pa_cons (pv 0) pa_nil)) pe_int) (pe_one (pe_callB (cr_all rfl) (by rfl) T.all boot_all (pa_cons (pe_lc (own := [("sign", 1)]) (g := (gName 1)) (tt := tYes) (te := (tOp (rInA K false) (tVar 1) (tC (.str g_LETTERS)))) (by rfl) sc_is_name.nd (pi_str (pv 0)) (blkOk_by (by rfl)) (fun _ _ _ _ _ => (pg_name (i := 1) sc_is_name.nd rfl (by first | exact .inl rfl | exact .inr rfl))) (fun _ _ _ _ _ => pts_nil) (fun _ _ _ _ _ => (pe_cmpR (op_inA hu) (pv 1) (pe_glob (by rfl) hL ⟨_, rfl⟩) (by rfl)))) pa_nil))))))), ?_⟩
    have hv : Gv (tVar 0) (start ["thing", "sign"] [v]) M (Dd K d) := gv_var rfl r1
    cases d with
    | str x =>
      cases r1
      have hx : Gv (tVar 0) (start ["thing", "sign"] [.str x]) M (Tx x) := gv_var rfl rfl
      refine s_ret mh (gv_is (gv_andV (gv_isi (b := true) hv (by simp only [tyN]; decide +kernel)) fun _ => gv_andV (gv_chain (gv_c rfl) (gv_lenS (K := K) hx (sz1000 hp)) (gv_c rfl)) fun hb => gv_all (K := K)
        (gl_m1 (S := Bl) (gi_str hx) ?_ (fun c => decide (c ∈ g_LETTERS.cps.toList)) fun c _ M1 v sm r => gv_is (gv_sgn (K := K) (c := c) (gv_var rfl r) (gv_c rfl)) fun M' v h => by simpa using h)) fun M' v h => ?_) q
      · exact sz1000 (by rw [Array.length_toList]; exact hp)
      · show v = .bl (isNm x)
        rw [show v = _ from h]
        have e1 : ∀ n : Nat, decide ((1 : Int) ≤ (n : Int)) = decide (1 ≤ n) := fun n => by simp only [decide_eq_decide]; omega
        have e2 : ∀ n : Nat, decide ((n : Int) ≤ 8) = decide (n ≤ 8) := fun n => by simp only [decide_eq_decide]; omega
        simp only [isNm, List.all_map, Bool.true_and, e1, e2]
        rfl
    | _ => exact s_ret mh (gv_andV (c := false) (gv_isi (b := false) hv (by simp only [tyN]; decide +kernel)) fun h => nomatch h) q
abbrev s_checked_names : Stmt := topS 14
theorem sc_checked_names : FnScope ["things", "known", "found", "index", "thing"] ["things", "known"] (defScope s_checked_names) := ⟨rfl, rfl, rfl, by decide +kernel, rfl, by decide +kernel, by decide +kernel⟩
/-- names, no one twice, none known -/
def NamesOk (xs known : List Str) : Prop := xs.Nodup ∧ (∀ x ∈ xs, isNm x = true ∧ x ∉ known) ∧ xs.length ≤ 1000
theorem isNm_len {x : Str} (h : isNm x = true) : x.length ≤ 8 := by
  simp only [isNm, Bool.and_eq_true, decide_eq_true_eq] at h
  exact h.1.2
def sp_checked_names (K : PySem.W.Frag) : Sp := sp2 (SqR K Tx) (SqR K Tx) (fun xs known => NamesOk xs known) fun xs _ => TT xs
theorem ok_checked_names {f : Addr} {fd : FuncData} (F : Fun K "checked_names" "checked_names" s_checked_names f fd) (T : Gb mg) (c_is_name : Cal P w K mg base 1 "is_name" ["thing"] (sp_is_name K)) : FnOk P w K mg base CX0 2 f fd ["things", "known"] (sp_checked_names K) := by
  refine F.ok sc_checked_names (fun vs H Q E h => ?_) (fun cdv A outer s H vs Q E hr h => ?_)
  · obtain ⟨x, y, M, v, w, rfl, _⟩ := h
    rfl
  · obtain ⟨xs, kn, M, v, w, rfl, mh, r1, r2, hp, q⟩ := h
    have hu := hr.units
    refine ⟨_, (pss_cons (ps_set (i := 2) sc_checked_names.nd rfl (by first | exact .inl rfl | exact .inr rfl) (pe_lst pa_nil))
      (pss_cons (ps_for PassesOwn.never (by rfl) (pi_en (by rfl) T.enumerate (pa_cons (pv 0) pa_nil)) (pg_tup (by rfl) (pgs_cons (pg_name (i := 3) sc_checked_names.nd rfl (by first | exact .inl rfl | exact .inr rfl)) (pgs_cons (pg_name (i := 4) sc_checked_names.nd rfl (by first | exact .inl rfl | exact .inr rfl)) pgs_nil))) (pss_cons (ps_if (PW.pt (pw_or (pt_not (pt_val (pe_f c_is_name (hr.mono (by decide)) (pa_cons (pv 4) pa_nil)))) (pw_or (pt_cmpR (op_inA hu) (pv 4) (pv 2) (by rfl)) (pw_or1 (pt_cmpR (op_inA hu) (pv 4) (pv 1) (by rfl)))))) (pss_one ps_never) pss_nil)
      (pss_one (ps_expr (pe_bm PySem.F.plainAttrs_list PySem.F.slot_list_append PySem.F.type_list_append mt_append (pv 2) (pa_cons (pv 4) pa_nil))))))
      (pss_one (ps_ret (pe_callTy call_tupA (by rfl) T.tuple boot_tuple (pa_cons (pv 2) pa_nil)))))), ?_⟩
    obtain ⟨nd, ok, hl⟩ := hp
    refine q_asgL mh gl_nil fun p vs M2 H2 g2 h0 m0 hp2 hv => ?_
    subst hv
    refine q_forE (R1 := Tx) (xs := xs) g2.mh (gv_var rfl (Mon.mono g2.mm r1))
      (fun M1' i σ' M' H' => ∃ y3 y4, Gr M H M' H' ∧ Same M1' M' ∧ Same M M' ∧ Own H M' H' p ((xs.take i).map V.str) ∧ σ' = [some v, some w, some (.ref p), y3, y4])
      (fun M3 H3 g3 => ⟨none, none, g2.trans g3, Same.refl _, (g2.trans g3).mm, Own.step ⟨h0, m0, hp2⟩ g3, rfl⟩)
      (fun M3 i σ' M' H' ⟨_, _, g, s1, _⟩ => ⟨s1, g.mh⟩) ?_ ?_
    · rintro M3 i x v' σ' M' H' H'' sM hx ⟨y3, y4, g, s1, s2, ow, rfl⟩ gE rx
      cases rx
      have hxm : x ∈ xs := List.mem_of_getElem? hx
      have hil : i < xs.length := (List.getElem?_eq_some_iff.mp hx).1
      have et : xs.take (i + 1) = xs.take i ++ [x] := by rw [List.take_add_one, hx]; rfl
      have hnt : x ∉ xs.take i := fun hm => by
        obtain ⟨k, hk, ek⟩ := List.mem_take_iff_getElem.mp hm
        have e2 := (List.getElem?_eq_some_iff.mp hx).2
        have := (List.getElem_inj nd).mp (ek.trans e2.symm)
        omega
      have g' := g.trans gE
      have ow' := ow.step gE
      have up := ow'.up
      refine q_if (ow'.fr g'.mh) (b := false) (gt_is (gt_or (c := false) (gt_not (gt_B (gv_call1 (R1 := Dd K) (x := .str x) (gv_var rfl (.str x)) (Nat.le_trans (isNm_len (ok x hxm).1) (by decide))))) fun _ => gt_is (gt_or (c := false)
          (gt_test (gv_inA (K := K) (gv_var rfl rfl) (gv_var rfl (.inl (.inl (ow'.lst (pd_of_tx _))))))) fun _ => gt_is (gt_test (gv_inA (K := K) (gv_var rfl rfl) (gv_var rfl (.inl (Mon.mono (s2.trans up) r2))))) (by simp [(ok x hxm).2])) (by simp [hnt])) (by simp [isNmD, (ok x hxm).1]))
        (fun hb => nomatch hb) (fun _ H4 hh4 => ?_)
      have g4 := g'.trans (.idle g'.mh hh4)
      have ow4 := ow'.idle hh4
      refine s_app (P := Tx x) g4.mh rfl ow4.h (szL (by simp; omega)) (gv_var rfl rfl) fun v5 M5 H5 g5 r5 => ?_
      cases r5
      have ow5 := ow4.step g5
      refine ⟨M5, _, _, (g4.trans g5).mut ow5.h0 ow5.m, s1.trans g5.mm, s2.trans g5.mm, ?_, rfl⟩
      rw [et, List.map_append]
      exact ow5.put
    · rintro M3 σ' M' H' sM ⟨y3, y4, g, s1, s2, ow, rfl⟩
      rw [List.take_length] at ow
      exact s_retTup g.mh rfl ow.h fun l nl => q _ _ _ (g.trans (.new g.mh nl)) (TT.new _)
end
end My

set_option Elab.async false
set_option linter.all false
set_option maxRecDepth 100000
set_option maxHeartbeats 4000000
namespace My
open PySem PySem.Spec PyProof.Rows L2 L3
/-- a code: signs, helpers, clauses -/
structure CodeD where
  signs : List Str
  helpers : List Str
  clauses : List (List Str)
def CodeD.names (c : CodeD) : List Str := c.signs ++ c.helpers
def codeF (va vb vn vc : V) : List (Str × V) := putF "clause_row" vc (putF "names" vn (putF "helper_row" vb (putF "sign_row" va [])))
def CodeR (C : Addr) : Rl CodeD := fun c M v => ∃ a dx va vb vn vc, v = .ref a ∧ M a = some (.ins C dx (codeF va vb vn vc)) ∧ TT c.signs M va ∧ TT c.helpers M vb ∧ TT c.names M vn ∧ TuR TT c.clauses M vc
instance {C : Addr} : Mon (CodeR C) := ⟨fun e ⟨a, dx, va, vb, vn, vc, h1, h2, h3, h4, h5, h6⟩ => ⟨a, dx, va, vb, vn, vc, h1, e _ _ h2, Mon.mono e h3, Mon.mono e h4, Mon.mono e h5, Mon.mono e h6⟩⟩
/-- the class as the top has made it -/
structure CodeT (K : PySem.W.Frag) (mg : Str → Option Value) (C : Addr) : Prop where
  cl : Cls K C
  nS : NoAttr K C "sign_row"
  nH : NoAttr K C "helper_row"
  nN : NoAttr K C "names"
  nC : NoAttr K C "clause_row"
def mkCode (ss hs : List Str) (cs : List (List Str)) : CodeD := ⟨ss, hs, once (cs.map fun c => asc c (ss ++ hs))⟩
theorem codeF_sign (va vb vn vc : V) : (codeF va vb vn vc).lookup ("sign_row" : Str) = some va := by
  unfold codeF
  rw [lookup_putF, if_neg (by decide +kernel), lookup_putF, if_neg (by decide +kernel), lookup_putF, if_neg (by decide +kernel), lookup_putF, if_pos rfl]
theorem codeF_helper (va vb vn vc : V) : (codeF va vb vn vc).lookup ("helper_row" : Str) = some vb := by
  unfold codeF
  rw [lookup_putF, if_neg (by decide +kernel), lookup_putF, if_neg (by decide +kernel), lookup_putF, if_pos rfl]
theorem codeF_names (va vb vn vc : V) : (codeF va vb vn vc).lookup ("names" : Str) = some vn := by
  unfold codeF
  rw [lookup_putF, if_neg (by decide +kernel), lookup_putF, if_pos rfl]
theorem codeF_clause (va vb vn vc : V) : (codeF va vb vn vc).lookup ("clause_row" : Str) = some vc := by
  unfold codeF
  rw [lookup_putF, if_pos rfl]
section
variable {K : PySem.W.Frag} {mg : Str → Option Value} {σ : Sl} {M : Hp} {te : TE} {C : Addr} {c : CodeD}
theorem gv_sign (T : CodeT K mg C) (h : Gv te σ M (CodeR C c)) : Gv (tFld K te "sign_row") σ M (TT c.signs) := gv_fld h fun M' v ⟨a, dx, va, vb, vn, vc, h1, h2, h3, h4, h5, h6⟩ => ⟨a, C, dx, _, va, h1, h2, T.cl, T.nS, codeF_sign .., h3⟩
theorem gv_helper (T : CodeT K mg C) (h : Gv te σ M (CodeR C c)) : Gv (tFld K te "helper_row") σ M (TT c.helpers) := gv_fld h fun M' v ⟨a, dx, va, vb, vn, vc, h1, h2, h3, h4, h5, h6⟩ => ⟨a, C, dx, _, vb, h1, h2, T.cl, T.nH, codeF_helper .., h4⟩
theorem gv_names (T : CodeT K mg C) (h : Gv te σ M (CodeR C c)) : Gv (tFld K te "names") σ M (TT c.names) := gv_fld h fun M' v ⟨a, dx, va, vb, vn, vc, h1, h2, h3, h4, h5, h6⟩ => ⟨a, C, dx, _, vn, h1, h2, T.cl, T.nN, codeF_names .., h5⟩
theorem gv_clause (T : CodeT K mg C) (h : Gv te σ M (CodeR C c)) : Gv (tFld K te "clause_row") σ M (TuR TT c.clauses) := gv_fld h fun M' v ⟨a, dx, va, vb, vn, vc, h1, h2, h3, h4, h5, h6⟩ => ⟨a, C, dx, _, vc, h1, h2, T.cl, T.nC, codeF_clause .., h6⟩
end
section
variable {P : Program} {w : World} {K : PySem.W.Frag} {mg : Str → Option Value} {base : Heap}
def ClOk (ns c : List Str) : Prop := fwGo ns (c.map PyData.str) [] 0 = none ∧ c.length ≤ 1000000 ∧ ∀ l ∈ c, l.length ≤ 1000
theorem cl_d {ns c : List Str} {M : Hp} {v : V} (h : SqR K Tx c M v) (ok : ClOk ns c) : ∃ d, Dp K M v d ∧ shortL d ∧ firstWrong ns d = none := by
  have hs : ∀ d ∈ c.map PyData.str, shortD d := fun d hd => by
    obtain ⟨l, hl, rfl⟩ := List.mem_map.mp hd
    exact ok.2.2 l hl
  rcases h with h | h
  · exact ⟨_, py_lst py_str _ _ _ h, ⟨by rw [List.length_map]; exact ok.2.1, hs⟩, ok.1⟩
  · exact ⟨_, py_tup py_str _ _ _ h, ⟨by rw [List.length_map]; exact ok.2.1, hs⟩, ok.1⟩
abbrev s_checked_clauses : Stmt := topS 26
theorem sc_checked_clauses : FnScope ["clauses", "names", "found", "index", "thing"] ["clauses", "names"] (defScope s_checked_clauses) := ⟨rfl, rfl, rfl, by decide +kernel, rfl, by decide +kernel, by decide +kernel⟩
def sp_checked_clauses (K : PySem.W.Frag) : Sp := sl2 (SqR K (SqR K Tx)) (SqR K Tx) (fun cs ns => Shorts ns ∧ cs.length ≤ 1000000 ∧ ∀ c ∈ cs, ClOk ns c) fun cs ns M ws => Pd TT M (cs.map fun c => asc c ns) ws
theorem ok_checked_clauses {f : Addr} {fd : FuncData} (F : Fun K "checked_clauses" "checked_clauses" s_checked_clauses f fd) (T : Gb mg) (c_first_wrong : Cal P w K mg base 3 "first_wrong" ["things", "names"] (sp_first_wrong K)) (c_ascending : Cal P w K mg base 1 "ascending" ["literals", "names"] (sp_ascending K)) :
    FnOk P w K mg base CX0 4 f fd ["clauses", "names"] (sp_checked_clauses K) := by
  refine F.ok sc_checked_clauses (fun vs H Q E h => ?_) (fun cdv A outer s H vs Q E hr h => ?_)
  · obtain ⟨x, y, M, v, w, rfl, _⟩ := h
    rfl
  · obtain ⟨cs, ns, M, v, w, rfl, mh, r1, r2, ⟨hsh, hcl, hok⟩, q⟩ := h
    have hu := hr.units
    refine ⟨_, (pss_cons (ps_set (i := 2) sc_checked_clauses.nd rfl (by first | exact .inl rfl | exact .inr rfl) (pe_lst pa_nil))
      (pss_cons (ps_for PassesOwn.never (by rfl) (pi_en (by rfl) T.enumerate (pa_cons (pv 0) pa_nil)) (pg_tup (by rfl) (pgs_cons (pg_name (i := 3) sc_checked_clauses.nd rfl (by first | exact .inl rfl | exact .inr rfl)) (pgs_cons (pg_name (i := 4) sc_checked_clauses.nd rfl (by first | exact .inl rfl | exact .inr rfl)) pgs_nil))) (pss_cons (ps_if (pt_cmp (pc_notN (pe_f c_first_wrong (hr.mono (by decide)) (pa_cons (pv 4) (pa_cons (pv 1) pa_nil))))) (pss_one ps_never) pss_nil)
      (pss_one (ps_expr (pe_bm PySem.F.plainAttrs_list PySem.F.slot_list_append PySem.F.type_list_append mt_append (pv 2) (pa_cons (pe_f c_ascending (hr.mono (by decide)) (pa_cons (pv 4) (pa_cons (pv 1) pa_nil))) pa_nil))))))
      (pss_one (ps_ret (pv 2))))), ?_⟩
    refine q_asgL mh gl_nil fun p vs M2 H2 g2 h0 m0 hp2 hv => ?_
    subst hv
    refine q_forE (R1 := SqR K Tx) (xs := cs) g2.mh (gv_var rfl (Mon.mono g2.mm r1))
      (fun M1' i σ' M' H' => ∃ y3 y4 ws, Gr M H M' H' ∧ Same M1' M' ∧ Same M M' ∧ Own H M' H' p ws ∧ Pd TT M' ((cs.take i).map fun c => asc c ns) ws ∧ σ' = [some v, some w, some (.ref p), y3, y4])
      (fun M3 H3 g3 => ⟨none, none, [], g2.trans g3, Same.refl _, (g2.trans g3).mm, Own.step ⟨h0, m0, hp2⟩ g3, .nil, rfl⟩)
      (fun M3 i σ' M' H' ⟨_, _, _, g, s1, _⟩ => ⟨s1, g.mh⟩) ?_ ?_
    · rintro M3 i c v' σ' M' H' H'' sM hx ⟨y3, y4, ws, g, s1, s2, ow, hpd, rfl⟩ gE rx
      have hxm : c ∈ cs := List.mem_of_getElem? hx
      have hil : i < cs.length := (List.getElem?_eq_some_iff.mp hx).1
      have et : cs.take (i + 1) = cs.take i ++ [c] := by rw [List.take_add_one, hx]; rfl
      obtain ⟨d, hd, hshd, hfw⟩ := cl_d rx (hok c hxm)
      have g' := g.trans gE
      have ow' := ow.step gE
      have r2' : SqR K Tx ns M' w := Mon.mono s2 r2
      refine q_if g'.mh (b := false) (gt_B (gv_is (gv_notN (b := true) (gv_call2 (R1 := Dd K) (R2 := SqR K Tx) (gv_var rfl hd) (gv_var rfl r2') hshd) fun M4 v4 h4 => ?_) fun _ _ h => h)) (fun hb => nomatch hb) (fun _ H4 hh4 => ?_)
      · have h4' : v4 = match firstWrong ns d with | none => V.non | some i => V.int (i : Nat) := h4
        rw [hfw] at h4'
        rw [h4']
        rfl
      · have g4 := g'.trans (.idle g'.mh hh4)
        have ow4 := ow'.idle hh4
        have hwl : ws.length = i := by rw [← hpd.length, List.length_map, List.length_take]; omega
        refine s_app (P := TT (asc c ns)) g4.mh rfl ow4.h (szL (by omega)) (gv_call2 (R1 := CtR K) (R2 := SqR K Tx) (gv_var rfl (.inl rx)) (gv_var rfl r2') hsh) fun v5 M5 H5 g5 r5 => ?_
        have ow5 := ow4.step g5
        refine ⟨M5, _, _, ws ++ [v5], (g4.trans g5).mut ow5.h0 ow5.m, s1.trans g5.mm, s2.trans g5.mm, ow5.put, ?_, rfl⟩
        rw [et, List.map_append]
        exact pd_app (hpd.mono g5.mm) (.cons r5 .nil)
    · rintro M3 σ' M' H' sM ⟨y3, y4, ws, g, s1, s2, ow, hpd, rfl⟩
      rw [List.take_length] at hpd
      exact ⟨.ref p, rfl, q p ws M' H' g ow.h0 ow.m ow.h hpd⟩
abbrev s_Code_init : Stmt := inClass (topS 27) 0
theorem sc_Code_init : FnScope ["self", "signs", "clauses", "helpers", "clause"] ["self", "signs", "clauses", "helpers"] (defScope s_Code_init) := ⟨rfl, rfl, rfl, by decide +kernel, rfl, by decide +kernel, by decide +kernel⟩
/-- names and clauses that a code takes -/
structure CodeOk (ss hs : List Str) (cs : List (List Str)) : Prop where
  s : NamesOk ss []
  h : NamesOk hs ss
  n : cs.length ≤ 1000000
  c : ∀ c ∈ cs, ClOk (ss ++ hs) c
  k : (ss ++ hs).length ≤ 1000
def sp_Code_init (K : PySem.W.Frag) (C : Addr) : Sp := fun vs H Q _ => ∃ ss hs cs M Hb x dx v1 v2 v3, vs = [.ref x, v1, v2, v3] ∧ Gr M Hb M H ∧ Hb x = none ∧ M x = none ∧ H x = some (.ins C dx []) ∧
  SqR K Tx ss M v1 ∧ SqR K (SqR K Tx) cs M v2 ∧ SqR K Tx hs M v3 ∧ CodeOk ss hs cs ∧ ∀ M' H', Gr M Hb M' H' → CodeR C (mkCode ss hs cs) M' (.ref x) → Q .non H'
theorem ok_Code_init {f C : Addr} {fd : FuncData} {dvs : List V} (F : FunD K "__init__" "Code.__init__" (defArgs s_Code_init) (defBody s_Code_init) (defScope s_Code_init) dvs [] f fd) (T : Gb mg) (TC : CodeT K mg C) (c_checked_names : Cal P w K mg base 2 "checked_names" ["things", "known"] (sp_checked_names K)) (c_checked_clauses : Cal P w K mg base 4 "checked_clauses" ["clauses", "names"] (sp_checked_clauses K)) :
    FnOk P w K mg base CX0 5 f fd ["self", "signs", "clauses", "helpers"] (sp_Code_init K C) := by
  refine funD_ok F sc_Code_init (fun vs H Q E h => ?_) (fun cdv A outer s H vs Q E hr h => ?_)
  · obtain ⟨_, _, _, _, _, _, _, _, _, _, rfl, _⟩ := h
    rfl
  · obtain ⟨ss, hs, cs, M, Hb, x, dx, v1, v2, v3, rfl, g0, hb, hm, hx, r1, r2, r3, ok, q⟩ := h
    have hu := hr.units
    refine ⟨_, (pss_cons (ps_fld (pv 0) (pe_f c_checked_names (hr.mono (by decide)) (pa_cons (pv 1) (pa_cons (pe_tup pa_nil) pa_nil))) rfl)
      (pss_cons (ps_fld (pv 0) (pe_f c_checked_names (hr.mono (by decide)) (pa_cons (pv 3) (pa_cons (pe_fld (pv 0) rfl) pa_nil))) rfl)
      (pss_cons (ps_fld (pv 0) (pe_op op_addA (pe_fld (pv 0) rfl) (pe_fld (pv 0) rfl)) rfl)
      (pss_one (ps_fld (pv 0) (pe_callTy (call_tupD (by rfl)) (by rfl) T.tuple boot_tuple (pa_cons (pe_dcT (own := [("clause", 4)]) (g := (gName 4)) (tt := tYes) (tk := (tVar 4)) (tv := (tC (.bl true))) hu (by rfl) sc_Code_init.nd (pi_sq (pe_f c_checked_clauses (hr.mono (by decide)) (pa_cons (pv 2) (pa_cons (pe_fld (pv 0) rfl) pa_nil)))) (blkOk_by (by rfl)) (fun _ _ _ _ _ => (pg_name (i := 4) sc_Code_init.nd rfl (by first | exact .inl rfl | exact .inr rfl))) (fun _ _ _ _ _ => pts_nil) (fun _ _ _ _ _ => (pv 4)) (fun _ _ _ _ _ => pe_bl)) pa_nil)) rfl))))), ?_⟩
    -- self.sign_row = checked_names(signs, ())
    refine q_fld (P := TT ss) g0.mh hm hx rfl TC.cl TC.nS (by decide) (gv_call2 (R1 := SqR K Tx) (R2 := SqR K Tx) (x := ss) (y := []) (gv_var rfl (Mon.mono (same_new hm) r1)) (gv_is gv_nilT fun _ _ h => h.sq) ok.s) fun va M1 H1 g1 m1 ra => ?_
    have G1 := (g0.trans g1).mut (o := .ins C dx (putF "sign_row" va [])) hb m1
    -- self.helper_row = checked_names(helpers, self.sign_row)
    have z1 : (putF "sign_row" va []).length ≤ 1 := putF_len (Nat.le_refl 0)
    have e1 := same_new (o := .ins C dx (putF "sign_row" va [])) m1
    refine q_fld (P := TT hs) G1.mh m1 upd_same rfl TC.cl TC.nH (lt1000 z1) (gv_call2 (R1 := SqR K Tx) (R2 := SqR K Tx) (x := hs) (y := ss) (gv_var rfl (Mon.mono (g1.mm.trans e1) r3))
      (gv_is (gv_self (P := TT ss) rfl upd_same TC.cl TC.nS (by rw [lookup_putF, if_pos rfl]) (Mon.mono e1 ra)) fun _ _ h => h.sq) ok.h) fun vb M2 H2 g2 m2 rb => ?_
    have G2 := (G1.trans g2).mut (o := .ins C dx (putF "helper_row" vb (putF "sign_row" va []))) hb m2
    -- self.names = self.sign_row + self.helper_row
    have z2 : (putF "helper_row" vb (putF "sign_row" va [])).length ≤ 2 := putF_len z1
    have e2 := same_new (o := .ins C dx (putF "helper_row" vb (putF "sign_row" va []))) m2
    refine q_fld (P := TT (ss ++ hs)) G2.mh m2 upd_same rfl TC.cl TC.nN (lt1000 z2) (gv_addTT
      (gv_self rfl upd_same TC.cl TC.nS (by rw [lookup_putF, if_neg (by decide +kernel), lookup_putF, if_pos rfl]) (Mon.mono (g2.mm.trans e2) ra)) (gv_self rfl upd_same TC.cl TC.nH (by rw [lookup_putF, if_pos rfl]) (Mon.mono e2 rb))
      (sz1000 (by have := ok.k; rw [List.length_append] at this; exact this))) fun vn M3 H3 g3 m3 rn => ?_
    have G3 := (G2.trans g3).mut (o := .ins C dx (putF "names" vn (putF "helper_row" vb (putF "sign_row" va [])))) hb m3
    -- self.clause_row = tuple({clause: True for clause in checked_clauses(clauses, self.names)})
    have z3 : (putF "names" vn (putF "helper_row" vb (putF "sign_row" va []))).length ≤ 3 := putF_len z2
    have e3 := same_new (o := .ins C dx (putF "names" vn (putF "helper_row" vb (putF "sign_row" va [])))) m3
    have hshort : Shorts (ss ++ hs) := ⟨ok.k, fun n hn => by
      rcases List.mem_append.mp hn with h | h
      · exact Nat.le_trans (isNm_len (ok.s.2.1 n h).1) (by decide)
      · exact Nat.le_trans (isNm_len (ok.h.2.1 n h).1) (by decide)⟩
    refine s_fld (P := TuR TT (once (cs.map fun c => asc c (ss ++ hs)))) G3.mh m3 upd_same rfl TC.cl TC.nC (lt1000 z3) (gv_once (by show 4 < 5; decide) (gi_sq (K := K) ((gl_call2 (R1 := SqR K (SqR K Tx)) (R2 := SqR K Tx) (x := cs) (y := ss ++ hs)
      (gv_var rfl (Mon.mono ((g1.mm.trans g2.mm).trans (g3.mm.trans e3)) r2)) (gv_is (gv_self (P := TT (ss ++ hs)) rfl upd_same TC.cl TC.nN (by rw [lookup_putF, if_pos rfl]) (Mon.mono e3 rn)) fun _ _ h => h.sq) ⟨hshort, ok.n, ok.c⟩).gv
        fun M' vs p r m0 => .inl ⟨p, vs, rfl, .inl (.inl upd_same), Pd.mono (R := TT) (same_new m0) r⟩)) (by rw [List.length_map]; exact szM (Nat.le_trans ok.n (by decide)))) fun vc M4 H4 g4 m4 rc => ?_
    have G4 := ((G3.trans g4).mut (o := .ins C dx (codeF va vb vn vc)) hb m4).freeze hb m4 upd_same
    have e4 := same_new (o := .ins C dx (codeF va vb vn vc)) m4
    exact q _ _ G4 ⟨x, dx, va, vb, vn, vc, rfl, upd_same, Mon.mono ((g2.mm.trans g3.mm).trans (g4.mm.trans e4)) ra, Mon.mono (g3.mm.trans (g4.mm.trans e4)) rb, Mon.mono (g4.mm.trans e4) rn, Mon.mono e4 rc⟩
end
end My

set_option Elab.async false
set_option linter.all false
set_option maxRecDepth 100000
set_option maxHeartbeats 4000000
namespace My
open PySem PySem.Spec PyProof.Rows L2 L3
/-! the literals of a clause that are not denied -/
def openGo (so : List Str) : List Str → List Str → Option (List Str)
  | [], acc => some acc
  | l :: r, acc => if l ∈ so then none else openGo so r (if opp l ∈ so then acc else acc ++ [l])
def openOnes (so c : List Str) : Option (List Str) := openGo so c []
theorem openGo_eq (so : List Str) : ∀ c acc : List Str, openGo so c acc = if c.any (fun l => decide (l ∈ so)) then none else some (acc ++ c.filter fun l => decide (opp l ∉ so))
  | [], acc => by simp [openGo]
  | l :: r, acc => by
    rw [openGo, openGo_eq so r]
    by_cases h : l ∈ so
    · simp [h]
    · by_cases h2 : opp l ∈ so
      · simp [h, h2]
      · simp [h, h2]
theorem openOnes_eq (so c : List Str) : openOnes so c = if c.any (fun l => decide (l ∈ so)) then none else some (c.filter fun l => decide (opp l ∉ so)) := by
  unfold openOnes; rw [openGo_eq]; simp
def shortT (c : List Str) : Prop := c.length ≤ 1000000 ∧ ∀ l ∈ c, l.length ≤ 1000
section
variable {P : Program} {w : World} {K : PySem.W.Frag} {mg : Str → Option Value} {base : Heap}
abbrev s_open_ones : Stmt := topS 21
theorem sc_open_ones : FnScope ["clause", "so", "found", "literal"] ["clause", "so"] (defScope s_open_ones) := ⟨rfl, rfl, rfl, by decide +kernel, rfl, by decide +kernel, by decide +kernel⟩
def sp_open_ones (K : PySem.W.Frag) : Sp := sp2 (SqR K Tx) (CtR K) (fun c _ => shortT c) fun c so => OpR' (LiR Tx) (openOnes so c)
theorem ok_open_ones {f : Addr} {fd : FuncData} (F : Fun K "open_ones" "open_ones" s_open_ones f fd) (c_opposite : Cal P w K mg base 1 "opposite" ["literal"] (sp_opposite K)) : FnOk P w K mg base CX0 2 f fd ["clause", "so"] (sp_open_ones K) := by
  refine F.ok sc_open_ones (fun vs H Q E h => ?_) (fun cdv A outer s H vs Q E hr h => ?_)
  · obtain ⟨x, y, M, v, w, rfl, _⟩ := h
    rfl
  · obtain ⟨c, so, M, v, w, rfl, mh, r1, r2, hp, q⟩ := h
    have hu := hr.units
    refine ⟨_, (pss_cons (ps_set (i := 2) sc_open_ones.nd rfl (by first | exact .inl rfl | exact .inr rfl) (pe_lst pa_nil))
      (pss_cons (ps_for PassesOwn.never (by rfl) (pi_sq (pv 0)) (pg_name (i := 3) sc_open_ones.nd rfl (by first | exact .inl rfl | exact .inr rfl)) (pss_cons (ps_if (pt_cmpR (op_inA hu) (pv 3) (pv 1) (by rfl)) (pss_one (ps_ret pe_non)) pss_nil)
      (pss_one (ps_if (pt_cmpR (op_niA hu) (pe_f c_opposite (hr.mono (by decide)) (pa_cons (pv 3) pa_nil)) (pv 1) (by rfl)) (pss_one (ps_expr (pe_bm PySem.F.plainAttrs_list PySem.F.slot_list_append PySem.F.type_list_append mt_append (pv 2) (pa_cons (pv 3) pa_nil)))) pss_nil))))
      (pss_one (ps_ret (pv 2))))), ?_⟩
    refine q_asgL mh gl_nil fun p vs M2 H2 g2 h0 m0 hp2 hv => ?_
    subst hv
    refine q_for (R1 := Tx) (xs := c) g2.mh (gv_var rfl (Mon.mono g2.mm r1))
      (fun M1' i σ' M' H' => ∃ y3 acc, Gr M H M' H' ∧ Same M1' M' ∧ Same M M' ∧ acc.length ≤ i ∧ Own H M' H' p (acc.map V.str) ∧ σ' = [some v, some w, some (.ref p), y3] ∧ openOnes so c = openGo so (c.drop i) acc)
      (fun M3 H3 g3 => ⟨none, [], g2.trans g3, Same.refl _, (g2.trans g3).mm, Nat.le_refl _, Own.step ⟨h0, m0, hp2⟩ g3, rfl, rfl⟩)
      (fun M3 i σ' M' H' ⟨_, _, g, s1, _⟩ => ⟨s1, g.mh⟩) ?_ ?_
    · rintro M3 i x v' σ' M' H' sM hx ⟨y3, acc, g, s1, s2, hl, ow, rfl, eo⟩ rx
      cases rx
      have hxm : x ∈ c := List.mem_of_getElem? hx
      have hil : i < c.length := (List.getElem?_eq_some_iff.mp hx).1
      have ed : c.drop i = x :: c.drop (i + 1) := by rw [List.drop_eq_getElem_cons hil]; congr 1; exact (List.getElem?_eq_some_iff.mp hx).2
      have r2' : CtR K so M' w := Mon.mono s2 r2
      refine q_if0 g.mh (gt_test (gv_inA (K := K) (gv_var rfl rfl) (gv_var rfl r2'))) (fun hb H4 hh4 => ?_) (fun hb H4 hh4 => ?_)
      · refine s_ret (P := fun _ v => v = .non) (g.mh.trans hh4) (gv_c rfl) fun v5 M5 H5 g5 r5 => q v5 M5 H5 ((g.trans (.idle g.mh hh4)).trans g5) ?_
        show OpR' (LiR Tx) (openOnes so c) _ _
        rw [eo, ed, openGo, if_pos (by simpa using hb)]
        exact r5
      · have g4 := g.trans (.idle g.mh hh4)
        have ow4 := ow.idle hh4
        refine s_if0 g4.mh (gt_test (gv_inA (K := K) (gv_call1 (gv_var rfl rfl) (hp.2 x hxm)) (gv_var rfl r2'))) (fun hb2 H5 hh5 => ?_) (fun hb2 H5 hh5 => ?_)
        · have g5 := g4.trans (.idle g4.mh hh5)
          have ow5 := ow4.idle hh5
          refine s_app (P := Tx x) g5.mh rfl ow5.h (szL (by rw [List.length_map]; have := hp.1; omega)) (gv_var rfl rfl) fun v6 M6 H6 g6 r6 => ?_
          cases r6
          have ow6 := ow5.step g6
          refine ⟨M6, _, acc ++ [x], (g5.trans g6).mut ow6.h0 ow6.m, s1.trans g6.mm, s2.trans g6.mm, by rw [List.length_append]; exact Nat.succ_le_succ hl, ?_, rfl, ?_⟩
          · rw [List.map_append]
            exact ow6.put
          · rw [eo, ed, openGo, if_neg (by simpa using hb), if_neg (by simpa using hb2)]
        · have g5 := g4.trans (.idle g4.mh hh5)
          refine ⟨M', _, acc, g5, s1, s2, Nat.le_succ_of_le hl, ow4.idle hh5, rfl, ?_⟩
          rw [eo, ed, openGo, if_neg (by simpa using hb), if_pos (by simpa using hb2)]
    · rintro M3 σ' M' H' sM ⟨y3, acc, g, s1, s2, hl, ow, rfl, eo⟩
      refine ⟨.ref p, rfl, q _ _ _ (g.freeze ow.h0 ow.m ow.h) ?_⟩
      show OpR' (LiR Tx) (openOnes so c) _ _
      rw [eo, List.drop_length]
      exact ⟨p, _, rfl, upd_same, pd_of_tx acc⟩
end
end My

set_option Elab.async false
set_option linter.all false
set_option maxRecDepth 100000
set_option maxHeartbeats 4000000
namespace My
open PySem PySem.Spec PyProof.Rows L2 L3
abbrev Stp := Nat × Option Str
def optV : Option Str → V
  | none => .non | some l => .str l
/-- a step: a tuple (index, literal or None) -/
def StepR : Rl Stp := fun s M v => ∃ a, v = .ref a ∧ M a = some (.tup [.int (s.1 : Nat), optV s.2])
instance : Mon StepR := ⟨fun e ⟨a, h, r⟩ => ⟨a, h, e _ _ r⟩⟩
instance : Stl StepR := ⟨fun hn hx ⟨a, e, r⟩ => ⟨a, e, by rw [L3.del_ne (tup_ne hn hx r)]; exact r⟩⟩
/-- one walk over all clauses -/
def passGo : List (List Str) → Nat → List Str → List Stp → Bool → Except (List Stp) (List Str × List Stp × Bool)
  | [], _, so, st, mv => .ok (so, st, mv)
  | c :: r, i, so, st, mv => match openOnes so c with
    | some [] => .error (st ++ [(i, none)])
    | some [l] => passGo r (i + 1) (so ++ [l]) (st ++ [(i, some l)]) true
    | _ => passGo r (i + 1) so st mv
abbrev Res := Option (List Str) × List Stp
/-- following to its end -/
inductive Chase (cs : List (List Str)) : List Str → List Stp → Res → Prop
  | dead {so st st'} : passGo cs 0 so st false = .error st' → Chase cs so st (none, st')
  | done {so st so' st'} : passGo cs 0 so st false = .ok (so', st', false) → Chase cs so st (some so', st')
  | more {so st so' st' r} : passGo cs 0 so st false = .ok (so', st', true) → Chase cs so' st' r → Chase cs so st r
theorem Chase.fn {cs : List (List Str)} {so : List Str} {st : List Stp} {r : Res} (h : Chase cs so st r) : ∀ {r'}, Chase cs so st r' → r = r' := by
  induction h with
  | dead e =>
    intro r' h'
    cases h' with
    | dead e' => rw [e] at e'; cases e'; rfl
    | done e' => rw [e] at e'; cases e'
    | more e' _ => rw [e] at e'; cases e'
  | done e =>
    intro r' h'
    cases h' with
    | dead e' => rw [e] at e'; cases e'
    | done e' => rw [e] at e'; cases e'; rfl
    | more e' _ => rw [e] at e'; cases e'
  | more e _ ih =>
    intro r' h'
    cases h' with
    | dead e' => rw [e] at e'; cases e'
    | done e' => rw [e] at e'; cases e'
    | more e' h2 => rw [e] at e'; cases e'; exact ih h2
/-- how many literals of the clauses are not so yet -/
def mu (cs : List (List Str)) (so : List Str) : Nat := (cs.flatten.filter fun l => decide (l ∉ so)).length
theorem filter_lt {l : Str} {p q : Str → Bool} : ∀ {xs : List Str}, (∀ x, q x = true → p x = true) → l ∈ xs → p l = true → q l = false → (xs.filter q).length < (xs.filter p).length
  | [], _, h, _, _ => by cases h
  | x :: xs, hi, h, hp, hq => by
    have le : ∀ ys : List Str, (ys.filter q).length ≤ (ys.filter p).length := fun ys => by
      induction ys with
      | nil => exact Nat.le_refl _
      | cons y ys ih =>
        rw [List.filter_cons, List.filter_cons]
        by_cases hy : q y = true
        · rw [if_pos hy, if_pos (hi y hy)]; exact Nat.succ_le_succ ih
        · rw [if_neg hy]
          by_cases hy' : p y = true
          · rw [if_pos hy']; exact Nat.le_succ_of_le ih
          · rw [if_neg hy']; exact ih
    rw [List.filter_cons, List.filter_cons]
    rcases List.mem_cons.mp h with rfl | h
    · rw [if_neg (by rw [hq]; simp), if_pos hp]
      exact Nat.lt_succ_of_le (le xs)
    · have ih := filter_lt hi h hp hq
      by_cases hy : q x = true
      · rw [if_pos hy, if_pos (hi x hy)]; exact Nat.succ_lt_succ ih
      · rw [if_neg hy]
        by_cases hy' : p x = true
        · rw [if_pos hy']; exact Nat.lt_succ_of_lt ih
        · rw [if_neg hy']; exact ih
theorem mu_put {cs : List (List Str)} {c so : List Str} {l : Str} (hc : c ∈ cs) (hl : l ∈ c) (hs : l ∉ so) : mu cs (so ++ [l]) < mu cs so := by
  refine filter_lt (l := l) (fun x h => ?_) (List.mem_flatten.mpr ⟨c, hc, hl⟩) (by simpa using hs) (by simp)
  simp only [List.mem_append, decide_eq_true_eq, not_or] at h ⊢
  exact h.1
theorem open_one {so c : List Str} {l : Str} (h : openOnes so c = some [l]) : l ∈ c ∧ l ∉ so := by
  rw [openOnes_eq] at h
  split at h
  · cases h
  · rename_i hn
    have e := Option.some.inj h
    have hm : l ∈ c.filter fun l => decide (opp l ∉ so) := by rw [e]; simp
    have h1 := List.mem_filter.mp hm
    refine ⟨h1.1, fun hs => hn ?_⟩
    rw [List.any_eq_true]
    exact ⟨l, h1.1, by simpa using hs⟩
theorem onceP_new {so : List Str} {l : Str} (h : l ∉ so) : onceP so l = so ++ [l] := by unfold onceP; rw [if_neg h]
def optD : Option (List Str) → PyData
  | none => .none | some ls => .list (ls.map .str)
theorem optD_eq (o : Option (List Str)) (xs : List Str) : PyData.eqv (optD o) (.list (xs.map .str)) = decide (o = some xs) := by
  cases o with
  | none => simp [optD, PyData.eqv]
  | some ls =>
    have h := inj_lst inj_str ls xs
    simp only [optD]
    rw [h]
    simp
theorem depthS : ∀ ls : List Str, PyData.depthAll (ls.map .str) = 0
  | [] => by simp [PyData.depthAll]
  | l :: r => by simp [PyData.depthAll, PyData.depth, depthS r]
theorem depthO (o : Option (List Str)) : (optD o).depth ≤ 60 := by
  cases o with
  | none => simp [optD, PyData.depth]
  | some ls => simp [optD, PyData.depth, depthS]
section
variable {K : PySem.W.Frag} {σ : Sl} {M : Hp} {ta tb : TE}
theorem py_opL : PyR K (OpR' (LiR Tx)) optD := fun o M v h => by
  cases o with
  | none => cases (show v = .non from h); exact .non
  | some ls => exact py_lst py_str _ _ _ (LiR.lst (K := K) (show LiR Tx ls M v from h))
theorem gv_nilD : Gv (tLst tNil) σ M (Dd K (.list [])) := gl_nil.gv fun M vs p h m => by subst h; exact .lst (.inl (.inl upd_same)) .nil
theorem gv_step {i : Nat} {l : Str} (ha : Gv ta σ M (It' (i : Int))) (hb : Gv tb σ M (Tx l)) : Gv (tTup (tCons ta (tCons tb tNil))) σ M (StepR (i, some l)) := fun H mh Q q =>
  ha H mh _ fun v M1 H1 g1 p1 => hb.le g1.mm H1 g1.mh _ fun w M2 H2 g2 p2 => ⟨by show 2 ≤ sizeLine; decide, fun p np => q _ _ _ ((g1.trans g2).trans (.new g2.mh np)) ⟨p, rfl, by rw [upd_same, show v = _ from p1, show w = _ from p2]; rfl⟩⟩
theorem opL_non {o : Option (List Str)} {M : Hp} {v : V} (h : OpR' (LiR Tx) o M v) : decide (v = .non) = o.isNone := by
  cases o with
  | none => cases (show v = .non from h); rfl
  | some ls => obtain ⟨a, vs, e, _⟩ := (show LiR Tx ls M v from h); subst e; rfl
end
section
variable {P : Program} {w : World} {K : PySem.W.Frag} {mg : Str → Option Value} {base : Heap}
abbrev s_chase : Stmt := topS 22
theorem sc_chase : FnScope ["clauses", "setting", "so", "steps", "is_moved", "index", "clause", "left", "literal"] ["clauses", "setting"] (defScope s_chase) := ⟨rfl, rfl, rfl, by decide +kernel, rfl, by decide +kernel, by decide +kernel⟩
structure ChOk (cs : List (List Str)) (hs : List Str) : Prop where
  c : ∀ c ∈ cs, shortT c
  n : cs.flatten.length ≤ 1000000
  k : cs.length ≤ 1000000
  h : hs.length ≤ 1000000
def sp_chase (K : PySem.W.Frag) : Sp := fun vs H Q _ => ∃ cs hs M v w, vs = [v, w] ∧ Same M H ∧ SqR K (SqR K Tx) cs M v ∧ SqR K Tx hs M w ∧ ChOk cs hs ∧
  ∀ r t u p ws M' H', Chase cs (once hs) [] r → Gr M H M' H' → H p = none → M' p = none → H' p = some (.lst ws) → Pd StepR M' r.2 ws → OpR' DcF r.1 M' u → M' t = some (.tup [u, .ref p]) → Q (.ref t) H'
theorem once_len' (hs : List Str) : (once hs).length ≤ hs.length := by
  have go : ∀ (xs acc : List Str), (xs.foldl onceP acc).length ≤ acc.length + xs.length := by
    intro xs
    induction xs with
    | nil => intro acc; exact Nat.le_refl _
    | cons x xs ih =>
      intro acc
      have h1 := ih (onceP acc x)
      have h2 := onceP_len acc x
      rw [List.foldl_cons, List.length_cons]
      omega
  have := go hs []
  simpa [once] using this
theorem ok_chase {f : Addr} {fd : FuncData} (F : Fun K "chase" "chase" s_chase f fd) (T : Gb mg) (c_open_ones : Cal P w K mg base 2 "open_ones" ["clause", "so"] (sp_open_ones K)) : FnOk P w K mg base CX0 3 f fd ["clauses", "setting"] (sp_chase K) := by
  refine F.ok sc_chase (fun vs H Q E h => ?_) (fun cdv A outer s H vs Q E hr h => ?_)
  · obtain ⟨x, y, M, v, w, rfl, _⟩ := h
    rfl
  · obtain ⟨cs, hs, M, v, w, rfl, mh, r1, r2, ok, q⟩ := h
    have hu := hr.units
    refine ⟨_, (pss_cons (ps_par3 (i := 2) (j := 3) (l := 4) (by rfl) sc_chase.nd rfl rfl rfl (by decide) (by decide) (by decide) rfl rfl rfl (pa_cons (pe_dc (own := [("literal", 8)]) (g := (gName 8)) (tt := tYes) (tk := (tVar 8)) (tv := (tC (.bl true))) (by rfl) sc_chase.nd (pi_sq (pv 1)) (blkOk_by (by rfl)) (fun _ _ _ _ _ => (pg_name (i := 8) sc_chase.nd rfl (by first | exact .inl rfl | exact .inr rfl))) (fun _ _ _ _ _ => pts_nil) (fun _ _ _ _ _ => (pv 8)) (fun _ _ _ _ _ => pe_bl)) (pa_cons (pe_lst pa_nil) (pa_cons pe_bl pa_nil))) (by rfl))
      (pss_cons (ps_while PassesOwn.never (pt_val (pv 4)) (pss_cons (ps_set (i := 4) sc_chase.nd rfl (by first | exact .inl rfl | exact .inr rfl) pe_bl)
      (pss_one (ps_for PassesOwn.never (by rfl) (pi_en (by rfl) T.enumerate (pa_cons (pv 0) pa_nil)) (pg_tup (by rfl) (pgs_cons (pg_name (i := 5) sc_chase.nd rfl (by first | exact .inl rfl | exact .inr rfl)) (pgs_cons (pg_name (i := 6) sc_chase.nd rfl (by first | exact .inl rfl | exact .inr rfl)) pgs_nil))) (pss_cons (ps_set (i := 7) sc_chase.nd rfl (by first | exact .inl rfl | exact .inr rfl) (pe_f c_open_ones (hr.mono (by decide)) (pa_cons (pv 6) (pa_cons (pv 2) pa_nil))))
      (pss_cons (ps_if (pt_cmpR (op_eqP hu) (pv 7) (pe_lst pa_nil) (nomark _)) (pss_one (ps_ret (pe_tup (pa_cons pe_non (pa_cons (pe_op op_addA (pv 3) (pe_lst (pa_cons (pe_tup (pa_cons (pv 5) (pa_cons pe_non pa_nil))) pa_nil))) pa_nil))))) pss_nil)
      (pss_one (ps_if (PW.pt (pw_and (pt_cmp (pc_notN (pv 7))) (pw_and1 (pt_cmpR (op_eqP hu) (pe_callB call_lenA (by rfl) T.len boot_len (pa_cons (pv 7) pa_nil)) pe_int (nomark _))))) (pss_cons (ps_dput (Nat.lt_of_le_of_lt (Nat.add_le_add_left (by decide) _) hu) (pv 2) (pe_ix ix_X (pv 7) pe_int (fun _ _ => rfl)) pe_bl rfl)
      (pss_cons (ps_expr (pe_bm PySem.F.plainAttrs_list PySem.F.slot_list_append PySem.F.type_list_append mt_append (pv 3) (pa_cons (pe_tup (pa_cons (pv 5) (pa_cons (pe_ix ix_X (pv 7) pe_int (fun _ _ => rfl)) pa_nil))) pa_nil)))
      (pss_one (ps_set (i := 4) sc_chase.nd rfl (by first | exact .inl rfl | exact .inr rfl) pe_bl)))) pss_nil))))))))
      (pss_one (ps_ret (pe_tup (pa_cons (pe_frz (pv 2)) (pa_cons (pv 3) pa_nil))))))), ?_⟩
    have hlo : (once hs).length ≤ 1000000 := Nat.le_trans (once_len' hs) ok.h
    -- so, steps, is_moved = {..}, [], True
    refine q_par3 (a_K mh (gk_dc (xs := hs) (by show 8 < 9; decide) (gi_sq (K := K) (gv_var rfl r2)) (szM (Nat.le_trans ok.h (by decide)))) fun p M1 H1 g1 hp0 hpm hpk => a_L g1.mh gl_nil fun p2 vs M2 H2 g2 h02 m02 hp2 ev => ?_)
    subst ev
    refine ⟨_, _, _, rfl, ?_⟩
    have k0 : OwnK H M2 H2 p (once hs) := OwnK.step ⟨hp0, hpm, hpk⟩ g2
    have w0 : Own H M2 H2 p2 [] := ⟨g1.hh.free h02, m02, hp2⟩
    have G2 := g1.trans g2
    have mul : mu cs (once hs) ≤ 1000000 := Nat.le_trans (List.length_filter_le _ _) ok.n
    refine q_while (M := M2) (m0 := 2 * mu cs (once hs) + 1) (fun m σ' M' H' => ∃ so st mv ws y5 y6 y7 y8, m = 2 * mu cs so + (if mv = true then 1 else 0) ∧ Gr M H M' H' ∧ OwnK H M' H' p so ∧ Own H M' H' p2 ws ∧ Pd StepR M' st ws ∧ σ' = [some v, some w, some (.ref p), some (.ref p2), some (.bl mv), y5, y6, y7, y8] ∧
      (∀ r, (if mv = true then Chase cs so st r else r = (some so, st)) → Chase cs (once hs) [] r) ∧ st.length + mu cs so ≤ mu cs (once hs) ∧ so.length ≤ (once hs).length + st.length)
      ⟨once hs, [], true, [], _, _, _, _, rfl, G2, k0, w0, .nil, rfl, fun r h => h, by simp, by simp⟩ ?_
    rintro m σ' M' H' ⟨so, st, mv, ws, y5, y6, y7, y8, rfl, g, ok1, ow1, hpd, rfl, hch, hmu, hso⟩
    refine ⟨mv, M', g.mh, gt_B (gv_var rfl rfl), fun hb H3 hh3 => ?_, fun hb H3 hh3 => ?_⟩
    · subst hb
      have g3 := g.trans (.idle g.mh hh3)
      refine q_asg (P := Bl false) g3.mh (gv_c rfl) fun v4 M4 H4 g4 r4 => ?_
      cases r4
      have G4 := g3.trans g4
      refine s_forE (R1 := SqR K Tx) (xs := cs) g4.mh (gv_var rfl (Mon.mono G4.mm r1))
        (fun M1' i σ' M' H' => ∃ so2 st2 mv2 ws2 y5 y6 y7, Gr M H M' H' ∧ Same M1' M' ∧ Same M M' ∧ OwnK H M' H' p so2 ∧ Own H M' H' p2 ws2 ∧ Pd StepR M' st2 ws2 ∧ σ' = [some v, some w, some (.ref p), some (.ref p2), some (.bl mv2), y5, y6, y7, y8] ∧
          passGo cs 0 so st false = passGo (cs.drop i) i so2 st2 mv2 ∧ (mv2 = false → so2 = so ∧ st2 = st) ∧ (mv2 = true → mu cs so2 < mu cs so) ∧ st2.length + mu cs so2 ≤ mu cs (once hs) ∧ so2.length ≤ (once hs).length + st2.length)
        (fun M5 H5 g5 => ⟨so, st, false, ws, _, _, _, G4.trans g5, Same.refl _, (G4.trans g5).mm, ((ok1.idle hh3).step g4).step g5, ((ow1.idle hh3).step g4).step g5, hpd.mono (g4.trans g5).mm, rfl, rfl, fun _ => ⟨rfl, rfl⟩, (fun h => nomatch h), hmu, hso⟩)
        (fun M5 i σ' M' H' ⟨_, _, _, _, _, _, _, g, s1, _⟩ => ⟨s1, g.mh⟩) ?_ ?_
      · rintro M5 i c v' σ' M' H' H'' sM hx ⟨so2, st2, mv2, ws2, y5, y6, y7, g, s1, s2, ok2, ow2, hpd2, rfl, ep, hf, ht, hmu2, hso2⟩ gE rx
        have hxm : c ∈ cs := List.mem_of_getElem? hx
        have hil : i < cs.length := (List.getElem?_eq_some_iff.mp hx).1
        have ed : cs.drop i = c :: cs.drop (i + 1) := by rw [List.drop_eq_getElem_cons hil]; congr 1; exact (List.getElem?_eq_some_iff.mp hx).2
        have g' := g.trans gE
        have ok2' := ok2.step gE
        have ow2' := ow2.step gE
        refine q_asgK (P := OpR' (LiR Tx) (openOnes so2 c)) g'.mh ok2'.m ok2'.h (gv_call2 (R1 := SqR K Tx) (R2 := CtR K) (gv_var rfl (Mon.mono (same_new ok2'.m) rx)) (gv_var rfl OwnK.ct) (ok.c c hxm)) fun v7 M7 H7 g7 r7 => ?_
        have G7 := g'.trans g7
        have ok7 := ok2'.step g7
        have ow7 := ow2'.step g7
        have hpd7 := hpd2.mono g7.mm
        have hwl : ws2.length = st2.length := hpd7.length.symm
        refine q_if0 (b := decide (openOnes so2 c = some [])) g7.mh (gt_test (gv_is (gv_eq (K := K) (neg := false) (d := optD (openOnes so2 c)) (e := .list []) (gv_var rfl (py_opL _ _ _ r7)) gv_nilD (depthO _)) fun M v h => by
            rw [show v = _ from h]
            have := optD_eq (openOnes so2 c) []
            simp only [List.map_nil] at this
            rw [this]; simp)) (fun hb H8 hh8 => ?_) (fun hb H8 hh8 => ?_)
        · -- a dead end
          have e0 : openOnes so2 c = some [] := by simpa using hb
          have g8 : Gr M7 H7 M7 H8 := .idle g7.mh hh8
          have ow8 := ow7.idle hh8
          refine ⟨.ref p2, rfl, .int (i : Nat), rfl, by show 2 ≤ sizeLine; decide, fun t1 nt1 => ⟨by show 1 ≤ sizeLine; decide, fun l1 nl1 => .inr (.inr (.inr ⟨p2, l1, ws2, [.ref t1], rfl, rfl, ?_, upd_same, szM (by simp; omega), fun p3 np3 => ⟨by show 2 ≤ sizeLine; decide, fun t nt => ?_⟩⟩))⟩⟩
          · have nt1' : H8 t1 = none := nt1
            have n1 : (upd H8 t1 (.tup [V.int (i : Nat), .non])) p2 = some (.lst ws2) := same_new nt1' _ _ ow8.h
            rw [upd_ne (ne_of_none n1 nl1)]
            exact n1
          · have nt1' : H8 t1 = none := nt1
            have G8 := G7.trans g8
            have ga := G8.trans (.new (o := .tup [V.int (i : Nat), .non]) G8.mh nt1')
            have gb := ga.trans (.own (o := .lst [.ref t1]) ga.mh nl1)
            have gc := gb.trans (.own (o := .lst (ws2 ++ [.ref t1])) gb.mh np3)
            have o3 := Own.new' (vs := ws2 ++ [.ref t1]) gb np3
            have gd := Gr.new (o := .tup [.non, .ref p3]) gc.mh nt
            have o4 := o3.step gd
            refine q (none, st2 ++ [(i, none)]) t .non p3 _ _ _ (hch _ ?_) (gc.trans gd) o4.h0 o4.m o4.h ?_ rfl upd_same
            · rw [if_pos rfl]
              refine .dead ?_
              rw [ep, ed, passGo, e0]
            · exact pd_app (hpd7.mono ((same_new (G8.mh.free nt1')).trans gd.mm)) (.cons ⟨t1, rfl, gd.mm _ _ upd_same⟩ .nil)
        · have hne : openOnes so2 c ≠ some [] := by simpa using hb
          have g8 := G7.trans (.idle G7.mh hh8)
          have ok8 := ok7.idle hh8
          have ow8 := ow7.idle hh8
          have m78 : Same M7 H8 := g7.mh.trans hh8
          cases eo : openOnes so2 c with
          | none =>
            rw [eo] at r7
            refine s_if0 (b := false) m78 (gt_and (c := false) (gt_B (gv_notN (b := true) (gv_var (P := OpR' (LiR Tx) none) rfl r7) fun M v h => opL_non h)) fun h => nomatch h) (fun h => nomatch h) fun _ H9 hh9 => ?_
            refine ⟨M7, so2, st2, mv2, ws2, _, _, _, g8.trans (.idle g8.mh hh9), s1.trans g7.mm, s2.trans g7.mm, ok8.idle hh9, ow8.idle hh9, hpd7, rfl, ?_, hf, ht, hmu2, hso2⟩
            rw [ep, ed, passGo, eo]
          | some ls =>
            rw [eo] at r7 hne
            have r7' : LiR Tx ls M7 v7 := r7
            refine s_if0 (b := decide (ls.length = 1)) m78 (gt_is (gt_and (c := decide (ls.length = 1)) (gt_B (gv_notN (b := false) (gv_var (P := OpR' (LiR Tx) (some ls)) rfl r7) fun M v h => opL_non h)) fun _ => gt_test (gv_is (gv_eqT (K := K) (neg := false) py_int inj_int (gv_lenA (K := K) (gv_var rfl (r7'.sq (K := K)))) (gv_c rfl) (by simp [PyData.depth])) fun M v h => ?_)) (by simp)) (fun hb2 H9 hh9 => ?_) (fun hb2 H9 hh9 => ?_)
            · rw [show v = _ from h]
              simp only [Bool.false_bne, V.bl.injEq, decide_eq_decide]
              omega
            · obtain ⟨l, rfl⟩ : ∃ l, ls = [l] := by
                match ls, hb2 with
                | [l], _ => exact ⟨l, rfl⟩
                | [], h => simp at h
                | _ :: _ :: _, h => simp at h
              obtain ⟨hlc, hls⟩ := open_one eo
              have hml := mu_put hxm hlc hls
              have g9 := g8.trans (.idle g8.mh hh9)
              have ok9 := ok8.idle hh9
              have ow9 := ow8.idle hh9
              refine q_dputT (l := l) (g9.mh) rfl ok9.h (szL (by omega)) (gv_ix (K := K) (R := Tx) (xs := [l]) (i := 0) (gv_var rfl (r7'.sq (K := K))) (gv_c rfl) rfl) fun M10 H10 g10 => ?_
              rw [onceP_new hls]
              have ok10 := ok9.step g10
              have ow10 := ow9.step g10
              have g10' := (g9.trans g10).mut (o := .dK (kvT (so2 ++ [l]))) ok10.h0 ok10.m
              have ok11 := ok10.put (ls := so2 ++ [l])
              have ow11 := ow10.off (u := .dK (kvT (so2 ++ [l]))) (Ne.symm (ok10.ne ow10))
              have r10 : LiR Tx [l] M10 v7 := Mon.mono g10.mm r7'
              refine q_app (P := StepR (i, some l)) g10'.mh rfl ow11.h (szL (by omega)) (gv_step (gv_var rfl rfl) (gv_ix (K := K) (R := Tx) (xs := [l]) (i := 0) (gv_var rfl (r10.sq (K := K))) (gv_c rfl) rfl)) fun v12 M12 H12 g12 r12 => ?_
              have ok12 := ok11.step g12
              have ow12 := ow11.step g12
              have g12' := (g10'.trans g12).mut (o := .lst (ws2 ++ [v12])) ow12.h0 ow12.m
              have ok13 := ok12.off (u := .lst (ws2 ++ [v12])) (ok12.ne ow12)
              have ow13 := ow12.put (ws := ws2 ++ [v12])
              refine s_asg (P := Bl true) g12'.mh (gv_c rfl) fun v14 M14 H14 g14 r14 => ?_
              cases r14
              have g710 := (g10.mm.trans g12.mm).trans g14.mm
              refine ⟨M14, so2 ++ [l], st2 ++ [(i, some l)], true, ws2 ++ [v12], _, _, _, g12'.trans g14, s1.trans (g7.mm.trans g710), s2.trans (g7.mm.trans g710), ok13.step g14, ow13.step g14, pd_app (hpd7.mono g710) (.cons (Mon.mono g14.mm r12) .nil), rfl, ?_, (fun h => nomatch h), fun _ => ?_, ?_, ?_⟩
              · rw [ep, ed, passGo, eo]
              · cases mv2 with
                | true => have := ht rfl; omega
                | false => rw [(hf rfl).1] at hml ⊢; exact hml
              · rw [List.length_append, List.length_singleton]; omega
              · rw [List.length_append, List.length_append, List.length_singleton, List.length_singleton]; omega
            · refine ⟨M7, so2, st2, mv2, ws2, _, _, _, g8.trans (.idle g8.mh hh9), s1.trans g7.mm, s2.trans g7.mm, ok8.idle hh9, ow8.idle hh9, hpd7, rfl, ?_, hf, ht, hmu2, hso2⟩
              rw [ep, ed, passGo, eo]
              match ls, hne, hb2 with
              | [], h, _ => exact absurd rfl h
              | [l], _, h => simp at h
              | _ :: _ :: _, _, _ => rfl
      · rintro M5 σ' M' H' sM ⟨so2, st2, mv2, ws2, y5, y6, y7, g, s1, s2, ok2, ow2, hpd2, rfl, ep, hf, ht, hmu2, hso2⟩
        rw [List.drop_length, passGo] at ep
        refine ⟨_, M', ?_, so2, st2, mv2, ws2, y5, y6, y7, y8, rfl, g, ok2, ow2, hpd2, rfl, fun r hr => hch r ?_, hmu2, hso2⟩
        · rw [if_pos rfl]
          cases mv2 with
          | true => have := ht rfl; simp only [if_true]; omega
          | false => rw [(hf rfl).1]; simp
        · rw [if_pos rfl]
          cases mv2 with
          | true => rw [if_pos rfl] at hr; exact .more ep hr
          | false => rw [if_neg (by decide)] at hr; subst hr; exact .done ep
    · subst hb
      have g3 := g.trans (.idle g.mh hh3)
      have ok3 := ok1.idle hh3
      have ow3 := ow1.idle hh3
      refine ⟨.ref p, rfl, p, _, rfl, ok3.h, trivial, fun o => ⟨.ref p2, rfl, by show 2 ≤ sizeLine; decide, fun t nt => ?_⟩⟩
      have ga := (g3.mut (o := .frz o (.dK (kvT so))) ok3.h0 ok3.m).freeze ok3.h0 ok3.m upd_same
      have ow4 := ow3.both (u := .frz o (.dK (kvT so))) (Ne.symm (ok3.ne ow3))
      have gd := Gr.new (o := .tup [.ref p, .ref p2]) ga.mh nt
      have ow5 := ow4.step gd
      refine q (some so, st) t (.ref p) p2 _ _ _ (hch _ (by rw [if_neg (by decide)])) (ga.trans gd) ow5.h0 ow5.m ow5.h (hpd.mono ((same_new ok3.m).trans gd.mm)) ⟨p, o, rfl, gd.mm _ _ upd_same⟩ upd_same
end
end My

set_option Elab.async false
set_option linter.all false
set_option maxRecDepth 100000
set_option maxHeartbeats 4000000
namespace My
open PySem PySem.Spec PyProof.Rows L2 L3
structure Gc (mg : Str → Option Value) : Prop extends Gb mg where
  bool : mg "bool" = none
def itemsD : PyData → List PyData
  | .list ds => ds | .tuple ds => ds | _ => []
structure CodeW (cd : CodeD) : Prop where
  c : ∀ x ∈ cd.clauses, shortT x
  n : cd.clauses.flatten.length ≤ 1000000
  k : cd.clauses.length ≤ 1000000
  s : Shorts cd.names
section
end
section
variable {P : Program} {w : World} {K : PySem.W.Frag} {mg : Str → Option Value} {base : Heap}
abbrev s_Code_len : Stmt := inClass (topS 27) 4
theorem sc_Code_len : FnScope ["self"] ["self"] (defScope s_Code_len) := ⟨rfl, rfl, rfl, by decide +kernel, rfl, by decide +kernel, by decide +kernel⟩
def sp_Code_len (K : PySem.W.Frag) (C : Addr) : Sp := sp1 (CodeR C) (fun _ => True) fun c => It' (c.clauses.length : Nat)
theorem ok_Code_len {f C : Addr} {fd : FuncData} (F : Fun K "__len__" "Code.__len__" s_Code_len f fd) (T : Gb mg) (TC : CodeT K mg C) : FnOk P w K mg base CX0 1 f fd ["self"] (sp_Code_len K C) := by
  refine F.ok sc_Code_len (fun vs H Q E h => ?_) (fun cdv A outer s H vs Q E hr h => ?_)
  · obtain ⟨x, M, v, rfl, _⟩ := h
    rfl
  · obtain ⟨c, M, v, rfl, mh, r1, hp, q⟩ := h
    refine ⟨_, (pss_one (ps_ret (pe_callB call_lenA (by rfl) T.len boot_len (pa_cons (pe_fld (pv 0) rfl) pa_nil)))), ?_⟩
    exact s_ret mh (gv_lenA (K := K) (R := TT) (gv_is (gv_clause TC (gv_var rfl r1)) fun _ _ h => h.sq)) q
end
end My

set_option Elab.async false
set_option linter.all false
set_option maxRecDepth 100000
set_option maxHeartbeats 4000000
namespace My
open PySem PySem.Spec PyProof.Rows L2 L3
open L3.Strm
section
variable {K : PySem.W.Frag} {σ : Sl} {M : Hp} {ta tb te : TE} {i j : Int}
theorem gv_mul (ha : Gv ta σ M (It' i)) (hb : Gv tb σ M (It' j)) (hc : CMul i j) : Gv (tOp (rI CMul fun i j => .int (i * j)) ta tb) σ M (It' (i * j)) := gv_op ha hb fun M' u w px py => rv_pure (fun H mh Q q => ⟨i, j, px, py, hc, q⟩) rfl
theorem gv_mod (ha : Gv ta σ M (It' i)) (hb : Gv tb σ M (It' j)) (hc : 0 < j) : Gv (tOp (rI (fun _ j => 0 < j) fun i j => .int (i % j)) ta tb) σ M (It' (i % j)) := gv_op ha hb fun M' u w px py => rv_pure (fun H mh Q q => ⟨i, j, px, py, hc, q⟩) rfl
theorem gv_fdiv (ha : Gv ta σ M (It' i)) (hb : Gv tb σ M (It' j)) (hc : CDiv i j) : Gv (tOp (rI CDiv fun i j => .int (i / j)) ta tb) σ M (It' (i / j)) := gv_op ha hb fun M' u w px py => rv_pure (fun H mh Q q => ⟨i, j, px, py, hc, q⟩) rfl
theorem gv_pow (ha : Gv ta σ M (It' i)) (hb : Gv tb σ M (It' j)) (hc : CPow i j) : Gv (tOp (rI CPow fun i j => .int (i ^ j.toNat)) ta tb) σ M (It' (i ^ j.toNat)) := gv_op ha hb fun M' u w px py => rv_pure (fun H mh Q q => ⟨i, j, px, py, hc, q⟩) rfl
theorem gv_lt (ha : Gv ta σ M (It' i)) (hb : Gv tb σ M (It' j)) : Gv (tOp (rI0 fun i j => .bl (decide (i < j))) ta tb) σ M (Bl (decide (i < j))) := gv_op ha hb fun M' u w px py => rv_pure (fun H mh Q q => ⟨i, j, px, py, q⟩) rfl
theorem gv_gt {g : Int → Int → V} (ha : Gv ta σ M (It' i)) (hb : Gv tb σ M (It' j)) : Gv (tOp (rI0 g) ta tb) σ M (fun _ v => v = g i j) := gv_op ha hb fun M' u w px py => rv_pure (fun H mh Q q => ⟨i, j, px, py, q⟩) rfl
theorem gv_int1 (ha : Gv ta σ M (It' i)) : Gv (tCB (fun xs H Q => (∃ i, xs = [V.int i] ∧ Q (.int i) H) ∨ ∃ k, xs = [V.bl k] ∧ Q (.int (if k then 1 else 0)) H) (tCons ta tNil)) σ M (It' i) := gv_cb1 ha fun M' v hv H mh Q q => .inl ⟨i, by rw [hv], q _ M' H (.refl mh) rfl⟩
theorem gv_int1b {b : Bool} (ha : Gv ta σ M (Bl b)) : Gv (tCB (fun xs H Q => (∃ i, xs = [V.int i] ∧ Q (.int i) H) ∨ ∃ k, xs = [V.bl k] ∧ Q (.int (if k then 1 else 0)) H) (tCons ta tNil)) σ M (It' (if b then 1 else 0)) := gv_cb1 ha fun M' v hv H mh Q q => .inr ⟨b, by rw [hv], q _ M' H (.refl mh) rfl⟩
/-- an int of a mixed list -/
theorem gv_ixI {ds : List PyData} {z : Int} (ha : Gv ta σ M (SqR K (Dd K) ds)) (hb : Gv tb σ M (It' i)) (hx : atI ds i = some (.int z)) : Gv (tOp (rIxX K) ta tb) σ M (It' z) := gv_is (gv_ix (K := K) (R := Dd K) ha hb hx) fun M v h => by cases h; rfl
end
theorem depthI (cs : List Int) : (PyData.list (cs.map .int)).depth ≤ 60 := by
  have : ∀ cs : List Int, PyData.depthAll (cs.map .int) = 0 := fun cs => by
    induction cs with
    | nil => simp [PyData.depthAll]
    | cons c r ih => simp [PyData.depthAll, PyData.depth, ih]
  simp [PyData.depth, this]
theorem nilI (cs : List Int) : PyData.eqv (.list (cs.map .int)) (.list []) = decide (cs = []) := by
  cases cs <;> simp [PyData.eqv, PyData.eqvAll]
section
variable {P : Program} {w : World} {K : PySem.W.Frag} {mg : Str → Option Value} {base : Heap}
abbrev s__law_draw : Stmt := topS 30
theorem sc__law_draw : FnScope ["_law_stream", "_law_many", "_law_mixed_here", "_law_digit"] ["_law_stream", "_law_many"] (defScope s__law_draw) := ⟨rfl, rfl, rfl, by decide +kernel, rfl, by decide +kernel, by decide +kernel⟩
def sp__law_draw (K : PySem.W.Frag) : Sp := spS1 It' (fun n => 0 < n ∧ n < 1073741824) (fun _ => 1) fun n => Ex It' fun i => 0 ≤ i ∧ i < n
theorem ok__law_draw {f : Addr} {fd : FuncData} (F : Fun K "_law_draw" "_law_draw" s__law_draw f fd) (T : Gc mg) : FnOk P w K mg base CX0 1 f fd ["_law_stream", "_law_many"] (sp__law_draw K) := by
  refine F.ok sc__law_draw (fun vs H Q E h => ?_) (fun cdv A outer s H vs Q E hr h => ?_)
  · obtain ⟨S, x, M, v, k, rfl, _⟩ := h
    rfl
  · obtain ⟨S, many, M, v, k, rfl, mh, at_, r1, ⟨hm1, hm2⟩, q⟩ := h
    cases r1
    have hu := hr.units
    refine ⟨_, (pss_cons (ps_asg (pe_op op_addA (pe_ix ix_X (pv 0) pe_int (fun _ _ => rfl)) pe_int) (pg_sub (pv 0) pe_int set_list))
      (pss_cons (ps_if (PW.pt (pw_and (pt_cmpR (op_eqP hu) (pe_ix ix_X (pv 0) pe_int (fun _ _ => rfl)) pe_int (nomark _)) (pw_and1 (pt_cmpR (op_neP hu) (pe_ix ix_X (pv 0) pe_int (fun _ _ => rfl)) (pe_lst pa_nil) (nomark _))))) (pss_cons (ps_asg (pe_bm PySem.F.plainAttrs_list PySem.F.slot_list_pop PySem.F.type_list_pop mt_popAt (pe_ix ix_X (pv 0) pe_int (fun _ _ => rfl)) (pa_cons pe_int pa_nil)) (pg_sub (pv 0) pe_int set_list))
      (pss_one (ps_if (pt_cmpR op_lt (pe_ix ix_X (pv 0) pe_int (fun _ _ => rfl)) (pe_op op_pow pe_int pe_int) (nomark _)) (pss_cons (ps_asg (pe_op op_mod (pe_callTy call_int1 (by rfl) T.int boot_int (pa_cons (pe_op op_addA (pe_op op_addA (pe_op op_mul (pe_ix ix_X (pv 0) pe_int (fun _ _ => rfl)) pe_int) (pe_ix ix_X (pv 0) pe_int (fun _ _ => rfl))) pe_int) pa_nil)) pe_int) (pg_sub (pv 0) pe_int set_list))
      (pss_one (ps_asg pe_int (pg_sub (pv 0) pe_int set_list)))) pss_nil))) pss_nil)
      (pss_cons (ps_if (pt_cmpR op_gt (pe_ix ix_X (pv 0) pe_int (fun _ _ => rfl)) pe_int (nomark _)) (pss_cons (ps_set (i := 3) sc__law_draw.nd rfl (by first | exact .inl rfl | exact .inr rfl) (pe_op op_mod (pe_callTy call_int1 (by rfl) T.int boot_int (pa_cons (pe_ix ix_X (pv 0) pe_int (fun _ _ => rfl)) pa_nil)) (pv 1)))
      (pss_cons (ps_asg (pe_op op_fdiv (pe_ix ix_X (pv 0) pe_int (fun _ _ => rfl)) (pv 1)) (pg_sub (pv 0) pe_int set_list))
      (pss_one (ps_ret (pv 3))))) pss_nil)
      (pss_cons (ps_set (i := 2) sc__law_draw.nd rfl (by first | exact .inl rfl | exact .inr rfl) (pe_op op_mod (pe_op op_pow (pe_op op_addA (pe_op op_addA (pe_ix ix_X (pv 0) pe_int (fun _ _ => rfl)) (pe_op op_mul pe_int (pe_ix ix_X (pv 0) pe_int (fun _ _ => rfl)))) pe_int) pe_int) pe_int))
      (pss_one (ps_ret (pe_op op_mod (pe_op op_mod (pe_op op_pow (pe_op op_addA (pe_op op_addA (pe_op op_mul (pv 2) pe_int) (pe_op op_mul (pe_op op_mul pe_int (pe_ix ix_X (pv 0) pe_int (fun _ _ => rfl))) (pe_ix ix_X (pv 0) pe_int (fun _ _ => rfl)))) pe_int) pe_int) pe_int) (pv 1)))))))), ?_⟩
    obtain ⟨hne, cells, x, n, m, h1, h2, hx, hn, hk, hm0, hm⟩ := at_
    have hk : n + ((k + 1 : Nat) : Int) ≤ 10000000 := hk
    have st0 : StAt S H cells x n m := ⟨hne, h1, h2⟩
    -- stream[2] = stream[2] + 1
    refine z_sub (j := 2) (jn := 2) (z := n + 1) rfl mh st0 rfl (gv_addIn (K := K) (gv_ixI (K := K) (i := 2) (gv_var rfl st0.sq) (gv_c rfl) rfl) (gv_c rfl)) fun M1 H1 g1 ha1 hb1 => ?_
    have st1 : StAt S H1 cells x (n + 1) m := ⟨hne, ha1, hb1⟩
    have hp18 : ((10 : Int) ^ (18 : Int).toNat) = 1000000000000000000 := by decide
    refine q_cut (fun σ' H2 => ∃ M2 cells x m, σ' = [some (.ref S.a), some (.int many), none, none] ∧ Gr M (S.cut H) M2 (S.cut H2) ∧ StAt S H2 cells x (n + 1) m ∧ 0 ≤ x ∧ 0 ≤ m ∧ m < 2147483647) (fun nx hnx => ?_) ?_
    · refine s_if0 (b := decide (x = 0) && !decide (cells = [])) (full_same g1.mh) (gt_and (gt_test (gv_is (gv_eqT (K := K) (neg := false) py_int inj_int (gv_ixI (K := K) (i := 1) (gv_var rfl st1.sq) (gv_c rfl) rfl) (gv_c rfl) (by simp [PyData.depth])) fun M v h => by simpa using h)) fun _ =>
          gt_test (gv_is (gv_eq (K := K) (neg := true) (d := .list (cells.map .int)) (e := .list []) (gv_ix (K := K) (R := Dd K) (i := 0) (gv_var rfl st1.sq) (gv_c rfl) rfl) gv_nilD (depthI cells)) fun M v h => ?_)) (fun hb H2 hh2 => ?_) (fun hb H2 hh2 => ?_)
      · rw [show v = _ from h, nilI]; simp
      · -- a cell is taken
        obtain ⟨ex, hc⟩ : x = 0 ∧ cells ≠ [] := by simpa using hb
        have st2 := st1.same hh2
        have g2 : Gr M (S.cut H) M1 (S.cut H2) := g1.trans (.idle g1.mh fun y u e => by rw [cut_on (on_of e)]; exact hh2 y u (of_cut e))
        obtain ⟨cell, rest, rfl⟩ : ∃ c r, cells = c :: r := by cases cells with | nil => exact absurd rfl hc | cons c r => exact ⟨c, r, rfl⟩
        refine ⟨.ref S.a, rfl, .inl ⟨S.a, _, 0, .ref S.b, rfl, rfl, .inl (.inl st2.a), rfl, .inl ⟨rfl, _, .inl (.inl st2.b)⟩, S.b, _, 0, 0, .int cell, rfl, rfl, st2.b, by decide, by decide, ?_, rfl, .ref S.a, rfl, S.a, _, 1, 1, rfl, rfl, (by rw [upd_ne hne]; exact st2.a), rfl, ?_⟩⟩
        · simp [seqIndex?]
        · have st3 : StAt S (upd (upd H2 S.b (.lst (((cell :: rest).map V.int).eraseIdx 0))) S.a (.lst ([V.ref S.b, .int x, .int (n + 1), .int m].set 1 (.int cell)))) rest cell (n + 1) m := ⟨hne, upd_same, by rw [upd_ne (Ne.symm hne), upd_same]; rfl⟩
          have g3 : Gr M (S.cut H) M1 (S.cut (upd (upd H2 S.b (.lst (((cell :: rest).map V.int).eraseIdx 0))) S.a (.lst ([V.ref S.b, .int x, .int (n + 1), .int m].set 1 (.int cell))))) := by rw [cut_updo (.inl rfl), cut_updo (.inr rfl)]; exact g2
          revert st3 g3
          generalize upd (upd H2 S.b (.lst (((cell :: rest).map V.int).eraseIdx 0))) S.a (.lst ([V.ref S.b, .int x, .int (n + 1), .int m].set 1 (.int cell))) = H3
          intro st3 g3
          refine s_if0 (b := decide (cell < 1000000000000000000)) (full_same g3.mh) (gt_test (gv_is (gv_lt (gv_ixI (K := K) (i := 1) (gv_var rfl st3.sq) (gv_c rfl) rfl) (gv_pow (i := 10) (j := 18) (gv_c rfl) (gv_c rfl) ⟨by decide, by decide, by decide⟩)) fun M v h => by rw [hp18] at h; exact h)) (fun hb4 H4 hh4 => ?_) (fun hb4 H4 hh4 => ?_)
          · have st4 := st3.same hh4
            have g4 : Gr M (S.cut H) M1 (S.cut H4) := g3.trans (.idle g3.mh fun y u e => by rw [cut_on (on_of e)]; exact hh4 y u (of_cut e))
            refine z_sub (j := 3) (jn := 3) (z := (m * 31 + cell + 7) % 2147483647) rfl g4.mh st4 rfl (gv_mod (gv_int1 (gv_addIn (K := K) (gv_addIn (K := K) (gv_mul (gv_ixI (K := K) (i := 3) (gv_var rfl st4.sq) (gv_c rfl) rfl) (gv_c rfl) (.inr ⟨by decide, by decide⟩)) (gv_ixI (K := K) (i := 1) (gv_var rfl st4.sq) (gv_c rfl) rfl)) (gv_c rfl))) (gv_c rfl) (by decide)) fun M5 H5 g5 ha5 hb5 => ?_
            have st5 : StAt S H5 rest cell (n + 1) ((m * 31 + cell + 7) % 2147483647) := ⟨hne, ha5, hb5⟩
            refine z_subE (j := 1) (jn := 1) (z := 0) rfl g5.mh st5 rfl (gv_c rfl) fun M6 H6 g6 ha6 hb6 => ?_
            exact hnx _ _ ⟨M6, rest, 0, _, rfl, (g4.trans g5).trans g6, ⟨hne, ha6, hb6⟩, Int.le_refl _, Int.emod_nonneg _ (by decide), Int.emod_lt_of_pos _ (by decide)⟩
          · have hc : (1000000000000000000 : Int) ≤ cell := by simpa using hb4
            exact hnx _ _ ⟨M1, rest, cell, m, rfl, g3.trans (.idle g3.mh fun y u e => by rw [cut_on (on_of e)]; exact hh4 y u (of_cut e)), st3.same hh4, by omega, hm0, hm⟩
      · exact hnx _ _ ⟨M1, cells, x, m, rfl, g1.trans (.idle g1.mh fun y u e => by rw [cut_on (on_of e)]; exact hh2 y u (of_cut e)), st1.same hh2, hx, hm0, hm⟩
    · rintro σ' H2 ⟨M2, cells, x, m, rfl, g2, st2, hx, hm0, hm⟩
      have hk' : n + 1 + (k : Int) ≤ 10000000 := by omega
      refine q_if0 (b := decide (0 < x)) (full_same g2.mh) (gt_test (gv_is (gv_gt (gv_ixI (K := K) (i := 1) (gv_var rfl st2.sq) (gv_c rfl) rfl) (gv_c rfl)) fun M v h => h)) (fun hb3 H3 hh3 => ?_) (fun hb3 H3 hh3 => ?_)
      · have st3 := st2.same hh3
        have g3 : Gr M (S.cut H) M2 (S.cut H3) := g2.trans (.idle g2.mh fun y u e => by rw [cut_on (on_of e)]; exact hh3 y u (of_cut e))
        refine q_asg (M := S.full M2 H3) (P := It' (x % many)) (full_same g3.mh) (gv_mod (gv_int1 (gv_ixI (K := K) (i := 1) (gv_var rfl st3.sq) (gv_c rfl) rfl)) (gv_var rfl rfl) hm1) fun v4 M4 H4 g4 r4 => ?_
        cases r4
        have st4 := st3.same g4.hh
        have G4 := g3.trans (unfull g3.mh g4)
        refine z_sub (j := 1) (jn := 1) (z := x / many) rfl G4.mh st4 rfl (gv_fdiv (gv_ixI (K := K) (i := 1) (gv_var rfl st4.sq) (gv_c rfl) rfl) (gv_var rfl rfl) ⟨hm1, hm2⟩) fun M5 H5 g5 ha5 hb5 => ?_
        refine ⟨.int (x % many), rfl, q _ M5 H5 (G4.trans g5) ⟨hne, cells, x / many, n + 1, m, ha5, hb5, Int.ediv_nonneg hx (by omega), by omega, hk', hm0, hm⟩ ⟨x % many, ⟨Int.emod_nonneg _ (by omega), Int.emod_lt_of_pos _ hm1⟩, rfl⟩⟩
      · have st3 := st2.same hh3
        have g3 : Gr M (S.cut H) M2 (S.cut H3) := g2.trans (.idle g2.mh fun y u e => by rw [cut_on (on_of e)]; exact hh3 y u (of_cut e))
        refine q_asg (M := S.full M2 H3) (P := It' ((m + 104729 * (n + 1) + 17) ^ (5 : Int).toNat % 2147483629)) (full_same g3.mh) (gv_mod (gv_pow (gv_addIn (K := K) (gv_addIn (K := K) (gv_ixI (K := K) (i := 3) (gv_var rfl st3.sq) (gv_c rfl) rfl) (gv_mul (gv_c rfl) (gv_ixI (K := K) (i := 2) (gv_var rfl st3.sq) (gv_c rfl) rfl) (.inl ⟨by decide, by decide⟩))) (gv_c rfl)) (gv_c rfl) ⟨by decide, by decide, by omega⟩) (gv_c rfl) (by decide)) fun v4 M4 H4 g4 r4 => ?_
        have st4 := st3.same g4.hh
        have G4 := g3.trans (unfull g3.mh g4)
        have hz0 := Int.emod_nonneg ((m + 104729 * (n + 1) + 17) ^ (5 : Int).toNat) (show (2147483629 : Int) ≠ 0 by decide)
        have hz1 := Int.emod_lt_of_pos ((m + 104729 * (n + 1) + 17) ^ (5 : Int).toNat) (show (0 : Int) < 2147483629 by decide)
        revert r4 hz0 hz1
        generalize (m + 104729 * (n + 1) + 17) ^ (5 : Int).toNat % 2147483629 = z
        intro r4 hz0 hz1
        have hnn : (n + 1) * (n + 1) ≤ 10000000 * 10000000 := Int.mul_le_mul (by omega) (by omega) (by omega) (by omega)
        have hnn0 : 0 ≤ (n + 1) * (n + 1) := Int.mul_nonneg (by omega) (by omega)
        have hass : 40503 * (n + 1) * (n + 1) = 40503 * ((n + 1) * (n + 1)) := Int.mul_assoc _ _ _
        refine s_ret (M := S.full (S.cut M4) H4) (P := It' ((z * 48271 + 40503 * (n + 1) * (n + 1) + 13) ^ (3 : Int).toNat % 1000000007 % many)) (full_same G4.mh) (gv_mod (gv_mod (gv_pow (gv_addIn (K := K) (gv_addIn (K := K) (gv_mul (gv_var rfl r4) (gv_c rfl) (.inr ⟨by decide, by decide⟩)) (gv_mul (gv_mul (gv_c rfl) (gv_ixI (K := K) (i := 2) (gv_var rfl st4.sq) (gv_c rfl) rfl) (.inl ⟨by decide, by decide⟩)) (gv_ixI (K := K) (i := 2) (gv_var rfl st4.sq) (gv_c rfl) rfl) (.inr ⟨by omega, by omega⟩))) (gv_c rfl)) (gv_c rfl) ⟨by decide, by decide, by omega⟩) (gv_c rfl) (by decide)) (gv_var rfl rfl) hm1) fun v5 M5 H5 g5 r5 => ?_
        have st5 := st4.same g5.hh
        exact q _ _ H5 (G4.trans (unfull G4.mh g5)) ⟨hne, cells, x, n + 1, m, st5.a, st5.b, hx, by omega, hk', hm0, hm⟩ ⟨_, ⟨Int.emod_nonneg _ (by omega), Int.emod_lt_of_pos _ hm1⟩, r5⟩
end
end My

set_option Elab.async false
set_option linter.all false
set_option maxRecDepth 100000
set_option maxHeartbeats 4000000
namespace My
open PySem PySem.Spec PyProof.Rows L2 L3
open L3.Strm
theorem rv_ix {K : PySem.W.Frag} {α : Type} {R : Rl α} [Mon R] {xs : List α} {i : Int} {x : α} {M : Hp} {u w : V} (hu : SqR K R xs M u) (hw : It' i M w) (hx : atI xs i = some x) : RV (rIxX K u w) M (R x) :=
  fun H mh Q q => gv_ix (K := K) (σ := []) (M := M) (ta := tC u) (tb := tC w) (gv_c hu) (gv_c hw) hx H mh Q q
theorem rv_ixS {K : PySem.W.Frag} {x : Str} {i : Int} {c : Nat} {M : Hp} {u w : V} (hu : Tx x M u) (hw : It' i M w) (hz : x.length ≤ sizeLine) (hx : atI x.cps.toList i = some c) : RV (rIxX K u w) M (Tx ⟨#[c]⟩) :=
  fun H mh Q q => gv_ixS (K := K) (σ := []) (M := M) (ta := tC u) (tb := tC w) (gv_c hu) (gv_c hw) hz hx H mh Q q
theorem atI_in {α : Type} {xs : List α} {i : Int} (h0 : 0 ≤ i) (h1 : i < xs.length) : ∃ x ∈ xs, atI xs i = some x := by
  have hi : i.toNat < xs.length := by omega
  refine ⟨xs[i.toNat], List.getElem_mem _, ?_⟩
  have := atI_nat (xs := xs) (j := i.toNat) (List.getElem?_eq_getElem hi)
  rw [Int.toNat_of_nonneg h0] at this
  exact this
theorem erase_map {α β : Type} (f : α → β) : ∀ (l : List α) (i : Nat), (l.map f).eraseIdx i = (l.eraseIdx i).map f
  | [], _ => rfl
  | _ :: _, 0 => rfl
  | a :: l, i + 1 => by show f a :: (l.map f).eraseIdx i = f a :: (l.eraseIdx i).map f; rw [erase_map f l i]
theorem erase_perm {α : Type} : ∀ {l : List α} {i : Nat} (h : i < l.length), (l[i] :: l.eraseIdx i).Perm l
  | _ :: _, 0, _ => List.Perm.refl _
  | a :: l, i + 1, h => (List.Perm.swap _ _ _).trans (List.Perm.cons a (erase_perm (l := l) (i := i) (Nat.lt_of_succ_lt_succ h)))
section
variable {P : Program} {w : World} {K : PySem.W.Frag} {mg : Str → Option Value} {base : Heap}
abbrev s__law_pick : Stmt := topS 31
theorem sc__law_pick : FnScope ["_law_stream", "_law_things"] ["_law_stream", "_law_things"] (defScope s__law_pick) := ⟨rfl, rfl, rfl, by decide +kernel, rfl, by decide +kernel, by decide +kernel⟩
def sp__law_pick (K : PySem.W.Frag) : Sp := spS1 (SqR K Tx) (fun xs => 0 < xs.length ∧ xs.length ≤ 1000000) (fun _ => 1) fun xs => Ex Tx fun x => x ∈ xs
theorem ok__law_pick {f : Addr} {fd : FuncData} (F : Fun K "_law_pick" "_law_pick" s__law_pick f fd) (T : Gc mg) (c__law_draw : Cal P w K mg base 1 "_law_draw" ["_law_stream", "_law_many"] (sp__law_draw K)) : FnOk P w K mg base CX0 2 f fd ["_law_stream", "_law_things"] (sp__law_pick K) := by
  refine F.ok sc__law_pick (fun vs H Q E h => ?_) (fun cdv A outer s H vs Q E hr h => ?_)
  · obtain ⟨S, x, M, v, k, rfl, _⟩ := h
    rfl
  · obtain ⟨S, xs, M, v, k, rfl, mh, at_, r1, ⟨h1, h2⟩, q⟩ := h
    refine ⟨_, (pss_one (ps_ret (pe_ix ix_X (pv 1) (pe_f c__law_draw (hr.mono (by decide)) (pa_cons (pv 0) (pa_cons (pe_callB call_lenA (by rfl) T.len boot_len (pa_cons (pv 1) pa_nil)) pa_nil))) (fun _ _ => rfl)))), ?_⟩
    refine z_ret (S := S) (c := 0 + 1) mh at_ (gs_op (P := SqR K Tx xs) (P1 := Ex It' fun i => 0 ≤ i ∧ i < (xs.length : Int)) (gv_var rfl r1).s (gs_call1 (S := S) (R1 := It') (pre := fun n => 0 < n ∧ n < 1073741824) (cs := fun _ => 1) (R := fun n => Ex It' fun i => 0 ≤ i ∧ i < n) (x := (xs.length : Int)) rfl (gv_lenA (K := K) (R := Tx) (gv_var rfl r1)) ⟨by omega, by omega⟩) fun M' u w pu ⟨i, hi, pw⟩ => ?_) q
    obtain ⟨x, hx, ha⟩ := atI_in hi.1 hi.2
    exact fun H mh Q q => rv_ix pu pw ha H mh Q fun v M' H' g r => q v M' H' g ⟨x, hx, r⟩
abbrev s__law_mixed : Stmt := topS 32
theorem sc__law_mixed : FnScope ["_law_stream", "_law_things", "_law_left", "_law_k"] ["_law_stream", "_law_things"] (defScope s__law_mixed) := ⟨rfl, rfl, rfl, by decide +kernel, rfl, by decide +kernel, by decide +kernel⟩
def sp__law_mixed (K : PySem.W.Frag) : Sp := slS1 (SqR K Tx) (fun xs => xs.length ≤ 1000000) (fun xs => xs.length) fun xs M ws => ∃ ys : List Str, ys.Perm xs ∧ Pd Tx M ys ws
theorem ok__law_mixed {f : Addr} {fd : FuncData} (F : Fun K "_law_mixed" "_law_mixed" s__law_mixed f fd) (T : Gc mg) (c__law_draw : Cal P w K mg base 1 "_law_draw" ["_law_stream", "_law_many"] (sp__law_draw K)) : FnOk P w K mg base CX0 2 f fd ["_law_stream", "_law_things"] (sp__law_mixed K) := by
  refine F.ok sc__law_mixed (fun vs H Q E h => ?_) (fun cdv A outer s H vs Q E hr h => ?_)
  · obtain ⟨S, x, M, v, k, rfl, _⟩ := h
    rfl
  · obtain ⟨S, xs, M, v, k, rfl, mh, at_, r1, h1, q⟩ := h
    refine ⟨_, (pss_cons (ps_set (i := 2) sc__law_mixed.nd rfl (by first | exact .inl rfl | exact .inr rfl) (pe_callTy call_lstA (by rfl) T.list boot_list (pa_cons (pv 1) pa_nil)))
      (pss_one (ps_ret (pe_lc (own := [("_law_k", 3)]) (g := (gName 3)) (tt := tYes) (te := (tBM K "list" rPopAt (tVar 2) (tCons (tCall (sp__law_draw K) [] E0 (tCons (tVar 0) (tCons (tCB (rLenA K) (tCons (tVar 2) tNil)) tNil))) tNil))) (by rfl) sc__law_mixed.nd (pi_range1 (by rfl) T.range (pa_cons (pe_callB call_lenA (by rfl) T.len boot_len (pa_cons (pv 2) pa_nil)) pa_nil)) (blkOk_by (by rfl)) (fun _ _ _ _ _ => (pg_name (i := 3) sc__law_mixed.nd rfl (by first | exact .inl rfl | exact .inr rfl))) (fun _ _ _ _ _ => pts_nil) (fun _ _ _ _ _ => (pe_bm PySem.F.plainAttrs_list PySem.F.slot_list_pop PySem.F.type_list_pop mt_popAt (pv 2) (pa_cons (pe_f c__law_draw (hr.mono (by decide)) (pa_cons (pv 0) (pa_cons (pe_callB call_lenA (by rfl) T.len boot_len (pa_cons (pv 2) pa_nil)) pa_nil))) pa_nil))))))), ?_⟩
    refine z_asgL (S := S) (c := 0) mh at_ (gl_lstOf (K := K) (R1 := Tx) (gv_var rfl r1)).s fun p vs M1 H1 g1 a1 hp0 hpm hpw hpd => ?_
    have evs := pd_tx hpd
    subst evs
    -- the comprehension
    have hlen : Gv (tCB (rLenA K) (tCons (tVar 2) tNil)) [some (.ref S.a), some v, some (.ref p), none] (upd M1 p (.lst (xs.map V.str))) (It' (xs.length : Nat)) := gv_lenA (K := K) (R := Tx) (gv_var rfl (.inl ⟨p, _, rfl, .inl (.inl upd_same), pd_of_tx xs⟩))
    have hdis : ∀ {D : Addr} {H2 : Hp} {o : HO}, H2 D = none → S.cut H2 p = some o → p ≠ D := fun hD hp z => by subst z; have := of_cut hp; rw [hD] at this; cases this
    refine lc_rngL hlen hpm (g1.mh.trans cut_same) (of_cut hpw) (Nat.le_trans h1 (by decide)) ls_nt
      (fun D i M' H' => ∃ L zs : List Str, Gr M (S.cut H) M' (S.cut H') ∧ S.At (k + (xs.length - i)) H' ∧ S.cut H D = none ∧ M' D = none ∧ M' p = none ∧ p ≠ D ∧ S.cut H' D = some (.lst (zs.map V.str)) ∧ S.cut H' p = some (.lst (L.map V.str)) ∧ (zs ++ L).Perm xs ∧ zs.length = i) (fun M2 H2 D g2 hD => ?_) (fun D i M' H' hi => ?_) (fun D M' H' => ?_)
    · have g2' := lift g1.mh a1 g2
      have a2 := a1.same g2.hh
      have nD := a2.fresh hD
      have hp2 := g2'.hh _ _ hpw
      have hpD := hdis hD hp2
      have G2 := g1.trans g2'
      refine ⟨xs, [], by rw [cut_upd nD]; exact G2.trans (.own G2.mh (a2.cutn hD)), a2.upd nD, G2.hh.free (a2.cutn hD), G2.mh.free (a2.cutn hD), g2'.keep hpm hpw, hpD, by rw [cut_upd nD, upd_same]; rfl, by rw [cut_upd nD, upd_ne hpD]; exact hp2, List.Perm.refl _, rfl⟩
    · rintro ⟨L, zs, g, a', hD0, mD, mp, hpD, hwD, hwp, hper, hzl⟩
      have hLl : L.length = xs.length - i := by have := hper.length_eq; rw [List.length_append] at this; omega
      have e1 : k + (xs.length - i) = (k + (xs.length - (i + 1))) + 1 := by omega
      rw [e1] at a'
      refine ⟨.ref p, rfl, .inl ⟨rfl, _, .inl (.inl (of_cut hwp))⟩, ?_⟩
      refine GvS.lend (S := S) (c := 1) (P := Ex It' fun z => 0 ≤ z ∧ z < (L.length : Int)) (gs_call1 (S := S) (R1 := It') (pre := fun n => 0 < n ∧ n < 1073741824) (cs := fun _ => 1) (R := fun n => Ex It' fun i => 0 ≤ i ∧ i < n) (x := (L.length : Int)) rfl
        (gv_lenA (K := K) (R := Tx) (gv_var rfl (.inl ⟨p, _, rfl, .inl (.inl upd_same), pd_of_tx L⟩))) ⟨by omega, by omega⟩) mp g.mh a' hwp ls_nt fun v3 M3 H3 g3 a3 ⟨z, hz, rz⟩ => ?_
      cases rz
      have hp3 := g3.hh _ _ hwp
      have hD3 := g3.hh _ _ hwD
      have hzn : z.toNat < L.length := by omega
      refine ⟨p, L.map V.str, z, z.toNat, .str L[z.toNat], rfl, rfl, of_cut hp3, by omega, by omega, ?_, ?_, ?_⟩
      · unfold seqIndex?
        rw [List.length_map]
        simp only [if_neg (show ¬ z < 0 by omega)]
        rw [if_pos (by simp; omega)]
      · rw [List.getElem?_map, List.getElem?_eq_getElem hzn]; rfl
      · have np := on_of hp3
        have nD := on_of hD3
        refine ⟨zs.map V.str, by rw [upd_ne (Ne.symm hpD)]; exact of_cut hD3, szL (by rw [List.length_map]; omega), M3, L.eraseIdx z.toNat, zs ++ [L[z.toNat]], ?_, (a3.upd np).upd nD, hD0, g3.keep mD hwD, g3.keep mp hwp, hpD, ?_, ?_, ?_, by rw [List.length_append, hzl]; rfl⟩
        · rw [cut_upd nD, cut_upd np]
          exact ((g.trans g3).mut hp0 (g3.keep mp hwp)).mut hD0 (g3.keep mD hwD)
        · rw [cut_upd nD, upd_same, List.map_append]; rfl
        · rw [cut_upd nD, cut_upd np, upd_ne hpD, upd_same, erase_map]
        · refine List.Perm.trans ?_ hper
          rw [List.append_assoc]
          exact List.Perm.append_left zs (erase_perm hzn)
    · rintro ⟨L, zs, g, a', hD0, mD, mp, hpD, hwD, hwp, hper, hzl⟩
      have hL : L = [] := by
        have := hper.length_eq; rw [List.length_append] at this
        exact List.eq_nil_of_length_eq_zero (by omega)
      subst hL
      rw [List.append_nil] at hper
      exact q D _ M' H' g (a'.le (by omega)) hD0 mD hwD ⟨zs, hper, pd_of_tx zs⟩
end
end My

set_option Elab.async false
set_option linter.all false
set_option maxRecDepth 100000
set_option maxHeartbeats 4000000
namespace My
open PySem PySem.Spec PyProof.Rows L2 L3
open L3.Strm
section
variable {K : PySem.W.Frag} {S : Strm} {σ : Sl} {M : Hp} {te : TE} {i : Nat} {n : Int}
theorem gs_draw (hi : σ[i]? = some (some (.ref S.a))) (h : Gv te σ M (It' n)) (h0 : 0 < n) (h1 : n < 1073741824) : GvS S 1 (tCall (sp__law_draw K) [] E0 (tCons (tVar i) (tCons te tNil))) σ M (Ex It' fun z => 0 ≤ z ∧ z < n) :=
  gs_call1 (S := S) (R1 := It') (pre := fun n => 0 < n ∧ n < 1073741824) (cs := fun _ => 1) (R := fun n => Ex It' fun i => 0 ≤ i ∧ i < n) (x := n) hi h ⟨h0, h1⟩
theorem gts_zero (hi : σ[i]? = some (some (.ref S.a))) (h : Gv te σ M (It' n)) (h0 : 0 < n) (h1 : n < 1073741824) : GvTS S 1 (tTest (tOp (rEqP K false) (tCall (sp__law_draw K) [] E0 (tCons (tVar i) (tCons te tNil))) (tC (.int 0)))) σ M fun _ => True :=
  (gts_test (P := fun _ v => ∃ b, v = .bl b) (gs_op (c2 := 0) (P1 := It' 0) (gs_draw (K := K) hi h h0 h1) (gv_c rfl).s fun M' x y ⟨z, _, rz⟩ py => fun H mh Q q =>
    gv_eqT (K := K) (neg := false) (σ := []) (M := M') (ta := tC x) (tb := tC y) py_int inj_int (gv_c rz) (gv_c py) (by simp [PyData.depth]) H mh Q fun v M' H' g r => q v M' H' g ⟨_, r⟩) fun M v ⟨b, e⟩ => ⟨b, e, trivial⟩)
end
def sgn (c : Nat) : Str := ⟨#[c]⟩
theorem join_sgn (cs : List Nat) : Txt.join "" (cs.map sgn) = ⟨cs.toArray⟩ := by
  have h := SX.join_S [] (cs.map fun c => [c])
  rw [List.map_map] at h
  have e : ∀ cs : List Nat, TL.joinL [] (cs.map fun c => [c]) = cs := fun cs => by
    induction cs with
    | nil => rfl
    | cons c r ih =>
      cases r with
      | nil => rfl
      | cons d r => show [c] ++ ([] ++ TL.joinL [] ((d :: r).map fun c => [c])) = c :: d :: r; rw [ih]; rfl
  rw [e] at h
  exact h
theorem letter_at : ∀ j, j < 26 → g_LETTERS.cps.toList[j]? = some (97 + j) := by decide +kernel
theorem atI_letter {z : Int} (h0 : 0 ≤ z) (h1 : z < 26) : atI g_LETTERS.cps.toList z = some (97 + z.toNat) := by
  have := atI_nat (letter_at z.toNat (by omega))
  rw [Int.toNat_of_nonneg h0] at this
  exact this
theorem isNm_of {cs : List Nat} (h1 : 1 ≤ cs.length) (h2 : cs.length ≤ 8) (h : ∀ c ∈ cs, ∃ j, j < 26 ∧ c = 97 + j) : isNm ⟨cs.toArray⟩ = true := by
  simp only [isNm, Bool.and_eq_true, decide_eq_true_eq, List.all_eq_true]
  refine ⟨⟨by simpa [Str.length] using h1, by simpa [Str.length] using h2⟩, fun c hc => ?_⟩
  obtain ⟨j, hj, rfl⟩ := h c (by simpa using hc)
  exact List.mem_of_getElem? (letter_at j hj)
def words : List Str := ["sign", "helper", "clause", "dead", "forced", "all", "found"]
theorem words_nm : ∀ x ∈ words, isNm x = true := by decide +kernel
def spare (i : Nat) : Str := ⟨#[113, 97 + i / 26, 97 + i % 26]⟩
theorem spare_nm {i : Nat} (h : i < 676) : isNm (spare i) = true := isNm_of (cs := [113, 97 + i / 26, 97 + i % 26]) (by simp) (by simp) fun c hc => by
  simp only [List.mem_cons, List.not_mem_nil, or_false] at hc
  rcases hc with rfl | rfl | rfl
  · exact ⟨16, by decide, rfl⟩
  · exact ⟨i / 26, by omega, rfl⟩
  · exact ⟨i % 26, by omega, rfl⟩
theorem spare_inj {i j : Nat} (h : spare i = spare j) : i = j := by
  have h1 := congrArg (fun x : Str => x.cps.toList) h
  simp only [spare, List.cons.injEq, and_true, true_and] at h1
  omega
theorem spare_eq (i : Nat) : ("q" : Str) ++ sgn (97 + i / 26) ++ sgn (97 + i % 26) = spare i := rfl
theorem nodup_le {ys : List Str} : ∀ {xs : List Str}, xs.Nodup → (∀ x ∈ xs, x ∈ ys) → xs.length ≤ ys.length := by
  intro xs
  induction xs generalizing ys with
  | nil => intro _ _; exact Nat.zero_le _
  | cons x xs ih =>
    intro nd h
    obtain ⟨hx, nd⟩ := List.nodup_cons.mp nd
    have h1 := ih (ys := ys.filter fun y => decide (y ≠ x)) nd fun z hz => List.mem_filter.mpr ⟨h z (List.mem_cons_of_mem _ hz), decide_eq_true fun e => hx (e ▸ hz)⟩
    have h2 := filter_lt (l := x) (p := fun _ => true) (q := fun y => decide (y ≠ x)) (xs := ys) (fun _ _ => rfl) (h x (List.mem_cons_self ..)) rfl (by simp)
    rw [List.filter_eq_self.mpr fun _ _ => rfl] at h2
    rw [List.length_cons]
    omega
theorem spare_free {taken : List Str} (h : ∀ i, i < 676 → spare i ∈ taken) : 676 ≤ taken.length := by
  have nd : ((List.range 676).map spare).Nodup := by
    show List.Pairwise _ _
    rw [List.pairwise_map]
    exact List.Pairwise.imp (fun hne e => hne (spare_inj e)) (List.nodup_range (n := 676))
  have := nodup_le nd fun x hx => by
    obtain ⟨i, hi, rfl⟩ := List.mem_map.mp hx
    exact h i (List.mem_range.mp hi)
  simpa using this
theorem sgns_of {α : Type} {xs : List α} {ys : List Str} (h : Paired (fun _ x => ∃ j, j < 26 ∧ x = sgn (97 + j)) xs ys) : ∃ cs : List Nat, ys = cs.map sgn ∧ cs.length = xs.length ∧ ∀ c ∈ cs, ∃ j, j < 26 ∧ c = 97 + j := by
  induction h with
  | nil => exact ⟨[], rfl, rfl, fun c h => nomatch h⟩
  | cons q _ ih =>
    obtain ⟨j, hj, e⟩ := q
    obtain ⟨cs, h1, h2, h3⟩ := ih
    refine ⟨(97 + j) :: cs, by rw [e, h1]; rfl, by simp [h2], fun c hc => ?_⟩
    rcases List.mem_cons.mp hc with rfl | hc
    · exact ⟨j, hj, rfl⟩
    · exact h3 c hc
theorem sgn_sum (cs : List Nat) : ((cs.map sgn).map (·.length)).sum = cs.length := by
  induction cs with
  | nil => rfl
  | cons c r ih => simp only [List.map_cons, List.sum_cons, ih, List.length_cons]; show 1 + r.length = _; omega
section
variable {P : Program} {w : World} {K : PySem.W.Frag} {mg : Str → Option Value} {base : Heap}
abbrev s__law_fresh : Stmt := topS 34
theorem sc__law_fresh : FnScope ["_law_stream", "_law_taken", "_law_name", "_law_k", "_law_letters", "_law_words", "_law_spare"] ["_law_stream", "_law_taken"] (defScope s__law_fresh) := ⟨rfl, rfl, rfl, by decide +kernel, rfl, by decide +kernel, by decide +kernel⟩
def sp__law_fresh (K : PySem.W.Frag) : Sp := spS1 (SqR K Tx) (fun xs => xs.length ≤ 600) (fun _ => 12) fun xs => Ex Tx fun x => isNm x = true ∧ x ∉ xs
theorem ok__law_fresh {f : Addr} {fd : FuncData} (F : Fun K "_law_fresh" "_law_fresh" s__law_fresh f fd) (T : Gc mg) (c__law_draw : Cal P w K mg base 1 "_law_draw" ["_law_stream", "_law_many"] (sp__law_draw K)) (c__law_pick : Cal P w K mg base 2 "_law_pick" ["_law_stream", "_law_things"] (sp__law_pick K)) :
    FnOk P w K mg base CX0 3 f fd ["_law_stream", "_law_taken"] (sp__law_fresh K) := by
  refine F.ok sc__law_fresh (fun vs H Q E h => ?_) (fun cdv A outer s H vs Q E hr h => ?_)
  · obtain ⟨S, x, M, v, k, rfl, _⟩ := h
    rfl
  · obtain ⟨S, tk, M, v, k, rfl, mh, at_, r1, h1, q⟩ := h
    have hu := hr.units
    refine ⟨_, (pss_cons (ps_asg (pe_tup (pa_cons pe_str (pa_cons (pe_lst (pa_cons pe_str (pa_cons pe_str (pa_cons pe_str (pa_cons pe_str (pa_cons pe_str (pa_cons pe_str (pa_cons pe_str pa_nil)))))))) pa_nil))) (pg_tup (by rfl) (pgs_cons (pg_name (i := 4) sc__law_fresh.nd rfl (by first | exact .inl rfl | exact .inr rfl)) (pgs_cons (pg_name (i := 5) sc__law_fresh.nd rfl (by first | exact .inl rfl | exact .inr rfl)) pgs_nil))))
      (pss_cons (ps_set (i := 2) sc__law_fresh.nd rfl (by first | exact .inl rfl | exact .inr rfl) (pe_join pe_str (pe_lc (own := [("_law_k", 3)]) (g := (gName 3)) (tt := tYes) (te := (tOp (rIxX K) (tVar 4) (tCall (sp__law_draw K) [] E0 (tCons (tVar 0) (tCons (tC (.int 26)) tNil))))) (by rfl) sc__law_fresh.nd (pi_range1 (by rfl) T.range (pa_cons (pe_ix ix_X (pe_lst (pa_cons pe_int (pa_cons pe_int (pa_cons pe_int (pa_cons pe_int (pa_cons pe_int (pa_cons pe_int pa_nil))))))) (pe_f c__law_draw (hr.mono (by decide)) (pa_cons (pv 0) (pa_cons pe_int pa_nil))) (fun _ _ => rfl)) pa_nil)) (blkOk_by (by rfl)) (fun _ _ _ _ _ => (pg_name (i := 3) sc__law_fresh.nd rfl (by first | exact .inl rfl | exact .inr rfl))) (fun _ _ _ _ _ => pts_nil) (fun _ _ _ _ _ => (pe_ix ix_X (pv 4) (pe_f c__law_draw (hr.mono (by decide)) (pa_cons (pv 0) (pa_cons pe_int pa_nil))) (fun _ _ => rfl))))))
      (pss_cons (ps_set (i := 2) sc__law_fresh.nd rfl (by first | exact .inl rfl | exact .inr rfl) (pe_ifExp (pt_cmpR (op_eqP hu) (pe_f c__law_draw (hr.mono (by decide)) (pa_cons (pv 0) (pa_cons pe_int pa_nil))) pe_int (nomark _)) (pe_f c__law_pick (hr.mono (by decide)) (pa_cons (pv 0) (pa_cons (pv 5) pa_nil))) (pv 2)))
      (pss_cons (ps_for PassesOwn.never (by rfl) (pi_range1 (by rfl) T.range (pa_cons (pe_op op_mul pe_int (pe_callTy call_int1 (by rfl) T.int boot_int (pa_cons (pe_cmpR (op_inA hu) (pv 2) (pv 1) (by rfl)) pa_nil))) pa_nil)) (pg_name (i := 3) sc__law_fresh.nd rfl (by first | exact .inl rfl | exact .inr rfl)) (pss_cons (ps_set (i := 6) sc__law_fresh.nd rfl (by first | exact .inl rfl | exact .inr rfl) (pe_op op_addA (pe_op op_addA pe_str (pe_ix ix_X (pv 4) (pe_op op_fdiv (pv 3) pe_int) (fun _ _ => rfl))) (pe_ix ix_X (pv 4) (pe_op op_mod (pv 3) pe_int) (fun _ _ => rfl))))
      (pss_one (ps_if (pt_cmpR (op_niA hu) (pv 6) (pv 1) (by rfl)) (pss_one (ps_ret (pv 6))) pss_nil))))
      (pss_one (ps_ret (pv 2))))))), ?_⟩
    refine z_asgT (S := S) (k := k + 12) (c := 0) (R := PrR K Tx (LiR Tx)) (x := (g_LETTERS, words)) mh at_ (gv_pair (gv_c rfl) (gv_strs words (by decide))).s tg_2 fun σ1 M1 H1 g1 a1 ⟨vl, vw, rl, rw', e⟩ => ?_
    cases rl
    subst e
    -- name = "".join([..])
    refine z_asg (S := S) (k := k + 3) (c := 9) (P := Ex Tx fun x => isNm x = true) g1.mh a1 ((gs_join (K := K) (good := fun ys => ∃ cs : List Nat, ys = cs.map sgn ∧ 1 ≤ cs.length ∧ cs.length ≤ 8 ∧ ∀ c ∈ cs, ∃ j, j < 26 ∧ c = 97 + j) ((gls_m1 (R := fun i : Nat => It' (i : Nat)) (T := Tx) (n := 8) (c1 := 1) (c2 := 1) (G := fun xs => ∃ n, (1 ≤ n ∧ n ≤ 8) ∧ xs = List.range n) (good := fun _ x => ∃ j, j < 26 ∧ x = sgn (97 + j)) ?_ ?_ (by decide) ?_).is ?_) ?_).is ?_) fun v2 M2 H2 g2 a2 ⟨nm, hnm, r2⟩ => ?_
    · refine gis_rng1 (good := fun n => 1 ≤ n ∧ n ≤ 8) (gs_op (c1 := 0) (c2 := 1) (P := SqR K It' [1, 1, 1, 2, 3, 8]) (gv_is (gv_ints [1, 1, 1, 2, 3, 8] (by decide)) fun _ _ h => h.sq).s (gs_draw (K := K) rfl (gv_c rfl) (by decide) (by decide)) fun M' u w pu ⟨z, hz, pw⟩ => ?_) fun n hn => by omega
      obtain ⟨x, hx, ha⟩ := atI_in (xs := ([1, 1, 1, 2, 3, 8] : List Int)) hz.1 hz.2
      refine fun H mh Q q => rv_ix pu pw ha H mh Q fun v M' H' g r => q v M' H' g ⟨x.toNat, ?_, ?_⟩
      · simp only [List.mem_cons, List.not_mem_nil, or_false] at hx
        omega
      · have : ((x.toNat : Nat) : Int) = x := by simp only [List.mem_cons, List.not_mem_nil, or_false] at hx; omega
        show v = .int _
        rw [this]; exact r
    · rintro xs ⟨n, hn, rfl⟩
      rw [List.length_range]; exact hn.2
    · intro xs _ i _ M2 v2 sm ri
      refine gs_op (c1 := 0) (c2 := 1) (P := Tx g_LETTERS) (gv_var rfl rfl).s (gs_draw (K := K) rfl (gv_c rfl) (by decide) (by decide)) fun M' u w pu ⟨z, hz, pw⟩ => ?_
      exact fun H mh Q q => rv_ixS pu pw (by decide) (atI_letter hz.1 hz.2) H mh Q fun v M' H' g r => q v M' H' g ⟨_, ⟨z.toNat, by omega, rfl⟩, r⟩
    · rintro M2 ws ⟨xs, ys, ⟨n, hn, rfl⟩, hp, hpd⟩
      obtain ⟨cs, h2, h3, h4⟩ := sgns_of hp
      rw [List.length_range] at h3
      exact ⟨ys, ⟨cs, h2, by omega, by omega, h4⟩, hpd⟩
    · rintro ys ⟨cs, rfl, h2, h3, h4⟩
      rw [sgn_sum]
      have e0 : (Str.ofString "").length = 0 := rfl
      rw [e0]
      omega
    · rintro M2 v2 ⟨ys, ⟨cs, rfl, h2, h3, h4⟩, r⟩
      rw [join_sgn] at r
      exact ⟨_, isNm_of h2 h3 h4, r⟩
    -- name = pick(..) if draw(9) == 0 else name
    cases r2
    have G2 := g1.trans g2
    have rw2 : LiR Tx words M2 vw := Mon.mono g2.mm rw'
    refine z_asg (S := S) (k := k + 1) (c := 1 + 1) (P := Ex Tx fun x => isNm x = true) g2.mh a2 (gs_if (c1 := 1) (c2 := 1) (gts_zero (K := K) rfl (gv_c rfl) (by decide) (by decide)) (fun _ => (gs_call1 (S := S) (R1 := SqR K Tx) (pre := fun xs => 0 < xs.length ∧ xs.length ≤ 1000000) (cs := fun _ => 1) (R := fun xs => Ex Tx fun x => x ∈ xs) (x := words) rfl (gv_var rfl (rw2.sq (K := K))) ⟨by decide, by decide⟩).is fun M v ⟨x, hx, r⟩ => ⟨x, words_nm x hx, r⟩) fun _ => (gv_var (P := Ex Tx fun x => isNm x = true) rfl ⟨nm, hnm, rfl⟩).s.cost (Nat.zero_le _)) fun v3 M3 H3 g3 a3 ⟨nm3, hnm3, r3⟩ => ?_
    cases r3
    have G3 := G2.trans g3
    have r1' : SqR K Tx tk M3 v := Mon.mono G3.mm r1
    have fin : ∀ (x : Str) (M' H' : Hp), isNm x = true → x ∉ tk → Gr M3 H3 M' H' → Q (.str x) H' := fun x M' H' hx ht g => q _ M' H' (G3.trans (lift G3.mh a3 g)) ((a3.same g.hh).le (by omega)) ⟨x, ⟨hx, ht⟩, rfl⟩
    have hmul : (676 : Int) * (if decide (nm3 ∈ tk) = true then 1 else 0) = ((if nm3 ∈ tk then 676 else 0 : Nat) : Int) := by by_cases h : nm3 ∈ tk <;> simp [h]
    refine q_forG (M := M3) (xs := List.range (if nm3 ∈ tk then 676 else 0)) (R := fun i : Nat => It' (i : Nat)) (G3.mh.trans cut_same) (gi_rng1 (n := if nm3 ∈ tk then 676 else 0) (gv_is (gv_mul (gv_c rfl) (gv_int1b (gv_inA (K := K) (neg := false) (gv_var rfl rfl) (gv_var rfl (.inl r1')))) (.inl ⟨by decide, by decide⟩)) fun M v h => by
        rw [show v = _ from h]; rw [Bool.false_xor]; show V.int _ = V.int _; rw [hmul]) (by split <;> decide)) tg_1
      (fun M1' i σ' M' H' => ∃ y3 y6, Gr M3 H3 M' H' ∧ Same M1' M' ∧ Same M3 M' ∧ σ' = [some (.ref S.a), some v, some (.str nm3), y3, some (.str g_LETTERS), some vw, y6] ∧ ∀ j, j < i → spare j ∈ tk)
      (fun M4 H4 g4 => ⟨_, _, g4, Same.refl _, g4.mm, rfl, fun j h => nomatch h⟩) (fun M4 i σ' M' H' ⟨_, _, g, s1, _⟩ => ⟨s1, g.mh⟩) ?_ ?_
    · rintro M4 i x σ' M' H' M5 H5 σ2 sM hx ⟨y3, y6, g, s1, s2, rfl, hall⟩ g5 ⟨v5, r5, rfl⟩
      cases r5
      have hix : i < (if nm3 ∈ tk then 676 else 0) := by have := (List.getElem?_eq_some_iff.mp hx).1; rwa [List.length_range] at this
      obtain rfl : i = x := by rw [List.getElem?_range hix] at hx; exact Option.some.inj hx
      have hi : i < 676 := by split at hix; exact hix; omega
      have G5 := g.trans g5
      refine q_asg (P := Tx (spare i)) G5.mh (gv_is (gv_addSt (K := K) (gv_addSt (K := K) (gv_c rfl) (gv_ixS (K := K) (i := (i : Int) / 26) (c := 97 + i / 26) (x := g_LETTERS) (gv_var rfl rfl) (gv_fdiv (gv_var rfl rfl) (gv_c rfl) ⟨by decide, by decide⟩) (by decide) ?_) (by show 1 + 1 ≤ sizeLine; decide))
        (gv_ixS (K := K) (i := (i : Int) % 26) (c := 97 + i % 26) (x := g_LETTERS) (gv_var rfl rfl) (gv_mod (gv_var rfl rfl) (gv_c rfl) (by decide)) (by decide) ?_) (by show 2 + 1 ≤ sizeLine; decide)) fun M v h => by rw [show v = _ from h]; exact congrArg V.str (spare_eq i)) fun v6 M6 H6 g6 r6 => ?_
      · have := atI_letter (z := (i : Int) / 26) (by omega) (by omega)
        rw [this]; congr 2
      · have := atI_letter (z := (i : Int) % 26) (by omega) (by omega)
        rw [this]; congr 2
      cases r6
      have G6 := G5.trans g6
      refine s_if0 G6.mh (gt_test (gv_inA (K := K) (neg := true) (gv_var rfl rfl) (gv_var rfl (.inl (Mon.mono (s2.trans (g5.mm.trans g6.mm)) r1'))))) (fun hb H7 hh7 => ?_) (fun hb H7 hh7 => ?_)
      · exact ⟨_, rfl, fin _ _ _ (spare_nm hi) (by simpa using hb) (G6.trans (.idle G6.mh hh7))⟩
      · refine ⟨M6, _, _, G6.trans (.idle G6.mh hh7), s1.trans (g5.mm.trans g6.mm), s2.trans (g5.mm.trans g6.mm), rfl, fun j hj => ?_⟩
        by_cases e : j = i
        · subst e; simpa using hb
        · exact hall j (by omega)
    · rintro M4 σ' M' H' sM ⟨y3, y6, g, s1, s2, rfl, hall⟩
      rw [List.length_range] at hall
      refine ⟨_, rfl, fin nm3 M' H' hnm3 (fun ht => ?_) g⟩
      rw [if_pos ht] at hall
      have := spare_free hall
      omega
end
end My

set_option Elab.async false
set_option linter.all false
set_option maxRecDepth 100000
set_option maxHeartbeats 4000000
namespace My
open PySem PySem.Spec PyProof.Rows L2 L3
open L3.Strm
/-- unlike names -/
structure NmL (ns : List Str) : Prop where
  nd : ns.Nodup
  nm : ∀ n ∈ ns, isNm n = true
  n : ns.length ≤ 500
/-- literals of names, no name twice -/
structure Lits (ns ys : List Str) : Prop where
  nd : (ys.map nameOf).Nodup
  of : ∀ y ∈ ys, ∃ n ∈ ns, y = n ∨ y = ("-" : Str) ++ n
section
variable {P : Program} {w : World} {K : PySem.W.Frag} {mg : Str → Option Value} {base : Heap}
abbrev s__law_names : Stmt := topS 35
theorem sc__law_names : FnScope ["_law_stream", "_law_many", "_law_found", "_law_k"] ["_law_stream", "_law_many"] (defScope s__law_names) := ⟨rfl, rfl, rfl, by decide +kernel, rfl, by decide +kernel, by decide +kernel⟩
def sp__law_names (K : PySem.W.Frag) : Sp := slS1 It' (fun n => 0 ≤ n ∧ n ≤ 500) (fun n => 12 * n.toNat) fun n M ws => ∃ ys : List Str, NmL ys ∧ ys.length = n.toNat ∧ Pd Tx M ys ws
theorem ok__law_names {f : Addr} {fd : FuncData} (F : Fun K "_law_names" "_law_names" s__law_names f fd) (T : Gc mg) (c__law_fresh : Cal P w K mg base 3 "_law_fresh" ["_law_stream", "_law_taken"] (sp__law_fresh K)) : FnOk P w K mg base CX0 4 f fd ["_law_stream", "_law_many"] (sp__law_names K) := by
  refine F.ok sc__law_names (fun vs H Q E h => ?_) (fun cdv A outer s H vs Q E hr h => ?_)
  · obtain ⟨S, x, M, v, k, rfl, _⟩ := h
    rfl
  · obtain ⟨S, n, M, v, k, rfl, mh, at_, r1, ⟨h1, h2⟩, q⟩ := h
    obtain ⟨n, rfl⟩ : ∃ m : Nat, n = (m : Int) := ⟨n.toNat, by omega⟩
    cases r1
    have at_ : S.At (k + 12 * n) H := at_
    refine ⟨_, (pss_cons (ps_set (i := 2) sc__law_names.nd rfl (by first | exact .inl rfl | exact .inr rfl) (pe_lst pa_nil))
      (pss_cons (ps_for PassesOwn.never (by rfl) (pi_range1 (by rfl) T.range (pa_cons (pv 1) pa_nil)) (pg_name (i := 3) sc__law_names.nd rfl (by first | exact .inl rfl | exact .inr rfl)) (pss_one (ps_expr (pe_bm PySem.F.plainAttrs_list PySem.F.slot_list_append PySem.F.type_list_append mt_append (pv 2) (pa_cons (pe_f c__law_fresh (hr.mono (by decide)) (pa_cons (pv 0) (pa_cons (pv 2) pa_nil))) pa_nil)))))
      (pss_one (ps_ret (pv 2))))), ?_⟩
    refine z_asgL (S := S) (k := k + 12 * n) (c := 0) mh at_ gl_nil.s fun p vs M1 H1 g1 a1 hp0 hpm hpw ev => ?_
    subst ev
    refine z_for (S := S) (k := k + 12 * n) (c := 0) (G := (· = List.range n)) (R := fun i : Nat => It' (i : Nat)) g1.mh a1 (gi_rng1 (n := n) (gv_var rfl rfl) (by omega)).s tg_1
      (fun _ M1' i σ' M' H' => ∃ ys y3, Gr M (S.cut H) M' (S.cut H') ∧ S.At (k + 12 * (n - i)) H' ∧ Same M1' M' ∧ OwS S H M' H' p (ys.map V.str) ∧ NmL ys ∧ ys.length = i ∧ σ' = [some (.ref S.a), some (.int (n : Nat)), some (.ref p), y3])
      (fun xs M2 H2 _ g2 a2 => ⟨[], _, g1.trans g2, a2, Same.refl _, OwS.step ⟨⟨hp0, hpm, hpw⟩⟩ g2, ⟨List.nodup_nil, (fun _ h => nomatch h), by simp⟩, rfl, rfl⟩)
      (fun xs M2 i σ' M' H' ⟨ys, y3, g, a, s1, _⟩ => ⟨s1, g.mh, a.le (Nat.zero_le _)⟩) ?_ ?_
    · rintro xs M2 i x σ' M' H' M3 H3 σ2 rfl sM hx ⟨ys, y3, g, a, s1, ow, hn, hl, rfl⟩ g3 ⟨v3, r3, rfl⟩
      have hi : i < n := by have := (List.getElem?_eq_some_iff.mp hx).1; rwa [List.length_range] at this
      have g3' := lift g.mh a g3
      have a3 := a.same g3.hh
      have ow3 := ow.step g3'
      have G3 := g.trans g3'
      have e1 : k + 12 * (n - i) = (k + 12 * (n - (i + 1))) + 12 := by omega
      rw [e1] at a3
      have hn5 := hn.n
      refine z_appL (S := S) (c := 12) (P := Ex Tx fun x => isNm x = true ∧ x ∉ ys) G3.mh a3 rfl ow3.o.m ow3.o.h (szL (by rw [List.length_map]; omega)) (gs_call1 (S := S) (R1 := SqR K Tx) (pre := fun xs => xs.length ≤ 600) (cs := fun _ => 12) (R := fun xs => Ex Tx fun x => isNm x = true ∧ x ∉ xs) (x := ys) rfl (gv_var rfl (.inl ⟨p, _, rfl, .inl (.inl upd_same), pd_of_tx ys⟩)) (by omega)) fun v4 M4 H4 g4 a4 ⟨x4, ⟨h4, h5⟩, r4⟩ => ?_
      cases r4
      have ow4 := ow3.step g4
      refine ⟨M4, ys ++ [x4], _, ow4.mut (G3.trans g4), a4.upd ow4.on, s1.trans (g3.mm.trans g4.mm), ?_, ⟨?_, ?_, ?_⟩, by rw [List.length_append, hl]; rfl, rfl⟩
      · rw [List.map_append]; exact ow4.put
      · rw [List.nodup_append]
        exact ⟨hn.nd, by simp, fun a ha b hb => by rw [List.mem_singleton] at hb; subst hb; exact fun e => h5 (e ▸ ha)⟩
      · intro z hz
        rcases List.mem_append.mp hz with hz | hz
        · exact hn.nm z hz
        · rw [List.mem_singleton] at hz; subst hz; exact h4
      · rw [List.length_append, List.length_singleton]; omega
    · rintro xs M2 σ' M' H' rfl sM ⟨ys, y3, g, a, s1, ow, hn, hl, rfl⟩
      rw [List.length_range] at hl
      exact ⟨.ref p, rfl, q p _ M' H' g (a.le (by omega)) ow.o.h0 ow.o.m ow.o.h ⟨ys, hn, hl, pd_of_tx ys⟩⟩
end
end My

set_option Elab.async false
set_option linter.all false
set_option maxRecDepth 100000
set_option maxHeartbeats 4000000
namespace My
open PySem PySem.Spec PyProof.Rows L2 L3
open L3.Strm
theorem Lits.sub {ns ys zs : List Str} (h : Lits ns ys) (p : zs.Sublist ys) : Lits ns zs := ⟨h.nd.sublist (p.map nameOf), fun y hy => h.of y (p.subset hy)⟩
theorem Lits.nil {ns : List Str} : Lits ns [] := ⟨List.nodup_nil, fun _ h => nomatch h⟩
/-! texts by their signs -/
theorem head1 (c : Nat) (r : List Nat) : cutS (SX.S (c :: r)) none (some 1) = SX.S [c] := by
  show SX.S _ = SX.S _
  have e : HT.sIx (SX.S (c :: r)).length (SX.S (c :: r)).length (some ((1 : Nat) : Int)) = 1 := by rw [HT.sIx_nat, SX.S_len, List.length_cons]; omega
  have e' : HT.sIx (SX.S (c :: r)).length (SX.S (c :: r)).length (some 1) = 1 := e
  rw [e']
  rfl
theorem tail1 (c : Nat) (r : List Nat) : cutS (SX.S (c :: r)) (some 1) none = SX.S r := by
  have e : HT.sIx (SX.S (c :: r)).length 0 (some ((1 : Nat) : Int)) = 1 := by rw [HT.sIx_nat, SX.S_len, List.length_cons]; omega
  have e' : HT.sIx (SX.S (c :: r)).length 0 (some 1) = 1 := e
  have e2 : HT.sIx (SX.S (c :: r)).length (SX.S (c :: r)).length none = r.length + 1 := by rw [HT.sIx_none, SX.S_len, List.length_cons]
  show SX.S _ = SX.S _
  rw [e', e2]
  congr 1
  show (r.take (r.length + 1 - 1)) = r
  simp
theorem minus : ("-" : Str) = SX.S [45] := rfl
theorem neg_S (l : List Nat) : ("-" : Str) ++ SX.S l = SX.S (45 :: l) := SX.S_cat [45] l
theorem nm_S {n : Str} (h : isNm n = true) : ∃ c r, n = SX.S (c :: r) ∧ c ≠ 45 := by
  simp only [isNm, Bool.and_eq_true, decide_eq_true_eq, List.all_eq_true] at h
  obtain ⟨⟨h1, h2⟩, h3⟩ := h
  cases hl : n.cps.toList with
  | nil =>
    have : n.length = 0 := by rw [show n.length = n.cps.toList.length from rfl, hl]; rfl
    exact absurd h1 (by omega)
  | cons c r =>
    refine ⟨c, r, by rw [← hl], fun e => ?_⟩
    have := h3 c (by rw [hl]; exact List.mem_cons_self ..)
    subst e
    revert this
    decide +kernel
theorem nameOf_nm {n : Str} (h : isNm n = true) : nameOf n = n := by
  obtain ⟨c, r, rfl, hc⟩ := nm_S h
  unfold nameOf
  rw [head1, minus, if_neg (fun e => hc (by have := SX.S_inj e; simpa using this))]
theorem nameOf_neg {n : Str} (h : isNm n = true) : nameOf (("-" : Str) ++ n) = n := by
  obtain ⟨c, r, rfl, hc⟩ := nm_S h
  unfold nameOf
  rw [neg_S, head1, minus, if_pos rfl, tail1]
theorem opp_nm {n : Str} (h : isNm n = true) : opp n = ("-" : Str) ++ n := by
  obtain ⟨c, r, rfl, hc⟩ := nm_S h
  unfold opp
  rw [head1, minus, if_neg (fun e => hc (by have := SX.S_inj e; simpa using this))]
theorem opp_neg {n : Str} (h : isNm n = true) : opp (("-" : Str) ++ n) = n := by
  obtain ⟨c, r, rfl, hc⟩ := nm_S h
  unfold opp
  rw [neg_S, head1, minus, if_pos rfl, tail1]
theorem neg_ne {n m : Str} (h : isNm n = true) : n ≠ ("-" : Str) ++ m := fun e => by
  obtain ⟨c, r, rfl, hc⟩ := nm_S h
  rw [← SX.S_tl m, neg_S] at e
  have := SX.S_inj e
  simp at this
  exact hc this.1
theorem nm_ne {n : Str} (h : isNm n = true) : n ≠ "" := fun e => by
  obtain ⟨c, r, rfl, hc⟩ := nm_S h
  have : SX.S (c :: r) = SX.S [] := e
  have := SX.S_inj this
  cases this
theorem neg_ne0 {n : Str} : ("-" : Str) ++ n ≠ "" := fun e => by
  rw [← SX.S_tl n, neg_S] at e
  have : SX.S (45 :: n.cps.toList) = SX.S [] := e
  have := SX.S_inj this
  cases this
def nonE (y : Str) : Bool := decide (y ≠ ("" : Str))
/-- a selection of literals -/
theorem lits_of {ns : List Str} (hn : NmL ns) : ∀ {ms ys : List Str}, ms.Nodup → (∀ m ∈ ms, m ∈ ns) → Paired (fun n y => y = n ∨ y = ("-" : Str) ++ n ∨ y = "") ms ys → Lits ns (ys.filter nonE) ∧ ∀ z ∈ (ys.filter nonE).map nameOf, z ∈ ms := by
  intro ms ys nd hm h
  induction h with
  | nil => exact ⟨.nil, fun z h => by cases h⟩
  | @cons m y ms ys q _ ih =>
    obtain ⟨hx, nd⟩ := List.nodup_cons.mp nd
    obtain ⟨ih1, ih2⟩ := ih nd fun z hz => hm z (List.mem_cons_of_mem _ hz)
    have hmn := hm m (List.mem_cons_self ..)
    have hnm := hn.nm m hmn
    have key : ∀ y : Str, nameOf y = m → (y = m ∨ y = ("-" : Str) ++ m) → y ≠ "" → Lits ns ((y :: ys).filter nonE) ∧ ∀ z ∈ ((y :: ys).filter nonE).map nameOf, z ∈ m :: ms := by
      intro y e1 e2 e3
      rw [List.filter_cons, if_pos (show nonE y = true from decide_eq_true e3), List.map_cons, e1]
      refine ⟨⟨?_, fun z hz => ?_⟩, fun z hz => ?_⟩
      · rw [List.map_cons, e1]
        exact List.nodup_cons.mpr ⟨fun z => hx (ih2 m z), ih1.nd⟩
      · rcases List.mem_cons.mp hz with rfl | hz
        · exact ⟨m, hmn, e2⟩
        · exact ih1.of z hz
      · rcases List.mem_cons.mp hz with rfl | hz
        · exact List.mem_cons_self ..
        · exact List.mem_cons_of_mem _ (ih2 z hz)
    rcases q with rfl | rfl | rfl
    · exact key _ (nameOf_nm hnm) (.inl rfl) (nm_ne hnm)
    · exact key _ (nameOf_neg hnm) (.inr rfl) neg_ne0
    · rw [List.filter_cons, if_neg (by simp [nonE])]
      exact ⟨ih1, fun z hz => List.mem_cons_of_mem _ (ih2 z hz)⟩
theorem all_nonE {α : Type} {F : α → Str → Prop} {xs : List α} {ys : List Str} (h : Paired (fun n y => F n y ∧ nonE y = true) xs ys) : ∀ y ∈ ys, nonE y = true := by
  induction h with
  | nil => intro y hy; cases hy
  | cons q _ ih =>
    intro y hy
    rcases List.mem_cons.mp hy with rfl | hy
    · exact q.2
    · exact ih y hy
section
variable {P : Program} {w : World} {K : PySem.W.Frag} {mg : Str → Option Value} {base : Heap}
theorem nm_len {n : Str} (h : isNm n = true) : n.length ≤ 8 := isNm_len h
abbrev s__law_sided : Stmt := topS 41
theorem sc__law_sided : FnScope ["_law_stream", "_law_names_here", "_law_name"] ["_law_stream", "_law_names_here"] (defScope s__law_sided) := ⟨rfl, rfl, rfl, by decide +kernel, rfl, by decide +kernel, by decide +kernel⟩
def sp__law_sided (K : PySem.W.Frag) : Sp := slS1 (SqR K Tx) NmL (fun ns => 2 * ns.length) fun ns M ws => ∃ ys : List Str, Lits ns ys ∧ Pd Tx M ys ws
theorem ok__law_sided {f : Addr} {fd : FuncData} (F : Fun K "_law_sided" "_law_sided" s__law_sided f fd) (T : Gc mg) (c__law_draw : Cal P w K mg base 1 "_law_draw" ["_law_stream", "_law_many"] (sp__law_draw K)) (c__law_mixed : Cal P w K mg base 2 "_law_mixed" ["_law_stream", "_law_things"] (sp__law_mixed K)) :
    FnOk P w K mg base CX0 3 f fd ["_law_stream", "_law_names_here"] (sp__law_sided K) := by
  refine F.ok sc__law_sided (fun vs H Q E h => ?_) (fun cdv A outer s H vs Q E hr h => ?_)
  · obtain ⟨S, x, M, v, k, rfl, _⟩ := h
    rfl
  · obtain ⟨S, ns, M, v, k, rfl, mh, at_, r1, hn, q⟩ := h
    have hu := hr.units
    have hn5 := hn.n
    have at_ : S.At (k + 2 * ns.length) H := at_
    refine ⟨_, (pss_one (ps_ret (pe_lc (own := [("_law_name", 2)]) (g := (gName 2)) (tt := tYes) (te := (tOp (rAddA K) (tIf (tTest (tOp (rEqP K false) (tCall (sp__law_draw K) [] E0 (tCons (tVar 0) (tCons (tC (.int 2)) tNil))) (tC (.int 0)))) (tC (.str "")) (tC (.str "-"))) (tVar 2))) (by rfl) sc__law_sided.nd (pi_sq (pe_f c__law_mixed (hr.mono (by decide)) (pa_cons (pv 0) (pa_cons (pv 1) pa_nil)))) (blkOk_by (by rfl)) (fun _ _ _ _ _ => (pg_name (i := 2) sc__law_sided.nd rfl (by first | exact .inl rfl | exact .inr rfl))) (fun _ _ _ _ _ => pts_nil) (fun _ _ _ _ _ => (pe_op op_addA (pe_ifExp (pt_cmpR (op_eqP hu) (pe_f c__law_draw (hr.mono (by decide)) (pa_cons (pv 0) (pa_cons pe_int pa_nil))) pe_int (nomark _)) pe_str pe_str) (pv 2)))))), ?_⟩
    refine z_retL (S := S) (k := k) (c := ns.length + ns.length * 1) mh (at_.le (by omega)) (gls_m1 (c1 := ns.length) (n := ns.length) (c2 := 1) (T := Tx) (R := Tx) (G := fun xs => xs.Perm ns) (good := fun n y => (y = n ∨ y = ("-" : Str) ++ n ∨ y = "") ∧ nonE y = true)
      (gis_sq (K := K) ((gls_call1 (S := S) (R1 := SqR K Tx) (pre := fun xs => xs.length ≤ 1000000) (cs := fun xs => xs.length) (R := fun xs M ws => ∃ ys : List Str, ys.Perm xs ∧ Pd Tx M ys ws) (x := ns) rfl (gv_var rfl r1) (by omega)).gv fun M' vs p ⟨ys, hp, hpd⟩ m => ⟨ys, hp, .inl ⟨p, vs, rfl, .inl (.inl upd_same), hpd.mono (same_new m)⟩⟩))
      (fun xs hp => by rw [hp.length_eq]; exact Nat.le_refl _) (szM (by omega)) ?_) fun p ws M' H' g a' h0 m0 hw ⟨xs, ys, hper, hp, hpd⟩ => ?_
    · intro xs hper n hnm M1 vn sm rn
      cases rn
      have hnn : isNm n = true := hn.nm n (hper.mem_iff.mp hnm)
      have hl := nm_len hnn
      refine gs_op (c1 := 1) (c2 := 0) (P := Ex Tx fun x => x = "" ∨ x = "-") (P1 := Tx n) ((gs_if (c1 := 1) (c2 := 0) (gts_zero (K := K) rfl (gv_c rfl) (by decide) (by decide)) (fun _ => (gv_c ⟨"", .inl rfl, rfl⟩).s) fun _ => (gv_c ⟨"-", .inr rfl, rfl⟩).s)) (gv_var rfl rfl).s fun M' u w ⟨x, hx, pu⟩ pw => ?_
      have hxl : x.length ≤ 1 := by rcases hx with rfl | rfl <;> decide
      refine fun H mh Q q => gv_addSt (K := K) (σ := []) (M := M') (ta := tC u) (tb := tC w) (gv_c pu) (gv_c pw) (szM (by omega)) H mh Q fun v M' H' g r => q v M' H' g ⟨x ++ n, ?_, r⟩
      rcases hx with rfl | rfl
      · have e : (("" : Str) ++ n) = n := by rw [← SX.S_tl n]; exact SX.S_cat [] _
        rw [e]; exact ⟨.inl rfl, decide_eq_true (nm_ne hnn)⟩
      · exact ⟨.inr (.inl rfl), decide_eq_true neg_ne0⟩
    · obtain ⟨hL, _⟩ := lits_of hn (hper.nodup_iff.mpr hn.nd) (fun m h => hper.mem_iff.mp h) (Paired.mapP hp fun _ _ q => q.1)
      have hall := all_nonE hp
      rw [List.filter_eq_self.mpr hall] at hL
      refine q p ws M' H' g (a'.le (Nat.le_refl _)) h0 m0 hw ⟨ys, hL, hpd⟩
end
end My

set_option Elab.async false
set_option linter.all false
set_option maxRecDepth 100000
set_option maxHeartbeats 4000000
namespace My
open PySem PySem.Spec PyProof.Rows L2 L3
open L3.Strm
section
variable {P : Program} {w : World} {K : PySem.W.Frag} {mg : Str → Option Value} {base : Heap}
abbrev s__law_neg : Stmt := topS 36
theorem sc__law_neg : FnScope ["_law_one"] ["_law_one"] (defScope s__law_neg) := ⟨rfl, rfl, rfl, by decide +kernel, rfl, by decide +kernel, by decide +kernel⟩
def sp__law_neg (K : PySem.W.Frag) : Sp := sp1 Tx (fun x => x.length ≤ 1000) fun x => Tx (opp x)
theorem ok__law_neg {f : Addr} {fd : FuncData} (F : Fun K "_law_neg" "_law_neg" s__law_neg f fd) : FnOk P w K mg base CX0 1 f fd ["_law_one"] (sp__law_neg K) := by
  refine F.ok sc__law_neg (fun vs H Q E h => ?_) (fun cdv A outer s H vs Q E hr h => ?_)
  · obtain ⟨x, M, v, rfl, _⟩ := h
    rfl
  · obtain ⟨x, M, v, rfl, mh, r1, hp, q⟩ := h
    have hu := hr.units
    refine ⟨_, (pss_one (ps_ret (pe_ifExp (pt_cmpR (op_eqP hu) (pe_slice sl_X (pv 0) po_none (po_some pe_int)) pe_str (nomark _)) (pe_slice sl_X (pv 0) (po_some pe_int) po_none) (pe_op op_addA pe_str (pv 0))))), ?_⟩
    have hv : Gv (tVar 0) (start ["_law_one"] [v]) M (Tx x) := gv_var rfl r1
    refine s_ret mh (gv_if (gt_test (gv_eqT py_str inj_str (gv_cutS hv (sz1000 hp) (fun _ _ h => h) (fun _ _ h => ⟨1, rfl, h⟩)) (gv_c rfl) (by simp [PyData.depth]))) (fun hb => gv_is (gv_cutS hv (sz1000 hp) (fun _ _ h => ⟨1, rfl, h⟩) fun _ _ h => h) fun M' v h => ?_) fun hb => gv_is (gv_addSt (gv_c rfl) hv (szM (by show 1 + x.length ≤ _; omega))) fun M' v h => ?_) q
    · show Tx (opp x) M' v
      rw [show opp x = _ from if_pos (by simpa using hb)]; exact h
    · show Tx (opp x) M' v
      rw [show opp x = _ from if_neg (by simpa using hb)]; exact h
abbrev s__law_up : Stmt := topS 38
theorem sc__law_up : FnScope ["_law_some", "_law_names_here", "_law_found", "_law_name", "_law_one"] ["_law_some", "_law_names_here"] (defScope s__law_up) := ⟨rfl, rfl, rfl, by decide +kernel, rfl, by decide +kernel, by decide +kernel⟩
def sp__law_up (K : PySem.W.Frag) : Sp := sp2 (CtR K) (SqR K Tx) (fun _ ns => Shorts ns) fun ls ns => TT (asc ls ns)
theorem ok__law_up {f : Addr} {fd : FuncData} (F : Fun K "_law_up" "_law_up" s__law_up f fd) (T : Bi mg) : FnOk P w K mg base CX0 1 f fd ["_law_some", "_law_names_here"] (sp__law_up K) := by
  refine F.ok sc__law_up (fun vs H Q E h => ?_) (fun cdv A outer s H vs Q E hr h => ?_)
  · obtain ⟨x, y, M, v, w, rfl, _⟩ := h
    rfl
  · obtain ⟨ls, ns, M, v, w, rfl, mh, r1, r2, hp, q⟩ := h
    have hu := hr.units
    refine ⟨_, (pss_cons (ps_set (i := 2) sc__law_up.nd rfl (by first | exact .inl rfl | exact .inr rfl) (pe_lst pa_nil))
      (pss_cons (ps_for PassesOwn.never (by rfl) (pi_sq (pv 1)) (pg_name (i := 3) sc__law_up.nd rfl (by first | exact .inl rfl | exact .inr rfl)) (pss_one (ps_expr (pe_bm PySem.F.plainAttrs_list PySem.F.slot_list_extend PySem.F.type_list_extend mt_extend (pv 2) (pa_cons (pe_lc (own := [("_law_one", 4)]) (g := (gName 4)) (tt := (tTest (tOp (rInA K false) (tVar 4) (tVar 0)))) (te := (tVar 4)) (by rfl) sc__law_up.nd (pi_sq (pe_tup (pa_cons (pv 3) (pa_cons (pe_op op_addA pe_str (pv 3)) pa_nil)))) (blkOk_by (by rfl)) (fun _ _ _ _ _ => (pg_name (i := 4) sc__law_up.nd rfl (by first | exact .inl rfl | exact .inr rfl))) (fun _ _ _ _ _ => (pts_one (pt_cmpR (op_inA hu) (pv 4) (pv 0) (by rfl)))) (fun _ _ _ _ _ => (pv 4))) pa_nil)))))
      (pss_one (ps_ret (pe_callTy call_tupA (by rfl) T.tuple boot_tuple (pa_cons (pv 2) pa_nil)))))), ?_⟩
    refine q_asgL mh gl_nil fun p vs M2 H2 g2 h0 m0 hp2 hv => ?_
    subst hv
    refine q_for (R1 := Tx) (xs := ns) g2.mh (gv_var rfl (Mon.mono g2.mm r2))
      (fun M1' i σ' M' H' => ∃ y3 y4, Gr M H M' H' ∧ Same M1' M' ∧ Same M M' ∧ Own H M' H' p ((asc ls (ns.take i)).map V.str) ∧ σ' = [some v, some w, some (.ref p), y3, y4])
      (fun M3 H3 g3 => ⟨none, none, g2.trans g3, Same.refl _, (g2.trans g3).mm, Own.step ⟨h0, m0, hp2⟩ g3, rfl⟩)
      (fun M3 i σ' M' H' ⟨_, _, g, s1, _⟩ => ⟨s1, g.mh⟩) ?_ ?_
    · rintro M3 i n v' σ' M' H' sM hx ⟨y3, y4, g, s1, s2, ow, rfl⟩ rx
      cases rx
      have hn : n.length ≤ 900 := hp.2 n (List.mem_of_getElem? hx)
      have hil : i < ns.length := (List.getElem?_eq_some_iff.mp hx).1
      have et : ns.take (i + 1) = ns.take i ++ [n] := by rw [List.take_add_one, hx]; rfl
      refine s_ext g.mh rfl ow.h (gl_lc (R := Tx) (S := Tx) (gv_is (gv_tup2 (K := K) (gv_var rfl rfl) (gv_addSt (gv_c rfl) (gv_var rfl rfl) (szM (by show 1 + n.length ≤ _; omega)))) fun _ _ h => .inr h) (by show 2 ≤ sizeLine; decide) (fun l => decide (l ∈ ls)) id
        (fun l _ M1 vl sm hl => gt_is (gt_test (gv_inA (K := K) (gv_var rfl hl) (gv_var rfl (Mon.mono (s2.trans sm) r1)))) (by simp)) (fun l _ _ M1 vl sm hl => gv_var rfl hl)) (fun M4 ws h => ?_) fun ws M4 H4 g4 h => ?_
      · have l1 := h.length
        have l2 := asc_len ls (ns.take i)
        have l3 := List.length_filter_le (fun l => decide (l ∈ ls)) [n, ("-" : Str) ++ n]
        have l4 := hp.1
        rw [List.length_map] at l1 ⊢
        rw [List.length_take] at l2
        simp only [List.length_cons, List.length_nil] at l3
        exact szM (by omega)
      · have e4 := pd_tx h
        subst e4
        have ow4 := ow.step g4
        refine ⟨M4, _, _, (g.trans g4).mut ow4.h0 ow4.m, s1.trans g4.mm, s2.trans g4.mm, ?_, rfl⟩
        have e5 : asc ls (ns.take (i + 1)) = asc ls (ns.take i) ++ ([n, ("-" : Str) ++ n].filter fun l => decide (l ∈ ls)).map id := by
          rw [et, List.map_id]; unfold asc; rw [List.flatMap_append]; simp
        rw [e5, List.map_append]
        exact ow4.put
    · rintro M3 σ' M' H' sM ⟨y3, y4, g, s1, s2, ow, rfl⟩
      rw [List.take_length] at ow
      exact s_retTup g.mh rfl ow.h fun l nl => q _ _ _ (g.trans (.new g.mh nl)) (TT.new _)
abbrev s__law_clause : Stmt := topS 42
theorem sc__law_clause : FnScope ["_law_stream", "_law_names_here", "_law_most"] ["_law_stream", "_law_names_here", "_law_most"] (defScope s__law_clause) := ⟨rfl, rfl, rfl, by decide +kernel, rfl, by decide +kernel, by decide +kernel⟩
def sp__law_clause (K : PySem.W.Frag) : Sp := slS2 (LstR K Tx) It' (fun ns m => NmL ns ∧ 0 < m ∧ m < 1000) (fun ns _ => 2 + 2 * ns.length) fun ns _ M ws => ∃ ys : List Str, Lits ns ys ∧ Pd Tx M ys ws
theorem ok__law_clause {f : Addr} {fd : FuncData} (F : Fun K "_law_clause" "_law_clause" s__law_clause f fd) (T : Gc mg) (c__law_draw : Cal P w K mg base 1 "_law_draw" ["_law_stream", "_law_many"] (sp__law_draw K)) (c__law_sided : Cal P w K mg base 3 "_law_sided" ["_law_stream", "_law_names_here"] (sp__law_sided K)) :
    FnOk P w K mg base CX0 4 f fd ["_law_stream", "_law_names_here", "_law_most"] (sp__law_clause K) := by
  refine F.ok sc__law_clause (fun vs H Q E h => ?_) (fun cdv A outer s H vs Q E hr h => ?_)
  · obtain ⟨S, x, y, M, v, w, k, rfl, _⟩ := h
    rfl
  · obtain ⟨S, ns, m, M, v, w, k, rfl, mh, at_, r1, r2, ⟨hn, hm0, hm1⟩, q⟩ := h
    cases r2
    have hu := hr.units
    have at_ : S.At (k + (2 + 2 * ns.length)) H := at_
    refine ⟨_, (pss_cons (ps_if (PW.pt (pw_or (pt_cmpR (op_eqP hu) (pv 1) (pe_lst pa_nil) (nomark _)) (pw_or1 (pt_cmpR (op_eqP hu) (pe_f c__law_draw (hr.mono (by decide)) (pa_cons (pv 0) (pa_cons pe_int pa_nil))) pe_int (nomark _))))) (pss_one (ps_ret (pe_lst pa_nil))) pss_nil)
      (pss_one (ps_ret (pe_slice sl_X (pe_f c__law_sided (hr.mono (by decide)) (pa_cons (pv 0) (pa_cons (pv 1) pa_nil))) po_none (po_some (pe_op op_addA pe_int (pe_f c__law_draw (hr.mono (by decide)) (pa_cons (pv 0) (pa_cons (pv 2) pa_nil))))))))), ?_⟩
    refine z_if (S := S) (k := k + (1 + 2 * ns.length)) (c := 0 + 1) (B := fun _ => True) mh (at_.le (by omega)) ((gts_or (c1 := 0) (c2 := 1) (B := fun _ => True) (C := fun _ => True) ((gt_test (b := decide (ns = [])) (gv_is (gv_eq (K := K) (neg := false) (d := .list (ns.map .str)) (e := .list []) (gv_var rfl (py_lst py_str _ _ _ r1)) gv_nilD ?_) fun M v h => ?_)).s.is fun _ _ => trivial) fun _ => gts_zero (K := K) rfl (gv_c rfl) (by decide) (by decide)).is fun _ _ => trivial) (fun _ M1 H1 g1 a1 => ?_) fun _ M1 H1 g1 a1 => ?_
    · simp [PyData.depth, depthS]
    · rw [show v = _ from h]
      have := optD_eq (some ns) []
      simp only [optD, List.map_nil] at this
      rw [this]; simp
    · refine z_retL (S := S) (k := k) (c := 0) g1.mh (a1.le (by omega)) gl_nil.s fun p ws M' H' g a' h0 m0 hw e => ?_
      subst e
      exact q p [] M' H' (g1.trans g) a' (g1.hh.free h0) m0 hw ⟨[], .nil, .nil⟩
    · refine z_retL (S := S) (k := k) (c := 2 * ns.length + 1) g1.mh (a1.le (by omega)) (gls_cut (K := K) (R := Tx) (good := Lits ns) (c1 := 2 * ns.length) (c2 := 1) ((gls_call1 (S := S) (R1 := SqR K Tx) (pre := NmL) (cs := fun ns => 2 * ns.length) (R := fun ns M ws => ∃ ys : List Str, Lits ns ys ∧ Pd Tx M ys ws) (x := ns) rfl (gv_var rfl (.inl (Mon.mono g1.mm r1))) hn).gv fun M' vs p ⟨ys, hp, hpd⟩ m => ⟨ys, hp, p, vs, rfl, upd_same, hpd.mono (same_new m)⟩)
        (gs_op (c1 := 0) (c2 := 1) (P := It' 1) (gv_c rfl).s (gs_draw (K := K) rfl (gv_var rfl rfl) hm0 (by omega)) fun M' u w pu ⟨z, hz, pw⟩ => fun H mh Q q => gv_addIn (K := K) (σ := []) (M := M') (ta := tC u) (tb := tC w) (gv_c pu) (gv_c pw) H mh Q fun v M' H' g r => q v M' H' g ⟨_, trivial, r⟩)) fun p ws M' H' g a' h0 m0 hw ⟨xs, i, hL, hpd⟩ => ?_
      exact q p ws M' H' (g1.trans g) a' (g1.hh.free h0) m0 hw ⟨_, hL.sub (cut_sub _ _ _), hpd⟩
abbrev s__law_once : Stmt := topS 44
theorem sc__law_once : FnScope ["_law_clauses", "_law_names_here", "_law_found", "_law_clause_here"] ["_law_clauses", "_law_names_here"] (defScope s__law_once) := ⟨rfl, rfl, rfl, by decide +kernel, rfl, by decide +kernel, by decide +kernel⟩
def onceUp (cs : List (List Str)) (ns : List Str) : List (List Str) := once (cs.map fun c => asc c ns)
def sp__law_once (K : PySem.W.Frag) : Sp := sl2 (SqR K (CtR K)) (SqR K Tx) (fun cs ns => Shorts ns ∧ cs.length ≤ 1000000) fun cs ns M ws => Pd TT M (onceUp cs ns) ws
theorem ok__law_once {f : Addr} {fd : FuncData} (F : Fun K "_law_once" "_law_once" s__law_once f fd) (T : Gc mg) (c__law_up : Cal P w K mg base 1 "_law_up" ["_law_some", "_law_names_here"] (sp__law_up K)) : FnOk P w K mg base CX0 2 f fd ["_law_clauses", "_law_names_here"] (sp__law_once K) := by
  refine F.ok sc__law_once (fun vs H Q E h => ?_) (fun cdv A outer s H vs Q E hr h => ?_)
  · obtain ⟨x, y, M, v, w, rfl, _⟩ := h
    rfl
  · obtain ⟨cs, ns, M, v, w, rfl, mh, r1, r2, ⟨hsh, hcl⟩, q⟩ := h
    have hu := hr.units
    refine ⟨_, (pss_cons (ps_set (i := 2) sc__law_once.nd rfl (by first | exact .inl rfl | exact .inr rfl) (pe_lst pa_nil))
      (pss_cons (ps_for PassesOwn.never (by rfl) (pi_sq (pv 0)) (pg_name (i := 3) sc__law_once.nd rfl (by first | exact .inl rfl | exact .inr rfl)) (pss_one (ps_if (pt_cmpR (op_niA hu) (pe_f c__law_up (hr.mono (by decide)) (pa_cons (pv 3) (pa_cons (pv 1) pa_nil))) (pv 2) (by rfl)) (pss_one (ps_expr (pe_bm PySem.F.plainAttrs_list PySem.F.slot_list_append PySem.F.type_list_append mt_append (pv 2) (pa_cons (pe_f c__law_up (hr.mono (by decide)) (pa_cons (pv 3) (pa_cons (pv 1) pa_nil))) pa_nil)))) pss_nil)))
      (pss_one (ps_ret (pv 2))))), ?_⟩
    refine q_asgL mh gl_nil fun p vs M2 H2 g2 h0 m0 hp2 hv => ?_
    subst hv
    refine q_for (R1 := CtR K) (xs := cs) g2.mh (gv_var rfl (Mon.mono g2.mm r1))
      (fun M1' i σ' M' H' => ∃ y3 ws, Gr M H M' H' ∧ Same M1' M' ∧ Same M M' ∧ Own H M' H' p ws ∧ Pd TT M' (onceUp (cs.take i) ns) ws ∧ (onceUp (cs.take i) ns).length ≤ i ∧ σ' = [some v, some w, some (.ref p), y3])
      (fun M3 H3 g3 => ⟨none, [], g2.trans g3, Same.refl _, (g2.trans g3).mm, Own.step ⟨h0, m0, hp2⟩ g3, .nil, Nat.le_refl _, rfl⟩)
      (fun M3 i σ' M' H' ⟨_, _, g, s1, _⟩ => ⟨s1, g.mh⟩) ?_ ?_
    · rintro M3 i c v' σ' M' H' sM hx ⟨y3, ws, g, s1, s2, ow, hpd, hl, rfl⟩ rx
      have hil : i < cs.length := (List.getElem?_eq_some_iff.mp hx).1
      have et : cs.take (i + 1) = cs.take i ++ [c] := by rw [List.take_add_one, hx]; rfl
      have eo : onceUp (cs.take (i + 1)) ns = onceP (onceUp (cs.take i) ns) (asc c ns) := by
        rw [et]; unfold onceUp once; rw [List.map_append, List.foldl_append]; rfl
      have r2' : SqR K Tx ns M' w := Mon.mono s2 r2
      have up := ow.up
      refine s_if0 (ow.fr g.mh) (gt_test (gv_inD (K := K) (R := TT) (neg := true) py_TT inj_TT (gv_call2 (R1 := CtR K) (R2 := SqR K Tx) (gv_var rfl (Mon.mono up rx)) (gv_var rfl (Mon.mono up r2')) hsh) (gv_var rfl (.inl (ow.lst hpd))) (by simp [PyData.depth, depthS]))) (fun hb H4 hh4 => ?_) (fun hb H4 hh4 => ?_)
      · have g4 := g.trans (.idle g.mh hh4)
        have ow4 := ow.idle hh4
        have hwl : ws.length ≤ i := by rw [← hpd.length]; exact hl
        refine s_app (P := TT (asc c ns)) g4.mh rfl ow4.h (szL (by omega)) (gv_call2 (R1 := CtR K) (R2 := SqR K Tx) (gv_var rfl rx) (gv_var rfl r2') hsh) fun v5 M5 H5 g5 r5 => ?_
        have ow5 := ow4.step g5
        refine ⟨M5, _, ws ++ [v5], (g4.trans g5).mut ow5.h0 ow5.m, s1.trans g5.mm, s2.trans g5.mm, ow5.put, ?_, ?_, rfl⟩
        · rw [eo, onceP, if_neg (by simpa using hb)]
          exact pd_app (hpd.mono g5.mm) (.cons r5 .nil)
        · rw [eo]; exact Nat.le_trans (onceP_len _ _) (Nat.succ_le_succ hl)
      · have hin : asc c ns ∈ onceUp (cs.take i) ns := by simpa using hb
        refine ⟨M', _, ws, g.trans (.idle g.mh hh4), s1, s2, ow.idle hh4, ?_, ?_, rfl⟩
        · rw [eo, onceP, if_pos hin]; exact hpd
        · rw [eo]; exact Nat.le_trans (onceP_len _ _) (Nat.succ_le_succ hl)
    · rintro M3 σ' M' H' sM ⟨y3, ws, g, s1, s2, ow, hpd, hl, rfl⟩
      rw [List.take_length] at hpd
      exact ⟨.ref p, rfl, q p ws M' H' g ow.h0 ow.m ow.h hpd⟩
end
end My

set_option Elab.async false
set_option linter.all false
set_option maxRecDepth 100000
set_option maxHeartbeats 4000000
namespace My
open PySem PySem.Spec PyProof.Rows L2 L3
open L3.Strm
/-- the law's own code: a dict -/
def LawR (c : CodeD) : Pr := Dc3F "signs" "helpers" "clauses" (LiR Tx c.signs) (LiR Tx c.helpers) (LiR TT c.clauses)
instance : Mon LawR := ⟨fun e ⟨p, o, u1, u2, u3, h1, h2, h3, h4, h5⟩ => ⟨p, o, u1, u2, u3, h1, e _ _ h2, Mon.mono e h3, Mon.mono e h4, Mon.mono e h5⟩⟩
theorem once_len7 {α : Type} [DecidableEq α] (hs : List α) : (once hs).length ≤ hs.length := by
  have go : ∀ (hs acc : List α), (hs.foldl onceP acc).length ≤ acc.length + hs.length := by
    intro hs
    induction hs with
    | nil => intro acc; simp
    | cons h hs ih =>
      intro acc
      rw [List.foldl_cons, List.length_cons]
      refine Nat.le_trans (ih _) ?_
      unfold onceP
      split
      · omega
      · rw [List.length_append, List.length_singleton]; omega
  have h := go hs []
  rw [List.length_nil, Nat.zero_add] at h
  exact h
structure Good (c : CodeD) : Prop where
  nm : NmL c.names
  n : c.names.length ≤ 60
  cl : ∃ cs, c.clauses = onceUp cs c.names ∧ (∀ x ∈ cs, Lits c.names x) ∧ cs.length ≤ 100
section
variable {K : PySem.W.Frag} {σ : Sl} {M : Hp} {td : TE} {c : CodeD}
theorem gv_cS (h : Gv td σ M (LawR c)) : Gv (tDGet td (tC (.str "signs"))) σ M (LiR Tx c.signs) := gv_dgetF h fun M v ⟨p, o, u1, u2, u3, h1, h2, h3, h4, h5⟩ => ⟨p, o, _, u1, h1, h2, rfl, h3⟩
theorem gv_cH (h : Gv td σ M (LawR c)) : Gv (tDGet td (tC (.str "helpers"))) σ M (LiR Tx c.helpers) := gv_dgetF h fun M v ⟨p, o, u1, u2, u3, h1, h2, h3, h4, h5⟩ => ⟨p, o, _, u2, h1, h2, rfl, h4⟩
theorem gv_cC (h : Gv td σ M (LawR c)) : Gv (tDGet td (tC (.str "clauses"))) σ M (LiR TT c.clauses) := gv_dgetF h fun M v ⟨p, o, u1, u2, u3, h1, h2, h3, h4, h5⟩ => ⟨p, o, _, u3, h1, h2, rfl, h5⟩
end
section
variable {P : Program} {w : World} {K : PySem.W.Frag} {mg : Str → Option Value} {base : Heap}
abbrev s__law_code : Stmt := topS 43
theorem sc__law_code : FnScope ["_law_stream", "_law_signs", "_law_helpers", "_law_many", "_law_names_here", "_law_clauses", "_law_count", "_law_more", "_law_k"] ["_law_stream", "_law_signs", "_law_helpers", "_law_many"] (defScope s__law_code) := ⟨rfl, rfl, rfl, by decide +kernel, rfl, by decide +kernel, by decide +kernel⟩
def codeCost (s h m : Nat) : Nat := 3 + 12 * (s + h) + m * (2 + 2 * (s + h))
def sp__law_code (K : PySem.W.Frag) : Sp := fun vs H Q _ => ∃ (S : Strm) (s h m : Nat) (M : Hp) (k : Nat), vs = [.ref S.a, .int (s : Nat), .int (h : Nat), .int (m : Nat)] ∧ Same M (S.cut H) ∧ S.At (k + codeCost s h m) H ∧ (0 < s ∧ s + h ≤ 60 ∧ m ≤ 100) ∧
  ∀ c v M' H', Gr M (S.cut H) M' (S.cut H') → S.At k H' → Good c ∧ c.names.length ≤ s + h ∧ c.clauses.length ≤ m ∧ c.signs.length ≤ s ∧ 1 ≤ c.signs.length ∧ c.helpers.length ≤ h → LawR c M' v → Q v H'
theorem paired_lits {ns : List Str} {xs : List Nat} {cs : List (List Str)} (h : Paired (fun (_ : Nat) y => Lits ns y) xs cs) : cs.length = xs.length ∧ ∀ c ∈ cs, Lits ns c := by
  induction h with
  | nil => exact ⟨rfl, fun c hc => by cases hc⟩
  | cons q _ ih =>
    refine ⟨by rw [List.length_cons, List.length_cons, ih.1], fun c hc => ?_⟩
    rcases List.mem_cons.mp hc with rfl | hc
    · exact q
    · exact ih.2 c hc
theorem nm_shorts {ns : List Str} (h : NmL ns) : Shorts ns := ⟨Nat.le_trans h.n (by decide), fun n hn => Nat.le_trans (nm_len (h.nm n hn)) (by decide)⟩
theorem ok__law_code {f : Addr} {fd : FuncData} (F : Fun K "_law_code" "_law_code" s__law_code f fd) (T : Gc mg) (c__law_draw : Cal P w K mg base 1 "_law_draw" ["_law_stream", "_law_many"] (sp__law_draw K)) (c__law_names : Cal P w K mg base 4 "_law_names" ["_law_stream", "_law_many"] (sp__law_names K))
    (c__law_clause : Cal P w K mg base 4 "_law_clause" ["_law_stream", "_law_names_here", "_law_most"] (sp__law_clause K)) (c__law_once : Cal P w K mg base 2 "_law_once" ["_law_clauses", "_law_names_here"] (sp__law_once K)) : FnOk P w K mg base CX0 5 f fd ["_law_stream", "_law_signs", "_law_helpers", "_law_many"] (sp__law_code K) := by
  refine F.ok sc__law_code (fun vs H Q E h => ?_) (fun cdv A outer s H vs Q E hr h => ?_)
  · obtain ⟨S, a, b, c, M, k, rfl, _⟩ := h
    rfl
  · obtain ⟨S, s, h, m, M, k, rfl, mh, at_, ⟨h1, h2, h3⟩, q⟩ := h
    have hu := hr.units
    have at_ : S.At (k + (3 + 12 * (s + h) + m * (2 + 2 * (s + h)))) H := at_
    refine ⟨_, (pss_cons (ps_par (i := 6) (j := 7) (by rfl) sc__law_code.nd rfl rfl (by decide) rfl rfl (pa_cons (pe_op op_addA pe_int (pe_f c__law_draw (hr.mono (by decide)) (pa_cons (pv 0) (pa_cons (pv 1) pa_nil)))) (pa_cons (pe_f c__law_draw (hr.mono (by decide)) (pa_cons (pv 0) (pa_cons (pe_op op_addA (pv 2) pe_int) pa_nil))) pa_nil)) (by rfl))
      (pss_cons (ps_set (i := 4) sc__law_code.nd rfl (by first | exact .inl rfl | exact .inr rfl) (pe_f c__law_names (hr.mono (by decide)) (pa_cons (pv 0) (pa_cons (pe_op op_addA (pv 6) (pv 7)) pa_nil))))
      (pss_cons (ps_setLc (i := 5) (own := [("_law_k", 8)]) (g := (gName 8)) (tt := tYes) (te := (tCall (sp__law_clause K) [] E0 (tCons (tVar 0) (tCons (tVar 4) (tCons (tC (.int 3)) tNil))))) (by rfl) sc__law_code.nd rfl rfl (sw_true rfl rfl rfl (by decide +kernel)) (pi_range1 (by rfl) T.range (pa_cons (pe_f c__law_draw (hr.mono (by decide)) (pa_cons (pv 0) (pa_cons (pe_op op_addA (pv 3) pe_int) pa_nil))) pa_nil)) (blkOk_by (by rfl)) (fun _ _ _ _ _ => (pg_name (i := 8) sc__law_code.nd rfl (by first | exact .inl rfl | exact .inr rfl))) (fun _ _ _ _ _ => pts_nil) (fun _ _ _ _ _ => (pe_f c__law_clause (hr.mono (by decide)) (pa_cons (pv 0) (pa_cons (pv 4) (pa_cons pe_int pa_nil))))))
      (pss_one (ps_ret (pe_frz (pe_disp (pps_cons pe_str (pe_slice sl_X (pv 4) po_none (po_some (pv 6))) (pps_cons pe_str (pe_slice sl_X (pv 4) (po_some (pv 6)) po_none) (pps_cons pe_str (pe_f c__law_once (hr.mono (by decide)) (pa_cons (pv 5) (pa_cons (pv 4) pa_nil))) pps_nil))) (by rfl) (by rfl) (by intro z; cases z) (by decide)))))))), ?_⟩
    -- count, more
    refine q_par2 (z_V (S := S) (k := k + (2 + 12 * (s + h) + m * (2 + 2 * (s + h)))) (c := 0 + 1) (P := Ex (fun n : Nat => It' (n : Nat)) fun n => 1 ≤ n ∧ n ≤ s) mh (at_.le (by omega)) (gs_op (c1 := 0) (c2 := 1) (P := It' 1) (gv_c rfl).s (gs_draw (K := K) (n := (s : Int)) rfl (gv_var rfl rfl) (by omega) (by omega)) fun M' u w pu ⟨z, hz, pw⟩ => fun H mh Q q => gv_addIn (K := K) (σ := []) (M := M') (ta := tC u) (tb := tC w) (gv_c pu) (gv_c pw) H mh Q fun v M' H' g r => q v M' H' g ⟨1 + z.toNat, by omega, ?_⟩) fun v1 M1 H1 g1 a1 ⟨n1, hn1, r1⟩ =>
      z_V (S := S) (k := k + (1 + 12 * (s + h) + m * (2 + 2 * (s + h)))) (c := 1) (P := Ex (fun n : Nat => It' (n : Nat)) fun n => n ≤ h) g1.mh (a1.le (by omega)) ((gs_draw (K := K) (n := (h : Int) + 1) rfl (gv_addIn (K := K) (gv_var rfl rfl) (gv_c rfl)) (by omega) (by omega)).is fun M v ⟨z, hz, r⟩ => ⟨z.toNat, by omega, ?_⟩) fun v2 M2 H2 g2 a2 ⟨n2, hn2, r2⟩ => ⟨_, _, rfl, ?_⟩)
    · show v = .int _
      rw [show v = _ from r]; congr 1; omega
    · show v = .int _
      rw [show v = _ from r]; congr 1; omega
    cases r1
    cases r2
    have G2 := g1.trans g2
    -- names
    have e12 : (12 * ((n1 : Int) + (n2 : Int)).toNat) ≤ 12 * (s + h) := by omega
    refine z_asg (S := S) (k := k + (1 + m * (2 + 2 * (s + h)))) (c := 12 * ((n1 : Int) + (n2 : Int)).toNat) (P := Ex (LiR Tx) fun ns => NmL ns ∧ ns.length = n1 + n2) g2.mh (a2.le (by omega)) ((gls_call1 (S := S) (R1 := It') (pre := fun n => 0 ≤ n ∧ n ≤ 500) (cs := fun n => 12 * n.toNat) (R := fun n M ws => ∃ ys : List Str, NmL ys ∧ ys.length = n.toNat ∧ Pd Tx M ys ws) (x := (n1 : Int) + (n2 : Int)) rfl (gv_addIn (K := K) (gv_var rfl rfl) (gv_var rfl rfl)) ⟨by omega, by omega⟩).gv fun M' vs p ⟨ys, hp, hl, hpd⟩ m => ⟨ys, ⟨hp, by omega⟩, p, vs, rfl, upd_same, hpd.mono (same_new m)⟩) fun v3 M3 H3 g3 a3 ⟨ns, ⟨hn, hnl⟩, r3⟩ => ?_
    have G3 := G2.trans g3
    have hcc : 2 + 2 * ns.length ≤ 2 + 2 * (s + h) := by omega
    have hmm : m * (2 + 2 * ns.length) ≤ m * (2 + 2 * (s + h)) := Nat.mul_le_mul_left m hcc
    -- clauses
    refine z_asg (S := S) (k := k) (c := 1 + m * (2 + 2 * ns.length)) (P := Ex (LiR (LiR Tx)) fun cs => (∀ x ∈ cs, Lits ns x) ∧ cs.length ≤ m) g3.mh (a3.le (by omega)) ((gls_m1 (c1 := 1) (n := m) (c2 := 2 + 2 * ns.length) (T := LiR Tx) (R := fun i : Nat => It' (i : Nat)) (G := fun xs => ∃ n, n ≤ m ∧ xs = List.range n) (good := fun _ y => Lits ns y)
      (gis_rng1 (good := fun n => n ≤ m) ((gs_draw (K := K) (n := (m : Int) + 1) rfl (gv_addIn (K := K) (gv_var rfl rfl) (gv_c rfl)) (by omega) (by omega)).is fun M v ⟨z, hz, r⟩ => ⟨z.toNat, by omega, ?_⟩) fun n hn => by omega)
      (fun xs ⟨n, hn, e⟩ => by rw [e, List.length_range]; exact hn) (szM (by omega)) ?_).gv fun M' vs p ⟨xs, cs, ⟨n, hn, e⟩, hp, hpd⟩ m => ?_) fun v4 M4 H4 g4 a4 ⟨cs, ⟨hcs, hcl⟩, r4⟩ => ?_
    · show v = .int _
      rw [show v = _ from r]; congr 1; omega
    · intro xs _ i _ M' v' sm _
      exact (gls_call2 (S := S) (R1 := LstR K Tx) (R2 := It') (pre := fun ns m => NmL ns ∧ 0 < m ∧ m < 1000) (cs := fun ns _ => 2 + 2 * ns.length) (R := fun ns _ M ws => ∃ ys : List Str, Lits ns ys ∧ Pd Tx M ys ws) (x := ns) (y := 3) rfl (gv_var rfl (Mon.mono sm r3).lst) (gv_c rfl) ⟨hn, by decide, by decide⟩).gv fun M' vs p ⟨ys, hp, hpd⟩ m => ⟨ys, hp, p, vs, rfl, upd_same, hpd.mono (same_new m)⟩
    · obtain ⟨e1, e2⟩ := paired_lits hp
      subst e
      rw [List.length_range] at e1
      exact ⟨cs, ⟨e2, by omega⟩, p, vs, rfl, upd_same, hpd.mono (same_new m)⟩
    have G4 := G3.trans g4
    have r3' : LiR Tx ns M4 v3 := Mon.mono g4.mm r3
    -- the dict
    refine z_ret (S := S) (k := k) (c := 0) G4.mh a4 (gv_disp3F (R1 := LiR Tx (ns.take n1)) (R2 := LiR Tx (ns.drop n1)) (R3 := LiR TT (onceUp cs ns)) ((gl_cut (K := K) (lo := none) (hi := some (n1 : Int)) (gv_var rfl r3'.lst) (fun _ _ h => h) (fun _ _ h => ⟨_, rfl, _, rfl, h⟩)).gv fun M' vs p hp m => ?_)
      ((gl_cut (K := K) (lo := some (n1 : Int)) (hi := none) (gv_var rfl r3'.lst) (fun _ _ h => ⟨_, rfl, _, rfl, h⟩) (fun _ _ h => h)).gv fun M' vs p hp m => ?_)
      ((gl_call2 (R1 := SqR K (CtR K)) (R2 := SqR K Tx) (x := cs) (y := ns) (gv_var rfl ?_) (gv_var rfl r3'.sq) ⟨nm_shorts hn, by omega⟩).gv fun M' vs p hp m => ⟨p, vs, rfl, upd_same, hp.mono (same_new m)⟩) (by decide) (by decide) (by decide)).s fun v5 M5 H5 g5 a5 r5 => ?_
    · rw [cut_take] at hp; exact ⟨p, vs, rfl, upd_same, hp.mono (same_new m)⟩
    · rw [cut_drop] at hp; exact ⟨p, vs, rfl, upd_same, hp.mono (same_new m)⟩
    · obtain ⟨a, vs, e, hs, hp⟩ := r4
      exact .inl ⟨a, vs, e, .inl (.inl hs), Paired.mapP hp fun _ _ q => .inl (LiR.sq q)⟩
    · refine q ⟨ns.take n1, ns.drop n1, onceUp cs ns⟩ v5 M5 H5 (G4.trans g5) a5 ?_ r5
      have e : CodeD.names ⟨ns.take n1, ns.drop n1, onceUp cs ns⟩ = ns := List.take_append_drop n1 ns
      exact ⟨⟨by rw [e]; exact hn, by rw [e]; omega, cs, by rw [e], by rw [e]; exact hcs, Nat.le_trans hcl h3⟩, by rw [e]; omega, Nat.le_trans (once_len7 _) (by rw [List.length_map]; exact hcl), by show (ns.take n1).length ≤ s; rw [List.length_take]; omega, by show 1 ≤ (ns.take n1).length; rw [List.length_take]; omega, by show (ns.drop n1).length ≤ h; rw [List.length_drop]; omega⟩
end
end My

set_option Elab.async false
set_option linter.all false
set_option maxRecDepth 100000
set_option maxHeartbeats 4000000
namespace My
open PySem PySem.Spec PyProof.Rows L2 L3
theorem mem_asc {l ns : List Str} {x : Str} : x ∈ asc l ns ↔ ∃ n ∈ ns, (x = n ∨ x = ("-" : Str) ++ n) ∧ x ∈ l := by
  unfold asc
  rw [List.mem_flatMap]
  constructor
  · rintro ⟨n, hn, h⟩
    obtain ⟨h1, h2⟩ := List.mem_filter.mp h
    exact ⟨n, hn, by simpa using h1, by simpa using h2⟩
  · rintro ⟨n, hn, h1, h2⟩
    exact ⟨n, hn, List.mem_filter.mpr ⟨by simpa using h1, by simpa using h2⟩⟩
theorem asc_congr {l l' ns : List Str} (h : ∀ n ∈ ns, ∀ x, (x = n ∨ x = ("-" : Str) ++ n) → (x ∈ l ↔ x ∈ l')) : asc l ns = asc l' ns := by
  unfold asc
  induction ns with
  | nil => rfl
  | cons n ns ih =>
    rw [List.flatMap_cons, List.flatMap_cons, ih fun m hm => h m (List.mem_cons_of_mem _ hm)]
    congr 1
    refine List.filter_congr fun x hx => ?_
    have := h n (List.mem_cons_self ..) x (by simpa using hx)
    simp [this]
theorem asc_asc (l ns : List Str) : asc (asc l ns) ns = asc l ns := asc_congr fun n hn x hx => by
  rw [mem_asc]
  exact ⟨fun ⟨_, _, _, h⟩ => h, fun h => ⟨n, hn, hx, h⟩⟩
theorem Lits.name {ns ys : List Str} (hn : NmL ns) (h : Lits ns ys) {y : Str} (hy : y ∈ ys) : nameOf y ∈ ns ∧ (y = nameOf y ∨ y = ("-" : Str) ++ nameOf y) ∧ isNm (nameOf y) = true := by
  obtain ⟨n, hnn, h1 | h1⟩ := h.of y hy
  · subst h1
    have e := nameOf_nm (hn.nm y hnn)
    rw [e]
    exact ⟨hnn, .inl rfl, hn.nm y hnn⟩
  · subst h1
    rw [nameOf_neg (hn.nm n hnn)]
    exact ⟨hnn, .inr rfl, hn.nm n hnn⟩
theorem nodup_inj {α β : Type} {f : α → β} : ∀ {xs : List α}, (xs.map f).Nodup → ∀ x ∈ xs, ∀ y ∈ xs, f x = f y → x = y
  | [], _, _, h, _, _, _ => by cases h
  | a :: xs, nd, x, hx, y, hy, e => by
    rw [List.map_cons] at nd
    obtain ⟨h1, h2⟩ := List.nodup_cons.mp nd
    rcases List.mem_cons.mp hx with ex | hx'
    · rcases List.mem_cons.mp hy with ey | hy'
      · rw [ex, ey]
      · exact absurd (List.mem_map.mpr ⟨y, hy', by rw [← e, ex]⟩) h1
    · rcases List.mem_cons.mp hy with ey | hy'
      · exact absurd (List.mem_map.mpr ⟨x, hx', by rw [e, ey]⟩) h1
      · exact nodup_inj h2 x hx' y hy' e
/-- literals in the order of the names are literals -/
theorem Lits.asc {ns ys : List Str} (hn : NmL ns) (h : Lits ns ys) : Lits ns (asc ys ns) := by
  refine ⟨?_, fun y hy => let ⟨n, h1, h2, _⟩ := mem_asc.mp hy; ⟨n, h1, h2⟩⟩
  have sub : ∀ ms : List Str, (∀ m ∈ ms, m ∈ ns) → ((My.asc ys ms).map nameOf).Sublist ms := by
    intro ms
    induction ms with
    | nil => intro _; exact List.Sublist.refl _
    | cons m ms ih =>
      intro hm
      have ih := ih fun z hz => hm z (List.mem_cons_of_mem _ hz)
      have hnm := hn.nm m (hm m (List.mem_cons_self ..))
      have e1 := nameOf_nm hnm
      have e2 := nameOf_neg hnm
      have hboth : ¬ (m ∈ ys ∧ ("-" : Str) ++ m ∈ ys) := fun ⟨a, b⟩ => neg_ne hnm (nodup_inj h.nd m a _ b (by rw [e1, e2]))
      show (((m :: ms).flatMap fun n => [n, ("-" : Str) ++ n].filter fun l => decide (l ∈ ys)).map nameOf).Sublist (m :: ms)
      rw [List.flatMap_cons, List.map_append]
      have : (([m, ("-" : Str) ++ m].filter fun l => decide (l ∈ ys)).map nameOf).Sublist [m] := by
        by_cases ha : m ∈ ys
        · have hb : ¬ ("-" : Str) ++ m ∈ ys := fun b => hboth ⟨ha, b⟩
          simp [ha, hb, e1]
        · by_cases hb : ("-" : Str) ++ m ∈ ys
          · simp [ha, hb, e2]
          · simp [ha, hb]
      exact List.Sublist.append this ih
  exact hn.nd.sublist (sub ns fun _ h => h)
theorem fw_lits {ns : List Str} : ∀ {ys met : List Str} {i : Nat}, (∀ y ∈ ys, nameOf y ∈ ns) → (ys.map nameOf).Nodup → (∀ y ∈ ys, nameOf y ∉ met) → fwGo ns (ys.map PyData.str) met i = none
  | [], _, _, _, _, _ => rfl
  | y :: ys, met, i, h1, h2, h3 => by
    rw [List.map_cons] at h2
    obtain ⟨h4, h5⟩ := List.nodup_cons.mp h2
    rw [List.map_cons, fwGo, if_neg]
    · refine fw_lits (fun z hz => h1 z (List.mem_cons_of_mem _ hz)) h5 fun z hz hm => ?_
      rcases List.mem_append.mp hm with hm | hm
      · exact h3 z (List.mem_cons_of_mem _ hz) hm
      · rw [List.mem_singleton] at hm
        exact h4 (List.mem_map.mpr ⟨z, hz, hm⟩)
    · rintro (h | h)
      · simp [isLit, h1 y (List.mem_cons_self ..)] at h
      · exact h3 y (List.mem_cons_self ..) h
theorem lits_len {ns ys : List Str} (h : Lits ns ys) (hn : NmL ns) : ys.length ≤ ns.length := by
  have := nodup_le h.nd (ys := ns) fun z hz => by
    obtain ⟨y, hy, rfl⟩ := List.mem_map.mp hz
    exact (h.name hn hy).1
  rwa [List.length_map] at this
theorem lits_short {ns ys : List Str} (h : Lits ns ys) (hn : NmL ns) : ∀ l ∈ ys, l.length ≤ 9 := fun l hl => by
  obtain ⟨h1, h2, h3⟩ := h.name hn hl
  have h4 := nm_len h3
  rcases h2 with e | e
  · rw [e]; omega
  · rw [e]
    show (("-" : Str) ++ nameOf l).length ≤ 9
    rw [← SX.S_tl (nameOf l), neg_S, SX.S_len, List.length_cons]
    have : (nameOf l).cps.toList.length = (nameOf l).length := rfl
    omega
theorem clOk_lits {ns ys : List Str} (hn : NmL ns) (h : Lits ns ys) : ClOk ns ys := ⟨fw_lits (fun y hy => (h.name hn hy).1) h.nd (fun _ _ z => by cases z), Nat.le_trans (lits_len h hn) (Nat.le_trans hn.n (by decide)), fun l hl => Nat.le_trans (lits_short h hn l hl) (by decide)⟩
section
variable {α : Type} [DecidableEq α]
theorem once_inv : ∀ (xs acc : List α), acc.Nodup → (xs.foldl onceP acc).Nodup ∧ ∀ x, x ∈ xs.foldl onceP acc ↔ x ∈ acc ∨ x ∈ xs
  | [], acc, h => ⟨h, fun x => by simp⟩
  | y :: xs, acc, h => by
    rw [List.foldl_cons]
    by_cases hy : y ∈ acc
    · have e : onceP acc y = acc := by unfold onceP; rw [if_pos hy]
      rw [e]
      obtain ⟨h1, h2⟩ := once_inv xs acc h
      refine ⟨h1, fun x => ?_⟩
      rw [h2, List.mem_cons]
      constructor
      · rintro (h | h)
        · exact .inl h
        · exact .inr (.inr h)
      · rintro (h | rfl | h)
        · exact .inl h
        · exact .inl hy
        · exact .inr h
    · have e : onceP acc y = acc ++ [y] := by unfold onceP; rw [if_neg hy]
      rw [e]
      obtain ⟨h1, h2⟩ := once_inv xs (acc ++ [y]) (List.nodup_append.mpr ⟨h, by simp, fun a ha b hb => by rw [List.mem_singleton] at hb; subst hb; exact fun e => hy (e ▸ ha)⟩)
      refine ⟨h1, fun x => ?_⟩
      rw [h2, List.mem_cons, List.mem_append, List.mem_singleton]
      constructor
      · rintro ((h | h) | h)
        · exact .inl h
        · exact .inr (.inl h)
        · exact .inr (.inr h)
      · rintro (h | h | h)
        · exact .inl (.inl h)
        · exact .inl (.inr h)
        · exact .inr h
theorem once_nodup (xs : List α) : (once xs).Nodup := (once_inv xs [] List.nodup_nil).1
theorem mem_once {xs : List α} {x : α} : x ∈ once xs ↔ x ∈ xs := by unfold once; rw [(once_inv xs [] List.nodup_nil).2]; simp
theorem once_self {xs : List α} (h : xs.Nodup) : once xs = xs := by
  have go : ∀ (xs acc : List α), (acc ++ xs).Nodup → xs.foldl onceP acc = acc ++ xs := by
    intro xs
    induction xs with
    | nil => intro acc _; simp
    | cons y xs ih =>
      intro acc h
      have hy : y ∉ acc := fun hy => (List.nodup_append.mp h).2.2 y hy y (List.mem_cons_self ..) rfl
      rw [List.foldl_cons, onceP, if_neg hy, ih (acc ++ [y]) (by simpa using h)]
      simp
  have := go xs [] (by simpa using h)
  simpa [once] using this
end
theorem onceUp_idem (cs : List (List Str)) (ns : List Str) : once ((onceUp cs ns).map fun c => asc c ns) = onceUp cs ns := by
  have e : (onceUp cs ns).map (fun c => asc c ns) = onceUp cs ns := by
    have : ∀ c ∈ onceUp cs ns, asc c ns = c := fun c hc => by
      obtain ⟨d, _, rfl⟩ := List.mem_map.mp (mem_once.mp hc)
      exact asc_asc d ns
    have h2 := List.map_congr_left (l := onceUp cs ns) (f := fun c => asc c ns) (g := id) this
    rw [h2, List.map_id]
  rw [e]
  exact once_self (once_nodup _)
theorem Good.lits {c : CodeD} (g : Good c) : ∀ x ∈ c.clauses, Lits c.names x := fun x hx => by
  obtain ⟨cs, e, h, _⟩ := g.cl
  rw [e] at hx
  obtain ⟨d, hd, rfl⟩ := List.mem_map.mp (mem_once.mp hx)
  exact (h d hd).asc g.nm
theorem Good.made {c : CodeD} (g : Good c) : mkCode c.signs c.helpers c.clauses = c := by
  obtain ⟨cs, e, h, _⟩ := g.cl
  obtain ⟨ss, hs, cl⟩ := c
  have e : cl = onceUp cs (ss ++ hs) := e
  unfold mkCode
  rw [e]
  show CodeD.mk ss hs (once ((onceUp cs (ss ++ hs)).map fun c => asc c (ss ++ hs))) = _
  rw [onceUp_idem]
theorem once_len2 {α : Type} [DecidableEq α] (hs : List α) : (once hs).length ≤ hs.length := by
  have go : ∀ (xs acc : List α), (xs.foldl onceP acc).length ≤ acc.length + xs.length := by
    intro xs
    induction xs with
    | nil => intro acc; exact Nat.le_refl _
    | cons x xs ih =>
      intro acc
      have h1 := ih (onceP acc x)
      have h2 := onceP_len acc x
      rw [List.foldl_cons, List.length_cons]
      omega
  simpa [once] using go hs []
theorem Good.few {c : CodeD} (g : Good c) : c.clauses.length ≤ 100 := by
  obtain ⟨cs, e, h, hl⟩ := g.cl
  rw [e]
  exact Nat.le_trans (once_len2 _) (by rw [List.length_map]; exact hl)
theorem Good.ok {c : CodeD} (g : Good c) : CodeOk c.signs c.helpers c.clauses := by
  have nd := g.nm.nd
  have hn := g.n
  have hl : c.names.length = c.signs.length + c.helpers.length := List.length_append
  obtain ⟨n1, n2, n3⟩ := List.nodup_append.mp (show (c.signs ++ c.helpers).Nodup from nd)
  refine ⟨⟨n1, fun x hx => ⟨g.nm.nm x (List.mem_append_left _ hx), fun h => by cases h⟩, by omega⟩, ⟨n2, fun x hx => ⟨g.nm.nm x (List.mem_append_right _ hx), fun h => n3 x h x hx rfl⟩, by omega⟩, Nat.le_trans g.few (by decide), fun x hx => clOk_lits g.nm (g.lits x hx), ?_⟩
  show c.names.length ≤ 1000
  omega
theorem flat_len : ∀ {xs : List (List Str)} {n : Nat}, (∀ x ∈ xs, x.length ≤ n) → xs.flatten.length ≤ xs.length * n
  | [], _, _ => by simp
  | x :: xs, n, h => by
    rw [List.flatten_cons, List.length_append, List.length_cons, Nat.succ_mul]
    have h1 := h x (List.mem_cons_self ..)
    have h2 := flat_len (xs := xs) fun y hy => h y (List.mem_cons_of_mem _ hy)
    omega
theorem Good.w {c : CodeD} (g : Good c) : CodeW c := by
  have h1 : ∀ x ∈ c.clauses, x.length ≤ 60 := fun x hx => Nat.le_trans (lits_len (g.lits x hx) g.nm) g.n
  have h2 := flat_len h1
  have h3 := g.few
  have h4 : c.clauses.length * 60 ≤ 100 * 60 := Nat.mul_le_mul_right _ h3
  exact ⟨fun x hx => ⟨Nat.le_trans (h1 x hx) (by decide), fun l hl => Nat.le_trans (lits_short (g.lits x hx) g.nm l hl) (by decide)⟩, by omega, by omega, nm_shorts g.nm⟩
end My

set_option Elab.async false
set_option linter.all false
set_option maxRecDepth 100000
set_option maxHeartbeats 4000000
namespace My
open PySem PySem.Spec PyProof.Rows L2 L3
open L3.Strm
structure Gd (mg : Str → Option Value) : Prop extends Gc mg where
  dict : mg "dict" = none
def lpass : List (List Str) → List Str → Option (List Str)
  | [], so => some so
  | c :: r, so => match c.filter (fun l => decide (opp l ∉ so)) with
    | [] => none
    | [l] => lpass r (onceP so l)
    | _ => lpass r so
inductive LChase (cs : List (List Str)) : List Str → Option (List Str) → Prop
  | dead {so} : lpass cs so = none → LChase cs so none
  | done {so so'} : lpass cs so = some so' → ¬ so.length < so'.length → LChase cs so (some so')
  | more {so so' r} : lpass cs so = some so' → so.length < so'.length → LChase cs so' r → LChase cs so r
section
variable {P : Program} {w : World} {K : PySem.W.Frag} {mg : Str → Option Value} {base : Heap}
abbrev s__law_made : Stmt := topS 45
theorem sc__law_made : FnScope ["_law_c"] ["_law_c"] (defScope s__law_made) := ⟨rfl, rfl, rfl, by decide +kernel, rfl, by decide +kernel, by decide +kernel⟩
def sp__law_made (K : PySem.W.Frag) (C : Addr) : Sp := sp1 LawR Good fun c => CodeR C c
theorem ok__law_made {f C : Addr} {fd : FuncData} (F : Fun K "_law_made" "_law_made" s__law_made f fd) (k_Code : Mak P w K mg base 5 "Code" C ["self", "signs", "clauses", "helpers"] (sp_Code_init K C)) : FnOk P w K mg base CX0 7 f fd ["_law_c"] (sp__law_made K C) := by
  refine F.ok sc__law_made (fun vs H Q E h => ?_) (fun cdv A outer s H vs Q E hr h => ?_)
  · obtain ⟨x, M, v, rfl, _⟩ := h
    rfl
  · obtain ⟨c, M, v, rfl, mh, r1, hg, q⟩ := h
    have hu := hr.units
    refine ⟨_, (pss_one (ps_ret (pe_mk k_Code (hr.mono (by decide)) (pa_cons (pe_dget (Nat.lt_of_le_of_lt (Nat.add_le_add_left (by decide) _) hu) (pv 0) pe_str (fun _ _ => rfl)) (pa_cons (pe_dget (Nat.lt_of_le_of_lt (Nat.add_le_add_left (by decide) _) hu) (pv 0) pe_str (fun _ _ => rfl)) (pa_cons (pe_dget (Nat.lt_of_le_of_lt (Nat.add_le_add_left (by decide) _) hu) (pv 0) pe_str (fun _ _ => rfl)) pa_nil)))))), ?_⟩
    refine gv_cS (gv_var rfl r1) H mh _ fun v1 M1 H1 g1 q1 => ?_
    refine gv_cC (gv_var (P := LawR c) rfl (Mon.mono g1.mm r1)) H1 g1.mh _ fun v2 M2 H2 g2 q2 => ?_
    refine gv_cH (gv_var (P := LawR c) rfl (Mon.mono (g1.trans g2).mm r1)) H2 g2.mh _ fun v3 M3 H3 g3 q3 => ?_
    intro x dx hx hdx hne
    have G := (g1.trans g2).trans g3
    have m3 : Same M3 H3 := g3.mh
    have gN : Gr M3 H3 M3 (upd (upd H3 dx (.own x)) x (.ins C dx [])) := (Gr.own m3 hdx).trans (.own (m3.trans (same_new hdx)) (by rw [upd_ne (Ne.symm hne)]; exact hx))
    have q2' : LiR TT c.clauses M3 v2 := Mon.mono g3.mm q2
    refine ⟨c.signs, c.helpers, c.clauses, M3, H3, x, dx, v1, v2, v3, rfl, gN, hx, m3.free hx, upd_same, (Mon.mono (g2.mm.trans g3.mm) q1 : LiR Tx c.signs M3 v1).sq, ?_, q3.sq, hg.ok, fun M' H' g r => ⟨rfl, ?_⟩⟩
    · obtain ⟨a, vs, e, hs, hp⟩ := q2'
      exact .inl ⟨a, vs, e, .inl (.inl hs), Paired.mapP hp fun _ _ q => TT.sq q⟩
    · rw [hg.made] at r
      exact q _ M' H' (G.trans g) r
end
end My

set_option Elab.async false
set_option linter.all false
set_option maxRecDepth 100000
set_option maxHeartbeats 4000000
namespace My
open PySem PySem.Spec PyProof.Rows L2 L3
open L3.Strm
/-- a pair (text, True) in a tuple -/
def PtR : Rl Str := fun x M v => ∃ a, v = .ref a ∧ M a = some (.tup [.str x, .bl true])
instance : Mon PtR := ⟨fun e ⟨a, h, r⟩ => ⟨a, h, e _ _ r⟩⟩
theorem merge_kvT : ∀ (xs acc : List Str), mergeK (kvT acc) (xs.map fun x => ((Sum.inr x : Key), V.bl true)) = kvT (xs.foldl onceP acc)
  | [], acc => rfl
  | x :: xs, acc => by
    have := merge_kvT xs (onceP acc x)
    rw [List.foldl_cons, ← this, ← putK_kvT]
    rfl
/-- dict of a new list of pairs -/
theorem pd_refs {xs : List Str} {M : Hp} {vs : List V} (h : Pd PtR M xs vs) : ∃ ps : List Addr, vs = ps.map V.ref ∧ Paired (fun p x => M p = some (.tup [V.str x, V.bl true])) ps xs := by
  induction h with
  | nil => exact ⟨[], rfl, .nil⟩
  | cons q _ ih =>
    obtain ⟨a, e, r⟩ := q
    obtain ⟨ps, h1, h2⟩ := ih
    exact ⟨a :: ps, by rw [e, h1]; rfl, .cons r h2⟩
section
variable {K : PySem.W.Frag} {σ : Sl} {M : Hp} {te : TE}
theorem gk_dict {xs : List Str} (h : GvL te σ M fun M vs => Pd PtR M xs vs) : GvK (tCB (fun xs H Q => ∃ (a : Addr) (ps : List Addr) (kvs : List (Key × V)), xs = [V.ref a] ∧ SqL K H a (ps.map V.ref) ∧ Paired (fun p kv => SqT K H p [kV kv.1, kv.2]) ps kvs ∧
    ∀ p, H p = none → Q (.ref p) (upd H p (.dK (mergeK [] kvs)))) (tCons te tNil)) σ M (once xs) := fun H mh Q q => h H mh _ fun p vs M' H' g h0 m0 hw r => by
  obtain ⟨ps, e, hp⟩ := pd_refs r
  refine ⟨p, ps, xs.map fun x => ((Sum.inr x : Key), V.bl true), rfl, .inl (.inl (by rw [← e]; exact hw)), ?_, fun D hD => ?_⟩
  · clear q r hw e h
    induction hp with
    | nil => exact .nil
    | cons q _ ih => exact .cons (.inl (.inl (g.mh _ _ q))) ih
  · have e1 := merge_kvT xs []
    have e2 : kvT [] = [] := rfl
    rw [e2] at e1
    rw [e1]
    exact q D M' _ (g.trans (.own g.mh hD)) (g.hh.free hD) (g.mh.free hD) upd_same
theorem gv_neg {i : Int} (h : Gv te σ M (It' i)) : Gv (tUn (rU fun i => .int (-i)) te) σ M (It' (-i)) := fun H mh Q q => h H mh _ fun v M1 H1 g1 p1 => ⟨i, p1, q _ M1 H1 g1 rfl⟩
theorem gv_pt {x : Str} (h : Gv te σ M (Tx x)) : Gv (tTup (tCons te (tCons (tC (.bl true)) tNil))) σ M (PtR x) := fun H mh Q q => h H mh _ fun v M1 H1 g1 p1 => ⟨by show 2 ≤ sizeLine; decide, fun p np => q _ _ _ (g1.trans (.new g1.mh np)) ⟨p, rfl, by rw [upd_same, show v = _ from p1]⟩⟩
theorem gv_lenK {ks : List Str} {p : Addr} {i : Nat} (hi : σ[i]? = some (some (.ref p))) (hp : M p = some (.dK (kvT ks))) : Gv (tCB (rLenA K) (tCons (tVar i) tNil)) σ M (It' (ks.length : Nat)) := fun H mh Q q => ⟨_, hi, .inr (.inr ⟨p, _, rfl, mh _ _ hp, by rw [kvT_len]; exact q _ M H (.refl mh) rfl⟩)⟩
end
theorem boot_dict : bootBuiltins "dict" = some (.type "dict") := by decide +kernel
def leftOf (so c : List Str) : List Str := c.filter fun l => decide (opp l ∉ so)
section
variable {P : Program} {w : World} {K : PySem.W.Frag} {mg : Str → Option Value} {base : Heap}
abbrev s__law_chase : Stmt := topS 40
theorem sc__law_chase : FnScope ["_law_clauses", "_law_half", "_law_so", "_law_many", "_law_clause_here", "_law_left", "_law_one"] ["_law_clauses", "_law_half"] (defScope s__law_chase) := ⟨rfl, rfl, rfl, by decide +kernel, rfl, by decide +kernel, by decide +kernel⟩
def sp__law_chase (K : PySem.W.Frag) : Sp := sp2 (SqR K (SqR K Tx)) (SqR K Tx) ChOk fun cs hs M v => ∃ r, LChase cs (once hs) r ∧ OpR' (LiR Tx) r M v
theorem ok__law_chase {f : Addr} {fd : FuncData} (F : Fun K "_law_chase" "_law_chase" s__law_chase f fd) (T : Gd mg) (c__law_neg : Cal P w K mg base 1 "_law_neg" ["_law_one"] (sp__law_neg K)) : FnOk P w K mg base CX0 2 f fd ["_law_clauses", "_law_half"] (sp__law_chase K) := by
  refine F.ok sc__law_chase (fun vs H Q E h => ?_) (fun cdv A outer s H vs Q E hr h => ?_)
  · obtain ⟨x, y, M, v, w, rfl, _⟩ := h
    rfl
  · obtain ⟨cs, hs, M, v, w, rfl, mh, r1, r2, ok, q⟩ := h
    have hu := hr.units
    refine ⟨_, (pss_cons (ps_asg (pe_tup (pa_cons (pe_callTy (call_dictP (by rfl)) (by rfl) T.dict boot_dict (pa_cons (pe_lc (own := [("_law_one", 6)]) (g := (gName 6)) (tt := tYes) (te := (tTup (tCons (tVar 6) (tCons (tC (.bl true)) tNil)))) (by rfl) sc__law_chase.nd (pi_sq (pv 1)) (blkOk_by (by rfl)) (fun _ _ _ _ _ => (pg_name (i := 6) sc__law_chase.nd rfl (by first | exact .inl rfl | exact .inr rfl))) (fun _ _ _ _ _ => pts_nil) (fun _ _ _ _ _ => (pe_tup (pa_cons (pv 6) (pa_cons pe_bl pa_nil))))) pa_nil)) (pa_cons (pe_un un_neg pe_int) pa_nil))) (pg_tup (by rfl) (pgs_cons (pg_name (i := 2) sc__law_chase.nd rfl (by first | exact .inl rfl | exact .inr rfl)) (pgs_cons (pg_name (i := 3) sc__law_chase.nd rfl (by first | exact .inl rfl | exact .inr rfl)) pgs_nil))))
      (pss_cons (ps_while PassesOwn.never (pt_cmpR op_lt (pv 3) (pe_callB call_lenA (by rfl) T.len boot_len (pa_cons (pv 2) pa_nil)) (nomark _)) (pss_cons (ps_set (i := 3) sc__law_chase.nd rfl (by first | exact .inl rfl | exact .inr rfl) (pe_callB call_lenA (by rfl) T.len boot_len (pa_cons (pv 2) pa_nil)))
      (pss_one (ps_for PassesOwn.never (by rfl) (pi_sq (pv 0)) (pg_name (i := 4) sc__law_chase.nd rfl (by first | exact .inl rfl | exact .inr rfl)) (pss_cons (ps_setLc (i := 5) (own := [("_law_one", 6)]) (g := (gName 6)) (tt := (tTest (tOp (rInA K true) (tCall (sp__law_neg K) [] E0 (tCons (tVar 6) tNil)) (tVar 2)))) (te := (tVar 6)) (by rfl) sc__law_chase.nd rfl rfl (sw_true rfl rfl rfl (by decide +kernel)) (pi_sq (pv 4)) (blkOk_by (by rfl)) (fun _ _ _ _ _ => (pg_name (i := 6) sc__law_chase.nd rfl (by first | exact .inl rfl | exact .inr rfl))) (fun _ _ _ _ _ => (pts_one (pt_cmpR (op_niA hu) (pe_f c__law_neg (hr.mono (by decide)) (pa_cons (pv 6) pa_nil)) (pv 2) (by rfl)))) (fun _ _ _ _ _ => (pv 6)))
      (pss_cons (ps_if (pt_cmpR (op_eqP hu) (pv 5) (pe_lst pa_nil) (nomark _)) (pss_one (ps_ret pe_non)) pss_nil)
      (pss_one (ps_if (pt_cmpR (op_eqP hu) (pe_callB call_lenA (by rfl) T.len boot_len (pa_cons (pv 5) pa_nil)) pe_int (nomark _)) (pss_one (ps_dput (Nat.lt_of_le_of_lt (Nat.add_le_add_left (by decide) _) hu) (pv 2) (pe_ix ix_X (pv 5) pe_int (fun _ _ => rfl)) pe_bl rfl)) pss_nil))))))))
      (pss_one (ps_ret (pe_callTy (call_listD (by rfl)) (by rfl) T.list boot_list (pa_cons (pv 2) pa_nil)))))), ?_⟩
    have hlo : (once hs).length ≤ 1000000 := Nat.le_trans (once_len' hs) ok.h
    have mul : mu cs (once hs) ≤ 1000000 := Nat.le_trans (List.length_filter_le _ _) ok.n
    -- so, many = dict([..]), -1
    have hgl : GvL (tLc (iSq K (tVar 1)) (gName 6) tYes (tTup (tCons (tVar 6) (tCons (tC (.bl true)) tNil))) [6]) (start ["_law_clauses", "_law_half", "_law_so", "_law_many", "_law_clause_here", "_law_left", "_law_one"] [v, w]) M fun M ws => Pd PtR M hs ws := by
      have := gl_m1 (R := Tx) (S := PtR) (j := 6) (σ := start ["_law_clauses", "_law_half", "_law_so", "_law_many", "_law_clause_here", "_law_left", "_law_one"] [v, w]) (M := M) (te := tTup (tCons (tVar 6) (tCons (tC (.bl true)) tNil))) (xs := hs) (gi_sq (K := K) (ts := tVar 1) (gv_var rfl r2)) (szM (Nat.le_trans ok.h (by decide))) id fun x _ M1 v sm r => gv_pt (gv_var rfl r)
      rw [List.map_id] at this
      exact this
    refine q_asg2 (a_K mh (gk_dict (K := K) hgl) fun p M1 H1 g1 hp0 hpm hpk => a_V (P := It' (-1)) g1.mh (gv_neg (gv_c rfl)) fun vm M2 H2 g2 r2m => a_nil (fin2 fun t nt => ?_))
    cases r2m
    have G2 := (g1.trans g2).trans (.own (o := .tup [.ref p, .int (-1)]) g2.mh nt)
    have k2 : OwnK H M2 (upd H2 t (.tup [.ref p, .int (-1)])) p (once hs) := (OwnK.step (H0 := H) ⟨hp0, hpm, hpk⟩ g2).step (.own g2.mh nt)
    revert G2 k2
    generalize upd H2 t (.tup [.ref p, .int (-1)]) = H3
    intro G2 k2
    refine q_while (M := M2) (m0 := 2 * mu cs (once hs) + 1) (fun m σ' M' H' => ∃ (so : List Str) (many : Int) (y4 y5 : Option V), m = 2 * mu cs so + (if many < so.length then 1 else 0) ∧ Gr M H M' H' ∧ OwnK H M' H' p so ∧ σ' = [some v, some w, some (.ref p), some (.int many), y4, y5, none] ∧
      (∀ r, (if many < so.length then LChase cs so r else r = some so) → LChase cs (once hs) r) ∧ so.length + mu cs so ≤ (once hs).length + mu cs (once hs))
      ⟨once hs, -1, _, _, by rw [if_pos (by omega)], G2, k2, rfl, fun r h => by rw [if_pos (by omega)] at h; exact h, Nat.le_refl _⟩ ?_
    rintro m σ' M' H' ⟨so, many, y4, y5, rfl, g, k, rfl, hch, hmu⟩
    refine ⟨decide (many < so.length), _, k.lent g.mh, gt_test (gv_lt (gv_var rfl rfl) (gv_lenK (K := K) rfl upd_same)), fun hb H4 hh4 => ?_, fun hb H4 hh4 => ?_⟩
    · have hlt : many < so.length := by simpa using hb
      have hch : ∀ r, LChase cs so r → LChase cs (once hs) r := fun r h => hch r (by rw [if_pos hlt]; exact h)
      have g4 := g.trans (.idle g.mh hh4)
      have k4 := k.idle hh4
      refine q_asgK (P := It' (so.length : Nat)) g4.mh k4.m k4.h (gv_lenK (K := K) rfl upd_same) fun v5 M5 H5 g5 r5 => ?_
      cases r5
      have G5 := g4.trans g5
      have k5 := k4.step g5
      refine s_for (R1 := SqR K Tx) (xs := cs) g5.mh (gv_var rfl (Mon.mono G5.mm r1))
        (fun M1' i σ' M' H' => ∃ so2 y4 y5, Gr M H M' H' ∧ Same M1' M' ∧ Same M M' ∧ OwnK H M' H' p so2 ∧ σ' = [some v, some w, some (.ref p), some (.int (so.length : Nat)), y4, y5, none] ∧
          lpass cs so = lpass (cs.drop i) so2 ∧ (so2 = so ∨ (so.length < so2.length ∧ mu cs so2 < mu cs so)) ∧ so2.length + mu cs so2 ≤ (once hs).length + mu cs (once hs))
        (fun M6 H6 g6 => ⟨so, _, _, G5.trans g6, Same.refl _, (G5.trans g6).mm, k5.step g6, rfl, rfl, .inl rfl, hmu⟩)
        (fun M6 i σ' M' H' ⟨_, _, _, g, s1, _⟩ => ⟨s1, g.mh⟩) ?_ ?_
      · rintro M6 i c v' σ' M' H' sM hx ⟨so2, y4, y5, g, s1, s2, k2, rfl, el, hor, hmu2⟩ rx
        have hxm : c ∈ cs := List.mem_of_getElem? hx
        have hil : i < cs.length := (List.getElem?_eq_some_iff.mp hx).1
        have ed : cs.drop i = c :: cs.drop (i + 1) := by rw [List.drop_eq_getElem_cons hil]; congr 1; exact (List.getElem?_eq_some_iff.mp hx).2
        have hsh := ok.c c hxm
        have up : Same M' (upd M' p (.dK (kvT so2))) := same_new k2.m
        -- left = [..]
        refine q_asgK (P := LiR Tx (leftOf so2 c)) g.mh k2.m k2.h ((gl_lc (K := K) (R := Tx) (S := Tx) (gv_var rfl (Mon.mono up rx)) (szM (Nat.le_trans hsh.1 (by decide))) (fun l => decide (opp l ∉ so2)) id
          (fun l hl M1 vl sm rl => gt_is (gt_test (gv_inA (K := K) (neg := true) (gv_call1 (R1 := Tx) (pre := fun x => x.length ≤ 1000) (R := fun x => Tx (opp x)) (gv_var rfl rl) (hsh.2 l hl)) (gv_var rfl (Mon.mono sm OwnK.ct)))) (by simp)) fun l _ _ M1 vl sm rl => gv_var rfl rl).gv fun M' vs p hp m => ?_) fun v7 M7 H7 g7 r7 => ?_
        · rw [List.map_id] at hp
          exact ⟨p, vs, rfl, upd_same, hp.mono (same_new m)⟩
        have G7 := g.trans g7
        have k7 := k2.step g7
        have hd7 : Dp K M7 v7 (.list ((leftOf so2 c).map .str)) := py_lst py_str _ _ _ r7.lst
        refine q_if0 (b := decide (leftOf so2 c = [])) G7.mh (gt_test (gv_is (gv_eq (K := K) (neg := false) (d := .list ((leftOf so2 c).map .str)) (e := .list []) (gv_var rfl hd7) gv_nilD (depthO (some _))) fun M v h => by
            rw [show v = _ from h]
            have := optD_eq (some (leftOf so2 c)) []
            simp only [optD, List.map_nil] at this
            rw [this]; simp)) (fun hb8 H8 hh8 => ?_) (fun hb8 H8 hh8 => ?_)
        · have e0 : leftOf so2 c = [] := by simpa using hb8
          have g8 := G7.trans (.idle G7.mh hh8)
          refine s_ret (P := fun _ v => v = .non) g8.mh (gv_c rfl) fun v9 M9 H9 g9 r9 => q v9 M9 H9 (g8.trans g9) ⟨none, hch _ (.dead ?_), r9⟩
          rw [el, ed, lpass]
          unfold leftOf at e0
          rw [e0]
        · have hne : leftOf so2 c ≠ [] := by simpa using hb8
          have g8 := G7.trans (.idle G7.mh hh8)
          have k8 := k7.idle hh8
          refine s_if0 (b := decide ((leftOf so2 c).length = 1)) g8.mh (gt_test (gv_is (gv_eqT (K := K) (neg := false) py_int inj_int (gv_lenA (K := K) (gv_var rfl (r7.sq (K := K)))) (gv_c rfl) (by simp [PyData.depth])) fun M v h => ?_)) (fun hb9 H9 hh9 => ?_) (fun hb9 H9 hh9 => ?_)
          · rw [show v = _ from h]
            simp only [Bool.false_bne, V.bl.injEq, decide_eq_decide]
            omega
          · obtain ⟨l, hl⟩ : ∃ l, leftOf so2 c = [l] := by
              match leftOf so2 c, hb9 with
              | [l], _ => exact ⟨l, rfl⟩
              | [], h => simp at h
              | _ :: _ :: _, h => simp at h
            have g9 := g8.trans (.idle g8.mh hh9)
            have k9 := k8.idle hh9
            rw [hl] at r7
            have hlc : l ∈ c := by
              have : l ∈ leftOf so2 c := by rw [hl]; simp
              exact (List.mem_filter.mp this).1
            refine s_dputT (l := l) g9.mh rfl k9.h (szL (by omega)) (gv_ix (K := K) (R := Tx) (xs := [l]) (i := 0) (gv_var rfl (r7.sq (K := K))) (gv_c rfl) rfl) fun M10 H10 g10 => ?_
            have k10 := k9.step g10
            refine ⟨M10, onceP so2 l, _, _, (g9.trans g10).mut k10.h0 k10.m, s1.trans (g7.mm.trans g10.mm), s2.trans (g7.mm.trans g10.mm), k10.put, rfl, ?_, ?_, ?_⟩
            · rw [el, ed, lpass]
              unfold leftOf at hl
              rw [hl]
            · by_cases hin : l ∈ so2
              · rw [show onceP so2 l = so2 from if_pos hin]; exact hor
              · have h1 := mu_put hxm hlc hin
                rw [onceP_new hin]
                refine .inr ?_
                rw [List.length_append, List.length_singleton]
                rcases hor with rfl | hor
                · exact ⟨by omega, h1⟩
                · exact ⟨by omega, by omega⟩
            · by_cases hin : l ∈ so2
              · rw [show onceP so2 l = so2 from if_pos hin]; exact hmu2
              · have h1 := mu_put hxm hlc hin
                rw [onceP_new hin, List.length_append, List.length_singleton]
                omega
          · refine ⟨M7, so2, _, _, g8.trans (.idle g8.mh hh9), s1.trans g7.mm, s2.trans g7.mm, k8.idle hh9, rfl, ?_, hor, hmu2⟩
            rw [el, ed, lpass]
            unfold leftOf at hne hb9
            match hm : c.filter (fun l => decide (opp l ∉ so2)), hne, hb9 with
            | [], h, _ => exact absurd rfl h
            | [l], _, h => simp at h
            | _ :: _ :: _, _, _ => rfl
      · rintro M6 σ' M' H' sM ⟨so2, y4, y5, g, s1, s2, k2, rfl, el, hor, hmu2⟩
        rw [List.drop_length, lpass] at el
        refine ⟨_, M', ?_, so2, (so.length : Int), y4, y5, rfl, g, k2, rfl, fun r hr => hch r ?_, hmu2⟩
        · rw [if_pos hlt]
          rcases hor with rfl | ⟨h1, h2⟩
          · rw [if_neg (by omega)]; omega
          · rw [if_pos (by omega)]; omega
        · by_cases hl2 : so.length < so2.length
          · rw [if_pos (by omega)] at hr; exact .more el hl2 hr
          · rw [if_neg (by omega)] at hr; subst hr; exact .done el hl2
    · have hge : ¬ many < so.length := by simpa using hb
      have hch : ∀ r, r = some so → LChase cs (once hs) r := fun r h => hch r (by rw [if_neg hge]; exact h)
      have g4 := g.trans (.idle g.mh hh4)
      have k4 := k.idle hh4
      refine ⟨.ref p, rfl, p, kvT so, rfl, .inl k4.h, fun t nt => ?_⟩
      have ek : (kvT so).map (fun kv => kV kv.1) = so.map V.str := by unfold kvT; rw [List.map_map]; rfl
      rw [ek]
      exact q _ _ _ (g4.trans (.new g4.mh nt)) ⟨some so, hch _ rfl, t, _, rfl, upd_same, pd_of_tx so⟩
end
end My

set_option Elab.async false
set_option linter.all false
set_option maxRecDepth 100000
set_option maxHeartbeats 4000000
namespace My
open PySem PySem.Spec PyProof.Rows L2 L3
/-! following as a least closed set -/
inductive Der (cs : List (List Str)) (hs : List Str) : Str → Prop
  | base {x} : x ∈ hs → Der cs hs x
  | step {c l} : c ∈ cs → l ∈ c → (∀ m ∈ c, m ≠ l → Der cs hs (opp m)) → Der cs hs l
def Dead (cs : List (List Str)) (hs : List Str) : Prop := ∃ c ∈ cs, ∀ m ∈ c, Der cs hs (opp m)
/-- a literal of names -/
def LitN (ns : List Str) (x : Str) : Prop := ∃ n ∈ ns, x = n ∨ x = ("-" : Str) ++ n
theorem opp_opp {ns : List Str} (hn : NmL ns) {x : Str} (h : LitN ns x) : opp (opp x) = x ∧ opp x ≠ x := by
  obtain ⟨n, hnn, h | h⟩ := h
  · subst h
    have hm := hn.nm x hnn
    rw [opp_nm hm, opp_neg hm]
    exact ⟨rfl, fun e => neg_ne hm e.symm⟩
  · subst h
    have hm := hn.nm n hnn
    rw [opp_neg hm, opp_nm hm]
    exact ⟨rfl, fun e => neg_ne hm e⟩
structure Ctx (ns : List Str) (cs : List (List Str)) (hs : List Str) : Prop where
  nm : NmL ns
  c : ∀ c ∈ cs, Lits ns c
  h : Lits ns hs
theorem lits_nodup {ns ys : List Str} (h : Lits ns ys) : ys.Nodup := by
  have := h.nd
  rw [List.Nodup, List.pairwise_map] at this
  exact List.Pairwise.imp (fun hne e => hne (by rw [e])) this
/-- what is so -/
structure So (ns : List Str) (cs : List (List Str)) (hs so : List Str) : Prop where
  sub : ∀ x ∈ hs, x ∈ so
  snd : ∀ x ∈ so, Der cs hs x
  lit : ∀ x ∈ so, LitN ns x
  con : ∀ x ∈ so, opp x ∉ so
  nd : so.Nodup
variable {ns : List Str} {cs : List (List Str)} {hs so c : List Str} {l : Str}
theorem So.init (X : Ctx ns cs hs) : So ns cs hs hs := by
  refine ⟨fun _ h => h, fun _ h => .base h, fun x hx => X.h.of x hx, fun x hx ho => ?_, lits_nodup X.h⟩
  obtain ⟨h1, h2, h3⟩ := X.h.name X.nm hx
  obtain ⟨h4, h5, h6⟩ := X.h.name X.nm ho
  have hne := (opp_opp X.nm (X.h.of x hx)).2
  have e : nameOf (opp x) = nameOf x := by
    rcases h2 with e | e
    · rw [e, opp_nm h3, nameOf_neg h3, nameOf_nm h3]
    · rw [e, opp_neg h3, nameOf_nm h3, nameOf_neg h3]
  exact hne (nodup_inj X.h.nd _ ho _ hx e)
theorem mem_left {so c : List Str} {l : Str} : l ∈ leftOf so c ↔ l ∈ c ∧ opp l ∉ so := by unfold leftOf; rw [List.mem_filter]; simp
theorem left_one (X : Ctx ns cs hs) (S : ∀ x ∈ so, Der cs hs x) (hc : c ∈ cs) (h : leftOf so c = [l]) : Der cs hs l := by
  have hl : l ∈ leftOf so c := by rw [h]; simp
  refine .step hc (mem_left.mp hl).1 fun m hm hne => ?_
  by_cases ho : opp m ∈ so
  · exact S _ ho
  · have : m ∈ leftOf so c := mem_left.mpr ⟨hm, ho⟩
    rw [h, List.mem_singleton] at this
    exact absurd this hne
theorem left_none (S : ∀ x ∈ so, Der cs hs x) (hc : c ∈ cs) (h : leftOf so c = []) : Dead cs hs := ⟨c, hc, fun m hm => by
  by_cases ho : opp m ∈ so
  · exact S _ ho
  · have : m ∈ leftOf so c := mem_left.mpr ⟨hm, ho⟩
    rw [h] at this
    cases this⟩
theorem So.put (X : Ctx ns cs hs) (S : So ns cs hs so) (hc : c ∈ cs) (h : leftOf so c = [l]) (hl : l ∉ so) : So ns cs hs (so ++ [l]) := by
  have hm : l ∈ leftOf so c := by rw [h]; simp
  obtain ⟨h1, h2⟩ := mem_left.mp hm
  have hlit : LitN ns l := (X.c c hc).of l h1
  have hoo := opp_opp X.nm hlit
  refine ⟨fun x hx => List.mem_append_left _ (S.sub x hx), fun x hx => ?_, fun x hx => ?_, fun x hx ho => ?_, ?_⟩
  · rcases List.mem_append.mp hx with hx | hx
    · exact S.snd x hx
    · rw [List.mem_singleton] at hx; subst hx; exact left_one X S.snd hc h
  · rcases List.mem_append.mp hx with hx | hx
    · exact S.lit x hx
    · rw [List.mem_singleton] at hx; subst hx; exact hlit
  · rcases List.mem_append.mp hx with hx | hx
    · rcases List.mem_append.mp ho with ho | ho
      · exact S.con x hx ho
      · rw [List.mem_singleton] at ho
        have := (opp_opp X.nm (S.lit x hx)).1
        rw [ho] at this
        exact h2 (by rw [this]; exact hx)
    · rw [List.mem_singleton] at hx
      subst hx
      rcases List.mem_append.mp ho with ho | ho
      · exact h2 ho
      · rw [List.mem_singleton] at ho; exact hoo.2 ho
  · exact List.nodup_append.mpr ⟨S.nd, by simp, fun a ha b hb => by rw [List.mem_singleton] at hb; subst hb; exact fun e => hl (e ▸ ha)⟩
/-- closed -/
def Closed (cs : List (List Str)) (so : List Str) : Prop := ∀ c ∈ cs, leftOf so c ≠ [] ∧ ∀ l, leftOf so c = [l] → l ∈ so
theorem nodup_one {l : Str} : ∀ {xs : List Str}, xs.Nodup → (∀ x ∈ xs, x = l) → xs = [] ∨ xs = [l]
  | [], _, _ => .inl rfl
  | [x], _, h => .inr (by rw [h x (by simp)])
  | x :: y :: r, nd, h => by
    have h1 := h x (by simp)
    have h2 := h y (by simp)
    rw [h1, h2] at nd
    simp at nd
theorem der_in (X : Ctx ns cs hs) (hsub : ∀ x ∈ hs, x ∈ so) (hcl : Closed cs so) {x : Str} (h : Der cs hs x) : x ∈ so := by
  induction h with
  | base h => exact hsub _ h
  | @step c l hc hl _ ih =>
    obtain ⟨h1, h2⟩ := hcl c hc
    have : ∀ m ∈ leftOf so c, m = l := fun m hm => by
      obtain ⟨h3, h4⟩ := mem_left.mp hm
      by_cases e : m = l
      · exact e
      · exact absurd (ih m h3 e) h4
    have nd : (leftOf so c).Nodup := (lits_nodup (X.c c hc)).sublist List.filter_sublist
    rcases nodup_one nd this with e | e
    · exact absurd e h1
    · exact h2 l e
theorem not_dead (X : Ctx ns cs hs) (hsub : ∀ x ∈ hs, x ∈ so) (hcl : Closed cs so) : ¬ Dead cs hs := fun ⟨c, hc, h⟩ => by
  refine (hcl c hc).1 ?_
  have : ∀ m, m ∉ leftOf so c := fun m hm => by
    obtain ⟨h3, h4⟩ := mem_left.mp hm
    exact h4 (der_in X hsub hcl (h m h3))
  exact List.eq_nil_iff_forall_not_mem.mpr this
/-! the law's following -/
theorem lpass_ok (X : Ctx ns cs hs) : ∀ (rest : List (List Str)) (so : List Str), (∀ c ∈ rest, c ∈ cs) → So ns cs hs so → match lpass rest so with
    | none => Dead cs hs
    | some so' => So ns cs hs so' ∧ so.length ≤ so'.length ∧ (¬ so.length < so'.length → so' = so ∧ ∀ c ∈ rest, leftOf so c ≠ [] ∧ ∀ l, leftOf so c = [l] → l ∈ so)
  | [], so, _, S => ⟨S, Nat.le_refl _, fun _ => ⟨rfl, fun c hc => by cases hc⟩⟩
  | c :: rest, so, hr, S => by
    have hc := hr c (List.mem_cons_self ..)
    have hr' := fun d hd => hr d (List.mem_cons_of_mem _ hd)
    rw [lpass]
    match hl : c.filter (fun l => decide (opp l ∉ so)) with
    | [] => exact left_none S.snd hc hl
    | [l] =>
      have hl' : leftOf so c = [l] := hl
      by_cases hin : l ∈ so
      · have e : onceP so l = so := if_pos hin
        simp only [e]
        have ih := lpass_ok X rest so hr' S
        revert ih
        cases lpass rest so with
        | none => exact fun h => h
        | some so' =>
          rintro ⟨h1, h2, h3⟩
          refine ⟨h1, h2, fun h => ⟨(h3 h).1, fun d hd => ?_⟩⟩
          rcases List.mem_cons.mp hd with rfl | hd
          · rw [hl']; exact ⟨by simp, fun m hm => by cases hm; exact hin⟩
          · exact (h3 h).2 d hd
      · have e : onceP so l = so ++ [l] := if_neg hin
        simp only [e]
        have ih := lpass_ok X rest (so ++ [l]) hr' (S.put X hc hl' hin)
        revert ih
        cases lpass rest (so ++ [l]) with
        | none => exact fun h => h
        | some so' =>
          rintro ⟨h1, h2, _⟩
          rw [List.length_append, List.length_singleton] at h2
          exact ⟨h1, by omega, fun h => absurd (by omega) h⟩
    | a :: b :: r =>
      have hl' : leftOf so c = a :: b :: r := hl
      simp only
      have ih := lpass_ok X rest so hr' S
      revert ih
      cases lpass rest so with
      | none => exact fun h => h
      | some so' =>
        rintro ⟨h1, h2, h3⟩
        refine ⟨h1, h2, fun h => ⟨(h3 h).1, fun d hd => ?_⟩⟩
        rcases List.mem_cons.mp hd with rfl | hd
        · rw [hl']; exact ⟨by simp, fun m hm => by simp at hm⟩
        · exact (h3 h).2 d hd
/-- how a following ends -/
def EndsOk (ns : List Str) (cs : List (List Str)) (hs : List Str) : Option (List Str) → Prop
  | none => Dead cs hs
  | some so => ¬ Dead cs hs ∧ (∀ x, x ∈ so ↔ Der cs hs x) ∧ So ns cs hs so
theorem ends_some (X : Ctx ns cs hs) (S : So ns cs hs so) (hcl : Closed cs so) : EndsOk ns cs hs (some so) := ⟨not_dead X S.sub hcl, fun x => ⟨S.snd x, der_in X S.sub hcl⟩, S⟩
theorem lchase_ok (X : Ctx ns cs hs) {r : Option (List Str)} (h : LChase cs so r) (S : So ns cs hs so) : EndsOk ns cs hs r := by
  induction h with
  | @dead so e =>
    have := lpass_ok X cs so (fun _ h => h) S
    rw [e] at this
    exact this
  | @done so so' e hn =>
    have := lpass_ok X cs so (fun _ h => h) S
    rw [e] at this
    obtain ⟨h1, h2, h3⟩ := this
    obtain ⟨e1, h4⟩ := h3 hn
    rw [e1]
    exact ends_some X S h4
  | @more so so' r e _ _ ih =>
    have := lpass_ok X cs so (fun _ h => h) S
    rw [e] at this
    exact ih this.1
/-! the program's following -/
theorem open_left {ls : List Str} (h : openOnes so c = some ls) : leftOf so c = ls ∧ ∀ l ∈ c, l ∉ so := by
  rw [openOnes_eq] at h
  split at h
  · cases h
  · rename_i hn
    refine ⟨Option.some.inj h, fun l hl hs => hn ?_⟩
    rw [List.any_eq_true]
    exact ⟨l, hl, by simpa using hs⟩
theorem open_none (h : openOnes so c = none) : ∃ l ∈ c, l ∈ so := by
  rw [openOnes_eq] at h
  split at h
  · rename_i hn
    rw [List.any_eq_true] at hn
    obtain ⟨l, hl, hs⟩ := hn
    exact ⟨l, hl, by simpa using hs⟩
  · cases h
/-- steps that are right one behind the other -/
inductive Steps (cs : List (List Str)) : List Str → List Stp → List Str → Prop
  | nil {so : List Str} : Steps cs so [] so
  | cons {so : List Str} {i : Nat} {l : Str} {r : List Stp} {so' : List Str} : i < cs.length → openOnes so (cs.getD i []) = some [l] → Steps cs (so ++ [l]) r so' → Steps cs so ((i, some l) :: r) so'
theorem Steps.snoc {so so' : List Str} {st : List Stp} {i : Nat} (h : Steps cs so st so') (hi : i < cs.length) (ho : openOnes so' (cs.getD i []) = some [l]) : Steps cs so (st ++ [(i, some l)]) (so' ++ [l]) := by
  induction h with
  | nil => exact .cons hi ho .nil
  | cons h1 h2 _ ih => exact .cons h1 h2 (ih ho)
theorem Steps.take {so so' : List Str} {st : List Stp} (h : Steps cs so st so') : ∀ n, ∃ so'', Steps cs so (st.take n) so'' := by
  induction h with
  | nil => intro n; exact ⟨_, by rw [List.take_nil]; exact .nil⟩
  | cons h1 h2 _ ih =>
    intro n
    cases n with
    | zero => exact ⟨_, .nil⟩
    | succ n => obtain ⟨s, hs⟩ := ih n; exact ⟨s, .cons h1 h2 hs⟩
/-- right drawings to a result -/
def RightTo (cs : List (List Str)) (hs : List Str) : Res → Prop
  | (some so, st) => Steps cs hs st so
  | (none, st) => ∃ st0 i so, st = st0 ++ [(i, none)] ∧ Steps cs hs st0 so ∧ i < cs.length ∧ openOnes so (cs.getD i []) = some []
theorem pass_ok (X : Ctx ns cs hs) : ∀ (rest : List (List Str)) (i : Nat) (so : List Str) (st : List Stp) (mv : Bool), cs.drop i = rest → So ns cs hs so → Steps cs hs st so → match passGo rest i so st mv with
    | .error st' => Dead cs hs ∧ RightTo cs hs (none, st')
    | .ok (so', st', mv') => So ns cs hs so' ∧ Steps cs hs st' so' ∧ (mv' = false → mv = false ∧ so' = so ∧ st' = st ∧ ∀ c ∈ rest, leftOf so c ≠ [] ∧ ∀ l, leftOf so c = [l] → l ∈ so)
  | [], i, so, st, mv, _, S, T => ⟨S, T, fun h => ⟨h, rfl, rfl, fun c hc => by cases hc⟩⟩
  | c :: rest, i, so, st, mv, hd, S, T => by
    have hil : i < cs.length := by
      by_cases h : i < cs.length
      · exact h
      · rw [List.drop_of_length_le (by omega)] at hd; cases hd
    have hgd : cs.getD i [] = c := by
      rw [List.drop_eq_getElem_cons hil] at hd
      rw [List.getD_eq_getElem?_getD, List.getElem?_eq_getElem hil]
      exact (List.cons.inj hd).1
    have hdr : cs.drop (i + 1) = rest := by
      rw [List.drop_eq_getElem_cons hil] at hd
      exact (List.cons.inj hd).2
    have hc : c ∈ cs := by rw [← hgd, List.getD_eq_getElem?_getD, List.getElem?_eq_getElem hil]; exact List.getElem_mem _
    rw [passGo]
    have other : (leftOf so c ≠ [] ∧ ∀ l, leftOf so c = [l] → l ∈ so) → match passGo rest (i + 1) so st mv with
        | .error st' => Dead cs hs ∧ RightTo cs hs (none, st')
        | .ok (so', st', mv') => So ns cs hs so' ∧ Steps cs hs st' so' ∧ (mv' = false → mv = false ∧ so' = so ∧ st' = st ∧ ∀ d ∈ c :: rest, leftOf so d ≠ [] ∧ ∀ l, leftOf so d = [l] → l ∈ so) := by
      intro hcl
      have ih := pass_ok X rest (i + 1) so st mv hdr S T
      revert ih
      cases passGo rest (i + 1) so st mv with
      | error st' => exact fun h => h
      | ok x =>
        obtain ⟨so', st', mv'⟩ := x
        rintro ⟨h1, h2, h3⟩
        refine ⟨h1, h2, fun h => ?_⟩
        obtain ⟨h4, h5, h6, h7⟩ := h3 h
        refine ⟨h4, h5, h6, fun d hd => ?_⟩
        rcases List.mem_cons.mp hd with rfl | hd
        · exact hcl
        · exact h7 d hd
    match ho : openOnes so c with
    | none =>
      refine other ?_
      obtain ⟨l, hl, hls⟩ := open_none ho
      have hm : l ∈ leftOf so c := mem_left.mpr ⟨hl, S.con l hls⟩
      refine ⟨(fun e => by rw [e] at hm; cases hm), fun m e => ?_⟩
      rw [e, List.mem_singleton] at hm
      rw [← hm]; exact hls
    | some [] => exact ⟨left_none S.snd hc (open_left ho).1, st, i, so, rfl, T, hil, by rw [hgd]; exact ho⟩
    | some [l] =>
      have hl := (open_left ho).1
      obtain ⟨h1, h2⟩ := open_one ho
      have ih := pass_ok X rest (i + 1) (so ++ [l]) (st ++ [(i, some l)]) true hdr (S.put X hc hl h2) (T.snoc hil (by rw [hgd]; exact ho))
      simp only
      revert ih
      cases passGo rest (i + 1) (so ++ [l]) (st ++ [(i, some l)]) true with
      | error st' => exact fun h => h
      | ok x =>
        obtain ⟨so', st', mv'⟩ := x
        rintro ⟨h1, h2, h3⟩
        exact ⟨h1, h2, fun h => by have := (h3 h).1; cases this⟩
    | some (a :: b :: r) =>
      refine other ?_
      have hl := (open_left ho).1
      rw [hl]
      exact ⟨by simp, fun l e => by simp at e⟩
theorem chase_ok (X : Ctx ns cs hs) {st : List Stp} {r : Res} (h : Chase cs so st r) (S : So ns cs hs so) (T : Steps cs hs st so) : EndsOk ns cs hs r.1 ∧ RightTo cs hs r := by
  induction h with
  | @dead so st st' e =>
    have := pass_ok X cs 0 so st false rfl S T
    rw [e] at this
    exact this
  | @done so st so' st' e =>
    have := pass_ok X cs 0 so st false rfl S T
    rw [e] at this
    obtain ⟨h1, h2, h3⟩ := this
    obtain ⟨_, e1, e2, h4⟩ := h3 rfl
    exact ⟨by rw [e1]; exact ends_some X S h4, h2⟩
  | @more so st so' st' r e _ ih =>
    have := pass_ok X cs 0 so st false rfl S T
    rw [e] at this
    exact ih this.1 this.2.1
end My

set_option Elab.async false
set_option linter.all false
set_option maxRecDepth 100000
set_option maxHeartbeats 4000000
namespace My
open PySem PySem.Spec PyProof.Rows L2 L3
/-! the plain functions -/
def fullP (acc : List (List Str)) (n : Str) : List (List Str) := acc.flatMap fun s => [n, ("-" : Str) ++ n].map fun l => s ++ [l]
def fulls (ns : List Str) : List (List Str) := ns.foldl fullP [[]]
def liesIn (p c : List Str) : Bool := p.all fun l => decide (l ∈ c)
def meets (c s : List Str) : Bool := c.any fun l => decide (l ∈ s)
def isCons (c : List Str) (ss : List (List Str)) : Bool := ss.all fun s => meets c s
def stepH (ns : List Str) (p : List Str × Nat) : List (List Str × Nat) := (List.range' p.2 (ns.length - p.2)).flatMap fun a => [ns.getD a "", ("-" : Str) ++ ns.getD a ""].map fun l => (p.1 ++ [l], a + 1)
def nextH (ns : List Str) (lv : List (List Str × Nat)) : List (List Str × Nat) := lv.flatMap (stepH ns)
def halfGo (ns : List Str) : Nat → List (List Str × Nat) → List (List Str) → List (List Str)
  | 0, _, found => found
  | m + 1, lv, found => halfGo ns m (nextH ns lv) (found ++ (nextH ns lv).map (·.1))
def halves (ns : List Str) : List (List Str) := halfGo ns ns.length [([], 0)] [[]]
def shortP (ss : List (List Str)) (found : List (List Str)) (c : List Str) : List (List Str) := if (!found.any fun o => liesIn o c) && isCons c ss then found ++ [c] else found
def shortestL (ns : List Str) (ss : List (List Str)) : List (List Str) := (halves ns).foldl (shortP ss) []
section
variable {K : PySem.W.Frag} {σ : Sl} {M : Hp} {te ta tb : TE} {α : Type} {R : Rl α}
theorem _root_.L3.GvL.li [Mon R] {xs : List α} (h : GvL te σ M fun M ws => Pd R M xs ws) : Gv te σ M (LiR R xs) := h.gv fun M vs p r m => ⟨p, vs, rfl, upd_same, r.mono (same_new m)⟩
theorem _root_.L3.GvK.gv {ks : List Str} (h : GvK te σ M ks) : Gv te σ M (DcR ks) := fun H mh Q q => h H mh Q fun p M' H' g h0 m0 hw => q _ _ H' (g.freeze h0 m0 hw) ⟨p, rfl, .inl upd_same⟩
theorem gl_one [Mon R] {x : α} (h : Gv te σ M (R x)) : GvL (tLst (tCons te tNil)) σ M fun M ws => Pd R M [x] ws := fun H mh Q q =>
  h H mh _ fun v M1 H1 g1 p1 => ⟨by show 1 ≤ sizeLine; decide, fun p np => q p [v] M1 _ (g1.trans (.own g1.mh np)) (g1.hh.free np) (g1.mh.free np) upd_same (.cons p1 .nil)⟩
theorem gv_tup1 {x : Str} (h : Gv te σ M (Tx x)) : Gv (tTup (tCons te tNil)) σ M (TT [x]) := fun H mh Q q =>
  h H mh _ fun v M1 H1 g1 p1 => ⟨by show 1 ≤ sizeLine; decide, fun p np => q _ _ _ (g1.trans (.new g1.mh np)) (by cases (show v = _ from p1); exact TT.new [x])⟩
theorem szK {n : Nat} (h : n ≤ 1000000) : n ≤ sizeLine := szM (Nat.le_trans h (by decide))
theorem flat2_len {α β : Type} (xs : List α) (f : α → β) (g : α → β) : (xs.flatMap fun x => [f x, g x]).length = 2 * xs.length := by
  induction xs with
  | nil => rfl
  | cons x xs ih => rw [List.flatMap_cons, List.length_append, ih]; simp only [List.length_cons, List.length_nil]; omega
theorem py_LTT {K : PySem.W.Frag} : PyR K (LiR TT) fun xs => .list (xs.map fun c => .tuple (c.map .str)) := fun xs M v h => py_lst py_TT _ _ _ h.lst
theorem gv_nilL {R : Rl α} : Gv (tLst tNil) σ M (LiR R []) := gl_nil.gv fun M vs p h m => by subst h; exact ⟨p, [], rfl, upd_same, .nil⟩
end
end My

set_option Elab.async false
set_option linter.all false
set_option maxRecDepth 100000
set_option maxHeartbeats 4000000
namespace My
open PySem PySem.Spec PyProof.Rows L2 L3
theorem depthT : ∀ xs : List (List Str), PyData.depthAll (xs.map fun c => .tuple (c.map .str)) ≤ 1
  | [] => by simp [PyData.depthAll]
  | c :: r => by
    have := depthT r
    simp only [List.map_cons, PyData.depthAll, PyData.depth, depthS]
    omega
section
variable {P : Program} {w : World} {K : PySem.W.Frag} {mg : Str → Option Value} {base : Heap}
theorem fulls_len (ns : List Str) : (fulls ns).length = 2 ^ ns.length := by
  have go : ∀ (ns : List Str) (acc : List (List Str)), (ns.foldl fullP acc).length = acc.length * 2 ^ ns.length := by
    intro ns
    induction ns with
    | nil => intro acc; simp
    | cons n ns ih =>
      intro acc
      rw [List.foldl_cons, ih, List.length_cons, Nat.pow_succ]
      have : (fullP acc n).length = acc.length * 2 := by
        unfold fullP
        induction acc with
        | nil => rfl
        | cons a acc ih => rw [List.flatMap_cons, List.length_append, ih, List.length_cons]; simp; omega
      rw [this, Nat.mul_assoc, Nat.mul_comm 2]
  have := go ns [[]]
  simpa [fulls] using this
theorem fulls_each : ∀ (ns : List Str), ∀ s ∈ fulls ns, s.length = ns.length := by
  have go : ∀ (ns : List Str) (acc : List (List Str)) (k : Nat), (∀ s ∈ acc, s.length = k) → ∀ s ∈ ns.foldl fullP acc, s.length = k + ns.length := by
    intro ns
    induction ns with
    | nil => intro acc k h s hs; exact h s hs
    | cons n ns ih =>
      intro acc k h s hs
      rw [List.foldl_cons] at hs
      have := ih (fullP acc n) (k + 1) (fun z hz => by
        obtain ⟨y, hy, hz⟩ := List.mem_flatMap.mp hz
        obtain ⟨l, _, rfl⟩ := List.mem_map.mp hz
        rw [List.length_append, h y hy]; rfl) s hs
      rw [this, List.length_cons]; omega
  intro ns s hs
  have := go ns [[]] 0 (by simp) s hs
  omega
end
end My

set_option Elab.async false
set_option linter.all false
set_option maxRecDepth 100000
set_option maxHeartbeats 8000000
namespace My
open PySem PySem.Spec PyProof.Rows L2 L3
abbrev NtR : Rl Nat := fun i => It' (i : Nat)
instance : Mon NtR := ⟨fun _ h => h⟩
/-- the state between two levels; m levels are still to come -/
structure HvI (ns : List Str) (lv : List (List Str × Nat)) (found : List (List Str)) (m : Nat) : Prop where
  lo : ∀ p ∈ lv, ns.length ≤ p.2 + m
  up : ∀ p ∈ lv, p.2 ≤ ns.length ∧ p.1.length ≤ p.2
  go : halfGo ns m lv found = halves ns
  sz : lv.length * 12 ^ m ≤ 2985984
  fz : 11 * found.length * 12 ^ m ≤ 35831808
theorem mem_stepH {ns : List Str} {p q : List Str × Nat} (h : q ∈ stepH ns p) : ∃ a l, p.2 ≤ a ∧ a < ns.length ∧ (l = ns.getD a "" ∨ l = ("-" : Str) ++ ns.getD a "") ∧ q = (p.1 ++ [l], a + 1) := by
  obtain ⟨a, ha, hq⟩ := List.mem_flatMap.mp h
  obtain ⟨l, hl, rfl⟩ := List.mem_map.mp hq
  have := List.mem_range'_1.mp ha
  exact ⟨a, l, this.1, by omega, by simpa using hl, rfl⟩
theorem flat_le {α β : Type} {f : α → List β} {c : Nat} : ∀ {xs : List α}, (∀ x ∈ xs, (f x).length ≤ c) → (xs.flatMap f).length ≤ c * xs.length
  | [], _ => Nat.zero_le _
  | x :: xs, h => by
    have h1 := h x (List.mem_cons_self ..)
    have h2 := flat_le (xs := xs) fun z hz => h z (List.mem_cons_of_mem _ hz)
    rw [List.flatMap_cons, List.length_append, List.length_cons, Nat.mul_succ]
    omega
theorem stepH_len (ns : List Str) (p : List Str × Nat) : (stepH ns p).length = 2 * (ns.length - p.2) := by
  unfold stepH
  have := flat2_len (List.range' p.2 (ns.length - p.2)) (fun a => (p.1 ++ [ns.getD a ""], a + 1)) (fun a => (p.1 ++ [("-" : Str) ++ ns.getD a ""], a + 1))
  rw [List.length_range'] at this
  exact this
theorem nextH_len {ns : List Str} {lv : List (List Str × Nat)} (n6 : ns.length ≤ 6) : (nextH ns lv).length ≤ 12 * lv.length := flat_le fun p _ => by rw [stepH_len]; omega
theorem HvI.init {ns : List Str} (n6 : ns.length ≤ 6) : HvI ns [([], 0)] [[]] ns.length := by
  have h : 12 ^ ns.length ≤ 12 ^ 6 := Nat.pow_le_pow_right (by decide) n6
  refine ⟨fun p hp => ?_, fun p hp => ?_, rfl, ?_, ?_⟩
  · rw [List.mem_singleton.mp hp]; exact Nat.le_of_eq (Nat.zero_add _).symm
  · rw [List.mem_singleton.mp hp]; exact ⟨Nat.zero_le _, Nat.le_refl _⟩
  · simp only [List.length_singleton]; omega
  · simp only [List.length_singleton]; omega
theorem HvI.step1 {ns : List Str} {lv : List (List Str × Nat)} {found : List (List Str)} {m : Nat} (n6 : ns.length ≤ 6) (h : HvI ns lv found (m + 1)) : HvI ns (nextH ns lv) (found ++ (nextH ns lv).map (·.1)) m := by
  have up : ∀ p ∈ nextH ns lv, p.2 ≤ ns.length ∧ p.1.length ≤ p.2 := fun p hp => by
    obtain ⟨r, hr, hp⟩ := List.mem_flatMap.mp hp
    obtain ⟨a, l, h1, h2, _, rfl⟩ := mem_stepH hp
    have := (h.up r hr).2
    refine ⟨h2, ?_⟩
    show (r.1 ++ [l]).length ≤ a + 1
    rw [List.length_append]
    show r.1.length + 1 ≤ a + 1
    omega
  have l1 := nextH_len (lv := lv) n6
  have s1 := h.sz
  have f1 := h.fz
  rw [Nat.pow_succ] at s1 f1
  have s2 : (nextH ns lv).length * 12 ^ m ≤ 2985984 := by
    refine Nat.le_trans (Nat.mul_le_mul_right _ l1) ?_
    rw [Nat.mul_comm 12, Nat.mul_assoc, Nat.mul_comm 12]
    exact s1
  refine ⟨fun p hp => ?_, up, h.go, s2, ?_⟩
  · obtain ⟨r, hr, hp⟩ := List.mem_flatMap.mp hp
    obtain ⟨a, l, h1, h2, _, rfl⟩ := mem_stepH hp
    have := h.lo r hr
    show ns.length ≤ a + 1 + m
    omega
  · rw [List.length_append, List.length_map, Nat.mul_add, Nat.add_mul]
    have f2 : 11 * found.length * 12 ^ m * 12 ≤ 35831808 := by rw [Nat.mul_assoc]; exact f1
    have f3 : 11 * (nextH ns lv).length * 12 ^ m ≤ 11 * 2985984 := by rw [Nat.mul_assoc]; exact Nat.mul_le_mul_left _ s2
    omega
theorem HvI.step {ns : List Str} {lv : List (List Str × Nat)} {found : List (List Str)} {m : Nat} (n6 : ns.length ≤ 6) (h : HvI ns lv found m) :
    ∃ m', (m' < m ∨ nextH ns lv = []) ∧ HvI ns (nextH ns lv) (found ++ (nextH ns lv).map (·.1)) m' := by
  cases m with
  | zero =>
    have e : nextH ns lv = [] := List.flatMap_eq_nil_iff.mpr fun p hp => by
      have := h.lo p hp
      apply List.eq_nil_of_length_eq_zero
      rw [stepH_len]
      omega
    refine ⟨0, .inr e, ?_⟩
    rw [e]
    refine ⟨fun p hp => (List.not_mem_nil hp).elim, fun p hp => (List.not_mem_nil hp).elim, ?_, by simp, ?_⟩
    · rw [List.map_nil, List.append_nil]; exact h.go
    · rw [List.map_nil, List.append_nil]; exact h.fz
  | succ m => exact ⟨m, .inl (Nat.lt_succ_self m), h.step1 n6⟩
theorem HvI.end_ {ns : List Str} {found : List (List Str)} {m : Nat} (h : HvI ns [] found m) : found = halves ns := by
  have go : ∀ m found, halfGo ns m [] found = found := by
    intro m
    induction m with
    | zero => intro f; rfl
    | succ m ih => intro f; rw [halfGo]; show halfGo ns m [] (f ++ []) = f; rw [List.append_nil, ih]
  rw [← h.go, go]
section
end
end My

set_option Elab.async false
set_option linter.all false
set_option maxRecDepth 100000
set_option maxHeartbeats 8000000
namespace My
open PySem PySem.Spec PyProof.Rows L2 L3
/-- a rule: names, allowed settings -/
structure RuleD where
  names : List Str
  allowed : List (List Str)
def RuleD.settings (r : RuleD) : List (List Str) := (fulls r.names).filter fun s => decide (s ∈ r.allowed)
def mkRule (ns : List Str) (ss : List (List Str)) : RuleD := ⟨ns, once (ss.map fun s => asc s ns)⟩
def ruleF (vn va : V) : List (Str × V) := putF "allowed" va (putF "names" vn [])
def RuleR (C : Addr) : Rl RuleD := fun r M v => ∃ a dx vn va, v = .ref a ∧ M a = some (.ins C dx (ruleF vn va)) ∧ TT r.names M vn ∧ DtR r.allowed M va
instance {C : Addr} : Mon (RuleR C) := ⟨fun e ⟨a, dx, vn, va, h1, h2, h3, h4⟩ => ⟨a, dx, vn, va, h1, e _ _ h2, Mon.mono e h3, Mon.mono e h4⟩⟩
structure RuleT (K : PySem.W.Frag) (mg : Str → Option Value) (C : Addr) : Prop where
  cl : Cls K C
  nN : NoAttr K C "names"
  nA : NoAttr K C "allowed"
section
end
section
variable {P : Program} {w : World} {K : PySem.W.Frag} {mg : Str → Option Value} {base : Heap}
structure RuleOk (ns : List Str) (ss : List (List Str)) : Prop where
  s : NamesOk ns []
  k : ns.length ≤ 6
  n : ss.length ≤ 1000000
  c : ∀ c ∈ ss, ClOk ns c ∧ c.length = ns.length
structure RuleW (r : RuleD) : Prop where
  k : r.names.length ≤ 6
  s : Shorts r.names
theorem shortP_len (ss found : List (List Str)) (c : List Str) : (shortP ss found c).length ≤ found.length + 1 := by
  unfold shortP
  split
  · simp
  · omega
theorem short_len (ss xs : List (List Str)) : (xs.foldl (shortP ss) []).length ≤ xs.length := by
  have go : ∀ (xs acc : List (List Str)), (xs.foldl (shortP ss) acc).length ≤ acc.length + xs.length := by
    intro xs
    induction xs with
    | nil => intro acc; exact Nat.le_refl _
    | cons x xs ih =>
      intro acc
      have h1 := ih (shortP ss acc x)
      have h2 := shortP_len ss acc x
      rw [List.foldl_cons, List.length_cons]
      omega
  simpa using go xs []
theorem short_sub (ss xs : List (List Str)) : ∀ c ∈ xs.foldl (shortP ss) [], c ∈ xs := by
  have go : ∀ (xs acc : List (List Str)), ∀ c ∈ xs.foldl (shortP ss) acc, c ∈ acc ∨ c ∈ xs := by
    intro xs
    induction xs with
    | nil => intro acc c h; exact .inl h
    | cons x xs ih =>
      intro acc c h
      rw [List.foldl_cons] at h
      rcases ih _ c h with h | h
      · unfold shortP at h
        split at h
        · rcases List.mem_append.mp h with h | h
          · exact .inl h
          · rw [List.mem_singleton.mp h]; exact .inr (List.mem_cons_self ..)
        · exact .inl h
      · exact .inr (List.mem_cons_of_mem _ h)
  intro c h
  rcases go xs [] c h with h | h
  · cases h
  · exact h
theorem halves_each {ns : List Str} (n6 : ns.length ≤ 6) : ∀ c ∈ halves ns, c.length ≤ 6 := by
  have go : ∀ (m : Nat) (lv : List (List Str × Nat)) (found : List (List Str)), HvI ns lv found m → (∀ c ∈ found, c.length ≤ 6) → ∀ c ∈ halves ns, c.length ≤ 6 := by
    intro m
    induction m using Nat.strongRecOn with
    | ind m ih =>
      intro lv found h hf
      obtain ⟨m', h1, h2⟩ := h.step n6
      have hf' : ∀ c ∈ found ++ (nextH ns lv).map (·.1), c.length ≤ 6 := fun c hc => by
        rcases List.mem_append.mp hc with hc | hc
        · exact hf c hc
        · obtain ⟨p, hp, rfl⟩ := List.mem_map.mp hc
          have := h2.up p hp
          omega
      rcases h1 with h1 | h1
      · exact ih m' h1 _ _ h2 hf'
      · rw [h1] at h2 hf'
        rw [← h2.end_]
        exact hf'
  exact go _ _ _ (HvI.init n6) (by simp)
end
end My

set_option Elab.async false
set_option linter.all false
set_option maxRecDepth 100000
set_option maxHeartbeats 8000000
namespace My
open PySem PySem.Spec PyProof.Rows L2 L3
theorem getD_at {ns : List Str} {a : Nat} (h : a < ns.length) : ns[a]? = some (ns.getD a "") := by rw [List.getD_eq_getElem?_getD, List.getElem?_eq_getElem h]; rfl
section
variable {P : Program} {w : World} {K : PySem.W.Frag} {mg : Str → Option Value} {base : Heap}
abbrev s__law_bare : Stmt := topS 37
theorem sc__law_bare : FnScope ["_law_one"] ["_law_one"] (defScope s__law_bare) := ⟨rfl, rfl, rfl, by decide +kernel, rfl, by decide +kernel, by decide +kernel⟩
def sp__law_bare (K : PySem.W.Frag) : Sp := sp1 Tx (fun x => x.length ≤ 1000) fun x => Tx (nameOf x)
theorem ok__law_bare {f : Addr} {fd : FuncData} (F : Fun K "_law_bare" "_law_bare" s__law_bare f fd) : FnOk P w K mg base CX0 1 f fd ["_law_one"] (sp__law_bare K) := by
  refine F.ok sc__law_bare (fun vs H Q E h => ?_) (fun cdv A outer s H vs Q E hr h => ?_)
  · obtain ⟨x, M, v, rfl, _⟩ := h
    rfl
  · obtain ⟨x, M, v, rfl, mh, r1, hp, q⟩ := h
    have hu := hr.units
    refine ⟨_, (pss_one (ps_ret (pe_ifExp (pt_cmpR (op_eqP hu) (pe_slice sl_X (pv 0) po_none (po_some pe_int)) pe_str (nomark _)) (pe_slice sl_X (pv 0) (po_some pe_int) po_none) (pv 0)))), ?_⟩
    have hv : Gv (tVar 0) (start ["_law_one"] [v]) M (Tx x) := gv_var rfl r1
    refine s_ret mh (gv_if (gt_test (gv_eqT py_str inj_str (gv_cutS hv (sz1000 hp) (fun _ _ h => h) (fun _ _ h => ⟨1, rfl, h⟩)) (gv_c rfl) (by simp [PyData.depth]))) (fun hb => gv_is (gv_cutS hv (sz1000 hp) (fun _ _ h => ⟨1, rfl, h⟩) fun _ _ h => h) fun M' v h => ?_) fun hb => gv_is hv fun M' v h => ?_) q
    · show Tx (nameOf x) M' v
      rw [show nameOf x = _ from if_pos (by simpa using hb)]; exact h
    · show Tx (nameOf x) M' v
      rw [show nameOf x = _ from if_neg (by simpa using hb)]; exact h
end
end My

set_option Elab.async false
set_option linter.all false
set_option maxRecDepth 100000
set_option maxHeartbeats 8000000
namespace My
open PySem PySem.Spec PyProof.Rows L2 L3
section
variable {K : PySem.W.Frag} {σ : Sl} {M : Hp} {ta tb : TE}
theorem s_par2 {H : Hp} {D : Ends} {ta : TA} {i j : Nat} (h : ta σ H fun vs H1 => ∃ u v, vs = [u, v] ∧ D.nx ((σ.set i (some u)).set j (some v)) H1) : tPar i j ta D σ H := h
end
section
end
end My

set_option Elab.async false
set_option linter.all false
set_option maxRecDepth 100000
set_option maxHeartbeats 8000000
namespace My
open PySem PySem.Spec PyProof.Rows L2 L3
open L3.Strm
/-- a value as it is -/
abbrev VR : Rl V := fun x _ v => v = x
instance : Mon VR := ⟨fun _ h => h⟩
section
end
section
end
end My

set_option Elab.async false
set_option linter.all false
set_option maxRecDepth 100000
set_option maxHeartbeats 8000000
namespace My
open PySem PySem.Spec PyProof.Rows L2 L3
open L3.Strm
section
end
end My

set_option Elab.async false
set_option linter.all false
set_option maxRecDepth 100000
set_option maxHeartbeats 4000000
namespace My
open PySem PySem.Spec PyProof.Rows L2 L3
/-! full settings -/
def Side (n l : Str) : Prop := l = n ∨ l = ("-" : Str) ++ n
theorem fulls_paired {ns s : List Str} (h : s ∈ fulls ns) : Paired Side ns s := by
  have go : ∀ (ns : List Str) (acc : List (List Str)) (done : List Str), (∀ s ∈ acc, Paired Side done s) → ∀ s ∈ ns.foldl fullP acc, Paired Side (done ++ ns) s := by
    intro ns
    induction ns with
    | nil => intro acc done h s hs; rw [List.append_nil]; exact h s hs
    | cons n ns ih =>
      intro acc done h s hs
      rw [List.foldl_cons] at hs
      have := ih (fullP acc n) (done ++ [n]) (fun z hz => by
        obtain ⟨y, hy, hz⟩ := List.mem_flatMap.mp hz
        obtain ⟨l, hl, rfl⟩ := List.mem_map.mp hz
        exact pd_app (h y hy) (.cons (by show l = _ ∨ l = _; simpa using hl) .nil)) s hs
      rwa [List.append_assoc] at this
  exact go ns [[]] [] (fun s hs => by rw [List.mem_singleton.mp hs]; exact .nil) s h
theorem fulls_nodup {ns : List Str} (hn : ∀ n ∈ ns, isNm n = true) : (fulls ns).Nodup := by
  have go : ∀ (ns : List Str) (acc : List (List Str)), (∀ n ∈ ns, isNm n = true) → acc.Nodup → (ns.foldl fullP acc).Nodup := by
    intro ns
    induction ns with
    | nil => intro acc _ h; exact h
    | cons n ns ih =>
      intro acc hn h
      rw [List.foldl_cons]
      refine ih _ (fun m hm => hn m (List.mem_cons_of_mem _ hm)) ?_
      have hne := neg_ne (m := n) (hn n (List.mem_cons_self ..))
      unfold fullP
      induction acc with
      | nil => exact List.nodup_nil
      | cons a acc ih2 =>
        obtain ⟨h1, h2⟩ := List.nodup_cons.mp h
        rw [List.flatMap_cons, List.nodup_append]
        refine ⟨by simp [hne], ih2 h2, fun x hx y hy e => ?_⟩
        subst e
        obtain ⟨b, hb, hy⟩ := List.mem_flatMap.mp hy
        obtain ⟨l, _, e1⟩ := List.mem_map.mp hx
        obtain ⟨l', _, e2⟩ := List.mem_map.mp hy
        have := List.append_inj_left' (e1.trans e2.symm) rfl
        rw [this] at h1
        exact h1 hb
  exact go ns [[]] hn (by simp)
/-- what a setting says of each name -/
theorem side_name {n l : Str} (hn : isNm n = true) (h : Side n l) : nameOf l = n := by
  rcases h with e | e
  · rw [e, nameOf_nm hn]
  · rw [e, nameOf_neg hn]
theorem paired_side {ns s : List Str} (hn : ∀ n ∈ ns, isNm n = true) (h : Paired Side ns s) : s.map nameOf = ns := by
  induction h with
  | nil => rfl
  | cons r t ih =>
    rw [List.map_cons, side_name (hn _ (List.mem_cons_self ..)) r, ih fun m hm => hn m (List.mem_cons_of_mem _ hm)]
theorem side_lits {ns s : List Str} (nm : NmL ns) (h : Paired Side ns s) : Lits ns s := by
  refine ⟨by rw [paired_side nm.nm h]; exact nm.nd, ?_⟩
  have : ∀ {ms s : List Str}, Paired Side ms s → ∀ y ∈ s, ∃ n ∈ ms, y = n ∨ y = ("-" : Str) ++ n := by
    intro ms s h
    induction h with
    | nil => intro y hy; cases hy
    | cons r t ih =>
      intro y hy
      rcases List.mem_cons.mp hy with rfl | hy
      · exact ⟨_, List.mem_cons_self .., r⟩
      · obtain ⟨n, h1, h2⟩ := ih y hy
        exact ⟨n, List.mem_cons_of_mem _ h1, h2⟩
  exact this h
theorem lits_one {ns s : List Str} (nm : NmL ns) (h : Lits ns s) {n : Str} (hn : n ∈ ns) : ¬ (n ∈ s ∧ ("-" : Str) ++ n ∈ s) := fun ⟨a, b⟩ => by
  have hm := nm.nm n hn
  exact neg_ne hm (nodup_inj h.nd _ a _ b (by rw [nameOf_nm hm, nameOf_neg hm]))
/-- literals in their order stay -/
theorem asc_paired {ns s : List Str} (nm : NmL ns) (h : Paired Side ns s) : asc s ns = s := by
  have L := side_lits nm h
  have go : ∀ {ms t : List Str}, Paired Side ms t → (∀ m ∈ ms, m ∈ ns) → (∀ x ∈ t, x ∈ s) → asc s ms = t := by
    intro ms t h
    induction h with
    | nil => intro _ _; rfl
    | @cons m l ms t r _ ih =>
      intro hm ht
      have ih := ih (fun z hz => hm z (List.mem_cons_of_mem _ hz)) fun z hz => ht z (List.mem_cons_of_mem _ hz)
      have hl := ht l (List.mem_cons_self ..)
      have one := lits_one nm L (hm m (List.mem_cons_self ..))
      show ((m :: ms).flatMap fun n => [n, ("-" : Str) ++ n].filter fun l => decide (l ∈ s)) = _
      rw [List.flatMap_cons]
      have e : ([m, ("-" : Str) ++ m].filter fun l => decide (l ∈ s)) = [l] := by
        rcases r with e | e
        · subst e
          have : ¬ ("-" : Str) ++ l ∈ s := fun b => one ⟨hl, b⟩
          simp [hl, this]
        · subst e
          have : ¬ m ∈ s := fun b => one ⟨b, hl⟩
          simp [hl, this]
      rw [e]
      exact congrArg (l :: ·) ih
  exact go h (fun _ h => h) fun _ h => h
theorem sub_filter {α : Type} [DecidableEq α] : ∀ {xs ys : List α}, ys.Sublist xs → xs.Nodup → (xs.filter fun x => decide (x ∈ ys)) = ys
  | _, _, .slnil, _ => rfl
  | _, ys, .cons a (l₂ := xs) h, nd => by
    obtain ⟨h1, h2⟩ := List.nodup_cons.mp nd
    have : a ∉ ys := fun z => h1 (h.subset z)
    rw [List.filter_cons, if_neg (by simpa using this)]
    exact sub_filter h h2
  | _, _, .cons₂ a (l₁ := ys) (l₂ := xs) h, nd => by
    obtain ⟨h1, h2⟩ := List.nodup_cons.mp nd
    rw [List.filter_cons, if_pos (by simp)]
    congr 1
    rw [← sub_filter h h2]
    refine List.filter_congr fun x hx => ?_
    have : x ≠ a := fun e => h1 (e ▸ hx)
    have e2 := sub_filter h h2
    simp [this, e2]
/-! half-filled settings -/
structure HalfOk (ns : List Str) (p : List Str × Nat) : Prop where
  le : p.2 ≤ ns.length
  nm : ∀ x ∈ p.1, ∃ a, a < p.2 ∧ Side (ns.getD a "") x
  nd : (p.1.map nameOf).Nodup
theorem half_next {ns : List Str} (nm : NmL ns) {lv : List (List Str × Nat)} (h : ∀ p ∈ lv, HalfOk ns p) : ∀ p ∈ nextH ns lv, HalfOk ns p := fun q hq => by
  obtain ⟨p, hp, hq⟩ := List.mem_flatMap.mp hq
  obtain ⟨a, l, h1, h2, h3, rfl⟩ := mem_stepH hq
  have hok := h p hp
  have han := nm.nm _ (List.mem_of_getElem? (getD_at h2))
  refine ⟨h2, fun x hx => ?_, ?_⟩
  · rcases List.mem_append.mp hx with hx | hx
    · obtain ⟨b, hb, hs⟩ := hok.nm x hx
      exact ⟨b, by show b < a + 1; omega, hs⟩
    · rw [List.mem_singleton.mp hx]
      exact ⟨a, Nat.lt_succ_self a, h3⟩
  · show ((p.1 ++ [l]).map nameOf).Nodup
    rw [List.map_append, List.nodup_append]
    refine ⟨hok.nd, by simp, fun x hx y hy e => ?_⟩
    have hy' : y = nameOf l := by simpa using hy
    rw [hy', side_name han h3] at e
    obtain ⟨z, hz, rfl⟩ := List.mem_map.mp hx
    obtain ⟨b, hb, hs⟩ := hok.nm z hz
    have hbn : b < ns.length := by omega
    rw [side_name (nm.nm _ (List.mem_of_getElem? (getD_at hbn))) hs] at e
    have i1 := List.getElem?_eq_some_iff.mp (getD_at hbn)
    have i2 := List.getElem?_eq_some_iff.mp (getD_at h2)
    have := (List.getElem_inj nm.nd).mp (i1.2.trans (e.trans i2.2.symm))
    omega
theorem HalfOk.lits {ns : List Str} {p : List Str × Nat} (nm : NmL ns) (h : HalfOk ns p) : Lits ns p.1 :=
  ⟨h.nd, fun x hx => let ⟨a, ha, hs⟩ := h.nm x hx; ⟨_, List.mem_of_getElem? (getD_at (show a < ns.length by have := h.le; omega)), hs⟩⟩
theorem halves_lits {ns : List Str} (nm : NmL ns) : ∀ c ∈ halves ns, Lits ns c := by
  have go : ∀ (m : Nat) (lv : List (List Str × Nat)) (found : List (List Str)), (∀ p ∈ lv, HalfOk ns p) → (∀ c ∈ found, Lits ns c) → ∀ c ∈ halfGo ns m lv found, Lits ns c := by
    intro m
    induction m with
    | zero => intro lv found _ hf; exact hf
    | succ m ih =>
      intro lv found hl hf
      have hn := half_next nm hl
      refine ih _ _ hn fun c hc => ?_
      rcases List.mem_append.mp hc with hc | hc
      · exact hf c hc
      · obtain ⟨p, hp, rfl⟩ := List.mem_map.mp hc
        exact (hn p hp).lits nm
  refine go _ _ _ (fun p hp => ?_) fun c hc => ?_
  · rw [List.mem_singleton.mp hp]
    exact ⟨Nat.zero_le _, fun x hx => (List.not_mem_nil hx).elim, List.nodup_nil⟩
  · rw [List.mem_singleton.mp hc]
    exact ⟨List.nodup_nil, fun x hx => (List.not_mem_nil hx).elim⟩
/-! shortest consequences -/
/-! what is forced -/
structure Set_ (ns : List Str) (ss : List (List Str)) (h : List Str) : Prop where
  nm : NmL ns
  s : ∀ s ∈ ss, Paired Side ns s
  h : Lits ns h
end My

set_option Elab.async false
set_option linter.all false
set_option maxRecDepth 100000
set_option maxHeartbeats 8000000
namespace My
open PySem PySem.Spec PyProof.Rows L2 L3
open L3.Strm
/-! sizes -/
def wH (n : Nat) (lv : List (List Str × Nat)) : Nat := (lv.map fun p => 3 ^ (n - p.2)).sum
theorem wH_app (n : Nat) (a b : List (List Str × Nat)) : wH n (a ++ b) = wH n a + wH n b := by unfold wH; rw [List.map_append, List.sum_append]
theorem wH_ge (n : Nat) : ∀ lv : List (List Str × Nat), lv.length ≤ wH n lv
  | [] => Nat.le_refl _
  | p :: r => by
    have h1 : 1 ≤ 3 ^ (n - p.2) := Nat.one_le_pow _ _ (by decide)
    have h2 := wH_ge n r
    unfold wH at h2 ⊢
    rw [List.length_cons, List.map_cons, List.sum_cons]
    omega
theorem wH_step (ns : List Str) (p : List Str × Nat) : wH ns.length (stepH ns p) + 1 = 3 ^ (ns.length - p.2) := by
  have go : ∀ (k s : Nat), s + k = ns.length → wH ns.length ((List.range' s k).flatMap fun a => [ns.getD a "", ("-" : Str) ++ ns.getD a ""].map fun l => (p.1 ++ [l], a + 1)) + 1 = 3 ^ k := by
    intro k
    induction k with
    | zero => intro s _; rfl
    | succ k ih =>
      intro s e
      rw [List.range'_succ, List.flatMap_cons, wH_app]
      have h1 := ih (s + 1) (by omega)
      have h2 : wH ns.length ([ns.getD s "", ("-" : Str) ++ ns.getD s ""].map fun l => (p.1 ++ [l], s + 1)) = 3 ^ k + 3 ^ k := by
        show 3 ^ (ns.length - (s + 1)) + (3 ^ (ns.length - (s + 1)) + 0) = _
        rw [show ns.length - (s + 1) = k by omega]
        omega
      rw [h2, Nat.pow_succ]
      omega
  by_cases h : p.2 ≤ ns.length
  · exact go (ns.length - p.2) p.2 (by omega)
  · have e : ns.length - p.2 = 0 := by omega
    unfold stepH
    rw [e]
    rfl
theorem wH_next (ns : List Str) : ∀ lv : List (List Str × Nat), wH ns.length (nextH ns lv) + lv.length = wH ns.length lv
  | [] => rfl
  | p :: r => by
    have h1 := wH_step ns p
    have h2 := wH_next ns r
    have e : nextH ns (p :: r) = stepH ns p ++ nextH ns r := rfl
    rw [e, wH_app, List.length_cons]
    have e2 : wH ns.length (p :: r) = 3 ^ (ns.length - p.2) + wH ns.length r := by unfold wH; rw [List.map_cons, List.sum_cons]
    omega
theorem halves_few (ns : List Str) : (halves ns).length ≤ 3 ^ ns.length := by
  have go : ∀ (m : Nat) (lv : List (List Str × Nat)) (found : List (List Str)), found.length + wH ns.length lv = 3 ^ ns.length + lv.length → (halfGo ns m lv found).length ≤ 3 ^ ns.length := by
    intro m
    induction m with
    | zero =>
      intro lv found h
      have := wH_ge ns.length lv
      show found.length ≤ _
      omega
    | succ m ih =>
      intro lv found h
      refine ih _ _ ?_
      have := wH_next ns lv
      rw [List.length_append, List.length_map]
      omega
  refine go _ _ _ ?_
  show 1 + (3 ^ (ns.length - 0) + 0) = _
  rw [Nat.sub_zero]
  show 1 + (3 ^ ns.length + 0) = 3 ^ ns.length + 1
  omega
theorem lit_signs {ns : List Str} (hn : NmL ns) {l : Str} (h : LitN ns l) : l.length ≤ 9 ∧ ∀ c ∈ l.cps.toList, c < 16 ^ 8 := by
  have nm : ∀ n : Str, isNm n = true → n.length ≤ 8 ∧ ∀ c ∈ n.cps.toList, c < 16 ^ 8 := fun n h => by
    refine ⟨nm_len h, fun c hc => ?_⟩
    simp only [isNm, Bool.and_eq_true, decide_eq_true_eq, List.all_eq_true] at h
    have h1 := h.2 c hc
    have : ∀ c ∈ g_LETTERS.cps.toList, c < 16 ^ 8 := by decide +kernel
    exact this c h1
  obtain ⟨n, hnn, h | h⟩ := h
  · subst h
    have := nm l (hn.nm l hnn)
    exact ⟨by omega, this.2⟩
  · subst h
    have := nm n (hn.nm n hnn)
    rw [← SX.S_tl n, neg_S]
    refine ⟨by rw [SX.S_len, List.length_cons]; have : n.cps.toList.length = n.length := rfl; omega, fun c hc => ?_⟩
    have hc : c ∈ 45 :: n.cps.toList := hc
    rcases List.mem_cons.mp hc with rfl | hc
    · decide
    · exact this.2 c hc
def FitD (d : PyData) : Prop := d.showable = true ∧ d.depth ≤ 64 ∧ d.shown.length ≤ sizeLine
theorem strs_small {ns : List Str} (hn : NmL ns) : ∀ ls : List Str, (∀ l ∈ ls, LitN ns l) → PyData.leavesShortAll 13 (ls.map .str) = true ∧ PyData.showableAll (ls.map .str) = true ∧ PyData.weightAll (ls.map .str) ≤ 10 * ls.length
  | [], _ => by simp [PyData.leavesShortAll, PyData.showableAll, PyData.weightAll]
  | l :: ls, h => by
    obtain ⟨h1, h2, h3⟩ := strs_small hn ls fun x hx => h x (List.mem_cons_of_mem _ hx)
    obtain ⟨h4, h5⟩ := lit_signs hn (h l (List.mem_cons_self ..))
    have h4' : l.cps.size ≤ 9 := h4
    rw [List.map_cons]
    refine ⟨?_, ?_, ?_⟩
    · simp only [PyData.leavesShortAll, PyData.leavesShort, h1, Bool.and_true, List.all_eq_true, decide_eq_true_eq]
      exact fun c hc => h5 c hc
    · simp only [PyData.showableAll, PyData.showable, h2, Bool.and_true]
    · simp only [PyData.weightAll, PyData.weight, List.length_cons]
      omega
theorem tups_small {ns : List Str} (hn : NmL ns) : ∀ cs : List (List Str), (∀ c ∈ cs, c.length ≤ 6 ∧ ∀ l ∈ c, LitN ns l) → PyData.leavesShortAll 13 (cs.map fun c => .tuple (c.map .str)) = true ∧ PyData.showableAll (cs.map fun c => .tuple (c.map .str)) = true ∧ PyData.weightAll (cs.map fun c => .tuple (c.map .str)) ≤ 61 * cs.length
  | [], _ => by simp [PyData.leavesShortAll, PyData.showableAll, PyData.weightAll]
  | c :: cs, h => by
    obtain ⟨h1, h2, h3⟩ := tups_small hn cs fun x hx => h x (List.mem_cons_of_mem _ hx)
    have hc := h c (List.mem_cons_self ..)
    obtain ⟨k1, k2, k3⟩ := strs_small hn c hc.2
    rw [List.map_cons]
    refine ⟨?_, ?_, ?_⟩
    · rw [PyData.leavesShortAll, PyData.leavesShort, k1, h1]; rfl
    · rw [PyData.showableAll, PyData.showable, k2, h2]; rfl
    · rw [PyData.weightAll, PyData.weight, List.length_cons]
      omega
theorem fit_tups {ns : List Str} {cs : List (List Str)} (hn : NmL ns) (h : ∀ c ∈ cs, c.length ≤ 6 ∧ ∀ l ∈ c, LitN ns l) (hl : cs.length ≤ 1000) : FitD (.list (cs.map fun c => .tuple (c.map .str))) := by
  obtain ⟨h1, h2, h3⟩ := tups_small hn cs h
  have h4 := depthT cs
  refine ⟨by rw [PyData.showable]; exact h2, by rw [PyData.depth]; omega, PyData.shown_fits (B := 13) (by decide) (by decide) (by rw [PyData.leavesShort]; exact h1) (by rw [PyData.weight]; omega)⟩
theorem gv_repr {K : PySem.W.Frag} {σ : Sl} {M : Hp} {te : TE} {d : PyData} (h : Gv te σ M (Dd K d)) (h1 : d.showable = true) (h2 : d.depth ≤ 64) (h3 : d.shown.length ≤ sizeLine) : Gv (tCB (rRepr K) (tCons te tNil)) σ M (Tx d.shown) := gv_cb1 h fun M' v hv H mh Q q => ⟨v, d, rfl, dp_mono mh hv, h1, h2, h3, q _ M' H (.refl mh) rfl⟩
section
variable {P : Program} {w : World} {K : PySem.W.Frag} {mg : Str → Option Value} {base : Heap}
abbrev s__law_same : Stmt := topS 33
theorem sc__law_same : FnScope ["_law_found", "_law_due_here"] ["_law_found", "_law_due_here"] (defScope s__law_same) := ⟨rfl, rfl, rfl, by decide +kernel, rfl, by decide +kernel, by decide +kernel⟩
def sp__law_same (K : PySem.W.Frag) : Sp := sp2 (Dd K) (Dd K) (fun d e => FitD d ∧ FitD e) fun d e => Bl (decide (d.shown = e.shown))
theorem ok__law_same {f : Addr} {fd : FuncData} (F : Fun K "_law_same" "_law_same" s__law_same f fd) (T : Gc mg) : FnG P w K mg base CX0 1 f fd ["_law_found", "_law_due_here"] (sp__law_same K) := by
  refine fun_okG F sc__law_same (fun vs H Q E h => ?_) (fun cdv A outer s H vs Q E hgu hr h => ?_)
  · obtain ⟨x, y, M, v, w, rfl, _⟩ := h
    rfl
  · obtain ⟨d, e, M, v, w, rfl, mh, r1, r2, ⟨⟨h1, h2, h3⟩, h4, h5, h6⟩, q⟩ := h
    have hu := hr.units
    have hgu : (A.deeper (envOfC "_law_same" (defScope s__law_same) s.heap.objs.size f cdv)).guards = some [] := hgu
    have hu7 : (A.deeper (envOfC "_law_same" (defScope s__law_same) s.heap.objs.size f cdv)).units + 70 < cLine := by have := hr.un; omega
    refine ⟨_, (pss_one (ps_ret (pe_cmpR (op_eqP hu) (pe_callB (call_repr hgu hu7) (by rfl) T.repr boot_repr (pa_cons (pv 0) pa_nil)) (pe_callB (call_repr hgu hu7) (by rfl) T.repr boot_repr (pa_cons (pv 1) pa_nil)) (nomark _)))), ?_⟩
    exact s_ret mh (gv_is (gv_eqT (K := K) (neg := false) py_str inj_str (gv_repr (K := K) (gv_var rfl r1) h1 h2 h3) (gv_repr (K := K) (gv_var rfl r2) h4 h5 h6) (by simp [PyData.depth])) fun M v h => by simpa using h) q
end
end My

set_option Elab.async false
set_option linter.all false
set_option maxRecDepth 100000
set_option maxHeartbeats 4000000
namespace My
open PySem PySem.Spec PyProof.Rows L2 L3
/-! full settings that fit all clauses -/
def Fits (cs : List (List Str)) (s : List Str) : Prop := ∀ c ∈ cs, ∃ l ∈ c, l ∈ s
def Sat (ns : List Str) (cs : List (List Str)) (hs : List Str) : Prop := ∃ s, Paired Side ns s ∧ (∀ x ∈ hs, x ∈ s) ∧ Fits cs s
/-- the names that are open -/
def opn (ns hs : List Str) : List Str := ns.filter fun n => decide (n ∉ hs) && decide (("-" : Str) ++ n ∉ hs)
theorem mem_opn {ns hs : List Str} {n : Str} : n ∈ opn ns hs ↔ n ∈ ns ∧ n ∉ hs ∧ ("-" : Str) ++ n ∉ hs := by unfold opn; rw [List.mem_filter]; simp
section
variable {ns : List Str} {cs : List (List Str)} {hs so s : List Str}
theorem so_lits (nm : NmL ns) (h : So ns cs hs so) : Lits ns so := by
  refine ⟨?_, fun x hx => h.lit x hx⟩
  rw [List.Nodup, List.pairwise_map]
  refine List.Pairwise.imp_of_mem (fun {a b} ha hb hab e => ?_) h.nd
  obtain ⟨n, hn, e1⟩ := h.lit a ha
  obtain ⟨m, hm, e2⟩ := h.lit b hb
  have k1 := nm.nm n hn
  have k2 := nm.nm m hm
  rw [side_name k1 e1, side_name k2 e2] at e
  subst e
  rcases e1 with e1 | e1 <;> rcases e2 with e2 | e2
  · exact hab (e1.trans e2.symm)
  · refine h.con a ha ?_
    rw [e1, opp_nm k1, ← e2]; exact hb
  · refine h.con a ha ?_
    rw [e1, opp_neg k1, ← e2]; exact hb
  · exact hab (e1.trans e2.symm)
theorem lits_put {n l : Str} (nm : NmL ns) (L : Lits ns so) (hn : n ∈ opn ns so) (e : Side n l) : Lits ns (so ++ [l]) := by
  obtain ⟨h1, h2, h3⟩ := mem_opn.mp hn
  have hm := nm.nm n h1
  refine ⟨?_, fun x hx => ?_⟩
  · rw [List.map_append, List.nodup_append]
    refine ⟨L.nd, by simp, fun a ha b hb e' => ?_⟩
    have hb : b = nameOf l := by simpa using hb
    rw [hb, side_name hm e] at e'
    obtain ⟨x, hx, rfl⟩ := List.mem_map.mp ha
    obtain ⟨m, hmm, em⟩ := L.of x hx
    rw [side_name (nm.nm m hmm) em] at e'
    subst e'
    rcases em with em | em
    · exact h2 (em ▸ hx)
    · exact h3 (em ▸ hx)
  · rcases List.mem_append.mp hx with hx | hx
    · exact L.of x hx
    · rw [List.mem_singleton.mp hx]; exact ⟨n, h1, e⟩
theorem so_few (X : Ctx ns cs hs) (h : So ns cs hs so) : so.length ≤ ns.length := lits_len (so_lits X.nm h) X.nm
end
end My

set_option Elab.async false
set_option linter.all false
set_option maxRecDepth 100000
set_option maxHeartbeats 8000000
namespace My
open PySem PySem.Spec PyProof.Rows L2 L3
structure CodeX (c : CodeD) : Prop where
  nm : NmL c.names
  l : ∀ x ∈ c.clauses, Lits c.names x
  w : CodeW c
  n6 : c.names.length ≤ 6
theorem CodeX.sg {c : CodeD} (X : CodeX c) : NmL c.signs ∧ c.signs.length ≤ 6 := by
  have e : c.names.length = c.signs.length + c.helpers.length := List.length_append
  have := X.n6
  have nd := X.nm.nd
  refine ⟨⟨(List.nodup_append.mp nd).1, fun n hn => X.nm.nm n (List.mem_append_left _ hn), ?_⟩, by omega⟩
  have := X.nm.n
  omega
/-- codes that are asked in a level -/
structure CodeZ (c : CodeD) : Prop where
  nm : NmL c.names
  l : ∀ x ∈ c.clauses, Lits c.names x
  w : CodeW c
  s6 : c.signs.length ≤ 6
  n14 : c.names.length ≤ 14
theorem CodeX.z {c : CodeD} (X : CodeX c) : CodeZ c := ⟨X.nm, X.l, X.w, X.sg.2, Nat.le_trans X.n6 (by decide)⟩
theorem CodeZ.sg {c : CodeD} (X : CodeZ c) : NmL c.signs ∧ c.signs.length ≤ 6 := by
  have nd := X.nm.nd
  refine ⟨⟨(List.nodup_append.mp nd).1, fun n hn => X.nm.nm n (List.mem_append_left _ hn), ?_⟩, X.s6⟩
  have := X.s6
  omega
theorem CodeZ.x {c : CodeD} (X : CodeZ c) (h : c.names.length ≤ 6) : CodeX c := ⟨X.nm, X.l, X.w, h⟩
def ChW (cs : List (List Str)) : Prop := (∀ c ∈ cs, shortT c) ∧ cs.flatten.length ≤ 1000000 ∧ cs.length ≤ 1000000
theorem gv_starK {σ : Sl} {M : Hp} {te t1 : TE} {ks : List Str} {l : Str} (h1 : Gv te σ M (DcR ks)) (h2 : Gv t1 σ M (Tx l)) (hz : ks.length ≤ 1000000) : Gv (tLst (tStarK te (tCons t1 tNil))) σ M (LiR Tx (ks ++ [l])) := fun H mh Q q =>
  h1 H mh _ fun v M1 H1 g1 ⟨d, e, r⟩ => ⟨d, ks, e, rd_mono g1.mh r, h2.le g1.mm H1 g1.mh _ fun u M2 H2 g2 e2 => ⟨by rw [List.length_append, List.length_map]; exact szM (by simp only [List.length_cons, List.length_nil]; omega), fun p np => q _ _ _ ((g1.trans g2).trans (.new g2.mh np)) ⟨p, _, rfl, upd_same, by
    cases (show u = _ from e2)
    have := pd_of_tx (M := upd M2 p (.lst (ks.map V.str ++ [.str l]))) (ks ++ [l])
    rw [List.map_append] at this
    exact this⟩⟩⟩
theorem opD_non {o : Option (List Str)} {M : Hp} {v : V} (h : OpR' DcF o M v) : decide (v = .non) = o.isNone := by
  cases o with
  | none => cases (show v = .non from h); rfl
  | some ls => obtain ⟨a, _, e, _⟩ := (show DcF ls M v from h); subst e; rfl
/-- so, steps = chase(clauses, setting) -/
theorem q_chase {K : PySem.W.Frag} {σ : Sl} {M H : Hp} {ta tb : TE} {D : Ends} {tz : TS} {i j : Nat} {ns hs : List Str} {cs : List (List Str)} (mh : Same M H) (h1 : Gv ta σ M (SqR K (SqR K Tx) cs)) (h2 : Gv tb σ M (SqR K Tx hs)) (X : Ctx ns cs hs) (hw : ChW cs)
    (k : ∀ o u v M' H', Gr M H M' H' → EndsOk ns cs hs o → OpR' DcF o M' u → tz D ((σ.set i (some u)).set j (some v)) H') : tSeq (tAsg (tCall (sp_chase K) [] E0 (tCons ta (tCons tb tNil))) (gTup K 2 (gCons (gName i) (gCons (gName j) gNil)))) tz D σ H := by
  have hl : hs.length ≤ 1000000 := Nat.le_trans (lits_len X.h X.nm) (Nat.le_trans X.nm.n (by decide))
  refine q_asgC (a_V mh h1 fun v1 M1 H1 g1 r1 => a_V g1.mh (h2.le g1.mm) fun v2 M2 H2 g2 r2 => a_nil ⟨cs, hs, M2, v1, v2, rfl, g2.mh, Mon.mono g2.mm r1, r2, ⟨hw.1, hw.2.1, hw.2.2, hl⟩, ?_⟩)
  intro r t u p ws M4 H4 hch g4 hp0 hpm hpw hpd hru ht
  have G := (g1.trans g2).trans g4
  rw [once_self (lits_nodup X.h)] at hch
  exact ⟨t, [u, .ref p], rfl, .inl (.inl (G.mh _ _ ht)), rfl, u, _, rfl, .ref p, _, rfl, rfl, k r.1 u _ M4 H4 G (chase_ok X hch (.init X) .nil).1 hru⟩
section
variable {P : Program} {w : World} {K : PySem.W.Frag} {mg : Str → Option Value} {base : Heap}
def FilR (ns : List Str) (cs : List (List Str)) (hs : List Str) : Pr := fun M v => ∃ o, OpR' TT o M v ∧ (o.isSome = true ↔ Sat ns cs hs)
end
end My

set_option Elab.async false
set_option linter.all false
set_option maxRecDepth 100000
set_option maxHeartbeats 8000000
namespace My
open PySem PySem.Spec PyProof.Rows L2 L3
open L3.Strm
section
variable {K : PySem.W.Frag} {S : Strm} {c c' : Nat} {σ : Sl} {M : Hp} {t1 t2 to te : TE} {P : Pr} {C : Addr} {α β : Type} {R1 : Rl α} {R2 : Rl β} {m : Str}
theorem _root_.L3.GvS.up (h : GvS S c te σ M P) (e : c ≤ c') : GvS S c' te σ M P := fun H k mh a Q q => h H k mh (a.le (by omega)) Q q
end
/-- what the law has drawn -/
structure RuleX (ns : List Str) (ss : List (List Str)) : Prop where
  nm : NmL ns
  n6 : ns.length ≤ 6
  sub : ss.Sublist (fulls ns)
theorem RuleX.side {ns : List Str} {ss : List (List Str)} (X : RuleX ns ss) : ∀ s ∈ ss, Paired Side ns s := fun s hs => fulls_paired (X.sub.subset hs)
theorem RuleX.len {ns : List Str} {ss : List (List Str)} (X : RuleX ns ss) : ss.length ≤ 64 := by
  refine Nat.le_trans X.sub.length_le ?_
  rw [fulls_len]
  exact Nat.le_trans (Nat.pow_le_pow_right (by decide) X.n6) (by decide)
theorem RuleX.each {ns : List Str} {ss : List (List Str)} (X : RuleX ns ss) : ∀ s ∈ ss, s.length = ns.length := fun s hs => fulls_each _ s (X.sub.subset hs)
theorem RuleX.made {ns : List Str} {ss : List (List Str)} (X : RuleX ns ss) : mkRule ns ss = ⟨ns, ss⟩ := by
  have e : (ss.map fun s => asc s ns) = ss := by
    conv => rhs; rw [← List.map_id ss]
    exact List.map_congr_left fun s hs => asc_paired X.nm (X.side s hs)
  unfold mkRule
  rw [e, once_self ((fulls_nodup X.nm.nm).sublist X.sub)]
theorem RuleX.set {ns : List Str} {ss : List (List Str)} (X : RuleX ns ss) : (mkRule ns ss).settings = ss := by
  rw [X.made]
  refine Eq.trans (List.filter_congr fun x _ => ?_) (sub_filter X.sub (fulls_nodup X.nm.nm))
  simp
theorem RuleX.ok {ns : List Str} {ss : List (List Str)} (X : RuleX ns ss) : RuleOk ns ss :=
  ⟨⟨X.nm.nd, fun x hx => ⟨X.nm.nm x hx, by simp⟩, Nat.le_trans X.n6 (by decide)⟩, X.n6, Nat.le_trans X.len (by decide), fun s hs => ⟨clOk_lits X.nm (side_lits X.nm (X.side s hs)), X.each s hs⟩⟩
theorem RuleX.w {ns : List Str} {ss : List (List Str)} (X : RuleX ns ss) : RuleW (mkRule ns ss) := ⟨X.n6, nm_shorts X.nm⟩
theorem RuleX.due {ns : List Str} {ss : List (List Str)} (X : RuleX ns ss) : (shortestL ns ss).length ≤ 729 ∧ ∀ c ∈ shortestL ns ss, c.length ≤ 6 ∧ ∀ l ∈ c, LitN ns l := by
  refine ⟨Nat.le_trans (short_len _ _) (Nat.le_trans (halves_few ns) (Nat.le_trans (Nat.pow_le_pow_right (by decide) X.n6) (by decide))), fun c hc => ?_⟩
  have := short_sub _ _ c hc
  exact ⟨halves_each X.n6 c this, (halves_lits X.nm c this).of⟩
theorem RuleX.fit {ns : List Str} {ss : List (List Str)} (X : RuleX ns ss) : FitD (.list ((shortestL ns ss).map fun c => .tuple (c.map .str))) := fit_tups X.nm X.due.2 (Nat.le_trans X.due.1 (by decide))
end My

set_option Elab.async false
set_option linter.all false
set_option maxRecDepth 100000
set_option maxHeartbeats 8000000
namespace My
open PySem PySem.Spec PyProof.Rows L2 L3
def IsLv (l : Str) : Prop := l = "dead" ∨ l = "forced" ∨ l = "all"
def lvNames (c : CodeD) (l : Str) : List Str := if l = ("all" : Str) then c.names else c.signs
theorem CodeX.lv {c : CodeD} (X : CodeX c) (l : Str) : NmL (lvNames c l) ∧ (lvNames c l).length ≤ 6 ∧ ∀ n ∈ lvNames c l, n ∈ c.names := by
  unfold lvNames
  split
  · exact ⟨X.nm, X.n6, fun _ h => h⟩
  · exact ⟨X.sg.1, X.sg.2, fun n h => List.mem_append_left _ h⟩
structure LvX (c : CodeD) (l : Str) : Prop where
  z : CodeZ c
  is : IsLv l
  all : l = ("all" : Str) → c.names.length ≤ 6
theorem LvX.lv {c : CodeD} {l : Str} (X : LvX c l) : NmL (lvNames c l) ∧ (lvNames c l).length ≤ 6 ∧ ∀ n ∈ lvNames c l, n ∈ c.names := by
  unfold lvNames
  split
  · rename_i h
    exact ⟨X.z.nm, X.all h, fun _ h => h⟩
  · exact ⟨X.z.sg.1, X.z.sg.2, fun n h => List.mem_append_left _ h⟩
theorem Lits.wide {ns ms s : List Str} (L : Lits ns s) (h : ∀ n ∈ ns, n ∈ ms) : Lits ms s := ⟨L.nd, fun x hx => let ⟨n, hn, e⟩ := L.of x hx; ⟨n, h n hn, e⟩⟩
theorem CodeX.full {c : CodeD} (X : CodeX c) {l : Str} {s : List Str} (h : s ∈ fulls (lvNames c l)) : Lits c.names s := (side_lits (X.lv l).1 (fulls_paired h)).wide (X.lv l).2.2
theorem insR_code {C : Addr} {m : Str} {c : CodeD} (h1 : ¬ m = ("clause_row" : Str)) (h2 : ¬ m = ("names" : Str)) (h3 : ¬ m = ("helper_row" : Str)) (h4 : ¬ m = ("sign_row" : Str)) : InsR C m (CodeR C c) := fun M v ⟨a, dx, va, vb, vn, vc, e, h, _⟩ => ⟨a, dx, _, e, h, by
  unfold codeF
  rw [lookup_putF, if_neg h1, lookup_putF, if_neg h2, lookup_putF, if_neg h3, lookup_putF, if_neg h4]
  rfl⟩
instance {ns : List Str} {cs : List (List Str)} {hs : List Str} : Mono (FilR ns cs hs) := ⟨fun e ⟨o, r, h⟩ => ⟨o, Mon.mono e r, h⟩⟩
section
end
end My

set_option Elab.async false
set_option linter.all false
set_option maxRecDepth 100000
set_option maxHeartbeats 8000000
namespace My
open PySem PySem.Spec PyProof.Rows L2 L3
def BlR (K : PySem.W.Frag) : Rl (List Str × Option Str) := PrR K TT (OpR' Tx)
instance {K : PySem.W.Frag} : Mon (BlR K) := inferInstanceAs (Mon (PrR K TT (OpR' Tx)))
section
end
section
variable {P : Program} {w : World} {K : PySem.W.Frag} {mg : Str → Option Value} {base : Heap}
structure BlPre (c : CodeD) (ss : List (List Str)) (h : List Str) : Prop where
  X : CodeZ c
  L : Lits c.names h
  n : ss.length ≤ 1000000
  e : ∀ s ∈ ss, s.length ≤ 1000000
end
end My

set_option Elab.async false
set_option linter.all false
set_option maxRecDepth 100000
set_option maxHeartbeats 4000000
namespace My
open PySem PySem.Spec PyProof.Rows L2 L3
/-! what the law takes for allowed -/
/-! the law's codes -/
structure LawX (c : CodeD) : Prop where
  nm : NmL c.names
  n6 : c.names.length ≤ 6
  l : ∀ x ∈ c.clauses, Lits c.names x
  k : c.clauses.length ≤ 1000
theorem LawX.len {c : CodeD} (X : LawX c) : ∀ x ∈ c.clauses, x.length ≤ 6 := fun x hx => Nat.le_trans (lits_len (X.l x hx) X.nm) X.n6
theorem LawX.x {c : CodeD} (X : LawX c) : CodeX c := by
  have h2 := flat_len X.len
  have h3 := X.k
  have h4 : c.clauses.length * 6 ≤ 1000 * 6 := Nat.mul_le_mul_right _ h3
  exact ⟨X.nm, X.l, ⟨fun x hx => ⟨Nat.le_trans (X.len x hx) (by decide), fun l hl => Nat.le_trans (lits_short (X.l x hx) X.nm l hl) (by decide)⟩, by omega, by omega, nm_shorts X.nm⟩, X.n6⟩
theorem LawX.ok {c : CodeD} (X : LawX c) : CodeOk c.signs c.helpers c.clauses := by
  have nd := X.nm.nd
  have hn := X.n6
  have hl : c.names.length = c.signs.length + c.helpers.length := List.length_append
  obtain ⟨n1, n2, n3⟩ := List.nodup_append.mp (show (c.signs ++ c.helpers).Nodup from nd)
  refine ⟨⟨n1, fun x hx => ⟨X.nm.nm x (List.mem_append_left _ hx), fun h => by cases h⟩, by omega⟩, ⟨n2, fun x hx => ⟨X.nm.nm x (List.mem_append_right _ hx), fun h => n3 x h x hx rfl⟩, by omega⟩, Nat.le_trans X.k (by decide), fun x hx => clOk_lits X.nm (X.l x hx), ?_⟩
  show c.names.length ≤ 1000
  omega
abbrev madeOf (c : CodeD) : CodeD := mkCode c.signs c.helpers c.clauses
theorem LawX.made {c : CodeD} (X : LawX c) : LawX (madeOf c) := by
  refine ⟨X.nm, X.n6, fun x hx => ?_, ?_⟩
  · obtain ⟨d, hd, rfl⟩ := List.mem_map.mp (mem_once.mp (show x ∈ once (c.clauses.map fun d => asc d c.names) from hx))
    exact (X.l d hd).asc X.nm
  · refine Nat.le_trans (once_len2 _) ?_
    rw [List.length_map]
    exact X.k
end My

set_option Elab.async false
set_option linter.all false
set_option maxRecDepth 100000
set_option maxHeartbeats 8000000
namespace My
open PySem PySem.Spec PyProof.Rows L2 L3
section
variable {P : Program} {w : World} {K : PySem.W.Frag} {mg : Str → Option Value} {base : Heap}
structure AlPre (sg : List Str) (cs : List (List Str)) (hp : List Str) : Prop where
  s6 : sg.length ≤ 6
  ss : Shorts sg
  h6 : hp.length ≤ 6
  hs : Shorts hp
  n : cs.length ≤ 1000000
  e : ∀ c ∈ cs, c.length ≤ 1000000
theorem CodeX.hp {c : CodeD} (X : CodeX c) : c.helpers.length ≤ 6 ∧ Shorts c.helpers := by
  have e : c.names.length = c.signs.length + c.helpers.length := List.length_append
  have := X.n6
  have sh := nm_shorts X.nm
  exact ⟨by omega, by omega, fun n hn => sh.2 n (List.mem_append_right _ hn)⟩
end
end My

set_option Elab.async false
set_option linter.all false
set_option maxRecDepth 100000
set_option maxHeartbeats 4000000
namespace My
open PySem PySem.Spec PyProof.Rows L2 L3
/-! codes whose clauses stand as the program keeps them -/
structure Nf (c : CodeD) : Prop where
  a : ∀ x ∈ c.clauses, asc x c.names = x
  nd : c.clauses.Nodup
theorem map_self {α : Type} {f : α → α} {xs : List α} (h : ∀ x ∈ xs, f x = x) : xs.map f = xs := by
  have := List.map_congr_left (l := xs) (f := f) (g := id) h
  rw [this, List.map_id]
theorem Nf.made {c : CodeD} (h : Nf c) : madeOf c = c := by
  obtain ⟨ss, hs, cl⟩ := c
  show CodeD.mk ss hs (once (cl.map fun d => asc d (ss ++ hs))) = _
  rw [map_self (f := fun d => asc d (ss ++ hs)) h.a, once_self h.nd]
theorem nf_up {sg hp ns : List Str} (cs : List (List Str)) (e : sg ++ hp = ns) : Nf ⟨sg, hp, onceUp cs ns⟩ := ⟨fun x hx => by
  show asc x (sg ++ hp) = x
  rw [e]
  obtain ⟨d, _, rfl⟩ := List.mem_map.mp (mem_once.mp (show x ∈ once (cs.map fun d => asc d ns) from hx))
  exact asc_asc _ _, once_nodup _⟩
theorem Good.nf {c : CodeD} (g : Good c) : Nf c := by
  obtain ⟨cs, e, _⟩ := g.cl
  have := nf_up (sg := c.signs) (hp := c.helpers) (ns := c.names) cs rfl
  rw [← e] at this
  exact this
def litsOf (ns : List Str) : List Str := ns.flatMap fun n => [n, ("-" : Str) ++ n]
theorem mem_litsOf {ns : List Str} {x : Str} : x ∈ litsOf ns ↔ LitN ns x := by
  unfold litsOf
  rw [List.mem_flatMap]
  constructor
  · rintro ⟨n, hn, h⟩; exact ⟨n, hn, by simpa using h⟩
  · rintro ⟨n, hn, h⟩; exact ⟨n, hn, by simpa using h⟩
theorem litsOf_app (xs ys : List Str) : litsOf (xs ++ ys) = litsOf xs ++ litsOf ys := by unfold litsOf; rw [List.flatMap_append]
structure HalfS (ns : List Str) (p : List Str × Nat) : Prop where
  le : p.2 ≤ ns.length
  s : p.1.Sublist (litsOf (ns.take p.2))
end My

set_option Elab.async false
set_option linter.all false
set_option maxRecDepth 100000
set_option maxHeartbeats 4000000
namespace My
open PySem PySem.Spec PyProof.Rows L2 L3
section
variable {ns : List Str} {cs P : List (List Str)} {hs so : List Str}
theorem der_trans {h2 : List Str} {x : Str} (h : ∀ y ∈ hs, Der cs h2 y) (d : Der cs hs x) : Der cs h2 x := by
  induction d with
  | base hx => exact h _ hx
  | step hc hl _ ih => exact .step hc hl ih
theorem dead_trans {h2 : List Str} (h : ∀ y ∈ hs, Der cs h2 y) (d : Dead cs hs) : Dead cs h2 := by
  obtain ⟨c, hc, hd⟩ := d
  exact ⟨c, hc, fun m hm => der_trans h (hd m hm)⟩
/-! a name put out -/
def Rsv (n : Str) (c d : List Str) (x : Str) : Prop := (x ∈ c ∨ x ∈ d) ∧ nameOf x ≠ n
structure Out (ns : List Str) (cs : List (List Str)) (n : Str) (P : List (List Str)) : Prop where
  keep : ∀ c ∈ cs, n ∉ c → ("-" : Str) ++ n ∉ c → ∃ r ∈ P, ∀ x, x ∈ r ↔ x ∈ c
  res : ∀ c ∈ cs, ∀ d ∈ cs, n ∈ c → ("-" : Str) ++ n ∈ d → (∃ k, Rsv n c d k ∧ Rsv n c d (opp k)) ∨ ∃ r ∈ P, ∀ x, x ∈ r ↔ Rsv n c d x
  only : ∀ r ∈ P, (∃ c ∈ cs, n ∉ c ∧ ("-" : Str) ++ n ∉ c ∧ ∀ x, x ∈ r ↔ x ∈ c) ∨ ∃ c ∈ cs, ∃ d ∈ cs, n ∈ c ∧ ("-" : Str) ++ n ∈ d ∧ ∀ x, x ∈ r ↔ Rsv n c d x
structure Two (n a b : Str) (cs P : List (List Str)) : Prop where
  ab : opp a = b
  na : nameOf a = n
  nb : nameOf b = n
  ne : a ≠ b
  only : ∀ x, nameOf x = n → (∃ m, x = m ∨ x = ("-" : Str) ++ m) → True
  res : ∀ c ∈ cs, ∀ d ∈ cs, a ∈ c → b ∈ d → (∃ k, Rsv n c d k ∧ Rsv n c d (opp k)) ∨ ∃ r ∈ P, ∀ x, x ∈ r ↔ Rsv n c d x
/-! clauses that are found -/
end
end My

set_option Elab.async false
set_option linter.all false
set_option maxRecDepth 100000
set_option maxHeartbeats 8000000
namespace My
open PySem PySem.Spec PyProof.Rows L2 L3
open L3.Strm
section
end
end My

set_option Elab.async false
set_option linter.all false
set_option maxRecDepth 100000
set_option maxHeartbeats 1000000
namespace L3
open PySem PySem.Spec PyProof.Rows L2 MeetsSeq
open AutoSeq1 (wpAny_loadPart')
/-! an empty dict beside texts: not in a tuple of texts; repr of (text, thing) -/
section
end
/-- a tuple of a text and a thing -/
def TxF (K : PySem.W.Frag) : Rl (Str × PyData) := fun t M v => ∃ p w, v = .ref p ∧ M p = some (.tup [.str t.1, w]) ∧ DdF K t.2 M w
instance {K : PySem.W.Frag} : Mon (TxF K) := ⟨fun e ⟨p, w, h1, h2, h3⟩ => ⟨p, w, h1, e _ _ h2, Mon.mono e h3⟩⟩
def txD (t : Str × PyData) : PyData := .tuple [.str t.1, t.2]
def rReprF (K : PySem.W.Frag) : List V → Hp → VK → Prop := fun xs H Q => ∃ v t, xs = [v] ∧ TxF K t H v ∧ (txD t).showable = true ∧ (txD t).depth ≤ 64 ∧ (txD t).shown.length ≤ sizeLine ∧ Q (.str (txD t).shown) H
theorem call_reprF {X : Cx} (hgu : X.A.guards = some []) (hu : X.A.units + 70 < cLine) : CallR X (.builtin "repr") (rReprF X.K) := by
  rintro pins s σ H _ us Q I r ⟨v, ⟨x, d⟩, rfl, ⟨p, w, rfl, hp, hw⟩, hs, hdp, hz, q⟩
  have ⟨u, eu, ru⟩ := vals1 r
  subst eu
  cases (show u = Value.ref p from ru)
  obtain ⟨its, rv, ⟨o, ho, hc, n, hd⟩, _⟩ := I.tuple (show SqT X.K H p [.str x, w] from .inl (.inl hp))
  have fin : ∀ h' u' tk, (∀ b o, s.heap.get? b = some o → h'.get? b = some o) → EP X pins σ Q (.str (txD (x, d)).shown u') { s with heap := h', toks := tk } :=
    fun h' u' tk k => ⟨.str (txD (x, d)).shown, H, I.kept k, ⟨_, rfl⟩, q⟩
  cases rv with
  | @cons _ u1 _ _ r1 rv =>
    cases rv with
    | @cons _ u2 _ _ r2 rv =>
      cases rv
      obtain ⟨t1, rfl⟩ := r1
      obtain ⟨as, rd, hsm⟩ : ∃ as, Reads s.heap u2 d as ∧ (d.hasDict = true → sysModules ∉ as) := by
        rcases (show Dp X.K H w d ∨ (d = .dict [] ∧ ∃ a, w = .ref a ∧ H a = some (.dK [])) from hw) with hw | ⟨ed, a, ew, ha⟩
        · obtain ⟨as, rd⟩ := Dp.reads I d w _ hw r2
          exact ⟨as, rd, PyData.noDict_hsm (dp_nodict hw)⟩
        · subst ed ew
          cases (show _ = Value.ref a from r2)
          obtain ⟨_, hn, vs, rk, o2, es, ep, ho2, hc2, hd2, _, pp, _⟩ := dk_of I.hok ha
          cases rk
          have ees : es.toList = [] := by cases h : es.toList with
            | nil => rfl
            | cons e r => rw [h] at pp; cases pp
          refine ⟨_, Reads.dict (kvs := []) ho2 hc2.1 hd2 (by rw [ees]; exact .nil) (by rw [ees]; exact .nil), fun _ z => ?_⟩
          have : sysModules = a := by simpa using z
          rw [← this] at hn
          simp at hn
      have rt : Reads s.heap (.ref p) (txD (x, d)) ([] ++ (as ++ [])) := Reads.tuple ho hc hd (.cons (.str x t1) (.cons rd .nil))
      refine repr_of_reads' rt hs (fun h => ?_) hgu (by omega) (fun _ _ e => e) fin hz
      have h : d.hasDict = true := by simpa [txD, PyData.hasDict, PyData.hasDictAll] using h
      simpa using hsm h
section
variable {K : PySem.W.Frag} {σ : Sl} {M : Hp} {ta tb te : TE}
/-- (text, thing) -/
theorem gv_tupF {x : Str} {d : PyData} (h1 : Gv ta σ M (Tx x)) (h2 : Gv tb σ M (DdF K d)) : Gv (tTup (tCons ta (tCons tb tNil))) σ M (TxF K (x, d)) := fun H mh Q q =>
  h1 H mh _ fun v M1 H1 g1 p1 => h2.le g1.mm H1 g1.mh _ fun w M2 H2 g2 p2 => ⟨by show 2 ≤ sizeLine; decide, fun l nl => by
    cases (show v = _ from p1)
    exact q _ _ _ ((g1.trans g2).trans (.new g2.mh nl)) ⟨l, w, rfl, upd_same, Mon.mono (same_new (g2.mh.free nl)) p2⟩⟩
end
end L3

set_option Elab.async false
set_option linter.all false
set_option maxRecDepth 100000
set_option maxHeartbeats 8000000
namespace My
open PySem PySem.Spec PyProof.Rows L2 L3 LamX
open L3.Strm
/-! statement rules that carry the state of a law with a table; lists of data among which an empty dict may stand -/
section
variable {S : Strm} {Pt : Addr} {q : Str} {M H : Hp} {k j c : Nat} {σ : Sl} {te : TE} {P : Pr} {D : Ends} {tz tb : TS} {tt : L2.TT}
theorem _root_.L3.LS.plain {M' H' : Hp} (L : LS S Pt q M H k) (g : Gr M H M' H') : LS S Pt q M' H' k := L.step (lift L.mh L.at_ g) (L.at_.same g.hh)
/-- a list of ours is known from now on -/
theorem _root_.L3.LS.freeze {p : Addr} {vs : List V} (L : LS S Pt q M H k) (hp : S.cut H p = some (.lst vs)) : LS S Pt q (upd M p (.lst vs)) H k := by
  obtain ⟨ps, hP, ok, h3⟩ := L.tb
  have n : Pt ≠ p := fun z => by rw [z, of_cut hp] at hP; cases hP
  refine ⟨same_lent L.mh hp, L.at_, L.tb, by rw [upd_ne n]; exact L.mp, fun a qs e => ?_⟩
  by_cases z : a = p
  · subst z; rw [upd_same] at e; cases e
  · rw [upd_ne z] at e; exact L.nt a qs e
/-- a new list -/
theorem _root_.L3.LS.new {p : Addr} {o : HO} (L : LS S Pt q M H k) (np : H p = none) : LS S Pt q M (upd H p o) k ∧ M p = none ∧ S.cut (upd H p o) p = some o := by
  have no := L.at_.fresh np
  have nc := L.at_.cutn np
  exact ⟨L.step (by rw [cut_upd no]; exact .own L.mh nc) (L.at_.upd no), L.mh.free nc, by rw [cut_upd no, upd_same]⟩
end
section
end
/-! the law's own def that takes a lambda: its suite calls a def -/
theorem takes_len {X : Cx} {W : WX} (tk : Takes X W) : Takes X (fun c d σ H => σ.length = X.N.length → W c d σ H) := fun u s' ⟨a, B, sI, pins, σ, H, cls, d, e, I, nb, up, sky, na, os, ag, w⟩ =>
  tk u s' ⟨a, B, sI, pins, σ, H, cls, d, e, I, nb, up, sky, na, os, ag, w I.len⟩
section
variable {α : Type} {R : Rl α} [Mon R] {σ : Sl} {M : Hp} {ta : TA}
theorem ga_rl0 : GvA tNil σ M fun M vs => Pd R M ([] : List α) vs := fun H mh Q q => q [] M H (.refl mh) .nil
theorem ga_rl {t : TE} {x : α} {xs : List α} (h : Gv t σ M (R x)) (hr : ∀ M1, Same M M1 → GvA ta σ M1 fun M vs => Pd R M xs vs) : GvA (tCons t ta) σ M fun M vs => Pd R M (x :: xs) vs := fun H mh Q q =>
  h H mh _ fun v M1 H1 g1 p => hr M1 g1.mm H1 g1.mh _ fun vs M2 H2 g2 ps => q (v :: vs) M2 H2 (g1.trans g2) (.cons (Mon.mono g2.mm p) ps)
theorem gv_lstG {xs : List α} (h : GvA ta σ M fun M vs => Pd R M xs vs) (hz : xs.length ≤ 1000) : Gv (tLst ta) σ M (LiR R xs) := (gl_lst h fun M vs p => by rw [← p.length]; exact Nat.le_trans hz (by decide)).li
end
section
variable {K : PySem.W.Frag} {σ : Sl} {M : Hp} {t : TE}
theorem gf_str {x : Str} (h : Gv t σ M (Tx x)) : Gv t σ M (DdF K (.str x)) := gv_is h fun M v e => by
  cases (show v = _ from e)
  exact .inl (.str x)
theorem gf_dnew : Gv tDNewK σ M (DdF K (.dict [])) := fun H mh Q q p np => q (.ref p) _ _ ((Gr.own mh np).freeze np (mh.free np) upd_same) (.inr ⟨rfl, p, rfl, upd_same⟩)
theorem gf_lst {x : Str} (h : Gv t σ M (Tx x)) : Gv (tLst (tCons t tNil)) σ M (DdF K (.list [.str x])) := gv_is (gl_one h).li fun M v r => .inl (py_lst py_str [x] _ _ r.lst)
theorem gf_tup {x : Str} (h : Gv t σ M (Tx x)) : Gv (tTup (tCons t tNil)) σ M (DdF K (.tuple [.str x])) := gv_is (gv_tup1 h) fun M v r => .inl (py_TT [x] _ _ r)
theorem s_asgS {D : Ends} {H : Hp} {i : Nat} (h : t σ H fun v H1 => D.nx (σ.set i (some v)) H1) : tAsg t (gName i) D σ H := h
end
end My

set_option Elab.async false
set_option linter.all false
set_option maxRecDepth 100000
set_option maxHeartbeats 1000000
namespace L3
open PySem PySem.Spec PyProof.Rows L2
/-! several except clauses, each with a name or without -/
/-- an exception that has come down to the frame of its try -/
structure Ld (X : Cx) (pins : List (Addr × Obj)) (σ : L2.St) (H : Hp) (e : Addr) (cls : Value) (d : Option Addr) (z : Shared) : Prop where
  st : X.stack = X.env :: X.outer
  fr : X.env.frame = some X.env.locals
  un : H e = none
  fl : ∃ (B : Heap) (y : Shared), L2.Inv X pins σ H y ∧ (∀ b o, y.heap.get? b = some o → b ∉ frs X.stack → B.get? b = some o) ∧ y.heap.UpToSlots z.heap ∧ z.os = y.os ∧ AllBare z.gens ∧ HandSPX.FlyingZ B (X.env :: X.outer) e (Zc cls d) z.heap
section
variable {X : Cx} {pins : List (Addr × Obj)} {σ : L2.St} {H : Hp} {e : Addr} {cls : Value} {d : Option Addr} {z : Shared}
theorem Ld.inv (L : Ld X pins σ H e cls d z) : L2.Inv X pins σ H z := let ⟨_, _, J, nb, u, o, g, f⟩ := L.fl; J.landed nb f.1 u o g
/-- its object stands apart from the frames -/
theorem Ld.obj (L : Ld X pins σ H e cls d z) : ∃ ob us, z.heap.get? e = some ob ∧ Zc cls d ob ∧ ob.data = .fields us ∧ e ≠ X.env.locals ∧ e ∉ X.fs := by
  obtain ⟨B, y, _, _, _, _, _, f⟩ := L.fl
  obtain ⟨ob, us, h1, h2, h3⟩ := f.there
  have apart : e ∉ frs (X.env :: X.outer) := by
    intro hm
    obtain ⟨_, o2, h4, h5⟩ := f.2.2.1.mem hm
    cases h1.symm.trans h4
    exact h5 _ h3
  refine ⟨ob, us, h1, h2, h3, fun q => ?_, fun q => ?_⟩
  · exact apart (List.mem_filterMap.mpr ⟨_, List.mem_cons_self .., q ▸ L.fr⟩)
  · obtain ⟨v, h6, h7⟩ := List.mem_filterMap.mp q
    exact apart (List.mem_filterMap.mpr ⟨v, List.mem_cons_of_mem _ h6, h7⟩)
/-- the state in which a clause's suite begins -/
theorem Ld.in (L : Ld X pins σ H e cls d z) : ∃ ob us, z.heap.get? e = some ob ∧ Zc cls d ob ∧ ob.data = .fields us ∧ L2.Inv (X.suite e ((e, ob) :: (X.pn ++ pins))) [] σ H z :=
  let ⟨ob, us, h1, h2, h3, h4, h5⟩ := L.obj
  ⟨ob, us, h1, h2, h3, L.inv.suite h1 h3 L.un h4 h5⟩
/-- the flight is set to none once more -/
theorem Ld.again (L : Ld X pins σ H e cls d z) {A : Around} {Q : Unit → Shared → Prop} {E : Value → Shared → Prop} (go : ∀ h, Ld X pins σ H e cls d { z with heap := h } → Q () { z with heap := h }) : wpAny (model X.prog X.w) A (setFlight (.ref e) none) Q E z := by
  obtain ⟨B, y, J, nb, u, o, g, f⟩ := L.fl
  exact HandSPX.lands_againZ f fun h f' u' => go h ⟨L.st, L.fr, L.un, B, y, J, nb, u.trans u', o, g, f'⟩
/-- no clause takes it -/
theorem Ld.on {W : WX} {D : Ends} (L : Ld X pins σ H e cls d z) (tk : Takes X W) (w : W cls d σ H) : wpAny (model X.prog X.w) X.A (handleBy (.ref e) X.env []) (SP X pins D) X.xe z := by
  obtain ⟨B, y, J, nb, u, o, g, f⟩ := L.fl
  have last : wpAny (model X.prog X.w) X.A (setFlight (.ref e) X.env.frame) (fun _ => wpAny (model X.prog X.w) X.A (throw (.ref e) : Sem Flow) (SP X pins D) X.xe) X.xe z := by
    rw [L.fr]
    exact HandSPX.setFlight_upZ f fun h hd u' => wpAny_throw (tk _ _ ⟨e, B, y, pins, σ, H, cls, d, rfl, J, nb, u.trans u', .inr (.inr (by rw [L.st]; exact hd)), L.un, o, g, w⟩)
  refine wpAny_handleBy_nil ?_
  obtain ⟨_, _, _, ob, us, t, _, _, h1, _, h3, h4, _⟩ := f
  unfold PySem.passOn
  refine wpAny_bind (wpAny_field h1 h3 h4 ?_)
  rw [if_neg (by simp : ¬ ((Value.ref t == Value.none) = true))]
  first
    | exact wpAny_bind (wpAny_pure (wpAny_bind last))
    | exact wpAny_bind last
/-- the class that a clause names is looked at -/
theorem Ld.asks {x : Str} {c : Value} {np : Pos} {b : Bool} {Q : Bool → Shared → Prop} {E E2 : Value → Shared → Prop} (L : Ld X pins σ H e cls d z) (hc : Names X x c) (hb : PySem.W.exmOne X.K cls c = some b) (q : Q b z) :
    wpAny (model X.prog X.w) (X.A.mark (some (.ref e))) (eval (.Name x np) X.env) (fun v s1 => wpAny (model X.prog X.w) (X.A.mark (some (.ref e))) (excMatches (.ref e) v) Q E s1) E2 z := by
  obtain ⟨ob, us, h1, h2, h3, S⟩ := L.in
  have ty : PySem.W.Looks (model X.prog X.w) z.heap (typeOf (.ref e)) cls := fun _ _ _ _ kp k => wpAny_typeOf_ref (kp _ _ h1) (h2.1.symm ▸ k)
  have lk := (PySem.W.exm_one (M := model X.prog X.w) L.inv.kIn ty hb).here (A := X.A.mark (some (.ref e))) (Q := Q) (E := E) (s := z) q
  obtain ⟨g, db, m | ⟨m, v, nn⟩⟩ := hc
  · exact ld_glob (X := X.suite e ((e, ob) :: (X.pn ++ pins))) S g m lk db
  · exact ld_blt (X := X.suite e ((e, ob) :: (X.pn ++ pins))) S g m v lk nn db
end
/-- class, slot of its name, suite -/
abbrev Clz := Value × Option Nat × (Addr → Value → Option Addr → TS)
def clG (o : Option Nat) (σ : L2.St) : L2.St := match o with
  | none => σ
  | some i => σ.set i none
def clD (o : Option Nat) (D : Ends) : Ends := ⟨fun σ H => D.nx (clG o σ) H, D.rt, fun σ H => D.bk (clG o σ) H, fun σ H => D.ct (clG o σ) H⟩
def clS (o : Option Nat) (a : Addr) (σ : L2.St) : L2.St := match o with
  | none => σ
  | some i => σ.set i (some (.ref a))
/-- what the clauses, one after the other, do of an exception -/
def wCl (K : PySem.W.Frag) (W : WX) (D : Ends) : List Clz → WX
  | [] => W
  | (c, o, ts) :: r => fun cls d σ H => ∃ b, PySem.W.exmOne K cls c = some b ∧ (b = true → ∀ a, H a = none → ts a cls d (clD o D) (clS o a σ) H) ∧ (b = false → wCl K W D r cls d σ H)
inductive ClOk (X : Cx) : List ExceptHandler → List Clz → Prop
  | nil : ClOk X [] []
  | plain {x : Str} {c : Value} {ts : Addr → Value → Option Addr → TS} {b₀ : Stmt} {su : List Stmt} {np p : Pos} {hs : List ExceptHandler} {l : List Clz} (hc : Names X x c)
      (go : ∀ (a : Addr) (ob : Obj) (cls : Value) (d : Option Addr) (pn : List (Addr × Obj)), Zc cls d ob → (∃ us, ob.data = .fields us) → PSs (X.suite a ((a, ob) :: pn)) (b₀ :: su) (ts a cls d)) (r : ClOk X hs l) :
      ClOk X (.ExceptHandler (some (.Name x np)) none (b₀ :: su) p :: hs) ((c, none, ts) :: l)
  | named {x n : Str} {i : Nat} {c : Value} {ts : Addr → Value → Option Addr → TS} {b₀ : Stmt} {su : List Stmt} {np p : Pos} {hs : List ExceptHandler} {l : List Clz} (hN : X.N.Nodup) (hi : X.N[i]? = some n) (hln : X.env.kindOf n = some .local) (hc : Names X x c)
      (go : ∀ (a : Addr) (ob : Obj) (cls : Value) (d : Option Addr) (pn : List (Addr × Obj)), Zc cls d ob → (∃ us, ob.data = .fields us) → PSs (X.suite a ((a, ob) :: pn)) (b₀ :: su) (ts a cls d)) (r : ClOk X hs l) :
      ClOk X (.ExceptHandler (some (.Name x np)) (some n) (b₀ :: su) p :: hs) ((c, some i, ts) :: l)
section
variable {X : Cx} {pins : List (Addr × Obj)} {σ : L2.St} {H : Hp} {e : Addr} {cls : Value} {d : Option Addr} {z : Shared} {W : WX} {D : Ends}
theorem ClOk.run {hs : List ExceptHandler} {l : List Clz} (k : ClOk X hs l) (ok : X.Ok) (tk : Takes X W) : ∀ {z : Shared}, Ld X pins σ H e cls d z → wCl X.K W D l cls d σ H → wpAny (model X.prog X.w) X.A (handleBy (.ref e) X.env hs) (SP X pins D) X.xe z := by
  induction k with
  | nil => exact fun L w => L.on tk w
  | plain hc go _ ih =>
    rintro z L ⟨b, hb, yes, no⟩
    refine wpAny_handleBy_cons (codeAny_handlers_test (L.asks hc hb ?_)) nofun
    cases b with
    | false => exact ih L (no rfl)
    | true =>
      refine codeAny_handlers_suite (L.again fun h L2 => ?_)
      obtain ⟨ob, us, h1, h2, h3, S⟩ := L2.in
      refine wpAny_mono ((go e ob cls d _ h2 ⟨us, h3⟩).run [] _ σ H (clD none D) S (yes rfl e L.un)) (fun f y q => ?_) fun _ _ q => q.elim
      cases f with
      | ret u => exact let ⟨v, s, G, J, r, q⟩ := q; ⟨v, s, G, J.unsuite ok, r, q⟩
      | next => exact let ⟨s, G, J, q⟩ := q; ⟨s, G, J.unsuite ok, q⟩
      | brk => exact let ⟨s, G, J, q⟩ := q; ⟨s, G, J.unsuite ok, q⟩
      | cont => exact let ⟨s, G, J, q⟩ := q; ⟨s, G, J.unsuite ok, q⟩
  | @named x n i c ts b₀ su np p hs l hN hi hln hc go _ ih =>
    rintro z L ⟨b, hb, yes, no⟩
    refine wpAny_handleBy_cons (codeAny_handlers_test (L.asks hc hb ?_)) nofun
    cases b with
    | false => exact ih L (no rfl)
    | true =>
      refine codeAny_handlers_suite_as (L.again fun h L2 => ?_)
      obtain ⟨ob, us, h1, h2, h3, S⟩ := L2.in
      refine store_ok (X := X.suite e ((e, ob) :: (X.pn ++ pins))) (v := .ref e) S hN hi (.inl hln) rfl (fun y T => ?_) (.inr hln)
      refine wpAny_mono ((go e ob cls d _ h2 ⟨us, h3⟩).run [] _ _ H (clD (some i) D) T (yes rfl e L.un)) (fun f y2 q => ?_) fun _ _ q => q.elim
      cases f with
      | ret u => exact let ⟨v, s, G, J, r, q⟩ := q; gone_ok (J.unsuite ok) hN hi hln fun y3 J3 => ⟨v, _, G, J3, r, q⟩
      | next => exact let ⟨s, G, J, q⟩ := q; gone_ok (J.unsuite ok) hN hi hln fun y3 J3 => ⟨_, G, J3, q⟩
      | brk => exact let ⟨s, G, J, q⟩ := q; gone_ok (J.unsuite ok) hN hi hln fun y3 J3 => ⟨_, G, J3, q⟩
      | cont => exact let ⟨s, G, J, q⟩ := q; gone_ok (J.unsuite ok) hN hi hln fun y3 J3 => ⟨_, G, J3, q⟩
end
section
variable {X : Cx} {body : List Stmt} {h₀ : ExceptHandler} {hs : List ExceptHandler} {l : List Clz} {pos : Pos} {tb : WX → TS} {W : WX}
/-- try: body, then clauses of any kind -/
theorem ps_try_cl (sk : X.stack = X.env :: X.outer) (fr : X.env.frame = some X.env.locals) (tk : Takes X W) (go : ∀ (Z : WX) (pn : List (Addr × Obj)) (xe : Value → Shared → Prop), Takes (X.tr pn xe) Z → PassesOwn (model X.prog X.w) X.A X.env xe → PSs (X.tr pn xe) body (tb Z))
    (k : ClOk X (h₀ :: hs) l) : PS X (.Try body (h₀ :: hs) [] [] pos) (fun D σ H => tb (wCl X.K W D l) D σ H) := by
  refine ⟨fun pins s σ H D I w => wpAny_Try_except ?_⟩
  have ok := I.ok
  refine wpAny_mono ((go (wCl X.K W D l) (X.pn ++ pins) _ (fun u y xx => ?ex) PassesOwn.looking).run [] s σ H D (I.toTry _) w) (fun f y q => ?en) fun _ _ q => q
  case ex =>
    obtain ⟨e, B, y0, ps, σ1, H1, cls, d, rfl, J, nb, up, sky, na, os, ag, w1⟩ := xx
    refine Sky.land Zc.steady (by rw [ok.frames, sk] : X.A.frames = some (X.env :: X.outer)) fr (sk ▸ sky) fun h f u2 => ?_
    exact k.run ok tk (pins := pins) ⟨sk, fr, na, B, y0, J.ofTry ok, nb, up.trans u2, os, ag, f⟩ w1
  cases f with
  | ret u => exact let ⟨v, s, G, J, r, q⟩ := q; ⟨v, s, G, J.ofTry ok, r, q⟩
  | next => exact let ⟨s, G, J, q⟩ := q; wpAny_execs_nil ⟨s, G, J.ofTry ok, q⟩
  | brk => exact let ⟨s, G, J, q⟩ := q; ⟨s, G, J.ofTry ok, q⟩
  | cont => exact let ⟨s, G, J, q⟩ := q; ⟨s, G, J.ofTry ok, q⟩
end
end L3

set_option Elab.async false
set_option linter.all false
set_option maxRecDepth 100000
set_option maxHeartbeats 1000000
namespace L3
open PySem PySem.Spec PyProof.Rows L2
/-! o - x by an own __sub__, x a text -/
section
end
end L3

set_option Elab.async false
set_option linter.all false
set_option maxRecDepth 100000
set_option maxHeartbeats 1000000
namespace L3
open PySem PySem.Spec PyProof.Rows L2
/-! a new list stands apart from sys.modules; repr of a list of one tuple (text, thing), the thing data or an empty dict -/
section
variable {X : Cx}
def LzF (K : PySem.W.Frag) : Rl (Str × PyData) := fun t M v => ∃ p w, v = .ref p ∧ p ≠ sysModules ∧ M p = some (.lst [w]) ∧ TxF K t M w
instance {K : PySem.W.Frag} : Mon (LzF K) := ⟨fun e ⟨p, w, h1, h2, h3, h4⟩ => ⟨p, w, h1, h2, e _ _ h3, Mon.mono e h4⟩⟩
end
section
end
end L3

set_option Elab.async false
set_option linter.all false
set_option maxRecDepth 100000
set_option maxHeartbeats 1000000
namespace L3
open PySem PySem.Spec PyProof.Rows L2 LamX
open L3.Strm
/-! x(lambda: body, e); a method that raises -/
section
end
section
end
/-- a method that raises -/
def MetX (P : Program) (w : World) (K : PySem.W.Frag) (mg : Str → Option Value) (base : Heap) (k : Nat) (C : Addr) (m : Str) (ps : List Str) (sp : Sp) : Prop :=
  ∃ f fd, Cls K C ∧ Meth K C m f ∧ FnOk P w K mg base (L2.CX P w) k f fd ps sp ∧ L2.Binds K fd ps []
section
variable {X : Cx} {W : WX} {E : XK} {k : Nat} {C : Addr} {m : Str} {ps : List Str} {sp : Sp} {o : Expr} {to : TE} {pos apos : Pos} {pl : Sem Bool}
theorem pe_mX0 (c : MetX X.prog X.w X.K X.mg X.base k C m ps sp) (hr : Room k X.A) (tk : Takes X W) (hW : ∀ cls d σ H, E cls d H → W cls d σ H) (ho : PE X o to)
    (ht : eval (.Call (.Attribute o m apos) [] [] pos) X.env = (do let ov ← eval o X.env; standAt apos.atName; let (f, first) ← holding [ov] (getMethod ov m pl); callWith pos f first (backTo pos (starEach [] X.env)) (backToKw pos (keywordEach [] X.env))) := by rfl) :
    PE X (.Call (.Attribute o m apos) [] [] pos) (tMeth C m sp [] E to tNil) :=
  let ⟨_, _, cl, hm, F, hb⟩ := c
  pe_meth0 ho cl hm F hr hb .nil (passes_call tk hW) ht
end
end L3

set_option Elab.async false
set_option linter.all false
set_option maxRecDepth 100000
set_option maxHeartbeats 1000000
namespace L3
open PySem PySem.Spec PyProof.Rows L2
/-! a & b, a | b, a < b of two instances by own methods; every n-th item -/
/-- an own special method that may raise -/
def OwnX (P : Program) (w : World) (K : PySem.W.Frag) (mg : Str → Option Value) (base : Heap) (k : Nat) (C : Addr) (nm : Str) (ps : List Str) (sp : Sp) : Prop :=
  ∃ f fd, FnOk P w K mg base (L2.CX P w) k f fd ps sp ∧ PySem.W.findIn K (.ref C) nm = some (some (.ref f)) ∧ PySem.W.isFn K (.ref f) = true ∧ Binds K fd ps []
section
end
section
end
/-! every n-th item of a list -/
end L3

set_option Elab.async false
set_option linter.all false
set_option maxRecDepth 100000
set_option maxHeartbeats 1000000
namespace L3
open PySem PySem.Spec PyProof.Rows L2
/-! t[::-1] of a tuple; [x] * n -/
section
end
section
end
end L3

set_option Elab.async false
set_option linter.all false
set_option maxRecDepth 100000
set_option maxHeartbeats 1000000
namespace L3
open PySem PySem.Spec PyProof.Rows L2
/-! a method with arguments that raises -/
section
variable {X : Cx} {W : WX} {E : XK} {k : Nat} {C : Addr} {m : Str} {ps : List Str} {sp : Sp} {o e : Expr} {es : List Expr} {to : TE} {t : TA} {pos apos : Pos} {pl : Sem Bool}
theorem pe_mX1 (c : MetX X.prog X.w X.K X.mg X.base k C m ps sp) (hr : Room k X.A) (tk : Takes X W) (hW : ∀ cls d σ H, E cls d H → W cls d σ H) (ho : PE X o to) (ha : PA X (e :: es) t) (hst : starEach (e :: es) X.env = (false, eval e X.env) :: starEach es X.env := by rfl) (hpl : (backTo pos (starEach es X.env)).any (·.1) = false := by rfl)
    (ht : eval (.Call (.Attribute o m apos) (e :: es) [] pos) X.env = (do let ov ← eval o X.env; standAt apos.atName; let (f, first) ← holding [ov] (getMethod ov m pl); callWith pos f first (backTo pos (starEach (e :: es) X.env)) (backToKw pos (keywordEach [] X.env))) := by rfl) :
    PE X (.Call (.Attribute o m apos) (e :: es) [] pos) (tMeth C m sp [] E to t) := by
  obtain ⟨_, _, cl, hm, F, hb⟩ := c
  exact pe_meth ho cl hm F hr hb .nil (passes_call tk hW) ha hst hpl ht
end
end L3

set_option Elab.async false
set_option linter.all false
set_option maxRecDepth 100000
set_option maxHeartbeats 1000000
namespace L3
open PySem PySem.Spec PyProof.Rows L2
/-! an instance whose __init__ may raise -/
end L3

set_option Elab.async false
set_option linter.all false
set_option maxRecDepth 100000
set_option maxHeartbeats 1000000
namespace L3
open PySem PySem.Spec PyProof.Rows L2
/-! o - y by an own __sub__ that raises, y data or an empty dict -/
/-- an own special method whose other side is a built-in value; T: its type, c: whether it has the slot -/
structure OffT (T : String) (c : Bool) : Prop where
  fl : fillsNumberSlot (.type T) "sub" = pure c
  up : ∀ C, isSubtype (.type T) (.ref C) = pure false
  py : numberSlotInPython (.type T) "sub" = pure false
  rl : c = true → ∃ o, typeLookup (.type T) (dunderR "sub") = pure o
end L3

set_option Elab.async false
set_option linter.all false
set_option maxRecDepth 100000
set_option maxHeartbeats 1000000
namespace L3
open PySem PySem.Spec PyProof.Rows L2 PySem.SeqAt
open AutoSeq1 (wpAny_loadPart')
open MeetsSeq MeetsSeq2 MeetsSeq3 SeqRoads2
/-! o == y, y != o: o an instance with an own __eq__, y data or an empty dict -/
theorem nf_int (K : PySem.W.Frag) (C : Addr) : PySem.W.notFirst K C (.type "int") = true := by rfl
theorem nf_bool (K : PySem.W.Frag) (C : Addr) : PySem.W.notFirst K C (.type "bool") = true := by rfl
theorem nf_str (K : PySem.W.Frag) (C : Addr) : PySem.W.notFirst K C (.type "str") = true := by rfl
theorem nf_list (K : PySem.W.Frag) (C : Addr) : PySem.W.notFirst K C (.type "list") = true := by rfl
theorem nf_tup (K : PySem.W.Frag) (C : Addr) : PySem.W.notFirst K C (.type "tuple") = true := by rfl
theorem nf_dict (K : PySem.W.Frag) (C : Addr) : PySem.W.notFirst K C (.type "dict") = true := by rfl
theorem nf_none (K : PySem.W.Frag) (C : Addr) : PySem.W.notFirst K C (.type "NoneType") = true := by rfl
theorem nf_of (K : PySem.W.Frag) (C : Addr) {d : PyData} : PySem.W.notFirst K C (.type (tyN d)) = true := by
  cases d with
  | none => exact nf_none K C
  | bool b => exact nf_bool K C
  | int i => exact nf_int K C
  | str x => exact nf_str K C
  | list xs => exact nf_list K C
  | tuple xs => exact nf_tup K C
  | dict kvs => exact nf_dict K C
/-- a class that is no subclass of the built-in kinds of data -/
structure OffC (K : PySem.W.Frag) (C : Addr) : Prop where
  l : PySem.W.subIn K (.ref C) (.type "list") = some false
  t : PySem.W.subIn K (.ref C) (.type "tuple") = some false
  d : PySem.W.subIn K (.ref C) (.type "dict") = some false
  s : PySem.W.subIn K (.ref C) (.type "str") = some false
  i : PySem.W.subIn K (.ref C) (.type "int") = some false
  b : PySem.W.subIn K (.ref C) (.type "bool") = some false
  n : PySem.W.subIn K (.ref C) (.type "NoneType") = some false
  cd : (PySem.W.clsIn K C).isSome = true
  ty : PySem.W.typeIn K (.ref C) = some (.type "type")
/-- data is no instance of it -/
theorem OffC.kit {K : PySem.W.Frag} {C : Addr} (o : OffC K C) {d : PyData} : PySem.W.kitOne K (.type (tyN d)) (.ref C) = some false := by
  have e : PySem.W.subIn K (.type (tyN d)) (.ref C) = some false := by cases d <;> rfl
  unfold PySem.W.kitOne PySem.W.kitCls
  rw [if_neg (by simp)]
  show (if ((PySem.W.clsIn K C).isSome && PySem.W.typeIn K (.ref C) == some (.type "type")) = true then PySem.W.subIn K (.type (tyN d)) (.ref C) else none) = _
  rw [if_pos (by rw [o.cd, o.ty]; rfl), e]
theorem OffC.at_ {K : PySem.W.Frag} {C : Addr} (o : OffC K C) {d : PyData} : PySem.W.subIn K (.ref C) (.type (tyN d)) = some false := by
  cases d with
  | none => exact o.n
  | bool b => exact o.b
  | int i => exact o.i
  | str x => exact o.s
  | list xs => exact o.l
  | tuple xs => exact o.t
  | dict kvs => exact o.d
section
variable {X : Cx} {k : Nat} {C : Addr} {ps : List Str} {sp : Sp}
def rEqD (K : PySem.W.Frag) (C : Addr) (sp : Sp) : R2 := fun x y H Q => ∃ a dx fs d, x = V.ref a ∧ H a = some (.ins C dx fs) ∧ DdF K d H y ∧ sp [.ref a, y] H (fun v H' => ∃ c, v = .bl c ∧ Q (.bl c) H') E0
theorem op_eqD (o : OwnSp X.prog X.w X.K X.mg X.base k C "__eq__" ps sp) (hr : Room k X.A) : OpR X (compareOp .Eq) (rEqD X.K C sp) := by
  intro pins s σ H x y u v Q I rx ry h
  obtain ⟨f, fd, F, hs, hf, hb⟩ := o
  obtain ⟨a, dx, fs, d, rfl, ha, hd, q⟩ := h
  cases (show u = Value.ref a from rx)
  obtain ⟨ox, od, J⟩ := own_inst I ha
  obtain ⟨m, hF⟩ := I.fr
  have KX := I.ok.mod.kin.keeps hF.keep
  obtain ⟨P, Z, hP, _⟩ := kit_of I ry (ty_F hd)
  refine PySem.W.cmp_K (op := .Eq) (tb := .type (tyN d)) hr.units0 hF I.ok.mod.kin J (Z.ty (model X.prog X.w) s.heap KX hP) (nf_of X.K C) hs hf (wpAny_mono (run_deep (us := [.ref a, v]) (vs := [.ref a, y]) F hr I.env0 hb pass0 I (.cons rfl (.cons ry .nil)) q) (fun w s' z => ?_) fun _ _ x => x)
  obtain ⟨z', H', I', rz, c, e, qz⟩ := z
  subst e
  cases (show w = Value.bool c from rz)
  exact ⟨.bl c, H', I', rfl, qz⟩
end
section
end
end L3

set_option Elab.async false
set_option linter.all false
set_option maxRecDepth 100000
set_option maxHeartbeats 1000000
namespace My
open PySem PySem.Spec PyProof.Rows L2 L3
/-! settings as lists of literals, and as sides (of k63's Z2, Z3) -/
end My

set_option Elab.async false
set_option linter.all false
set_option maxRecDepth 100000
set_option maxHeartbeats 4000000
namespace My
open PySem PySem.Spec PyProof.Rows L2 L3
/-! what is small enough to be shown -/
theorem tups_smallG {ns : List Str} (hn : NmL ns) : ∀ cs : List (List Str), (∀ c ∈ cs, c.length ≤ 60 ∧ ∀ l ∈ c, LitN ns l) → PyData.leavesShortAll 13 (cs.map fun c => .tuple (c.map .str)) = true ∧ PyData.showableAll (cs.map fun c => .tuple (c.map .str)) = true ∧ PyData.weightAll (cs.map fun c => .tuple (c.map .str)) ≤ 602 * cs.length
  | [], _ => by simp [PyData.leavesShortAll, PyData.showableAll, PyData.weightAll]
  | c :: cs, h => by
    obtain ⟨h1, h2, h3⟩ := tups_smallG hn cs fun x hx => h x (List.mem_cons_of_mem _ hx)
    have hc := h c (List.mem_cons_self ..)
    obtain ⟨k1, k2, k3⟩ := strs_small hn c hc.2
    rw [List.map_cons]
    refine ⟨?_, ?_, ?_⟩
    · rw [PyData.leavesShortAll, PyData.leavesShort, k1, h1]; rfl
    · rw [PyData.showableAll, PyData.showable, k2, h2]; rfl
    · rw [PyData.weightAll, PyData.weight, List.length_cons]
      omega
structure Sm (d : PyData) : Prop where
  sh : d.showable = true
  dp : d.depth ≤ 60
  ls : d.leavesShort 13 = true
  wt : d.weight ≤ 100000
def codeD (c : CodeD) : PyData := .list [.list (c.signs.map .str), .list (c.helpers.map .str), .list (c.clauses.map fun d => .tuple (d.map .str))]
end My

set_option Elab.async false
set_option linter.all false
set_option maxRecDepth 100000
set_option maxHeartbeats 8000000
namespace My
open PySem PySem.Spec PyProof.Rows L2 L3
open L3.Strm
/-! the state of a law without a table -/
structure Zs (S : Strm) (M H : Hp) (k : Nat) : Prop where
  mh : Same M (S.cut H)
  at_ : S.At k H
section
variable {S : Strm} {M H M' H' M0 : Hp} {k j c : Nat} {σ : Sl} {te : TE} {P : Pr} {D : Ends} {tz tb : TS} {tt : L2.TT}
theorem Zs.step (L : Zs S M H k) (g : Gr M (S.cut H) M' (S.cut H')) (a : S.At j H') : Zs S M' H' j := ⟨g.mh, a⟩
theorem Zs.plain (L : Zs S M H k) (g : Gr M H M' H') : Zs S M' H' k := L.step (lift L.mh L.at_ g) (L.at_.same g.hh)
theorem Zs.le (L : Zs S M H k) (e : j ≤ k) : Zs S M H j := ⟨L.mh, L.at_.le e⟩
theorem Zs.sub (L : Zs S M H k) (e : Same M0 M) : Zs S M0 H k := ⟨e.trans L.mh, L.at_⟩
theorem Zs.idle (L : Zs S M H k) (hh : Same H H') : Zs S M H' k := L.plain (.idle (L.mh.trans cut_same) hh)
end
/-! lists that are changed behind -/
section
end
/-- the very value -/
def EqV : Rl V := fun x _ v => v = x
instance : Mon EqV := ⟨fun _ h => h⟩
theorem pd_eqv {M : Hp} : ∀ vs : List V, Pd EqV M vs vs
  | [] => .nil
  | _ :: r => .cons rfl (pd_eqv r)
section
end
/-! what is small enough to be shown, piece by piece -/
structure SmW (k w : Nat) (d : PyData) : Prop where
  sh : d.showable = true
  dp : d.depth ≤ k
  ls : d.leavesShort 13 = true
  wt : d.weight ≤ w
structure SmA (k w : Nat) (ds : List PyData) : Prop where
  sh : PyData.showableAll ds = true
  dp : PyData.depthAll ds ≤ k
  ls : PyData.leavesShortAll 13 ds = true
  wt : PyData.weightAll ds ≤ w
theorem SmW.fit {k w : Nat} {d : PyData} (h : SmW k w d) (hk : k ≤ 64) (hw : w ≤ 300000) : FitD d := ⟨h.sh, Nat.le_trans h.dp hk, PyData.shown_fits (B := 13) (by decide) (by decide) h.ls (by have := h.wt; omega)⟩
theorem SmA.nil {k : Nat} : SmA k 0 [] := ⟨by simp [PyData.showableAll], by simp [PyData.depthAll], by simp [PyData.leavesShortAll], by simp [PyData.weightAll]⟩
theorem SmA.cons {k a b : Nat} {d : PyData} {ds : List PyData} (h : SmW k a d) (r : SmA k b ds) : SmA k (a + b + 1) (d :: ds) := ⟨by simp only [PyData.showableAll, h.sh, r.sh, Bool.and_self], by
  have := h.dp
  have := r.dp
  simp only [PyData.depthAll]; omega, by simp only [PyData.leavesShortAll, h.ls, r.ls, Bool.and_self], by
  have := h.wt
  have := r.wt
  simp only [PyData.weightAll]; omega⟩
theorem SmA.lst {k w : Nat} {ds : List PyData} (h : SmA k w ds) : SmW (k + 1) (w + 10) (.list ds) := ⟨by rw [PyData.showable]; exact h.sh, by
  have := h.dp
  rw [PyData.depth]; omega, by rw [PyData.leavesShort]; exact h.ls, by
  have := h.wt
  rw [PyData.weight]; omega⟩
theorem SmW.up {k w k' w' : Nat} {d : PyData} (h : SmW k w d) (hk : k ≤ k') (hw : w ≤ w') : SmW k' w' d := ⟨h.sh, Nat.le_trans h.dp hk, h.ls, Nat.le_trans h.wt hw⟩
theorem SmA.up {k w k' w' : Nat} {ds : List PyData} (h : SmA k w ds) (hk : k ≤ k') (hw : w ≤ w') : SmA k' w' ds := ⟨h.sh, Nat.le_trans h.dp hk, h.ls, Nat.le_trans h.wt hw⟩
theorem sm_strs {ns ls : List Str} (hn : NmL ns) (h : ∀ l ∈ ls, LitN ns l) : SmA 1 (10 * ls.length) (ls.map .str) := by
  obtain ⟨a1, a2, a3⟩ := strs_small hn ls h
  have d := depthS ls
  exact ⟨a2, by omega, a1, a3⟩
theorem sm_tupsA {ns : List Str} {cs : List (List Str)} (hn : NmL ns) (h : ∀ c ∈ cs, c.length ≤ 60 ∧ ∀ l ∈ c, LitN ns l) : SmA 2 (602 * cs.length) (cs.map fun c => .tuple (c.map .str)) := by
  obtain ⟨h1, h2, h3⟩ := tups_smallG hn cs h
  have h4 := depthT cs
  exact ⟨h2, by omega, h1, h3⟩
theorem sm_nat {n : Nat} (h : n ≤ 1000) : SmW 1 40 (.int (n : Nat)) := by
  have key : ∀ n, n ≤ 1000 → (PyData.int (n : Nat)).leavesShort 13 = true ∧ (PyData.int (n : Nat)).weight ≤ 40 ∧ (PyData.int (n : Nat)).showable = true := by decide +kernel
  exact ⟨(key n h).2.2, by simp [PyData.depth], (key n h).1, (key n h).2.1⟩
theorem pd_to {α β : Type} {R : Rl α} {T : Rl β} {f : α → β} {M : Hp} (h : ∀ x v, R x M v → T (f x) M v) : ∀ {xs : List α} {vs : List V}, Pd R M xs vs → Pd T M (xs.map f) vs
  | [], _, p => by cases p; exact .nil
  | x :: xs, _, p => by cases p with | cons q t => exact .cons (h _ _ q) (pd_to h t)
section
end
/-! a list of ours that grows, of known things -/
structure Ac {α : Type} (R : Rl α) (S : Strm) (M0 H0 : Hp) (p : Addr) (xs : List α) (M H : Hp) (k : Nat) : Prop where
  Z : Zs S M H k
  G : Gr M0 (S.cut H0) M (S.cut H)
  h0 : S.cut H0 p = none
  m : M p = none
  ex : ∃ vs, S.cut H p = some (.lst vs) ∧ Pd R M xs vs
section
variable {K : PySem.W.Frag} {α : Type} {R : Rl α} [Mon R] {S : Strm} {M0 H0 M H M' H' : Hp} {p : Addr} {xs : List α} {k j c i : Nat} {σ : Sl} {te : TE} {D : Ends} {tz : TS} {P : Pr}
theorem Ac.step (A : Ac R S M0 H0 p xs M H k) (g : Gr M (S.cut H) M' (S.cut H')) (a : S.At j H') : Ac R S M0 H0 p xs M' H' j := let ⟨vs, h, pd⟩ := A.ex; ⟨⟨g.mh, a⟩, A.G.trans g, A.h0, g.keep A.m h, vs, g.hh _ _ h, pd.mono g.mm⟩
theorem Ac.le (A : Ac R S M0 H0 p xs M H k) (e : j ≤ k) : Ac R S M0 H0 p xs M H j := ⟨A.Z.le e, A.G, A.h0, A.m, A.ex⟩
end
/-! a list that is newer than what was known -/
def NewL (M0 : Hp) {α : Type} (R : Rl α) : Rl (List α) := fun xs M v => ∃ p vs, v = .ref p ∧ M p = some (.lst vs) ∧ M0 p = none ∧ Pd R M xs vs
section
variable {K : PySem.W.Frag} {α : Type} {R : Rl α} {M0 M : Hp}
instance [Mon R] : Mon (NewL M0 R) := ⟨fun e ⟨p, vs, h1, h2, h3, h4⟩ => ⟨p, vs, h1, e _ _ h2, h3, h4.mono e⟩⟩
theorem NewL.li {xs : List α} {v : V} (h : NewL M0 R xs M v) : LiR R xs M v := let ⟨p, vs, h1, h2, _, h4⟩ := h; ⟨p, vs, h1, h2, h4⟩
theorem NewL.sq [Mon R] {xs : List α} {v : V} (h : NewL M0 R xs M v) : SqR K R xs M v := h.li.sq
end
section
end
theorem pd_mem {α : Type} {R : Rl α} {M : Hp} {xs : List α} {vs : List V} (h : Pd R M xs vs) : ∀ v ∈ vs, ∃ x ∈ xs, R x M v := by
  induction h with
  | nil => intro y hy; cases hy
  | cons p _ ih =>
    intro y hy
    rcases List.mem_cons.mp hy with rfl | hy
    · exact ⟨_, List.mem_cons_self .., p⟩
    · obtain ⟨x, hx, r⟩ := ih y hy
      exact ⟨x, List.mem_cons_of_mem _ hx, r⟩
section
end
end My

set_option Elab.async false
set_option linter.all false
set_option maxRecDepth 100000
set_option maxHeartbeats 1000000
namespace L3
open PySem PySem.Spec PyProof.Rows L2 SeqAt
/-! data at any depth, among which empty dicts may stand anywhere -/
mutual
inductive Dx (K : PySem.W.Frag) (M : Hp) : V → PyData → Prop
  | non : Dx K M .non .none
  | bl (b : Bool) : Dx K M (.bl b) (.bool b)
  | int (i : Int) : Dx K M (.int i) (.int i)
  | str (x : Str) : Dx K M (.str x) (.str x)
  | dct {a : Addr} : M a = some (.dK []) → Dx K M (.ref a) (.dict [])
  | lst {a : Addr} {xs : List V} {ds : List PyData} : SqL K M a xs → DxAll K M xs ds → Dx K M (.ref a) (.list ds)
  | tup {a : Addr} {xs : List V} {ds : List PyData} : SqT K M a xs → DxAll K M xs ds → Dx K M (.ref a) (.tuple ds)
inductive DxAll (K : PySem.W.Frag) (M : Hp) : List V → List PyData → Prop
  | nil : DxAll K M [] []
  | cons {v : V} {vs : List V} {d : PyData} {ds : List PyData} : Dx K M v d → DxAll K M vs ds → DxAll K M (v :: vs) (d :: ds)
end
mutual
theorem dx_mono {K : PySem.W.Frag} {M M' : Hp} (e : Same M M') : ∀ {v : V} {d : PyData}, Dx K M v d → Dx K M' v d
  | _, _, .non => .non
  | _, _, .bl b => .bl b
  | _, _, .int i => .int i
  | _, _, .str x => .str x
  | _, _, .dct h => .dct (e _ _ h)
  | _, _, .lst hs ha => .lst (sl_mono e hs) (dxa_mono e ha)
  | _, _, .tup hs ha => .tup (st_mono e hs) (dxa_mono e ha)
theorem dxa_mono {K : PySem.W.Frag} {M M' : Hp} (e : Same M M') : ∀ {vs : List V} {ds : List PyData}, DxAll K M vs ds → DxAll K M' vs ds
  | _, _, .nil => .nil
  | _, _, .cons h t => .cons (dx_mono e h) (dxa_mono e t)
end
mutual
theorem dx_of {K : PySem.W.Frag} {M : Hp} : ∀ {v : V} {d : PyData}, Dp K M v d → Dx K M v d
  | _, _, .non => .non
  | _, _, .bl b => .bl b
  | _, _, .int i => .int i
  | _, _, .str x => .str x
  | _, _, .lst hs ha => .lst hs (dxa_of ha)
  | _, _, .tup hs ha => .tup hs (dxa_of ha)
theorem dxa_of {K : PySem.W.Frag} {M : Hp} : ∀ {vs : List V} {ds : List PyData}, DpAll K M vs ds → DxAll K M vs ds
  | _, _, .nil => .nil
  | _, _, .cons h t => .cons (dx_of h) (dxa_of t)
end
abbrev DxR (K : PySem.W.Frag) : Rl PyData := fun d M v => Dx K M v d
instance {K : PySem.W.Frag} : Mon (DxR K) := ⟨fun e h => dx_mono e h⟩
section
end
section
end
section
end
end L3

set_option Elab.async false
set_option linter.all false
set_option maxRecDepth 100000
set_option maxHeartbeats 2000000
namespace L3
open PySem PySem.Spec PyProof.Rows PySem.Calls L2
/-! raise X(): an own exception class without __init__ -/
section
variable {X : Cx} {C : Addr} {bmB : List Value} {B newId initId : String}
theorem pmk_own0 {x : Str} {p pos : Pos} (F : ExcBaseFacts B newId initId bmB) (q : PySem.W.excIn X.K C bmB newId = true) (gC : X.mg x = some (.ref C)) (kC : PySem.W.keepIn X.K (.ref C) = true) (r : Raises X (.ref C)) (hg : Gl X x)
    (hdb : (x == ("__debug__" : Str)) = false := by decide) : PMk X (.Call (.Name x p) [] [] pos) (fun _ H Q => Q (.ref C) none H) := by
  intro pins s σ H Q I h
  refine wpAny_Call_Name_kw (ld_glob I hg gC ?_ hdb)
  refine PySem.W.callWith_K0 I.kIn kC ?_
  show wpAny _ _ (call (.ref C) []) _ _ _
  obtain ⟨bm, N, nm, qn, bs, hdct, sn, sub, ab, col, dd, k0, k1, k2, k3, k5, mN, hC, hN, hni, T⟩ := exc_obj I.kIn q
  refine wpAny_call_exc_subT F T hC hN hni (fun h' e hm => ?_) (Nat.zero_le _)
  exact mk_of I hm r h (I.hok.gone hm.new)
end
/-- what the written part says of such a class -/
structure RawC (K : PySem.W.Frag) (mg : Str → Option Value) (x : Str) (C : Addr) : Prop where
  gl : mg x = some (.ref C)
  kC : PySem.W.keepIn K (.ref C) = true
  q : PySem.W.excIn K C PySem.HandSPX.veTail "ValueError.__new__" = true
  s : PySem.W.subIn K (.ref C) (.type "BaseException") = some true
  t : PySem.W.typeIn K (.ref C) = some (.type "type")
def tRaw (C : Addr) (W : WX) : TS := fun _ σ H => W (.ref C) none σ H
theorem ps_raw {X : Cx} {W : WX} {x : Str} {C : Addr} {p p2 p3 : Pos} (R : RawC X.K X.mg x C) (hc : X.calm = true) (tk : Takes X W) (hg : Gl X x := by rfl) (hdb : (x == ("__debug__" : Str)) = false := by decide) : PS X (.Raise (some (.Call (.Name x p) [] [] p2)) none p3) (tRaw C W) :=
  ps_raise hc tk (pmk_own0 PySem.F.excBase_ValueError R.q R.gl R.kC (raises_own R.s R.t) hg hdb)
/-! == of two dicts with the same three keys -/
end L3

set_option Elab.async false
set_option linter.all false
set_option maxRecDepth 100000
set_option maxHeartbeats 1000000
namespace L3
open PySem PySem.Spec PyProof.Rows L2
section
end
end L3

set_option Elab.async false
set_option linter.all false
set_option maxRecDepth 100000
set_option maxHeartbeats 1000000
namespace L3
open PySem PySem.Spec PyProof.Rows L2 LamX
/-! the law's own end, several tables of code objects tracked from the start, empty (C39 for more than one) -/
section
end
end L3

set_option Elab.async false
set_option linter.all false
set_option maxRecDepth 100000
set_option maxHeartbeats 1000000
namespace L3
open PySem PySem.Spec PyProof.Rows L2 LamX
/-! lambdas where several tables of code objects are looked after -/
/-- what is known, beside tables -/
structure LTs (T : List (Addr × Str)) (M H : Hp) : Prop where
  mh : Same M H
  tb : Tabs T H
  mp : ∀ p ∈ T, M p.1 = none
  nt : ∀ a ps, M a ≠ some (.tbl ps)
section
variable {T : List (Addr × Str)} {M H M' H' : Hp} {σ : Sl} {P : Pr}
theorem LTs.step (L : LTs T M H) (g : Gr M H M' H') : LTs T M' H' := ⟨g.mh, fun p hp => (L.tb p hp).ext g.hh, fun p hp => by
  obtain ⟨ps, h, _⟩ := L.tb p hp
  exact g.keep (L.mp p hp) h, fun a ps e => L.nt a ps (g.nt a ps e)⟩
theorem LTs.idle (L : LTs T M H) (hh : Same H H') : LTs T M H' := L.step (.idle L.mh hh)
theorem LTs.lent {bs : List Addr} (L : LTs T M H) (hb : ∀ b ∈ bs, ∃ vs, H b = some (.lst vs)) : LTs T (withT M H bs) H := by
  refine ⟨lentS L.mh, L.tb, fun p hp => ?_, fun a ps e => ?_⟩
  · unfold withT
    rw [L.mp p hp]
    have np : p.1 ∉ bs := fun z => by
      obtain ⟨vs, h⟩ := hb _ z
      obtain ⟨ps, h2, _⟩ := L.tb p hp
      rw [h] at h2
      cases h2
    simp [np]
  · unfold withT at e
    cases z : M a with
    | some u =>
      rw [z] at e
      cases e
      exact L.nt a ps z
    | none =>
      rw [z] at e
      by_cases y : a ∈ bs
      · obtain ⟨vs, h⟩ := hb a y
        simp [y, h] at e
      · simp [y] at e
end
end L3

set_option Elab.async false
set_option linter.all false
set_option maxRecDepth 100000
set_option maxHeartbeats 1000000
namespace L3
open PySem PySem.Spec PyProof.Rows L2
/-! o += y by an own __iadd__ that may raise; o == y, y an instance of another own class; repr of data, or of a text beside a thing -/
theorem looks_inplace {M : Model} {h : Heap} {K : PySem.W.Frag} {C f : Addr} {cd : ClassData} {rest : List Value} (X : K.In h) (hc : PySem.W.clsIn K C = some cd) (hm : cd.mro = .ref C :: rest) (hs : PySem.W.findIn K (.ref C) (dunderI "add") = some (some (.ref f))) : PySem.W.Looks M h (fillsInplaceSlot (.ref C) "add" true) true := by
  intro A Q E s k q
  unfold fillsInplaceSlot
  refine wpAny_bind ((PySem.W.looks_clsIn X hc).andThen (f := fun cd => pure cd.mro) .now A _ E s k ?_)
  rw [hm, List.anyM_cons]
  refine wpAny_bind (wpAny_bind (PySem.W.looks_findIn X hs A _ E s k ?_))
  dsimp only
  rw [if_pos (show (!ownNameWrapper (.ref f) (dunderI "add")) = true from rfl)]
  refine wpAny_pure ?_
  rw [if_pos rfl]
  exact wpAny_pure q
def tIaddX (C : Addr) (sp : Sp) (E : XK) : TIp := fun x y H Q => ∃ a dx fs, x = V.ref a ∧ H a = some (.ins C dx fs) ∧ sp [.ref a, y] H (fun v H' => (∃ b, v = .ref b) ∧ Q v H') E
theorem pip_iadd {X : Cx} {C : Addr} {k : Nat} {ps : List Str} {sp : Sp} {E : XK} {W : WX} (o : OwnX X.prog X.w X.K X.mg X.base k C "__iadd__" ps sp) (hsf : PySem.W.selfFirst X.K C = true) (hr : Room k X.A) (tk : Takes X W) (hW : ∀ cls d σ H, E cls d H → W cls d σ H) : PIp X .Add (tIaddX C sp E) := by
  rintro pins s σ H x y u v Q I rx ry ⟨a, dx, fs, rfl, ha, q⟩
  obtain ⟨f, fd, F, hs, hf, hb⟩ := o
  cases (show u = Value.ref a from rx)
  obtain ⟨ox, od, J⟩ := own_inst I ha
  obtain ⟨m, hF⟩ := I.fr
  have KX := I.ok.mod.kin.keeps hF.keep
  obtain ⟨cd, rest, hcd, hm⟩ := PySem.W.ksp_first hsf
  have body : wpAny (model X.prog X.w) X.A (call (.ref f) [.ref a, v]) (fun w s' => ∃ b, w = .ref b ∧ EP X pins σ Q w s') X.xe s :=
    wpAny_mono (run_deep (us := [.ref a, v]) (vs := [.ref a, y]) F hr I.env0 hb (passes_call tk hW) I (.cons rfl (.cons ry .nil)) q) (fun w s' zz => by
      obtain ⟨z', H', I', rz, ⟨b, e⟩, qz⟩ := zz
      subst e
      cases (show w = Value.ref b from rz)
      exact ⟨b, rfl, .ref b, H', I', rfl, qz⟩) fun _ _ e => e
  unfold inplaceOp
  refine wpAny_holding (wpAny_bind (J.type.here (wpAny_bind ((looks_inplace KX hcd hm hs).here ?_))))
  dsimp only
  rw [if_pos rfl]
  refine wpAny_bind ?_
  unfold tryMethod
  refine wpAny_bind (PySem.W.special_fn KX J hs (beq_iff_eq.mp hf) (wpAny_mono body (fun w s' hv => ?_) fun _ _ e => e))
  obtain ⟨b, rfl, hv⟩ := hv
  exact wpAny_pure (wpAny_bind (wpAny_rule (wpAny_pure hv)))
section
variable {X : Cx} {k : Nat} {C D : Addr} {ps : List Str} {sp : Sp}
def rEqA (C D : Addr) (sp : Sp) : R2 := fun x y H Q => ∃ a b dx dy fs gs, x = V.ref a ∧ y = V.ref b ∧ H a = some (.ins C dx fs) ∧ H b = some (.ins D dy gs) ∧ sp [.ref a, .ref b] H (fun v H' => ∃ c, v = .bl c ∧ Q (.bl c) H') E0
theorem op_eqA (o : OwnSp X.prog X.w X.K X.mg X.base k C "__eq__" ps sp) (nf : PySem.W.notFirst X.K C (.ref D) = true) (hr : Room k X.A) : OpR X (compareOp .Eq) (rEqA C D sp) := by
  intro pins s σ H x y u v Q I rx ry h
  obtain ⟨f, fd, F, hs, hf, hb⟩ := o
  obtain ⟨a, b, dx, dy, fs, gs, rfl, rfl, ha, hb', q⟩ := h
  cases (show u = Value.ref a from rx)
  cases (show v = Value.ref b from ry)
  obtain ⟨ox, od, J⟩ := own_inst I ha
  obtain ⟨oy, od', J'⟩ := own_inst I hb'
  obtain ⟨m, hF⟩ := I.fr
  refine PySem.W.cmp_K (op := .Eq) (tb := .ref D) hr.units0 hF I.ok.mod.kin J J'.type nf hs hf (wpAny_mono (run_deep (us := [.ref a, .ref b]) (vs := [.ref a, .ref b]) F hr I.env0 hb pass0 I (.cons rfl (.cons rfl .nil)) q) (fun w s' z => ?_) fun _ _ x => x)
  obtain ⟨z', H', I', rz, c, e, qz⟩ := z
  subst e
  cases (show w = Value.bool c from rz)
  exact ⟨.bl c, H', I', rfl, qz⟩
end
/-- data, or a text beside a thing -/
def DxT (K : PySem.W.Frag) : Rl PyData := fun d M v => Dd K d M v ∨ ∃ t, txD t = d ∧ TxF K t M v
instance {K : PySem.W.Frag} : Mon (DxT K) := ⟨fun e h => h.imp (Mon.mono (R := Dd K) e) fun ⟨t, a, b⟩ => ⟨t, a, Mon.mono e b⟩⟩
def rReprT (K : PySem.W.Frag) : List V → Hp → VK → Prop := fun xs H Q => rRepr K xs H Q ∨ rReprF K xs H Q
theorem call_reprT {X : Cx} (hgu : X.A.guards = some []) (hu : X.A.units + 70 < cLine) : CallR X (.builtin "repr") (rReprT X.K) := by
  rintro pins s σ H xs us Q I r (h | h)
  · exact call_repr hgu hu pins s σ H xs us Q I r h
  · exact call_reprF hgu hu pins s σ H xs us Q I r h
theorem gv_reprT {K : PySem.W.Frag} {σ : Sl} {M : Hp} {te : TE} {d : PyData} (h : Gv te σ M (DxT K d)) (h1 : d.showable = true) (h2 : d.depth ≤ 64) (h3 : d.shown.length ≤ sizeLine) : Gv (tCB (rReprT K) (tCons te tNil)) σ M (Tx d.shown) := fun H mh Q q =>
  h H mh _ fun v M1 H1 g1 r => by
    rcases r with r | ⟨t, e, r⟩
    · exact .inl ⟨v, d, rfl, Mon.mono (R := Dd K) g1.mh r, h1, h2, h3, q _ M1 H1 g1 rfl⟩
    · subst e
      exact .inr ⟨v, t, rfl, Mon.mono (R := TxF K) g1.mh r, h1, h2, h3, q _ M1 H1 g1 rfl⟩
end L3

set_option Elab.async false
set_option linter.all false
set_option maxRecDepth 100000
set_option maxHeartbeats 4000000
namespace My
open PySem PySem.Spec PyProof.Rows L2 L3
section
variable {P : Program} {w : World} {K : PySem.W.Frag} {mg : Str → Option Value} {base : Heap}
def sp_is_listE (K : PySem.W.Frag) : Sp := sp1 (DdE K) (fun _ => True) fun d => Bl (isListD d)
theorem ok_is_listE {f : Addr} {fd : FuncData} (F : Fun K "is_list" "is_list" s_is_list f fd) (T : Bi mg) : FnOk P w K mg base CX0 1 f fd ["thing"] (sp_is_listE K) := by
  refine F.ok sc_is_list (fun vs H Q E h => ?_) (fun cdv A outer s H vs Q E hr h => ?_)
  · obtain ⟨x, M, v, rfl, _⟩ := h
    rfl
  · obtain ⟨d, M, v, rfl, mh, r1, hp, q⟩ := h
    refine ⟨_, (pss_one (ps_ret (pe_callB call_isiT (by rfl) T.isinstance boot_isinstance (pa_cons (pv 0) (pa_cons (pe_tup (pa_cons (pe_bltn (v := .ty "list") (u := .type "list") (by rfl) T.list (by decide +kernel) rfl) (pa_cons (pe_bltn (v := .ty "tuple") (u := .type "tuple") (by rfl) T.tuple (by decide +kernel) rfl) pa_nil))) pa_nil))))), ?_⟩
    have hv : Gv (tVar 0) (start ["thing"] [v]) M (DdE K d) := gv_var rfl r1
    cases d with
    | list _ => exact s_ret mh (gv_isi2E (b := true) (c := false) hv (by simp only [tyN]; decide +kernel) (by simp only [tyN]; decide +kernel)) q
    | tuple _ => exact s_ret mh (gv_isi2E (b := false) (c := true) hv (by simp only [tyN]; decide +kernel) (by simp only [tyN]; decide +kernel)) q
    | _ => exact s_ret mh (gv_isi2E (b := false) (c := false) hv (by simp only [tyN]; decide +kernel) (by simp only [tyN]; decide +kernel)) q
def sp_is_literalE (K : PySem.W.Frag) : Sp := sp2 (DdF K) (SqR K Tx) (fun d _ => shortD d) fun d ns => Bl (isLit ns d)
theorem ok_is_literalE {f : Addr} {fd : FuncData} (F : Fun K "is_literal" "is_literal" s_is_literal f fd) (T : Bi mg) (c_name_of : Cal P w K mg base 1 "name_of" ["literal"] (sp_name_of K)) : FnOk P w K mg base CX0 2 f fd ["thing", "names"] (sp_is_literalE K) := by
  refine F.ok sc_is_literal (fun vs H Q E h => ?_) (fun cdv A outer s H vs Q E hr h => ?_)
  · obtain ⟨x, y, M, v, w, rfl, _⟩ := h
    rfl
  · obtain ⟨d, ns, M, v, w, rfl, mh, r1, r2, hp, q⟩ := h
    have hu := hr.units
    refine ⟨_, (pss_one (ps_ret (pe_and (pe_callB call_isi (by rfl) T.isinstance boot_isinstance (pa_cons (pv 0) (pa_cons (pe_bltn (v := .ty "str") (u := .type "str") (by rfl) T.str (by decide +kernel) rfl) pa_nil))) (pe_one (pe_cmpR (op_inA hu) (pe_f c_name_of (hr.mono (by decide)) (pa_cons (pv 0) pa_nil)) (pv 1) (by rfl)))))), ?_⟩
    have hv : Gv (tVar 0) (start ["thing", "names"] [v, w]) M (DdF K d) := gv_var rfl r1
    cases d with
    | str x =>
      have e1 : v = .str x := by
        rcases r1 with h | ⟨h, _⟩
        · cases h; rfl
        · cases h
      cases e1
      exact s_ret mh (gv_is (gv_andV (gv_isiF (b := true) hv (by simp only [tyN]; decide +kernel)) fun _ => gv_inA (K := K) (gv_call1 (gv_var rfl rfl) hp) (gv_var rfl (.inl r2))) fun M' v h => by simpa [isLit] using h) q
    | _ => exact s_ret mh (gv_andV (c := false) (gv_isiF (b := false) hv (by simp only [tyN]; decide +kernel)) fun h => nomatch h) q
def sp_first_wrongE (K : PySem.W.Frag) : Sp := sp2 (DdE K) (SqR K Tx) (fun d _ => shortL d) fun d ns => OpN (firstWrong ns d)
theorem ok_first_wrongE {f : Addr} {fd : FuncData} (F : Fun K "first_wrong" "first_wrong" s_first_wrong f fd) (T : Bi mg) (c_is_list : Cal P w K mg base 1 "is_list" ["thing"] (sp_is_listE K)) (c_name_of : Cal P w K mg base 1 "name_of" ["literal"] (sp_name_of K))
    (c_is_literal : Cal P w K mg base 2 "is_literal" ["thing", "names"] (sp_is_literalE K)) : FnOk P w K mg base CX0 3 f fd ["things", "names"] (sp_first_wrongE K) := by
  refine F.ok sc_first_wrong (fun vs H Q E h => ?_) (fun cdv A outer s H vs Q E hr h => ?_)
  · obtain ⟨x, y, M, v, w, rfl, _⟩ := h
    rfl
  · obtain ⟨d, ns, M, v, w, rfl, mh, r1, r2, hp, q⟩ := h
    have hu := hr.units
    refine ⟨_, (pss_cons (ps_if (pt_not (pt_val (pe_f c_is_list (hr.mono (by decide)) (pa_cons (pv 0) pa_nil)))) (pss_one (ps_ret pe_int)) pss_nil)
      (pss_cons (ps_set (i := 2) sc_first_wrong.nd rfl (by first | exact .inl rfl | exact .inr rfl) (pe_lst pa_nil))
      (pss_cons (ps_for PassesOwn.never (by rfl) (pi_en (by rfl) T.enumerate (pa_cons (pv 0) pa_nil)) (pg_tup (by rfl) (pgs_cons (pg_name (i := 3) sc_first_wrong.nd rfl (by first | exact .inl rfl | exact .inr rfl)) (pgs_cons (pg_name (i := 4) sc_first_wrong.nd rfl (by first | exact .inl rfl | exact .inr rfl)) pgs_nil))) (pss_cons (ps_if (PW.pt (pw_or (pt_not (pt_val (pe_f c_is_literal (hr.mono (by decide)) (pa_cons (pv 4) (pa_cons (pv 1) pa_nil))))) (pw_or1 (pt_cmpR (op_inA hu) (pe_f c_name_of (hr.mono (by decide)) (pa_cons (pv 4) pa_nil)) (pv 2) (by rfl))))) (pss_one (ps_ret (pv 3))) pss_nil)
      (pss_one (ps_expr (pe_bm PySem.F.plainAttrs_list PySem.F.slot_list_append PySem.F.type_list_append mt_append (pv 2) (pa_cons (pe_f c_name_of (hr.mono (by decide)) (pa_cons (pv 4) pa_nil)) pa_nil))))))
      (pss_one (ps_ret pe_non))))), ?_⟩
    refine q_if mh (gt_not (gt_B (gv_call1 (gv_var rfl r1) trivial))) (fun hb H1 hh1 => ?_) (fun hb H1 hh1 => ?_)
    all_goals have g1 := Gr.idle mh hh1
    · refine s_ret g1.mh (P := It' 0) (gv_c rfl) fun v M' H' g r => q v M' H' (g1.trans g) ?_
      have : firstWrong ns d = some 0 := by
        cases d with
        | list _ => simp [isListD] at hb
        | tuple _ => simp [isListD] at hb
        | _ => rfl
      show v = match firstWrong ns d with | none => V.non | some i => V.int (i : Nat)
      rw [this]
      exact r
    · obtain ⟨ds, sq, efw, hlen, hsh⟩ : ∃ ds, SqR K (DdF K) ds M v ∧ firstWrong ns d = fwGo ns ds [] 0 ∧ ds.length ≤ 1000000 ∧ ∀ d ∈ ds, shortD d := by
        cases d with
        | list ds =>
          refine ⟨ds, ?_, rfl, hp.1, hp.2⟩
          rcases r1 with (h | ⟨h, _⟩) | ⟨a, es, vs, h, e, hs, pd⟩
          · exact sqF (dp_sqL h)
          · cases h
          · cases h
            exact .inl ⟨a, vs, e, hs, pd⟩
        | tuple ds =>
          refine ⟨ds, ?_, rfl, hp.1, hp.2⟩
          rcases r1 with (h | ⟨h, _⟩) | ⟨a, es, vs, h, e, hs, pd⟩
          · exact sqF (dp_sqT h)
          · cases h
          · cases h
        | _ => simp [isListD] at hb
      refine q_asgL g1.mh gl_nil fun p vs M2 H2 g2 h0 m0 hp2 hv => ?_
      subst hv
      have g02 := g1.trans g2
      refine q_forE (R1 := DdF K) (xs := ds) g2.mh (gv_var rfl (Mon.mono g02.mm sq))
        (fun M1' i σ' M' H' => ∃ y3 y4, Gr M H M' H' ∧ Same M1' M' ∧ Same M M' ∧ Own H M' H' p ((((ds.take i).map nameD)).map V.str) ∧ σ' = [some v, some w, some (.ref p), y3, y4] ∧ fwGo ns ds [] 0 = fwGo ns (ds.drop i) ((ds.take i).map nameD) i)
        (fun M3 H3 g3 => ⟨none, none, g02.trans g3, Same.refl _, (g02.trans g3).mm, Own.step ⟨g1.hh.free h0, m0, hp2⟩ g3, rfl, rfl⟩)
        (fun M3 i σ' M' H' ⟨_, _, g, s1, _⟩ => ⟨s1, g.mh⟩) ?_ ?_
      · rintro M3 i x v' σ' M' H' H'' sM hx ⟨y3, y4, g, s1, s2, ow, rfl, efw2⟩ gE rx
        have hxm : x ∈ ds := List.mem_of_getElem? hx
        have hil : i < ds.length := (List.getElem?_eq_some_iff.mp hx).1
        have g' := g.trans gE
        have ow' := ow.step gE
        have r2' : SqR K Tx ns M' w := Mon.mono s2 r2
        have et : ds.take (i + 1) = ds.take i ++ [x] := by rw [List.take_add_one, hx]; rfl
        have ed : ds.drop i = x :: ds.drop (i + 1) := by rw [List.drop_eq_getElem_cons hil]; congr 1; exact (List.getElem?_eq_some_iff.mp hx).2
        have up := ow'.up
        have pd := pd_of_tx (M := M') ((ds.take i).map nameD)
        refine q_if (ow'.fr g'.mh) (gt_or (c := decide (nameD x ∈ (ds.take i).map nameD)) (gt_not (gt_B (gv_call2 (R1 := DdF K) (R2 := SqR K Tx) (gv_var rfl (Mon.mono up rx)) (gv_var rfl (Mon.mono up r2')) (hsh x hxm)))) fun hl => ?_) (fun hb H4 hh4 => ?_) (fun hb H4 hh4 => ?_)
        · obtain ⟨y, rfl, _⟩ := lit_shape (d := x) (ns := ns) (by simpa using hl)
          have ex : v' = .str y := by
            rcases rx with h | ⟨h, _⟩
            · cases h; rfl
            · cases h
          cases ex
          exact gt_is (gt_test (gv_inA (K := K) (gv_call1 (gv_var rfl rfl) (hsh _ hxm)) (gv_var rfl (.inl (.inl (ow'.lst pd)))))) (by simp [nameD])
        · refine s_ret (P := It' (i : Nat)) (g'.mh.trans hh4) (gv_var rfl rfl) fun v5 M5 H5 g5 r5 => q v5 M5 H5 ((g'.trans (.idle g'.mh hh4)).trans g5) ?_
          show v5 = match firstWrong ns d with | none => V.non | some i => V.int (i : Nat)
          rw [efw, efw2, ed, fwGo, if_pos (by simpa using hb)]
          exact r5
        · obtain ⟨hb1, hb2⟩ : isLit ns x = true ∧ ¬ nameD x ∈ (ds.take i).map nameD := by simpa using hb
          obtain ⟨y, rfl, _⟩ := lit_shape hb1
          have ex : v' = .str y := by
            rcases rx with h | ⟨h, _⟩
            · cases h; rfl
            · cases h
          cases ex
          have g4 := g'.trans (.idle g'.mh hh4)
          have ow4 := ow'.idle hh4
          refine s_app (P := Tx (nameOf y)) g4.mh rfl ow4.h (szL (by simp; omega)) (gv_call1 (gv_var rfl rfl) (hsh _ hxm)) fun v5 M5 H5 g5 r5 => ?_
          cases r5
          have ow5 := ow4.step g5
          refine ⟨M5, _, _, (g4.trans g5).mut ow5.h0 ow5.m, s1.trans g5.mm, s2.trans g5.mm, ?_, rfl, ?_⟩
          · rw [et, List.map_append, List.map_append]
            exact ow5.put
          · rw [efw2, ed, fwGo, if_neg (by simpa using hb), et, List.map_append]
            rfl
      · rintro M3 σ' M' H' sM ⟨y3, y4, g, s1, s2, ow, rfl, efw2⟩
        refine s_ret g.mh (P := fun _ v => v = .non) (gv_c rfl) fun v M' H' g3 r => q v M' H' (g.trans g3) ?_
        show v = match firstWrong ns d with | none => V.non | some i => V.int (i : Nat)
        rw [efw, efw2, List.drop_length]
        exact r
end
end My

set_option Elab.async false
set_option linter.all false
set_option maxRecDepth 100000
set_option maxHeartbeats 4000000
namespace L3
open PySem PySem.Spec PyProof.Rows L2
end L3
namespace My
open PySem PySem.Spec PyProof.Rows L2 L3
theorem name_shape (x : Str) : x = nameOf x ∨ x = ("-" : Str) ++ nameOf x := by
  obtain ⟨l, rfl⟩ : ∃ l, x = SX.S l := ⟨_, (SX.S_tl x).symm⟩
  unfold nameOf
  cases l with
  | nil => left; rw [if_neg (by decide)]
  | cons c r =>
    rw [head1, tail1]
    by_cases h : SX.S [c] = ("-" : Str)
    · right
      rw [if_pos h]
      rw [minus] at h
      have := SX.S_inj h
      cases this
      rw [neg_S]
    · left
      rw [if_neg h]
theorem fw_none {ns : List Str} : ∀ {ys met : List Str} {i : Nat}, fwGo ns (ys.map PyData.str) met i = none → (∀ y ∈ ys, nameOf y ∈ ns ∧ nameOf y ∉ met) ∧ (ys.map nameOf).Nodup
  | [], _, _, _ => ⟨fun y h => (nomatch h), List.nodup_nil⟩
  | y :: ys, met, i, h => by
    rw [List.map_cons, fwGo] at h
    split at h
    · cases h
    · rename_i hn
      obtain ⟨h1, h2⟩ := not_or.mp hn
      obtain ⟨i1, i2⟩ := fw_none h
      have hy : nameOf y ∈ ns := by simpa [isLit] using h1
      have hm : nameOf y ∉ met := h2
      refine ⟨fun z hz => ?_, ?_⟩
      · rcases List.mem_cons.mp hz with rfl | hz
        · exact ⟨hy, hm⟩
        · exact ⟨(i1 z hz).1, fun q => (i1 z hz).2 (List.mem_append_left _ q)⟩
      · rw [List.map_cons]
        refine List.nodup_cons.mpr ⟨fun q => ?_, i2⟩
        obtain ⟨z, hz, e⟩ := List.mem_map.mp q
        exact (i1 z hz).2 (List.mem_append_right _ (by rw [e]; exact List.mem_singleton.mpr rfl))
theorem fw_lits_of {ns ys : List Str} (h : fwGo ns (ys.map PyData.str) [] 0 = none) : Lits ns ys := by
  obtain ⟨h1, h2⟩ := fw_none h
  exact ⟨h2, fun y hy => ⟨nameOf y, (h1 y hy).1, name_shape y⟩⟩
theorem fw_strs {ns : List Str} : ∀ {ds : List PyData} {met : List Str} {i : Nat}, fwGo ns ds met i = none → ∃ ys : List Str, ds = ys.map .str
  | [], _, _, _ => ⟨[], rfl⟩
  | d :: ds, met, i, h => by
    rw [fwGo] at h
    split at h
    · cases h
    · rename_i hn
      obtain ⟨h1, h2⟩ := not_or.mp hn
      obtain ⟨y, rfl, _⟩ := lit_shape (d := d) (ns := ns) (by simpa using h1)
      obtain ⟨ys, rfl⟩ := fw_strs h
      exact ⟨y :: ys, rfl⟩
theorem pd_strs {R : Rl PyData} {M : Hp} (hR : ∀ x v, R (.str x) M v → v = .str x) : ∀ {ys : List Str} {vs : List V}, Pd R M (ys.map .str) vs → Pd Tx M ys vs
  | [], _, h => by cases h; exact .nil
  | y :: ys, _, h => by cases h with | cons q t => exact .cons (hR _ _ q) (pd_strs hR t)
theorem dd_str {K : PySem.W.Frag} {M : Hp} {x : Str} {v : V} (h : Dd K (.str x) M v) : v = .str x := by cases h; rfl
theorem ddf_str {K : PySem.W.Frag} {M : Hp} {x : Str} {v : V} (h : DdF K (.str x) M v) : v = .str x := by
  rcases h with h | ⟨h, _⟩
  · exact dd_str h
  · cases h
theorem sq_strs {K : PySem.W.Frag} {R : Rl PyData} {M : Hp} {ys : List Str} {v : V} (hR : ∀ x v, R (.str x) M v → v = .str x) (h : SqR K R (ys.map .str) M v) : SqR K Tx ys M v := by
  rcases h with ⟨a, vs, e, hs, hp⟩ | ⟨a, vs, e, hs, hp⟩
  · exact .inl ⟨a, vs, e, hs, pd_strs hR hp⟩
  · exact .inr ⟨a, vs, e, hs, pd_strs hR hp⟩
/-- a thing that is let by is a list or tuple of literals -/
theorem dde_strs {K : PySem.W.Frag} {ns : List Str} {d : PyData} {M : Hp} {v : V} (h : firstWrong ns d = none) (r : DdE K d M v) : ∃ ys : List Str, SqR K Tx ys M v ∧ Lits ns ys ∧ (d = .list (ys.map .str) ∨ d = .tuple (ys.map .str)) := by
  cases d with
  | list ds =>
    obtain ⟨ys, rfl⟩ := fw_strs (show fwGo ns ds [] 0 = none from h)
    refine ⟨ys, ?_, fw_lits_of h, .inl rfl⟩
    rcases r with (h | ⟨h, _⟩) | ⟨a, es, vs, h, e, hs, pd⟩
    · exact sq_strs (fun _ _ => dd_str) (dp_sqL h)
    · cases h
    · cases h
      exact .inl ⟨a, vs, e, hs, pd_strs (fun _ _ => ddf_str) pd⟩
  | tuple ds =>
    obtain ⟨ys, rfl⟩ := fw_strs (show fwGo ns ds [] 0 = none from h)
    refine ⟨ys, ?_, fw_lits_of h, .inr rfl⟩
    rcases r with (h | ⟨h, _⟩) | ⟨a, es, vs, h, e, hs, pd⟩
    · exact sq_strs (fun _ _ => dd_str) (dp_sqT h)
    · cases h
    · cases h
  | _ => cases h
section
end
end My

set_option Elab.async false
set_option linter.all false
set_option maxRecDepth 100000
set_option maxHeartbeats 8000000
namespace My
open PySem PySem.Spec PyProof.Rows L2 L3
/-! a code that is asked: what it has, what lies in it, whether it is another one -/
structure CodeP (c : CodeD) : Prop where
  nm : NmL c.names
  l : ∀ x ∈ c.clauses, Lits c.names x
  n : c.names.length ≤ 100
  k : c.clauses.length ≤ 1000
theorem CodeP.len {c : CodeD} (X : CodeP c) : ∀ x ∈ c.clauses, x.length ≤ 100 := fun x hx => Nat.le_trans (lits_len (X.l x hx) X.nm) X.n
theorem CodeP.sh {c : CodeD} (X : CodeP c) : ∀ x ∈ c.clauses, shortL (.tuple (x.map .str)) := fun x hx => ⟨by rw [List.length_map]; have := X.len x hx; omega, fun d hd => by
  obtain ⟨y, hy, rfl⟩ := List.mem_map.mp hd
  exact Nat.le_trans (lits_short (X.l x hx) X.nm y hy) (by decide)⟩
theorem inst_code {C : Addr} (c : CodeD) : ∀ (M : Hp) (v : V), CodeR C c M v → ∃ a dx fs, v = .ref a ∧ M a = some (.ins C dx fs) := fun M v ⟨a, dx, va, vb, vn, vc, e, h, _⟩ => ⟨a, dx, _, e, h⟩
def sameN (xs ys : List Str) : Bool := decide (xs.length = ys.length) && xs.all fun x => decide (x ∈ ys)
theorem sameN_self (xs : List Str) : sameN xs xs = true := by unfold sameN; simp
def strsOf (ds : List PyData) : List Str := ds.filterMap fun d => match d with | .str x => some x | _ => none
theorem strs_map (xs : List Str) : strsOf (xs.map PyData.str) = xs := by
  unfold strsOf
  rw [List.filterMap_map]
  induction xs with
  | nil => rfl
  | cons x xs ih => rw [List.filterMap_cons]; exact congrArg (x :: ·) ih
def inD (c : CodeD) (d : PyData) : Bool := decide (firstWrong c.names d = none) && decide (asc (strsOf (itemsD d)) c.names ∈ c.clauses)
def eqC (a b : CodeD) : Bool := decide (a.clauses.length = b.clauses.length) && (sameN a.signs b.signs && (sameN a.helpers b.helpers && a.clauses.all fun x => inD b (.tuple (x.map .str))))
section
variable {P : Program} {w : World} {K : PySem.W.Frag} {mg : Str → Option Value} {base : Heap}
abbrev s_Code_signs : Stmt := inClass (topS 27) 1
theorem sc_Code_signs : FnScope ["self"] ["self"] (defScope s_Code_signs) := ⟨rfl, rfl, rfl, by decide +kernel, rfl, by decide +kernel, by decide +kernel⟩
def sp_Code_signs (K : PySem.W.Frag) (C : Addr) : Sp := sp1 (CodeR C) (fun _ => True) fun c => LiR Tx c.signs
theorem ok_Code_signs {f C : Addr} {fd : FuncData} (F : Fun K "signs" "Code.signs" s_Code_signs f fd) (T : Gc mg) (TC : CodeT K mg C) : FnOk P w K mg base CX0 1 f fd ["self"] (sp_Code_signs K C) := by
  refine F.ok sc_Code_signs (fun vs H Q E h => ?_) (fun cdv A outer s H vs Q E hr h => ?_)
  · obtain ⟨x, M, v, rfl, _⟩ := h
    rfl
  · obtain ⟨c, M, v, rfl, mh, r1, _, q⟩ := h
    have hu := hr.units
    refine ⟨_, (pss_one (ps_ret (pe_callTy call_lstA (by rfl) T.list boot_list (pa_cons (pe_fld (pv 0) rfl) pa_nil)))), ?_⟩
    exact s_ret mh (gl_lstOf (K := K) (R1 := Tx) (gv_is (gv_sign TC (gv_var rfl r1)) fun _ _ h => h.sq)).li q
abbrev s_Code_helpers : Stmt := inClass (topS 27) 2
theorem sc_Code_helpers : FnScope ["self"] ["self"] (defScope s_Code_helpers) := ⟨rfl, rfl, rfl, by decide +kernel, rfl, by decide +kernel, by decide +kernel⟩
def sp_Code_helpers (K : PySem.W.Frag) (C : Addr) : Sp := sp1 (CodeR C) (fun _ => True) fun c => LiR Tx c.helpers
theorem ok_Code_helpers {f C : Addr} {fd : FuncData} (F : Fun K "helpers" "Code.helpers" s_Code_helpers f fd) (T : Gc mg) (TC : CodeT K mg C) : FnOk P w K mg base CX0 1 f fd ["self"] (sp_Code_helpers K C) := by
  refine F.ok sc_Code_helpers (fun vs H Q E h => ?_) (fun cdv A outer s H vs Q E hr h => ?_)
  · obtain ⟨x, M, v, rfl, _⟩ := h
    rfl
  · obtain ⟨c, M, v, rfl, mh, r1, _, q⟩ := h
    have hu := hr.units
    refine ⟨_, (pss_one (ps_ret (pe_callTy call_lstA (by rfl) T.list boot_list (pa_cons (pe_fld (pv 0) rfl) pa_nil)))), ?_⟩
    exact s_ret mh (gl_lstOf (K := K) (R1 := Tx) (gv_is (gv_helper TC (gv_var rfl r1)) fun _ _ h => h.sq)).li q
abbrev s_Code_clauses : Stmt := inClass (topS 27) 3
theorem sc_Code_clauses : FnScope ["self"] ["self"] (defScope s_Code_clauses) := ⟨rfl, rfl, rfl, by decide +kernel, rfl, by decide +kernel, by decide +kernel⟩
def sp_Code_clauses (K : PySem.W.Frag) (C : Addr) : Sp := sp1 (CodeR C) (fun _ => True) fun c => LiR TT c.clauses
theorem ok_Code_clauses {f C : Addr} {fd : FuncData} (F : Fun K "clauses" "Code.clauses" s_Code_clauses f fd) (T : Gc mg) (TC : CodeT K mg C) : FnOk P w K mg base CX0 1 f fd ["self"] (sp_Code_clauses K C) := by
  refine F.ok sc_Code_clauses (fun vs H Q E h => ?_) (fun cdv A outer s H vs Q E hr h => ?_)
  · obtain ⟨x, M, v, rfl, _⟩ := h
    rfl
  · obtain ⟨c, M, v, rfl, mh, r1, _, q⟩ := h
    have hu := hr.units
    refine ⟨_, (pss_one (ps_ret (pe_callTy call_lstA (by rfl) T.list boot_list (pa_cons (pe_fld (pv 0) rfl) pa_nil)))), ?_⟩
    exact s_ret mh (gl_lstOf (K := K) (R1 := TT) (gv_is (gv_clause TC (gv_var rfl r1)) fun _ _ h => h.sq)).li q
theorem gv_clauses {σ : Sl} {M : Hp} {C : Addr} {c : CodeD} {te : TE} (h : Gv te σ M (CodeR C c)) : Gv (tMeth C "clauses" (sp_Code_clauses K C) [] E0 te tNil) σ M (LiR TT c.clauses) :=
  gv_met1 (R1 := CodeR C) (pre := fun _ => True) (R := fun c => LiR TT c.clauses) (x := c) (insR_code (by decide +kernel) (by decide +kernel) (by decide +kernel) (by decide +kernel)) h trivial
theorem gv_signsM {σ : Sl} {M : Hp} {C : Addr} {c : CodeD} {te : TE} (h : Gv te σ M (CodeR C c)) : Gv (tMeth C "signs" (sp_Code_signs K C) [] E0 te tNil) σ M (LiR Tx c.signs) :=
  gv_met1 (R1 := CodeR C) (pre := fun _ => True) (R := fun c => LiR Tx c.signs) (x := c) (insR_code (by decide +kernel) (by decide +kernel) (by decide +kernel) (by decide +kernel)) h trivial
theorem gv_helpersM {σ : Sl} {M : Hp} {C : Addr} {c : CodeD} {te : TE} (h : Gv te σ M (CodeR C c)) : Gv (tMeth C "helpers" (sp_Code_helpers K C) [] E0 te tNil) σ M (LiR Tx c.helpers) :=
  gv_met1 (R1 := CodeR C) (pre := fun _ => True) (R := fun c => LiR Tx c.helpers) (x := c) (insR_code (by decide +kernel) (by decide +kernel) (by decide +kernel) (by decide +kernel)) h trivial
abbrev s_are_same : Stmt := topS 28
theorem sc_are_same : FnScope ["names", "others", "name"] ["names", "others"] (defScope s_are_same) := ⟨rfl, rfl, rfl, by decide +kernel, rfl, by decide +kernel, by decide +kernel⟩
def sp_are_same (K : PySem.W.Frag) : Sp := sp2 (SqR K Tx) (SqR K Tx) (fun xs _ => xs.length ≤ 1000000) fun xs ys => Bl (sameN xs ys)
theorem ok_are_same {f : Addr} {fd : FuncData} (F : Fun K "are_same" "are_same" s_are_same f fd) (T : Gc mg) : FnOk P w K mg base CX0 1 f fd ["names", "others"] (sp_are_same K) := by
  refine F.ok sc_are_same (fun vs H Q E h => ?_) (fun cdv A outer s H vs Q E hr h => ?_)
  · obtain ⟨x, y, M, v, w, rfl, _⟩ := h
    rfl
  · obtain ⟨xs, ys, M, v, w, rfl, mh, r1, r2, hl, q⟩ := h
    have hu := hr.units
    refine ⟨_, (pss_one (ps_ret (pe_and (pe_cmpR (op_eqP hu) (pe_callB call_lenA (by rfl) T.len boot_len (pa_cons (pv 0) pa_nil)) (pe_callB call_lenA (by rfl) T.len boot_len (pa_cons (pv 1) pa_nil)) (nomark _)) (pe_one (pe_callB (cr_all rfl) (by rfl) T.all boot_all (pa_cons (pe_lc (own := [("name", 2)]) (g := (gName 2)) (tt := tYes) (te := (tOp (rInA K false) (tVar 2) (tVar 1))) (by rfl) sc_are_same.nd (pi_sq (pv 0)) (blkOk_by (by rfl)) (fun _ _ _ _ _ => (pg_name (i := 2) sc_are_same.nd rfl (by first | exact .inl rfl | exact .inr rfl))) (fun _ _ _ _ _ => pts_nil) (fun _ _ _ _ _ => (pe_cmpR (op_inA hu) (pv 2) (pv 1) (by rfl)))) pa_nil)))))), ?_⟩
    refine s_ret mh (gv_is (gv_andV (b := decide (xs.length = ys.length)) (c := xs.all fun x => decide (x ∈ ys)) (gv_is (gv_eqT (K := K) (neg := false) (x := (xs.length : Int)) (y := (ys.length : Int)) py_int inj_int (gv_lenA (K := K) (R := Tx) (gv_var rfl r1)) (gv_lenA (K := K) (R := Tx) (gv_var rfl r2)) (by simp [PyData.depth])) fun M v h => by
      rw [show v = _ from h]; show V.bl _ = V.bl _; congr 1; simp [Int.ofNat_inj]) fun _ => gv_is (gv_all (K := K) (gl_m1 (S := Bl) (R := Tx) (xs := xs) (gi_sq (K := K) (gv_var rfl r1)) (szK hl) (fun x => decide (x ∈ ys)) fun x _ M1 u sm ru => gv_is (gv_inA (K := K) (neg := false) (gv_var rfl ru) (gv_var rfl (.inl (Mon.mono sm r2)))) fun M v h => by simpa using h)) fun M v h => by rw [show v = _ from h, List.all_map]; rfl) fun M v h => h) q
abbrev s_Code_contains : Stmt := inClass (topS 27) 6
theorem sc_Code_contains : FnScope ["self", "thing"] ["self", "thing"] (defScope s_Code_contains) := ⟨rfl, rfl, rfl, by decide +kernel, rfl, by decide +kernel, by decide +kernel⟩
def sp_Code_containsE (K : PySem.W.Frag) (C : Addr) : Sp := sp2 (CodeR C) (DdE K) (fun c d => Shorts c.names ∧ shortL d) fun c d => Bl (inD c d)
theorem ok_Code_containsE {f C : Addr} {fd : FuncData} (F : Fun K "__contains__" "Code.__contains__" s_Code_contains f fd) (TC : CodeT K mg C) (c_first_wrong : Cal P w K mg base 3 "first_wrong" ["things", "names"] (sp_first_wrongE K)) (c_ascending : Cal P w K mg base 1 "ascending" ["literals", "names"] (sp_ascending K)) : FnOk P w K mg base CX0 4 f fd ["self", "thing"] (sp_Code_containsE K C) := by
  refine F.ok sc_Code_contains (fun vs H Q E h => ?_) (fun cdv A outer s H vs Q E hr h => ?_)
  · obtain ⟨x, y, M, v, w, rfl, _⟩ := h
    rfl
  · obtain ⟨c, d, M, v, w, rfl, mh, r1, r2, ⟨hs, hd⟩, q⟩ := h
    have hu := hr.units
    refine ⟨_, (pss_one (ps_ret (pe_and (pe_cmp (pc_isN (pe_f c_first_wrong (hr.mono (by decide)) (pa_cons (pv 1) (pa_cons (pe_fld (pv 0) rfl) pa_nil))))) (pe_one (pe_cmpR (op_inA hu) (pe_f c_ascending (hr.mono (by decide)) (pa_cons (pv 1) (pa_cons (pe_fld (pv 0) rfl) pa_nil))) (pe_fld (pv 0) rfl) (by rfl)))))), ?_⟩
    refine s_ret mh (gv_andV (b := decide (firstWrong c.names d = none)) (c := decide (asc (strsOf (itemsD d)) c.names ∈ c.clauses)) (gv_isN (b := decide (firstWrong c.names d = none)) (gv_call2 (R1 := DdE K) (R2 := SqR K Tx) (pre := fun d _ => shortL d) (R := fun d ns => OpN (firstWrong ns d)) (x := d) (y := c.names) (gv_var rfl r2) (gv_is (gv_names TC (gv_var rfl r1)) fun _ _ h => h.sq) hd) fun M v h => ?_) fun hb => ?_) q
    · have h : OpN (firstWrong c.names d) M v := h
      revert h
      cases firstWrong c.names d with
      | none => intro h; cases (show v = .non from h); rfl
      | some i => intro h; cases (show v = .int _ from h); rfl
    · obtain ⟨ys, ry, Ly, ed⟩ := dde_strs (of_decide_eq_true hb) r2
      have e : strsOf (itemsD d) = ys := by
        rcases ed with e | e <;> rw [e] <;> exact strs_map ys
      rw [e]
      exact gv_is (gv_inD (K := K) (R := TT) (neg := false) py_TT inj_TT (gv_call2 (R1 := CtR K) (R2 := SqR K Tx) (pre := fun _ ns => Shorts ns) (R := fun ls ns => TT (asc ls ns)) (x := ys) (y := c.names) (gv_var rfl (.inl ry)) (gv_is (gv_names TC (gv_var rfl r1)) fun _ _ h => h.sq) hs) (gv_is (gv_clause TC (gv_var rfl r1)) fun _ _ h => h.sq) (by simp [PyData.depth, depthS])) fun M v h => by rw [show v = _ from h]; show V.bl _ = V.bl _; congr 1; simp
abbrev s_Code_eq : Stmt := inClass (topS 27) 7
theorem sc_Code_eq : FnScope ["self", "other", "clause"] ["self", "other"] (defScope s_Code_eq) := ⟨rfl, rfl, rfl, by decide +kernel, rfl, by decide +kernel, by decide +kernel⟩
def sp_Code_eq (K : PySem.W.Frag) (C : Addr) : Sp := sp2 (CodeR C) (CodeR C) (fun a b => CodeP a ∧ CodeP b) fun a b => Bl (eqC a b)
theorem ok_Code_eq {f C : Addr} {fd : FuncData} (F : Fun K "__eq__" "Code.__eq__" s_Code_eq f fd) (T : Gc mg) (TC : CodeT K mg C) (IC : InsF K C) (g_Code : mg "Code" = some (.ref C)) (o_len : OwnLen P w K mg base 1 C (sp_Code_len K C)) (o_in : OwnSp P w K mg base 4 C "__contains__" ["self", "thing"] (sp_Code_containsE K C)) (c_are_same : Cal P w K mg base 1 "are_same" ["names", "others"] (sp_are_same K)) : FnOk P w K mg base CX0 5 f fd ["self", "other"] (sp_Code_eq K C) := by
  refine F.ok sc_Code_eq (fun vs H Q E h => ?_) (fun cdv A outer s H vs Q E hr h => ?_)
  · obtain ⟨x, y, M, v, w, rfl, _⟩ := h
    rfl
  · obtain ⟨a, b, M, v, w, rfl, mh, r1, r2, ⟨XA, XB⟩, q⟩ := h
    have hu := hr.units
    refine ⟨_, (pss_cons (ps_if (PW.pt (pw_or (pt_not (pt_val (pe_callB call_isi (by rfl) T.isinstance boot_isinstance (pa_cons (pv 1) (pa_cons (pe_glob (v := .ref C) (by rfl) g_Code rfl) pa_nil))))) (pw_or1 (pt_cmpR (op_neP hu) (pe_callB (call_lenO o_len (hr.mono (by decide))) (by rfl) T.len boot_len (pa_cons (pv 0) pa_nil)) (pe_callB (call_lenO o_len (hr.mono (by decide))) (by rfl) T.len boot_len (pa_cons (pv 1) pa_nil)) (nomark _))))) (pss_one (ps_ret pe_bl)) pss_nil)
      (pss_cons (ps_if (PW.pt (pw_or (pt_not (pt_val (pe_f c_are_same (hr.mono (by decide)) (pa_cons (pe_fld (pv 0) rfl) (pa_cons (pe_fld (pv 1) rfl) pa_nil))))) (pw_or1 (pt_not (pt_val (pe_f c_are_same (hr.mono (by decide)) (pa_cons (pe_fld (pv 0) rfl) (pa_cons (pe_fld (pv 1) rfl) pa_nil)))))))) (pss_one (ps_ret pe_bl)) pss_nil)
      (pss_one (ps_ret (pe_callB (cr_all rfl) (by rfl) T.all boot_all (pa_cons (pe_lc (own := [("clause", 2)]) (g := (gName 2)) (tt := tYes) (te := (tOp (rInO C (sp_Code_containsE K C) false) (tVar 2) (tVar 1))) (by rfl) sc_Code_eq.nd (pi_sq (pe_fld (pv 0) rfl)) (blkOk_by (by rfl)) (fun _ _ _ _ _ => (pg_name (i := 2) sc_Code_eq.nd rfl (by first | exact .inl rfl | exact .inr rfl))) (fun _ _ _ _ _ => pts_nil) (fun _ _ _ _ _ => (pe_cmpR (op_inO o_in (hr.mono (by decide))) (pv 2) (pv 1) (by rfl)))) pa_nil)))))), ?_⟩
    have ka := XA.k
    have kb := XB.k
    have na : a.names.length = a.signs.length + a.helpers.length := List.length_append
    have nn := XA.n
    have glen : ∀ {σ' : Sl} {te : TE} {d : CodeD}, d.clauses.length ≤ 1000 → Gv te σ' M (CodeR C d) → Gv (tCB (rLenO C (sp_Code_len K C)) (tCons te tNil)) σ' M (It' (d.clauses.length : Nat)) := fun hk h => gv_lenO (R1 := CodeR C) (pre := fun _ => True) (R := fun c => It' (c.clauses.length : Nat)) h (fun M v r => inst_code _ M v r) trivial (by omega) fun _ _ r => r
    have gsame : ∀ {σ' : Sl} {M' : Hp} {t1 t2 : TE} {xs ys : List Str}, xs.length ≤ 1000000 → Gv t1 σ' M' (TT xs) → Gv t2 σ' M' (TT ys) → Gv (tCall (sp_are_same K) [] E0 (tCons t1 (tCons t2 tNil))) σ' M' (Bl (sameN xs ys)) := fun hl h1 h2 => gv_call2 (R1 := SqR K Tx) (R2 := SqR K Tx) (pre := fun xs _ => xs.length ≤ 1000000) (R := fun xs ys => Bl (sameN xs ys)) (gv_is h1 fun _ _ h => h.sq) (gv_is h2 fun _ _ h => h.sq) hl
    have fin : ∀ (z : V) (M' H' : Hp) (e : Bool), Gr M H M' H' → z = .bl e → e = eqC a b → Q z H' := fun z M' H' e g hz he => q z M' H' g (by rw [hz, he])
    refine q_if0 (b := !decide (a.clauses.length = b.clauses.length)) mh (gt_is (gt_or (b := false) (c := !decide (a.clauses.length = b.clauses.length)) (gt_is (gt_not (gt_B (gv_isC (K := K) IC (gv_var (P := CodeR C b) rfl r2) (inst_code b)))) rfl) fun _ => gt_is (gt_test (gv_eqT (K := K) (neg := true) (x := (a.clauses.length : Int)) (y := (b.clauses.length : Int)) py_int inj_int (glen ka (gv_var rfl r1)) (glen kb (gv_var rfl r2)) (by simp [PyData.depth]))) (by simp [Int.ofNat_inj])) (by simp)) (fun hb H1 hh1 => ?_) fun hb H1 hh1 => ?_
    · exact s_ret (P := Bl false) (mh.trans hh1) (gv_c rfl) fun z M' H' g r => fin z M' H' false (.trans (.idle mh hh1) g) r (by unfold eqC; rw [show decide (a.clauses.length = b.clauses.length) = false by simpa using hb]; rfl)
    have e0 : decide (a.clauses.length = b.clauses.length) = true := by simpa using hb
    have G1 : Gr M H M H1 := .idle mh hh1
    refine q_if0 (b := !sameN a.signs b.signs || !sameN a.helpers b.helpers) G1.mh (gt_or (b := !sameN a.signs b.signs) (c := !sameN a.helpers b.helpers) (gt_not (gt_B (gsame (by omega) (gv_sign TC (gv_var rfl r1)) (gv_sign TC (gv_var rfl r2))))) fun _ => gt_not (gt_B (gsame (by omega) (gv_helper TC (gv_var rfl r1)) (gv_helper TC (gv_var rfl r2))))) (fun hb H2 hh2 => ?_) fun hb H2 hh2 => ?_
    · refine s_ret (P := Bl false) (G1.mh.trans hh2) (gv_c rfl) fun z M' H' g r => fin z M' H' false ((G1.trans (.idle G1.mh hh2)).trans g) r ?_
      unfold eqC
      rw [e0]
      revert hb
      cases sameN a.signs b.signs <;> cases sameN a.helpers b.helpers <;> simp
    have G2 := G1.trans (.idle G1.mh hh2)
    refine s_ret G2.mh (gv_all (K := K) (gl_m1 (S := Bl) (R := TT) (xs := a.clauses) (gi_sq (K := K) (gv_is (gv_clause TC (gv_var rfl r1)) fun _ _ h => h.sq)) (szK (by omega)) (fun x => inD b (.tuple (x.map .str))) fun x hx M1 u sm ru => gv_is (gv_inO (R1 := CodeR C) (R2 := DdE K) (pre := fun c d => Shorts c.names ∧ shortL d) (B := inD) (x := b) (y := .tuple (x.map .str)) (neg := false) (gv_is (gv_var rfl ru) fun M v h => .inl (.inl (py_TT _ _ _ h))) (gv_var rfl (Mon.mono sm r2)) (inst_code b) ⟨nm_shorts XB.nm, XA.sh x hx⟩) fun M v h => by simpa using h)) fun z M' H' g r => fin z M' H' _ (G2.trans g) r ?_
    unfold eqC
    rw [e0]
    revert hb
    cases sameN a.signs b.signs <;> cases sameN a.helpers b.helpers <;> simp [List.all_map, Function.comp_def]
end
end My

set_option Elab.async false
set_option linter.all false
set_option maxRecDepth 100000
set_option maxHeartbeats 8000000
namespace My
open PySem PySem.Spec PyProof.Rows L2 L3
/-! following from the keys of a dict -/
section
end
section
end
end My

set_option Elab.async false
set_option linter.all false
set_option maxRecDepth 100000
set_option maxHeartbeats 8000000
namespace My
open PySem PySem.Spec PyProof.Rows L2 L3
/-! somebody who is led -/
structure LedT (K : PySem.W.Frag) (CL : Addr) : Prop where
  cl : Cls K CL
  nK : NoAttr K CL "kept"
  nP : NoAttr K CL "put_row"
  nM : NoAttr K CL "moments"
abbrev ledF (vc : V) (p q : Addr) : List (Str × V) := [("kept", vc), ("put_row", .ref p), ("moments", .ref q)]
structure LedD where
  c : CodeD
  ls : List Str
  ss : List (Option (List Str))
  o : Option (List Str)
/-- somebody led, all of him known -/
def LedR (CL C : Addr) : Rl LedD := fun d M v => ∃ x dx vc p q ms, v = .ref x ∧ M x = some (.ins CL dx (ledF vc p q)) ∧ CodeR C d.c M vc ∧ M p = some (.lst (d.ls.map V.str)) ∧ M q = some (.lst ms) ∧ Pd (OpR' DcF) M (d.ss ++ [d.o]) ms
instance {CL C : Addr} : Mon (LedR CL C) := ⟨fun e ⟨x, dx, vc, p, q, ms, h1, h2, h3, h4, h5, h6⟩ => ⟨x, dx, vc, p, q, ms, h1, e _ _ h2, Mon.mono e h3, e _ _ h4, e _ _ h5, h6.mono e⟩⟩
theorem atI_lastD {α : Type} (xs : List α) (x : α) : atI (xs ++ [x]) (-1) = some x := by
  have h : ixN (xs ++ [x]).length (-1) = some xs.length := by
    unfold ixN
    rw [List.length_append]
    simp only [List.length_cons, List.length_nil]
    rw [if_neg (by omega), if_pos (by omega)]
    congr 1
    omega
  unfold atI
  rw [h]
  show (xs ++ [x])[xs.length]? = some x
  rw [List.getElem?_append_right (Nat.le_refl _), Nat.sub_self]
  rfl
section
variable {K : PySem.W.Frag} {σ : Sl} {M : Hp} {te to t : TE} {CL C : Addr} {d : LedD}
theorem gv_minusD : Gv (tUn (rU fun i => .int (-i)) (tC (.int 1))) σ M (It' (-1)) := fun H mh Q q => ⟨1, rfl, q (.int (-1)) M H (.refl mh) rfl⟩
theorem gv_kept (T : LedT K CL) (h : Gv te σ M (LedR CL C d)) : Gv (tFld K te "kept") σ M (CodeR C d.c) := gv_fld h fun M' v ⟨x, dx, vc, p, q, ms, h1, h2, h3, h4, h5, h6⟩ => ⟨x, CL, dx, _, _, h1, h2, T.cl, T.nK, rfl, h3⟩
theorem gv_putrow (T : LedT K CL) (h : Gv te σ M (LedR CL C d)) : Gv (tFld K te "put_row") σ M (LiR Tx d.ls) := gv_fld h fun M' v ⟨x, dx, vc, p, q, ms, h1, h2, h3, h4, h5, h6⟩ => ⟨x, CL, dx, _, .ref p, h1, h2, T.cl, T.nP, rfl, ⟨p, _, rfl, h4, pd_of_tx _⟩⟩
theorem gv_moments (T : LedT K CL) (h : Gv te σ M (LedR CL C d)) : Gv (tFld K te "moments") σ M (LiR (OpR' DcF) (d.ss ++ [d.o])) := gv_fld h fun M' v ⟨x, dx, vc, p, q, ms, h1, h2, h3, h4, h5, h6⟩ => ⟨x, CL, dx, _, .ref q, h1, h2, T.cl, T.nM, rfl, ⟨q, ms, rfl, h5, h6⟩⟩
theorem gv_lastM (T : LedT K CL) (h : Gv te σ M (LedR CL C d)) : Gv (tOp (rIxX K) (tFld K te "moments") (tUn (rU fun i => .int (-i)) (tC (.int 1)))) σ M (OpR' DcF d.o) := gv_ix (K := K) (R := OpR' DcF) (gv_is (gv_moments T h) fun _ _ h => LiR.sq h) gv_minusD (atI_lastD _ _)
theorem insR_led {m : Str} (h1 : ¬ m = ("kept" : Str)) (h2 : ¬ m = ("put_row" : Str)) (h3 : ¬ m = ("moments" : Str)) : InsR CL m (LedR CL C d) := fun M v ⟨x, dx, vc, p, q, ms, e, h, _⟩ => ⟨x, dx, _, e, h, by
  show List.lookup m [("kept", vc), ("put_row", V.ref p), ("moments", V.ref q)] = none
  simp [List.lookup, h1, h2, h3, beq_eq_false_iff_ne.mpr h1, beq_eq_false_iff_ne.mpr h2, beq_eq_false_iff_ne.mpr h3]⟩
end
section
variable {P : Program} {w : World} {K : PySem.W.Frag} {mg : Str → Option Value} {base : Heap}
/-- Code.fill of what is so -/
structure FillP (c : CodeD) (so : List Str) : Prop where
  x : Ctx c.names c.clauses so
  w : ChW c.clauses
  n : (opn c.names so).length < 5
abbrev s_Led_is_dead : Stmt := inClass (topS 24) 1
theorem sc_Led_is_dead : FnScope ["self"] ["self"] (defScope s_Led_is_dead) := ⟨rfl, rfl, rfl, by decide +kernel, rfl, by decide +kernel, by decide +kernel⟩
def sp_Led_is_dead (K : PySem.W.Frag) (CL C : Addr) : Sp := sp1 (LedR CL C) (fun _ => True) fun d => Bl d.o.isNone
theorem ok_Led_is_dead {f CL C : Addr} {fd : FuncData} (F : Fun K "is_dead" "Led.is_dead" s_Led_is_dead f fd) (TL : LedT K CL) : FnOk P w K mg base CX0 1 f fd ["self"] (sp_Led_is_dead K CL C) := by
  refine F.ok sc_Led_is_dead (fun vs H Q E h => ?_) (fun cdv A outer s H vs Q E hr h => ?_)
  · obtain ⟨x, M, v, rfl, _⟩ := h
    rfl
  · obtain ⟨d, M, v, rfl, mh, r1, _, q⟩ := h
    have hu := hr.units
    refine ⟨_, (pss_one (ps_ret (pe_cmp (pc_isN (pe_ix ix_X (pe_fld (pv 0) rfl) (pe_un un_neg pe_int) (fun _ _ => rfl)))))), ?_⟩
    exact s_ret mh (gv_isN (b := d.o.isNone) (gv_lastM (K := K) TL (gv_var rfl r1)) fun M v h => opD_non h) q
theorem gv_isdead {σ : Sl} {M : Hp} {CL C : Addr} {d : LedD} {te : TE} (h : Gv te σ M (LedR CL C d)) : Gv (tMeth CL "is_dead" (sp_Led_is_dead K CL C) [] E0 te tNil) σ M (Bl d.o.isNone) :=
  gv_met1 (R1 := LedR CL C) (pre := fun _ => True) (R := fun d => Bl d.o.isNone) (insR_led (by decide +kernel) (by decide +kernel) (by decide +kernel)) h trivial
structure StuckP (d : LedD) : Prop where
  nm : NmL d.c.signs
  f : ∀ so, d.o = some so → (∀ n ∈ d.c.signs, n ∈ so ∨ opp n ∈ so) → FillP d.c so
end
end My

set_option Elab.async false
set_option linter.all false
set_option maxRecDepth 100000
set_option maxHeartbeats 8000000
namespace My
open PySem PySem.Spec PyProof.Rows L2 L3
/-! somebody led who changes: two lists of somebody else's -/
section
variable {bs : List Addr} {M H M' H' M2 H2 : Hp} {p q : Addr} {o u : HO} {vs ws : List V}
theorem cutS_same (mh : Same M (delS H bs)) : Same M H := fun x o e => by
  have := mh x o e
  by_cases z : x ∈ bs
  · rw [delS_off z] at this; cases this
  · rw [delS_on z] at this; exact this
theorem Gr.cutS (g : Gr M H M' H') (hn : ∀ b ∈ bs, M b = none) (ht : ∀ b ∈ bs, ∃ o, H b = some o ∧ ∀ xs, o ≠ HO.tup xs) : Gr M (delS H bs) M' (delS H' bs) := by
  have nb' : ∀ {x o}, M' x = some o → x ∉ bs := fun {x o} e z => by
    obtain ⟨u, hu, nt⟩ := ht x z
    rw [g.keep (hn x z) hu nt] at e
    cases e
  refine ⟨g.mm, fun x o e => ?_, fun x o e => ?_, fun x o e => ?_, g.nt⟩
  · by_cases z : x ∈ bs
    · rw [delS_off z] at e; cases e
    · rw [delS_on z] at e ⊢; exact g.hh _ _ e
  · rw [delS_on (nb' e)]; exact g.mh _ _ e
  · rcases g.nw x o e with h | h | h
    · exact .inl h
    · exact .inr (.inl (by rw [delS_on (nb' e)]; exact h))
    · exact .inr (.inr h)
theorem delS_upd (h : p ∈ bs) : delS (upd H p o) bs = delS H bs := by
  funext x
  by_cases z : x ∈ bs
  · rw [delS_off z, delS_off z]
  · rw [delS_on z, delS_on z, upd_ne (fun (e : x = p) => z (e ▸ h))]
theorem Gr.delB (g : Gr M H M' H') : Gr (delS M bs) (delS H bs) (delS M' bs) (delS H' bs) := by
  refine ⟨fun x o e => ?_, fun x o e => ?_, fun x o e => ?_, fun x o e => ?_, fun x ps e => ?_⟩ <;> by_cases z : x ∈ bs
  · rw [delS_off z] at e; cases e
  · rw [delS_on z] at e ⊢; exact g.mm _ _ e
  · rw [delS_off z] at e; cases e
  · rw [delS_on z] at e ⊢; exact g.hh _ _ e
  · rw [delS_off z] at e; cases e
  · rw [delS_on z] at e ⊢; exact g.mh _ _ e
  · rw [delS_off z] at e; cases e
  · rw [delS_on z] at e
    rw [delS_on z, delS_on z]
    exact g.nw _ _ e
  · rw [delS_off z] at e; cases e
  · rw [delS_on z] at e ⊢; exact g.nt _ _ e
/-- from what a deed does beside the things of ours to what it does to all -/
theorem Gr.unS {M0 H0 : Hp} (g : Gr M0 H0 M H) (g' : Gr M (delS H bs) M' (delS H' bs)) (f : ∀ b ∈ bs, H0 b = none) : Gr M0 H0 M' H' := by
  refine ⟨g.mm.trans g'.mm, fun x o e => ?_, cutS_same g'.mh, fun x o e => ?_, fun x ps e => g.nt x ps (g'.nt x ps e)⟩
  · have z : x ∉ bs := fun z => by rw [f x z] at e; cases e
    have := g'.hh x o (by rw [delS_on z]; exact g.hh _ _ e)
    rw [delS_on z] at this
    exact this
  · rcases g'.nw x o e with h | h | h
    · exact g.nw x o h
    · by_cases z : x ∈ bs
      · exact .inr (.inl (f x z))
      · rw [delS_on z] at h
        exact .inr (.inl (g.hh.free h))
    · exact .inr (.inr h)
theorem delS_none {x : Addr} (h : x ∈ bs) (mh : Same M (delS H bs)) : M x = none := by
  cases e : M x with
  | none => rfl
  | some o => have := mh x o e; rw [delS_off h] at this; cases this
theorem delS_two (hp : M p = none) (hq : M q = none) : delS (upd (upd M p o) q u) [p, q] = M := by
  funext x
  by_cases z : x ∈ [p, q]
  · rw [delS_off z]
    simp only [List.mem_cons, List.not_mem_nil, or_false] at z
    rcases z with rfl | rfl
    · exact hp.symm
    · exact hq.symm
  · rw [delS_on z]
    simp only [List.mem_cons, List.not_mem_nil, or_false, not_or] at z
    rw [upd_ne z.2, upd_ne z.1]
theorem lent_two (mh : Same M (delS H [p, q])) (hp : H p = some o) (hq : H q = some u) : Same (upd (upd M p o) q u) H := same_lent (same_lent (cutS_same mh) hp) hq
/-- two lists of somebody else's, while we make new things -/
structure TwoAt (M H M' H' : Hp) (p q : Addr) (vs ws : List V) : Prop where
  g : Gr M (delS H [p, q]) M' (delS H' [p, q])
  ne : p ≠ q
  hp : H' p = some (.lst vs)
  hq : H' q = some (.lst ws)
theorem TwoAt.mh (t : TwoAt M H M' H' p q vs ws) : Same M' H' := cutS_same t.g.mh
theorem TwoAt.mp (t : TwoAt M H M' H' p q vs ws) : M' p = none := delS_none (by simp) t.g.mh
theorem TwoAt.mq (t : TwoAt M H M' H' p q vs ws) : M' q = none := delS_none (by simp) t.g.mh
theorem TwoAt.step (t : TwoAt M H M' H' p q vs ws) (g : Gr M' H' M2 H2) : TwoAt M H M2 H2 p q vs ws :=
  ⟨t.g.trans (Gr.cutS g (fun b hb => by
    simp only [List.mem_cons, List.not_mem_nil, or_false] at hb
    rcases hb with rfl | rfl
    · exact t.mp
    · exact t.mq) fun b hb => by
    simp only [List.mem_cons, List.not_mem_nil, or_false] at hb
    rcases hb with rfl | rfl
    · exact ⟨_, t.hp, fun xs z => by cases z⟩
    · exact ⟨_, t.hq, fun xs z => by cases z⟩), t.ne, g.hh _ _ t.hp, g.hh _ _ t.hq⟩
theorem TwoAt.putp {vs' : List V} (t : TwoAt M H M' H' p q vs ws) : TwoAt M H M' (upd H' p (.lst vs')) p q vs' ws := ⟨by rw [delS_upd (by simp)]; exact t.g, t.ne, upd_same, by rw [upd_ne (Ne.symm t.ne)]; exact t.hq⟩
theorem TwoAt.putq {ws' : List V} (t : TwoAt M H M' H' p q vs ws) : TwoAt M H M' (upd H' q (.lst ws')) p q vs ws' := ⟨by rw [delS_upd (by simp)]; exact t.g, t.ne, by rw [upd_ne t.ne]; exact t.hp, upd_same⟩
/-- what was told while both were known -/
theorem TwoAt.ofKnown (mh : Same M (delS H [p, q])) (ne : p ≠ q) (hp : H p = some (.lst vs)) (hq : H q = some (.lst ws)) (g : Gr (upd (upd M p (.lst vs)) q (.lst ws)) H M' H') : TwoAt M H (delS M' [p, q]) H' p q vs ws := by
  have h := Gr.delB (bs := [p, q]) g
  rw [delS_two (delS_none (by simp) mh) (delS_none (by simp) mh)] at h
  exact ⟨h, ne, g.hh _ _ hp, g.hh _ _ hq⟩
end
section
variable {K : PySem.W.Frag} {σ : Sl} {M H : Hp} {D : Ends} {te to ts tx : TE} {tz : TS}
theorem q_fldRaw {i : Nat} {f : Str} (h : te σ H fun y H1 => ∃ x, σ[i]? = some (some x) ∧ ∃ a C dx fs, x = .ref a ∧ H1 a = some (.ins C dx fs) ∧ Cls K C ∧ NoAttr K C f ∧ fs.length < 1000 ∧ tz D σ (upd H1 a (.ins C dx (putF f y fs)))) : tSeq (sFld K (tVar i) te f) tz D σ H := h
theorem s_fldRaw {i : Nat} {f : Str} (h : te σ H fun y H1 => ∃ x, σ[i]? = some (some x) ∧ ∃ a C dx fs, x = .ref a ∧ H1 a = some (.ins C dx fs) ∧ Cls K C ∧ NoAttr K C f ∧ fs.length < 1000 ∧ D.nx σ (upd H1 a (.ins C dx (putF f y fs)))) : sFld K (tVar i) te f D σ H := h
theorem q_appAtG {p : Addr} {vs : List V} {P : Pr} (mh : Same M H) (h : Gv to σ M fun _ v => v = .ref p) (hp : H p = some (.lst vs)) (hz : vs.length < sizeLine) (he : ∀ M1, Same M M1 → Gv te σ M1 P)
    (k : ∀ v M' H', Gr M H M' H' → P M' v → tz D σ (upd H' p (.lst (vs ++ [v])))) : tSeq (tDrop (tBM K "list" rAppend to (tCons te tNil))) tz D σ H := h H mh _ fun v M1 H1 g1 e => by
  subst e
  exact ⟨.inl ⟨rfl, vs, .inl (.inl (g1.hh _ _ hp))⟩, he M1 g1.mm H1 g1.mh _ fun v M' H' g r => ⟨p, vs, v, rfl, rfl, g.hh _ _ (g1.hh _ _ hp), hz, k v M' H' (g1.trans g) r⟩⟩
/-- xs.pop() -/
theorem t_popAt {p : Addr} {ws : List V} {w : V} {Q : VK} (mh : Same M H) (h : Gv to σ M fun _ v => v = .ref p) (hp : H p = some (.lst (ws ++ [w]))) (k : ∀ M' H', Gr M H M' H' → Q w (upd H' p (.lst ws))) : tBM0 K "list" rPop to σ H Q := h H mh _ fun v M1 H1 g1 e => by
  subst e
  refine ⟨.inl ⟨rfl, _, .inl (.inl (g1.hh _ _ hp))⟩, p, _, w, rfl, rfl, g1.hh _ _ hp, by simp, ?_⟩
  rw [List.dropLast_concat]
  exact k M1 H1 g1
instance {a : V} : Mono (fun (_ : Hp) (v : V) => v = a) := ⟨fun _ h => h⟩
theorem gv_fieldA {x C dx : Addr} {fs : List (Str × V)} {f : Str} {u : V} {i : Nat} (hi : σ[i]? = some (some (.ref x))) (hx : M x = some (.ins C dx fs)) (cl : Cls K C) (na : NoAttr K C f) (l : fs.lookup f = some u) : Gv (tFld K (tVar i) f) σ M fun _ v => v = u := gv_self hi hx cl na l rfl
/-- chase(clauses, setting)[0] -/
theorem gv_chase0 {ta tb : TE} {ns hs : List Str} {cs : List (List Str)} (h1 : Gv ta σ M (SqR K (SqR K Tx) cs)) (h2 : Gv tb σ M (SqR K Tx hs)) (X : Ctx ns cs hs) (hw : ChW cs) : Gv (tOp (rIxX K) (tCall (sp_chase K) [] E0 (tCons ta (tCons tb tNil))) (tC (.int 0))) σ M (fun M v => ∃ o, EndsOk ns cs hs o ∧ OpR' DcF o M v) := fun H mh Q q =>
  h1 H mh _ fun v1 M1 H1 g1 r1 => (h2.le g1.mm) H1 g1.mh _ fun v2 M2 H2 g2 r2 => by
    have hl : hs.length ≤ 1000000 := Nat.le_trans (lits_len X.h X.nm) (Nat.le_trans X.nm.n (by decide))
    refine ⟨cs, hs, M2, v1, v2, rfl, g2.mh, Mon.mono g2.mm r1, r2, ⟨hw.1, hw.2.1, hw.2.2, hl⟩, fun r t u p ws M4 H4 hch g4 hp0 hpm hpw hpd hru ht => ?_⟩
    have G := (g1.trans g2).trans g4
    rw [once_self (lits_nodup X.h)] at hch
    refine (gv_ix (K := K) (R := fun (x : V) (_ : Hp) v => v = x) (σ := σ) (M := M4) (ta := tC (.ref t)) (tb := tC (.int 0)) (xs := [u, .ref p]) (i := 0) (x := u) (gv_c (.inr ⟨t, _, rfl, .inl (.inl ht), .cons rfl (.cons rfl .nil)⟩)) (gv_c rfl) (atI_nat (j := 0) rfl)) H4 g4.mh Q fun z M5 H5 g5 e => ?_
    cases (show z = u from e)
    exact q u M5 H5 (G.trans g5) ⟨r.1, (chase_ok X hch (.init X) .nil).1, Mon.mono g5.mm hru⟩
end
theorem ends_put {ns : List Str} {cs : List (List Str)} {P so : List Str} {l : Str} {o : Option (List Str)} (X : Ctx ns cs P) (e : EndsOk ns cs P (some so)) (h : EndsOk ns cs (so ++ [l]) o) : EndsOk ns cs (P ++ [l]) o := by
  have a : ∀ y ∈ so ++ [l], Der cs (P ++ [l]) y := fun y hy => by
    rcases List.mem_append.mp hy with hy | hy
    · exact der_trans (fun z hz => .base (List.mem_append_left _ hz)) (e.2.2.snd y hy)
    · exact .base (List.mem_append_right _ hy)
  have b : ∀ y ∈ P ++ [l], Der cs (so ++ [l]) y := fun y hy => by
    rcases List.mem_append.mp hy with hy | hy
    · exact .base (List.mem_append_left _ (e.2.2.sub y hy))
    · exact .base (List.mem_append_right _ hy)
  cases o with
  | none => exact dead_trans a h
  | some s =>
    obtain ⟨h1, h2, h3⟩ := h
    refine ⟨fun d => h1 (dead_trans b d), fun x => (h2 x).trans ⟨fun d => der_trans a d, fun d => der_trans b d⟩, ?_⟩
    exact ⟨fun x hx => (h2 x).mpr (b x hx), fun x hx => der_trans a (h3.snd x hx), h3.lit, h3.con, h3.nd⟩
/-- somebody led as he stands, his two lists apart -/
structure LedH (CL C : Addr) (d : LedD) (x dx p q : Addr) (vc : V) (ms : List V) (M H : Hp) : Prop where
  x : M x = some (.ins CL dx (ledF vc p q))
  c : CodeR C d.c M vc
  ne : p ≠ q
  hp : H p = some (.lst (d.ls.map V.str))
  hq : H q = some (.lst ms)
  pd : Pd (OpR' DcF) M (d.ss ++ [d.o]) ms
  mh : Same M (delS H [p, q])
section
variable {CL C x dx p q : Addr} {d : LedD} {vc : V} {ms : List V} {M H : Hp}
theorem LedH.known (h : LedH CL C d x dx p q vc ms M H) : Same (upd (upd M p (.lst (d.ls.map V.str))) q (.lst ms)) H ∧ LedR CL C d (upd (upd M p (.lst (d.ls.map V.str))) q (.lst ms)) (.ref x) := by
  have mp : M p = none := delS_none (bs := [p, q]) (by simp) h.mh
  have mq : M q = none := delS_none (bs := [p, q]) (by simp) h.mh
  have up : Same M (upd (upd M p (.lst (d.ls.map V.str))) q (.lst ms)) := (same_new mp).trans (same_new (by rw [upd_ne (Ne.symm h.ne)]; exact mq))
  exact ⟨lent_two h.mh h.hp h.hq, x, dx, vc, p, q, ms, rfl, up _ _ h.x, Mon.mono up h.c, by rw [upd_ne h.ne, upd_same], upd_same, h.pd.mono up⟩
theorem LedH.up (h : LedH CL C d x dx p q vc ms M H) : Same M (upd (upd M p (.lst (d.ls.map V.str))) q (.lst ms)) := by
  have mp : M p = none := delS_none (bs := [p, q]) (by simp) h.mh
  have mq : M q = none := delS_none (bs := [p, q]) (by simp) h.mh
  exact (same_new mp).trans (same_new (by rw [upd_ne (Ne.symm h.ne)]; exact mq))
end
def HoldR (CL C x dx : Addr) (vc : V) (p q : Addr) (c : CodeD) : Pr := fun M v => v = .ref x ∧ M x = some (.ins CL dx (ledF vc p q)) ∧ CodeR C c M vc
instance {CL C x dx : Addr} {vc : V} {p q : Addr} {c : CodeD} : Mono (HoldR CL C x dx vc p q c) := ⟨fun e ⟨a, b, h⟩ => ⟨a, e _ _ b, Mon.mono e h⟩⟩
structure PutP (d : LedD) (l : Str) : Prop where
  nm : NmL d.c.names
  k : ∀ k ∈ d.c.clauses, Lits d.c.names k
  w : ChW d.c.clauses
  so : ∃ so P, d.o = some so ∧ EndsOk d.c.names d.c.clauses P (some so) ∧ Ctx d.c.names d.c.clauses P ∧ l ∉ so ∧ opp l ∉ so
  l : l ∈ litsOf d.c.signs
  n : d.ls.length ≤ 1000 ∧ d.ss.length ≤ 1000
section
variable {P : Program} {w : World} {K : PySem.W.Frag} {mg : Str → Option Value} {base : Heap}
abbrev s_Led_put : Stmt := inClass (topS 24) 4
theorem sc_Led_put : FnScope ["self", "literal", "so", "later", "steps", "one"] ["self", "literal"] (defScope s_Led_put) := ⟨rfl, rfl, rfl, by decide +kernel, rfl, by decide +kernel, by decide +kernel⟩
def sp_Led_put (K : PySem.W.Frag) (CL C : Addr) : Sp := fun vs H Q _ => ∃ d l x dx p q vc ms M, vs = [.ref x, .str l] ∧ LedH CL C d x dx p q vc ms M H ∧ PutP d l ∧
  ∀ o' u z M' H', TwoAt M H M' H' p q ((d.ls ++ [l]).map V.str) (ms ++ [u]) → OpR' DcF o' M' u → (∀ P so, d.o = some so → EndsOk d.c.names d.c.clauses P (some so) → Ctx d.c.names d.c.clauses P → EndsOk d.c.names d.c.clauses (P ++ [l]) o') → Q z H'
theorem ok_Led_put {f CL C : Addr} {fd : FuncData} (F : Fun K "put" "Led.put" s_Led_put f fd) (T : Gc mg) (TL : LedT K CL) (TC : CodeT K mg C) (m_is_dead : Met P w K mg base 1 CL "is_dead" ["self"] (sp_Led_is_dead K CL C)) (c_is_literal : Cal P w K mg base 2 "is_literal" ["thing", "names"] (sp_is_literal K)) (c_opposite : Cal P w K mg base 1 "opposite" ["literal"] (sp_opposite K))
    (c_chase : Cal P w K mg base 3 "chase" ["clauses", "setting"] (sp_chase K)) (c_ascending : Cal P w K mg base 1 "ascending" ["literals", "names"] (sp_ascending K)) : FnOk P w K mg base CX0 4 f fd ["self", "literal"] (sp_Led_put K CL C) := by
  refine F.ok sc_Led_put (fun vs H Q E h => ?_) (fun cdv A outer s H vs Q E hr h => ?_)
  · obtain ⟨_, _, _, _, _, _, _, _, _, rfl, _⟩ := h
    rfl
  · obtain ⟨d, l, x, dx, p, q, vc, ms, M, rfl, L, X, qq⟩ := h
    have hu := hr.units
    refine ⟨_, (pss_cons (ps_if (pt_val (pe_m0 m_is_dead (hr.mono (by decide)) (pv 0))) (pss_one ps_never) pss_nil)
      (pss_cons (ps_if (pt_not (pt_val (pe_f c_is_literal (hr.mono (by decide)) (pa_cons (pv 1) (pa_cons (pe_fld (pe_fld (pv 0) rfl) rfl) pa_nil))))) (pss_one ps_never) pss_nil)
      (pss_cons (ps_set (i := 2) sc_Led_put.nd rfl (by first | exact .inl rfl | exact .inr rfl) (pe_ix ix_X (pe_fld (pv 0) rfl) (pe_un un_neg pe_int) (fun _ _ => rfl)))
      (pss_cons (ps_if (PW.pt (pw_or (pt_cmpR (op_inA hu) (pv 1) (pv 2) (by rfl)) (pw_or1 (pt_cmpR (op_inA hu) (pe_f c_opposite (hr.mono (by decide)) (pa_cons (pv 1) pa_nil)) (pv 2) (by rfl))))) (pss_one ps_never) pss_nil)
      (pss_cons (ps_asg (pe_f c_chase (hr.mono (by decide)) (pa_cons (pe_fld (pe_fld (pv 0) rfl) rfl) (pa_cons (pe_lst (pa_starK (by rfl) (pv 2) (pa_cons (pv 1) pa_nil))) pa_nil))) (pg_tup (by rfl) (pgs_cons (pg_name (i := 3) sc_Led_put.nd rfl (by first | exact .inl rfl | exact .inr rfl)) (pgs_cons (pg_name (i := 4) sc_Led_put.nd rfl (by first | exact .inl rfl | exact .inr rfl)) pgs_nil))))
      (pss_cons (ps_expr (pe_bm PySem.F.plainAttrs_list PySem.F.slot_list_append PySem.F.type_list_append mt_append (pe_fld (pv 0) rfl) (pa_cons (pv 1) pa_nil)))
      (pss_cons (ps_expr (pe_bm PySem.F.plainAttrs_list PySem.F.slot_list_append PySem.F.type_list_append mt_append (pe_fld (pv 0) rfl) (pa_cons (pv 3) pa_nil)))
      (pss_cons (ps_if (pt_cmp (pc_isN (pv 3))) (pss_one (ps_ret pe_non)) pss_nil)
      (pss_one (ps_ret (pe_callTy call_lstA (by rfl) T.list boot_list (pa_cons (pe_f c_ascending (hr.mono (by decide)) (pa_cons (pe_lc (own := [("one", 5)]) (g := (gName 5)) (tt := (tAnd (tTest (tOp (rInA K true) (tVar 5) (tVar 2))) (tTest (tOp (rEqP K true) (tVar 5) (tVar 1))))) (te := (tVar 5)) (by rfl) sc_Led_put.nd (pi_keys (pv 3)) (blkOk_by (by rfl)) (fun _ _ _ _ _ => (pg_name (i := 5) sc_Led_put.nd rfl (by first | exact .inl rfl | exact .inr rfl))) (fun _ _ _ _ _ => (pts_one (PW.pt (pw_and (pt_cmpR (op_niA hu) (pv 5) (pv 2) (by rfl)) (pw_and1 (pt_cmpR (op_neP hu) (pv 5) (pv 1) (nomark _))))))) (fun _ _ _ _ _ => (pv 5))) (pa_cons (pe_fld (pe_fld (pv 0) rfl) rfl) pa_nil))) pa_nil)))))))))))), ?_⟩
    obtain ⟨mh, rl⟩ := L.known
    obtain ⟨so, P0, eo, he, X0, n1, n2⟩ := X.so
    have nmS : NmL d.c.signs := ⟨(List.nodup_append.mp (show (d.c.signs ++ d.c.helpers).Nodup from X.nm.nd)).1, fun n hn => X.nm.nm n (List.mem_append_left _ hn), Nat.le_trans (by show d.c.signs.length ≤ (d.c.signs ++ d.c.helpers).length; rw [List.length_append]; omega) X.nm.n⟩
    obtain ⟨n, hn, side⟩ := mem_litsOf.mp X.l
    have hm := nmS.nm n hn
    have hnl := nm_len hm
    have ll : l.length ≤ 9 := by
      rcases side with e | e
      · rw [e]; omega
      · rw [e]; show (("-" : Str).cps ++ n.cps).size ≤ 9; rw [Array.size_append]; show 1 + n.length ≤ 9; omega
    have nmo : nameOf l = n := by
      rcases side with e | e
      · rw [e, nameOf_nm hm]
      · rw [e, nameOf_neg hm]
    have gopp : ∀ {σ' : Sl} {M' : Hp} {te : TE}, Gv te σ' M' (Tx l) → Gv (tCall (sp_opposite K) [] E0 (tCons te tNil)) σ' M' (Tx (opp l)) := fun h => gv_call1 (R1 := Tx) (pre := fun x => x.length ≤ 1000) (R := fun x => Tx (opp x)) (x := l) h (by omega)
    -- nobody dead, a literal, open
    refine q_if0 (b := false) mh (gt_is (gt_B (gv_isdead (K := K) (gv_var rfl rl))) (by rw [eo]; rfl)) (fun h => nomatch h) fun _ H1 hh1 => ?_
    have G1 := Gr.idle mh hh1
    refine q_if0 (b := false) G1.mh (gt_is (gt_not (gt_B (gv_call2 (R1 := Dd K) (R2 := SqR K Tx) (pre := fun d _ => shortD d) (R := fun d ns => Bl (isLit ns d)) (x := .str l) (y := d.c.signs) (gv_var rfl (.str l)) (gv_is (gv_sign TC (gv_kept TL (gv_var rfl rl))) fun _ _ h => h.sq) (by show l.length ≤ _; omega)))) (by
      show (!decide (nameOf l ∈ d.c.signs)) = false
      rw [nmo, decide_eq_true hn]; rfl)) (fun h => nomatch h) fun _ H2 hh2 => ?_
    have G2 := G1.trans (.idle G1.mh hh2)
    refine q_asg (P := OpR' DcF d.o) G2.mh (gv_lastM (K := K) TL (gv_var rfl rl)) fun v2 M3 H3 g3 r2 => ?_
    rw [eo] at r2
    have r2 : DcF so M3 v2 := r2
    have rc : CtR K so M3 v2 := .inr r2.dc
    have G3 := G2.trans g3
    have rl3 : LedR CL C d M3 (.ref x) := Mon.mono g3.mm rl
    refine q_if0 (b := false) G3.mh (gt_is (gt_or (gt_is (gt_test (gv_inA (K := K) (neg := false) (x := l) (xs := so) (gv_var rfl rfl) (gv_var rfl rc))) (by simp; rfl)) fun _ => gt_is (gt_test (gv_inA (K := K) (neg := false) (x := opp l) (xs := so) (gopp (gv_var rfl rfl)) (gv_var rfl rc))) (by simp; rfl)) (by rw [decide_eq_false n1, decide_eq_false n2]; rfl)) (fun h => nomatch h) fun _ H4 hh4 => ?_
    have G4 := G3.trans (.idle G3.mh hh4)
    -- following
    have Lso := so_lits X.nm he.2.2
    have hno : n ∈ opn d.c.names so := mem_opn.mpr ⟨List.mem_append_left _ hn, fun z => by
      rcases side with e | e
      · exact n1 (e ▸ z)
      · exact n2 (by rw [e, opp_neg hm]; exact z), fun z => by
      rcases side with e | e
      · exact n2 (by rw [e, opp_nm hm]; exact z)
      · exact n1 (e ▸ z)⟩
    have X2 : Ctx d.c.names d.c.clauses (so ++ [l]) := ⟨X.nm, X.k, lits_put X.nm Lso hno side⟩
    have few := so_few X0 he.2.2
    have nn := X.nm.n
    refine q_chase (ns := d.c.names) G4.mh (gv_is (gv_clause TC (gv_kept TL (gv_var rfl rl3))) fun _ _ h => by
      obtain ⟨a, vs, e, h1, h2⟩ := h
      exact .inr ⟨a, vs, e, .inl (.inl h1), Paired.mapP h2 fun _ _ q => TT.sq q⟩) (gv_is (gv_starK (gv_var rfl r2.dc) (gv_var rfl rfl) (by omega)) fun _ _ h => h.sq) X2 X.w fun o' u5 v6 M5 H5 g5 he5 ru => ?_
    have G5 := G4.trans g5
    have T5 := TwoAt.ofKnown L.mh L.ne L.hp L.hq G5
    have s5 : Same M (delS M5 [p, q]) := T5.g.mm
    have hx5 : (delS M5 [p, q]) x = some (.ins CL dx (ledF vc p q)) := s5 _ _ L.x
    have nmq : ∀ {a : Addr} {o : HO}, M5 a = some o → (∀ vs, o ≠ .lst vs) → a ∉ [p, q] := fun {a o} e ne z => by
      simp only [List.mem_cons, List.not_mem_nil, or_false] at z
      rcases z with rfl | rfl
      · have := G5.mh _ _ e; rw [T5.hp] at this; exact ne _ (Option.some.inj this).symm
      · have := G5.mh _ _ e; rw [T5.hq] at this; exact ne _ (Option.some.inj this).symm
    have ru5 : OpR' DcF o' (delS M5 [p, q]) u5 := by
      cases o' with
      | none => exact ru
      | some s' =>
        obtain ⟨a, ob, e, h⟩ := (show DcF s' M5 u5 from ru)
        exact ⟨a, ob, e, by rw [delS_on (nmq h fun vs z => by cases z)]; exact h⟩
    have r25 : CtR K so (delS M5 [p, q]) v2 := by
      obtain ⟨a, ob, e, h⟩ := (Mon.mono (g5.mm) r2 : DcF so M5 v2)
      exact .inr (DcF.dc ⟨a, ob, e, by rw [delS_on (nmq h fun vs z => by cases z)]; exact h⟩)
    have rc5 : CodeR C d.c (delS M5 [p, q]) vc := Mon.mono s5 L.c
    revert T5 s5 hx5 ru5 r25 rc5
    generalize delS M5 [p, q] = M6
    intro T5 s5 hx5 ru5 r25 rc5
    have pdl := L.pd.length
    rw [List.length_append, List.length_singleton] at pdl
    have xn := X.n
    -- both lists
    refine q_appAtG (P := fun _ v => v = .str l) T5.mh (gv_fieldA rfl hx5 TL.cl TL.nP rfl) T5.hp (szM (by rw [List.length_map]; omega)) (fun M1 sm => gv_var rfl rfl) fun v7 M7 H7 g7 r7 => ?_
    cases (show v7 = _ from r7)
    have T7 := (T5.step g7).putp (vs' := d.ls.map V.str ++ [.str l])
    revert T7
    generalize upd H7 p (.lst (d.ls.map V.str ++ [.str l])) = H8
    intro T7
    refine q_appAtG (P := fun _ v => v = u5) T7.mh (gv_fieldA rfl (g7.mm _ _ hx5) TL.cl TL.nM rfl) T7.hq (szM (by omega)) (fun M1 sm => gv_var rfl rfl) fun v9 M9 H9 g9 r9 => ?_
    cases (show v9 = _ from r9)
    have T9 := (T7.step g9).putq (ws' := ms ++ [u5])
    revert T9
    generalize upd H9 q (.lst (ms ++ [u5])) = H10
    intro T9
    have s79 := g7.mm.trans g9.mm
    have ru9 : OpR' DcF o' M9 u5 := Mon.mono s79 ru5
    have fin : ∀ z M' H', Gr M9 H10 M' H' → Q z H' := fun z M' H' g => qq o' u5 z M' H' (by
      have := T9.step g
      rw [List.map_append]
      exact this) (Mon.mono g.mm ru9) fun P so' e1 e2 X1 => by
        rw [eo] at e1
        cases e1
        exact ends_put X1 e2 he5
    refine q_if0 (b := o'.isNone) T9.mh (gt_B (gv_isN (b := o'.isNone) (gv_var (P := OpR' DcF o') rfl ru9) fun M v h => opD_non h)) (fun hb H11 hh => ?_) fun hb H11 hh => ?_
    · exact s_ret (P := fun _ v => v = .non) (T9.mh.trans hh) (gv_c rfl) fun z M' H' g r => fin z M' H' ((Gr.idle T9.mh hh).trans g)
    cases o' with
    | none => cases hb
    | some s' =>
      have ru9 : DcF s' M9 u5 := ru9
      have few' := so_few X2 he5.2.2
      have sh' : ∀ y ∈ s', y.length ≤ 1000 := fun y hy => Nat.le_trans (lits_short (so_lits X.nm he5.2.2) X.nm y hy) (by decide)
      exact s_ret (T9.mh.trans hh) (gl_lstOf (K := K) (R1 := Tx) (gv_is (gv_call2 (R1 := CtR K) (R2 := SqR K Tx) (pre := fun _ ns => Shorts ns) (R := fun ls ns => TT (asc ls ns)) (y := d.c.names) (gv_is (gl_c1 (S := Tx) (R := Tx) (xs := s') (gi_keys (gv_var rfl ru9)) (szK (by omega)) (fun y => decide (y ∉ so) && decide (y ≠ l)) id
        (fun y hy M12 u12 sm ru => gt_and (b := decide (y ∉ so)) (c := decide (y ≠ l)) (gt_is (gt_test (gv_inA (K := K) (neg := true) (gv_var rfl ru) (gv_var rfl (Mon.mono (s79.trans sm) r25)))) (by simp)) fun _ => gt_is (gt_test (gv_eqT (K := K) (neg := true) py_str inj_str (gv_var rfl ru) (gv_var rfl rfl) (by simp [PyData.depth]))) (by simp)) fun y hy _ M12 u12 sm ru => gv_var rfl ru).li fun _ _ h => .inl (LiR.sq h)) (gv_is (gv_names TC (gv_fld (gv_var (P := HoldR CL C x dx vc p q d.c) rfl ⟨rfl, s79 _ _ hx5, Mon.mono s79 rc5⟩) fun M' v ⟨e, h, hc⟩ => ⟨x, CL, dx, _, vc, e, h, TL.cl, TL.nK, rfl, hc⟩)) fun _ _ h => h.sq) (nm_shorts X.nm)) fun _ _ h => TT.sq h)).li fun z M' H' g r => fin z M' H' ((Gr.idle T9.mh hh).trans g)
abbrev s_Led_undo : Stmt := inClass (topS 24) 6
theorem sc_Led_undo : FnScope ["self"] ["self"] (defScope s_Led_undo) := ⟨rfl, rfl, rfl, by decide +kernel, rfl, by decide +kernel, by decide +kernel⟩
abbrev s_Led_init : Stmt := inClass (topS 24) 0
theorem sc_Led_init : FnScope ["self", "code"] ["self", "code"] (defScope s_Led_init) := ⟨rfl, rfl, rfl, by decide +kernel, rfl, by decide +kernel, by decide +kernel⟩
def sp_Led_init (K : PySem.W.Frag) (CL C : Addr) : Sp := fun vs H Q _ => ∃ c M Hb x dx vc, vs = [.ref x, vc] ∧ Gr M Hb M H ∧ Hb x = none ∧ M x = none ∧ H x = some (.ins CL dx []) ∧ CodeR C c M vc ∧ Ctx c.names c.clauses [] ∧ ChW c.clauses ∧
  ∀ o u p q M' H', Gr M Hb M' H' → M' x = some (.ins CL dx (ledF vc p q)) → p ≠ q → Own Hb M' H' p [] → Own Hb M' H' q [u] → EndsOk c.names c.clauses [] o → OpR' DcF o M' u → Q .non H'
theorem ok_Led_init {f CL C : Addr} {fd : FuncData} (F : Fun K "__init__" "Led.__init__" s_Led_init f fd) (T : Gc mg) (TL : LedT K CL) (TC : CodeT K mg C) (c_chase : Cal P w K mg base 3 "chase" ["clauses", "setting"] (sp_chase K)) : FnOk P w K mg base CX0 4 f fd ["self", "code"] (sp_Led_init K CL C) := by
  refine F.ok sc_Led_init (fun vs H Q E h => ?_) (fun cdv A outer s H vs Q E hr h => ?_)
  · obtain ⟨_, _, _, _, _, _, rfl, _⟩ := h
    rfl
  · obtain ⟨c, M, Hb, x, dx, vc, rfl, g, hb, mx, hx, rc, X, hw, qq⟩ := h
    have hu := hr.units
    refine ⟨_, (pss_cons (ps_fld (pv 0) (pv 1) rfl)
      (pss_cons (ps_fld (pv 0) (pe_lst pa_nil) rfl)
      (pss_one (ps_fld (pv 0) (pe_lst (pa_cons (pe_ix ix_X (pe_f c_chase (hr.mono (by decide)) (pa_cons (pe_fld (pv 1) rfl) (pa_cons (pe_lst pa_nil) pa_nil))) pe_int (fun _ _ => rfl)) pa_nil)) rfl)))), ?_⟩
    refine q_fldRaw ⟨vc, rfl, .ref x, rfl, x, CL, dx, [], rfl, hx, TL.cl, TL.nK, by show 0 < 1000; decide, ?_⟩
    have G1 := g.mut (o := .ins CL dx (putF "kept" vc [])) hb mx
    have h1 : upd H x (.ins CL dx (putF "kept" vc [])) x = some (.ins CL dx [("kept", vc)]) := upd_same
    revert G1 h1
    generalize upd H x (.ins CL dx (putF "kept" vc [])) = H1
    intro G1 h1
    refine q_fldRaw (gl_nil H1 G1.mh _ fun p vs M2 H2 g2 h02 m02 hp2 ev => ?_)
    subst ev
    have m2 := g2.keep mx h1
    have h2 := g2.hh _ _ h1
    have xp : x ≠ p := fun e => by rw [← e, h1] at h02; cases h02
    refine ⟨.ref x, rfl, x, CL, dx, _, rfl, h2, TL.cl, TL.nP, by show 1 < 1000; decide, ?_⟩
    have G2 := (G1.trans g2).mut (o := .ins CL dx (putF "put_row" (.ref p) [("kept", vc)])) hb m2
    have h3 : upd H2 x (.ins CL dx (putF "put_row" (.ref p) [("kept", vc)])) x = some (.ins CL dx [("kept", vc), ("put_row", .ref p)]) := upd_same
    have op : Own Hb M2 (upd H2 x (.ins CL dx (putF "put_row" (.ref p) [("kept", vc)]))) p [] := ⟨G1.hh.free h02, m02, by rw [upd_ne (Ne.symm xp)]; exact hp2⟩
    have rc2 : CodeR C c M2 vc := Mon.mono g2.mm rc
    revert G2 h3 op
    generalize upd H2 x (.ins CL dx (putF "put_row" (.ref p) [("kept", vc)])) = H3
    intro G2 h3 op
    have Gl : Gv (tOp (rIxX K) (tCall (sp_chase K) [] E0 (tCons (tFld K (tVar 1) "clause_row") (tCons (tLst tNil) tNil))) (tC (.int 0))) [some (.ref x), some vc] M2 (fun M v => ∃ o, EndsOk c.names c.clauses [] o ∧ OpR' DcF o M v) := gv_chase0 (gv_is (gv_clause TC (gv_var rfl rc2)) fun _ _ h => by
      obtain ⟨a, vs, e, h1, h2⟩ := h
      exact .inr ⟨a, vs, e, .inl (.inl h1), Paired.mapP h2 fun _ _ q => TT.sq q⟩) (gv_is (gv_nilL (R := Tx)) fun _ _ h => h.sq) X hw
    refine s_fldRaw (Gl H3 G2.mh _ fun u M4 H4 g4 ⟨o, he, ru⟩ => ⟨by show 1 ≤ sizeLine; decide, fun q nq => ?_⟩)
    have m4 := g4.keep m2 h3
    have h4 := g4.hh _ _ h3
    have xq : x ≠ q := fun e => by rw [← e, h4] at nq; cases nq
    have op4 := op.step g4
    have pq : p ≠ q := fun e => by rw [← e, op4.h] at nq; cases nq
    refine ⟨.ref x, rfl, x, CL, dx, _, rfl, by rw [upd_ne xq]; exact h4, TL.cl, TL.nM, by show 2 < 1000; decide, ?_⟩
    have G4 := G2.trans g4
    have g5 : Gr M4 H4 M4 (upd H4 q (.lst [u])) := .own g4.mh nq
    have G5 := (G4.trans g5).mut (o := .ins CL dx (putF "moments" (.ref q) [("kept", vc), ("put_row", .ref p)])) hb m4
    have h5 : upd (upd H4 q (.lst [u])) x (.ins CL dx (putF "moments" (.ref q) [("kept", vc), ("put_row", .ref p)])) x = some (.ins CL dx (ledF vc p q)) := upd_same
    have G6 := G5.freeze hb m4 h5
    refine qq o u p q _ _ G6 upd_same pq ⟨op4.h0, by rw [upd_ne (Ne.symm xp)]; exact op4.m, by rw [upd_ne (Ne.symm xp), upd_ne pq]; exact op4.h⟩ ⟨G4.hh.free nq, by rw [upd_ne (Ne.symm xq)]; exact g4.mh.free nq, by rw [upd_ne (Ne.symm xq), upd_same]⟩ he (Mon.mono (same_new m4) ru)
end
end My

set_option Elab.async false
set_option linter.all false
set_option maxRecDepth 100000
set_option maxHeartbeats 8000000
set_option pp.maxSteps 900
namespace My
open PySem PySem.Spec PyProof.Rows L2 L3
open L3.Strm
/-! the law's own one who is led: a locked dict with two lists that change -/
def MR (c : CodeD) (pl sl : Addr) : Pr := fun M v => ∃ m o cv, v = .ref m ∧ M m = some (.frz o (.dK [(Sum.inr "code", cv), (Sum.inr "put", .ref pl), (Sum.inr "so", .ref sl)])) ∧ LawR c M cv
instance {c : CodeD} {pl sl : Addr} : Mono (MR c pl sl) := ⟨fun e ⟨m, o, cv, h1, h2, h3⟩ => ⟨m, o, cv, h1, e _ _ h2, Mono.mono e h3⟩⟩
def MRl : Rl (CodeD × Addr × Addr) := fun a => MR a.1 a.2.1 a.2.2
instance : Mon MRl := ⟨fun {x M M' v} e h => (Mono.mono (P := MR x.1 x.2.1 x.2.2) e h)⟩
section
variable {K : PySem.W.Frag} {σ : Sl} {M : Hp} {te : TE} {c : CodeD} {pl sl : Addr}
theorem gv_mC (h : Gv te σ M (MR c pl sl)) : Gv (tDGet te (tC (.str "code"))) σ M (LawR c) := gv_dgetF h fun M v ⟨m, o, cv, h1, h2, h3⟩ => ⟨m, o, _, cv, h1, h2, rfl, h3⟩
theorem gv_mP (h : Gv te σ M (MR c pl sl)) : Gv (tDGet te (tC (.str "put"))) σ M (fun _ v => v = .ref pl) := gv_dgetF h fun M v ⟨m, o, cv, h1, h2, h3⟩ => ⟨m, o, _, .ref pl, h1, h2, rfl, rfl⟩
theorem gv_mS (h : Gv te σ M (MR c pl sl)) : Gv (tDGet te (tC (.str "so"))) σ M (fun _ v => v = .ref sl) := gv_dgetF h fun M v ⟨m, o, cv, h1, h2, h3⟩ => ⟨m, o, _, .ref sl, h1, h2, rfl, rfl⟩
end
theorem c_li {K : PySem.W.Frag} {M : Hp} {v : V} {cs : List (List Str)} (h : LiR TT cs M v) : SqR K (SqR K Tx) cs M v := by
  obtain ⟨a, vs, e, h1, h2⟩ := h
  exact .inl ⟨a, vs, e, .inl (.inl h1), Paired.mapP h2 fun _ _ q => TT.sq q⟩
section
variable {P : Program} {w : World} {K : PySem.W.Frag} {mg : Str → Option Value} {base : Heap}
abbrev s__law_names_of : Stmt := topS 48
theorem sc__law_names_of : FnScope ["_law_m"] ["_law_m"] (defScope s__law_names_of) := ⟨rfl, rfl, rfl, by decide +kernel, rfl, by decide +kernel, by decide +kernel⟩
def sp__law_names_of (K : PySem.W.Frag) : Sp := sp1 MRl (fun a => a.1.names.length ≤ 1000) fun a => LiR Tx a.1.names
theorem ok__law_names_of {f : Addr} {fd : FuncData} (F : Fun K "_law_names_of" "_law_names_of" s__law_names_of f fd) : FnOk P w K mg base CX0 1 f fd ["_law_m"] (sp__law_names_of K) := by
  refine F.ok sc__law_names_of (fun vs H Q E h => ?_) (fun cdv A outer s H vs Q E hr h => ?_)
  · obtain ⟨x, M, v, rfl, _⟩ := h
    rfl
  · obtain ⟨⟨c, pl, sl⟩, M, v, rfl, mh, r1, hn, q⟩ := h
    have hu := hr.units
    have r1 : MR c pl sl M v := r1
    have nn : c.names.length = c.signs.length + c.helpers.length := List.length_append
    have hn : c.names.length ≤ 1000 := hn
    refine ⟨_, (pss_one (ps_ret (pe_op op_addA (pe_dget (Nat.lt_of_le_of_lt (Nat.add_le_add_left (by decide) _) hu) (pe_dget (Nat.lt_of_le_of_lt (Nat.add_le_add_left (by decide) _) hu) (pv 0) pe_str (fun _ _ => rfl)) pe_str (fun _ _ => rfl)) (pe_dget (Nat.lt_of_le_of_lt (Nat.add_le_add_left (by decide) _) hu) (pe_dget (Nat.lt_of_le_of_lt (Nat.add_le_add_left (by decide) _) hu) (pv 0) pe_str (fun _ _ => rfl)) pe_str (fun _ _ => rfl))))), ?_⟩
    exact s_ret mh (gl_addL (K := K) (R := Tx) (xs := c.signs) (ys := c.helpers) (gv_cS (gv_mC (gv_var rfl r1))) (gv_cH (gv_mC (gv_var rfl r1))) (szM (by omega))).li q
abbrev s__law_some_sign : Stmt := topS 51
theorem sc__law_some_sign : FnScope ["_law_stream", "_law_m", "_law_name"] ["_law_stream", "_law_m"] (defScope s__law_some_sign) := ⟨rfl, rfl, rfl, by decide +kernel, rfl, by decide +kernel, by decide +kernel⟩
def sp__law_some_sign (K : PySem.W.Frag) : Sp := spS1 MRl (fun a => NmL a.1.signs ∧ 0 < a.1.signs.length) (fun _ => 2) fun a => Ex Tx fun l => l ∈ litsOf a.1.signs
theorem ok__law_some_sign {f : Addr} {fd : FuncData} (F : Fun K "_law_some_sign" "_law_some_sign" s__law_some_sign f fd) (c__law_pick : Cal P w K mg base 2 "_law_pick" ["_law_stream", "_law_things"] (sp__law_pick K)) (c__law_draw : Cal P w K mg base 1 "_law_draw" ["_law_stream", "_law_many"] (sp__law_draw K)) : FnOk P w K mg base CX0 3 f fd ["_law_stream", "_law_m"] (sp__law_some_sign K) := by
  refine F.ok sc__law_some_sign (fun vs H Q E h => ?_) (fun cdv A outer s H vs Q E hr h => ?_)
  · obtain ⟨S, x, M, v, k, rfl, _⟩ := h
    rfl
  · obtain ⟨S, ⟨c, pl, sl⟩, M, v, k, rfl, mh, at_, r1, ⟨nm, n0⟩, q⟩ := h
    have hu := hr.units
    have r1 : MR c pl sl M v := r1
    have nm : NmL c.signs := nm
    have n0 : 0 < c.signs.length := n0
    have nn := nm.n
    have at_ : S.At (k + 2) H := at_
    refine ⟨_, (pss_cons (ps_set (i := 2) sc__law_some_sign.nd rfl (by first | exact .inl rfl | exact .inr rfl) (pe_f c__law_pick (hr.mono (by decide)) (pa_cons (pv 0) (pa_cons (pe_dget (Nat.lt_of_le_of_lt (Nat.add_le_add_left (by decide) _) hu) (pe_dget (Nat.lt_of_le_of_lt (Nat.add_le_add_left (by decide) _) hu) (pv 1) pe_str (fun _ _ => rfl)) pe_str (fun _ _ => rfl)) pa_nil))))
      (pss_one (ps_ret (pe_ifExp (pt_cmpR (op_eqP hu) (pe_f c__law_draw (hr.mono (by decide)) (pa_cons (pv 0) (pa_cons pe_int pa_nil))) pe_int (nomark _)) (pv 2) (pe_op op_addA pe_str (pv 2)))))), ?_⟩
    refine z_asg (S := S) (k := k + 1) (c := 1) (P := Ex Tx fun x => x ∈ c.signs) mh (at_.le (by omega)) (gs_call1 (S := S) (R1 := SqR K Tx) (pre := fun xs => 0 < xs.length ∧ xs.length ≤ 1000000) (cs := fun _ => 1) (R := fun xs => Ex Tx fun x => x ∈ xs) (x := c.signs) rfl (gv_is (gv_cS (gv_mC (gv_var rfl r1))) fun _ _ h => h.sq) ⟨n0, by omega⟩) fun v2 M2 H2 g2 a2 ⟨n, hn, r2⟩ => ?_
    cases (show v2 = _ from r2)
    have hl := nm_len (nm.nm n hn)
    exact z_ret (S := S) (k := k) (c := 1 + 0) g2.mh (a2.le (by omega)) (gs_if (c1 := 1) (c2 := 0) (gts_zero (K := K) rfl (gv_c rfl) (by decide) (by decide)) (fun _ => (gv_var (P := Ex Tx fun l => l ∈ litsOf c.signs) rfl ⟨n, mem_litsOf.mpr ⟨n, hn, .inl rfl⟩, rfl⟩).s) fun _ => (gv_is (gv_addSt (K := K) (x := "-") (y := n) (gv_c rfl) (gv_var rfl rfl) (szM (by show 1 + _ ≤ _; omega))) fun M v h => ⟨_, mem_litsOf.mpr ⟨n, hn, .inr rfl⟩, h⟩).s) fun u M' H' g a r => q u M' H' (g2.trans g) a r
abbrev s__law_literals : Stmt := topS 39
theorem sc__law_literals : FnScope ["_law_names_here", "_law_found", "_law_name"] ["_law_names_here"] (defScope s__law_literals) := ⟨rfl, rfl, rfl, by decide +kernel, rfl, by decide +kernel, by decide +kernel⟩
def sp__law_literals (K : PySem.W.Frag) : Sp := sp1 (SqR K Tx) (fun ns => ns.length ≤ 1000 ∧ ∀ n ∈ ns, n.length ≤ 1000) fun ns => LiR Tx (litsOf ns)
theorem ok__law_literals {f : Addr} {fd : FuncData} (F : Fun K "_law_literals" "_law_literals" s__law_literals f fd) : FnOk P w K mg base CX0 1 f fd ["_law_names_here"] (sp__law_literals K) := by
  refine F.ok sc__law_literals (fun vs H Q E h => ?_) (fun cdv A outer s H vs Q E hr h => ?_)
  · obtain ⟨x, M, v, rfl, _⟩ := h
    rfl
  · obtain ⟨ns, M, v, rfl, mh, r1, ⟨h1, h2⟩, q⟩ := h
    have hu := hr.units
    refine ⟨_, (pss_cons (ps_set (i := 1) sc__law_literals.nd rfl (by first | exact .inl rfl | exact .inr rfl) (pe_lst pa_nil))
      (pss_cons (ps_for PassesOwn.never (by rfl) (pi_sq (pv 0)) (pg_name (i := 2) sc__law_literals.nd rfl (by first | exact .inl rfl | exact .inr rfl)) (pss_one (ps_expr (pe_bm PySem.F.plainAttrs_list PySem.F.slot_list_extend PySem.F.type_list_extend mt_extend (pv 1) (pa_cons (pe_lst (pa_cons (pv 2) (pa_cons (pe_op op_addA pe_str (pv 2)) pa_nil))) pa_nil)))))
      (pss_one (ps_ret (pv 1))))), ?_⟩
    refine q_asgL mh gl_nil fun p vs M1 H1 g1 h01 m01 hp1 e => ?_
    subst e
    refine q_for (R1 := Tx) (xs := ns) g1.mh (gv_var rfl (Mon.mono g1.mm r1)) (fun Mk i σ' M' H' => ∃ y2, σ' = [some v, some (.ref p), y2] ∧ Gr M H M' H' ∧ Same Mk M' ∧ Own H M' H' p ((litsOf (ns.take i)).map V.str))
      (fun M2 H2 g2 => ⟨none, rfl, g1.trans g2, Same.refl _, ⟨h01, g2.keep m01 hp1, g2.hh _ _ hp1⟩⟩) (fun M2 i σ' M' H' ⟨_, _, g, s, _⟩ => ⟨s, g.mh⟩) ?_ ?_
    · rintro Mk i n nv σ' M' H' s1k hi ⟨y2, rfl, g, sk, own⟩ rc
      cases (show nv = .str n from rc)
      have hl := h2 n (List.mem_of_getElem? hi)
      have e2 : litsOf (ns.take (i + 1)) = litsOf (ns.take i) ++ [n, ("-" : Str) ++ n] := by rw [List.take_succ, hi]; exact litsOf_app _ _
      have sz : (litsOf (ns.take i)).length ≤ 2000 := by
        have : (litsOf (ns.take i)).length ≤ 2 * (ns.take i).length := flat_le fun x _ => Nat.le_refl 2
        have := List.length_take (i := i) (l := ns)
        omega
      refine s_ext (P := fun _ ws => ws = [V.str n, V.str (("-" : Str) ++ n)]) g.mh rfl own.h (fun H mh Q q => (gl_lst (ga_rl (R := Tx) (x := n) (xs := [("-" : Str) ++ n]) (gv_var rfl rfl) fun _ _ => ga_rl (gv_addSt (K := K) (x := "-") (y := n) (gv_c rfl) (gv_var rfl rfl) (szM (by show 1 + _ ≤ _; omega))) fun _ _ => ga_rl0) fun M vs pd => by rw [← pd.length]; exact szM (by show 2 ≤ _; omega)) H mh Q fun p ws M' H' g h0 m0 hw r => q p ws M' H' g h0 m0 hw (by have := pd_tx r; exact this)) (fun M' ws e => by subst e; rw [List.length_map]; exact szM (by show _ + 2 ≤ _; omega)) fun ws M3 H3 g3 e => ?_
      subst e
      have own3 := own.step g3
      refine ⟨M3, _, rfl, (g.trans g3).mut own3.h0 own3.m, sk.trans g3.mm, ?_⟩
      rw [e2, List.map_append]
      exact own3.put
    · rintro Mk σ' M' H' s1k ⟨y2, rfl, g, sk, own⟩
      rw [List.take_length] at own
      exact ⟨.ref p, rfl, q (.ref p) _ H' (g.freeze own.h0 own.m own.h) ⟨p, _, rfl, upd_same, pd_of_tx _⟩⟩
end
end My

set_option Elab.async false
set_option linter.all false
set_option maxRecDepth 100000
set_option maxHeartbeats 8000000
set_option pp.maxSteps 900
namespace My
open PySem PySem.Spec PyProof.Rows L2 L3
open L3.Strm
def EndR (ns : List Str) (cs : List (List Str)) (hs : List Str) : Pr := fun M v => ∃ o, EndsOk ns cs hs o ∧ OpR' (LiR Tx) o M v
instance {ns : List Str} {cs : List (List Str)} {hs : List Str} : Mono (EndR ns cs hs) := ⟨fun e ⟨o, h1, h2⟩ => ⟨o, h1, Mon.mono e h2⟩⟩
/-- a locked display whose second and third thing are lists of ours -/
theorem gd_dispO {σ : Sl} {M : Hp} {t1 t2 t3 : TE} {a b c : Str} {R1 : Pr} [Mono R1] {P3 : Hp → List V → Prop} (h1 : Gv t1 σ M R1) (h2 : ∀ M1, Same M M1 → GvL t2 σ M1 fun _ vs => vs = []) (h3 : ∀ M1, Same M M1 → GvL t3 σ M1 P3) (n1 : a ≠ b) (n2 : a ≠ c) (n3 : b ≠ c) {H : Hp} (mh : Same M H) {Q : VK}
    (q : ∀ p ob u1 pl sl ws M3 M' H', Gr M H M' H' → M' p = some (.frz ob (.dK [(Sum.inr a, u1), (Sum.inr b, .ref pl), (Sum.inr c, .ref sl)])) → R1 M' u1 → pl ≠ sl → Own H M' H' pl [] → Own H M' H' sl ws → Same M3 M' → P3 M3 ws → Q (.ref p) H') : tFrz (tDisp [(tC (.str a), t1), (tC (.str b), t2), (tC (.str c), t3)]) σ H Q := fun p np => by
  have g0 := Gr.own (o := .dK []) mh np
  have m0 : M p = none := mh.free np
  have p0 : (upd H p (.dK [])) p = some (.dK []) := upd_same
  refine h1 _ g0.mh _ fun u1 M1 H1 g1 r1 => ?_
  refine h2 M1 g1.mm H1 g1.mh _ fun pl vs M2 H2 g2 h02 m02 hp2 ev => ?_
  subst ev
  refine h3 M2 (g1.mm.trans g2.mm) H2 g2.mh _ fun sl ws M3 H3 g3 h03 m03 hs3 r3 => ?_
  have g123 := (g1.trans g2).trans g3
  have G3 := g0.trans g123
  have hp3 := g123.hh _ _ p0
  have m3 : M3 p = none := g123.keep m0 p0
  have npp : pl ≠ p := fun e => by rw [e, g1.hh _ _ p0] at h02; cases h02
  have nsp : sl ≠ p := fun e => by rw [e, (g1.trans g2).hh _ _ p0] at h03; cases h03
  have hpl3 := g3.hh _ _ hp2
  have npl : pl ≠ sl := fun e => by rw [← e, hp2] at h03; cases h03
  have hpl0 : H pl = none := by
    have h := g1.hh.free h02
    rw [upd_ne npp] at h
    exact h
  have hsl0 : H sl = none := by
    have h := (g1.trans g2).hh.free h03
    rw [upd_ne nsp] at h
    exact h
  refine ⟨hp3, [(Sum.inr a, u1), (Sum.inr b, .ref pl), (Sum.inr c, .ref sl)], rfl, by show 3 ≤ 15; decide, ?_⟩
  rw [merge3 n1 n2 n3]
  refine ⟨p, _, rfl, upd_same, trivial, fun ob => ?_⟩
  have G5 := (G3.mut (o := .dK [(Sum.inr a, u1), (Sum.inr b, .ref pl), (Sum.inr c, .ref sl)]) np m3).mut (o := .frz ob (.dK [(Sum.inr a, u1), (Sum.inr b, .ref pl), (Sum.inr c, .ref sl)])) np m3
  have G6 := G5.freeze np m3 upd_same
  have up := same_new (o := .frz ob (.dK [(Sum.inr a, u1), (Sum.inr b, .ref pl), (Sum.inr c, .ref sl)])) m3
  exact q p ob u1 pl sl ws M3 _ _ G6 upd_same (Mono.mono ((g2.mm.trans g3.mm).trans up) r1) npl ⟨hpl0, by rw [upd_ne npp]; exact g3.keep m02 hp2, by rw [upd_ne npp, upd_ne npp]; exact hpl3⟩ ⟨hsl0, by rw [upd_ne nsp]; exact m03, by rw [upd_ne nsp, upd_ne nsp]; exact hs3⟩ up r3
/-- the dict, and its second list known -/
def MS (c : CodeD) (pl sl : Addr) (ws : List V) : Pr := fun M v => MR c pl sl M v ∧ M sl = some (.lst ws)
instance {c : CodeD} {pl sl : Addr} {ws : List V} : Mono (MS c pl sl ws) := ⟨fun e ⟨h1, h2⟩ => ⟨Mono.mono e h1, e _ _ h2⟩⟩
theorem gv_mLast {K : PySem.W.Frag} {σ : Sl} {M : Hp} {te : TE} {c : CodeD} {pl sl : Addr} {ws : List V} {u : V} (h : Gv te σ M (MS c pl sl (ws ++ [u]))) : Gv (tOp (rIxX K) (tDGet te (tC (.str "so"))) (tUn (rU fun i => .int (-i)) (tC (.int 1)))) σ M (fun _ v => v = u) := gv_ix (K := K) (R := EqV) (xs := ws ++ [u]) (i := -1) (x := u) (gv_dgetF h fun M v ⟨⟨m, o, cv, h1, h2, h3⟩, hl⟩ => ⟨m, o, _, .ref sl, h1, h2, rfl, .inl ⟨sl, _, rfl, .inl (.inl hl), pd_eqv _⟩⟩) gv_minusD (atI_lastD _ _)
/-- .. and what it holds -/
theorem gv_mLast2 {K : PySem.W.Frag} {σ : Sl} {M : Hp} {c : CodeD} {pl sl : Addr} {ws : List V} {u mv : V} {R : Pr} [Mono R] {i : Nat} (h : MS c pl sl (ws ++ [u]) M mv) (r : R M u) (hi : σ[i]? = some (some mv) := by rfl) : Gv (tOp (rIxX K) (tDGet (tVar i) (tC (.str "so"))) (tUn (rU fun i => .int (-i)) (tC (.int 1)))) σ M R := fun H mh Q q =>
  gv_mLast (K := K) (gv_var hi h) H mh Q fun v M' H' g e => q v M' H' g (by rw [show v = u from e]; exact Mono.mono g.mm r)
section
variable {P : Program} {w : World} {K : PySem.W.Frag} {mg : Str → Option Value} {base : Heap}
abbrev s__law_begin : Stmt := topS 47
theorem sc__law_begin : FnScope ["_law_c"] ["_law_c"] (defScope s__law_begin) := ⟨rfl, rfl, rfl, by decide +kernel, rfl, by decide +kernel, by decide +kernel⟩
def sp__law_begin (K : PySem.W.Frag) : Sp := fun vs H Q _ => ∃ c M v, vs = [v] ∧ Same M H ∧ LawR c M v ∧ Ctx c.names c.clauses [] ∧ ChW c.clauses ∧
  ∀ m pl sl o u M' H', Gr M H M' H' → MR c pl sl M' m → pl ≠ sl → Own H M' H' pl [] → Own H M' H' sl [u] → EndsOk c.names c.clauses [] o → OpR' (LiR Tx) o M' u → Q m H'
theorem ok__law_begin {f : Addr} {fd : FuncData} (F : Fun K "_law_begin" "_law_begin" s__law_begin f fd) (c__law_chase : Cal P w K mg base 2 "_law_chase" ["_law_clauses", "_law_half"] (sp__law_chase K)) : FnOk P w K mg base CX0 3 f fd ["_law_c"] (sp__law_begin K) := by
  refine F.ok sc__law_begin (fun vs H Q E h => ?_) (fun cdv A outer s H vs Q E hr h => ?_)
  · obtain ⟨c, M, v, rfl, _⟩ := h
    rfl
  · obtain ⟨c, M, v, rfl, mh, r1, X, hw, q⟩ := h
    have hu := hr.units
    refine ⟨_, (pss_one (ps_ret (pe_frz (pe_disp (pps_cons pe_str (pv 0) (pps_cons pe_str (pe_lst pa_nil) (pps_cons pe_str (pe_lst (pa_cons (pe_f c__law_chase (hr.mono (by decide)) (pa_cons (pe_dget (Nat.lt_of_le_of_lt (Nat.add_le_add_left (by decide) _) hu) (pv 0) pe_str (fun _ _ => rfl)) (pa_cons (pe_lst pa_nil) pa_nil))) pa_nil)) pps_nil))) (by rfl) (by rfl) (by intro z; cases z) (by decide))))), ?_⟩
    have ch : ∀ M1, Same M M1 → GvL (tLst (tCons (tCall (sp__law_chase K) [] E0 (tCons (tDGet (tVar 0) (tC (.str "clauses"))) (tCons (tLst tNil) tNil))) tNil)) [some v] M1 fun M ws => ∃ u o, ws = [u] ∧ EndsOk c.names c.clauses [] o ∧ OpR' (LiR Tx) o M u := fun M1 s1 H1 mh1 Q1 q1 =>
      gl_lst (ga_cons (P := EndR c.names c.clauses []) (gv_is (gv_call2 (R1 := SqR K (SqR K Tx)) (R2 := SqR K Tx) (pre := ChOk) (R := fun cs hs M v => ∃ r, LChase cs (once hs) r ∧ OpR' (LiR Tx) r M v) (x := c.clauses) (y := []) (gv_is (gv_cC (gv_var rfl (Mono.mono s1 r1))) fun _ _ h => c_li h) (gv_is (gv_nilL (R := Tx)) fun _ _ h => h.sq) ⟨hw.1, hw.2.1, hw.2.2, by decide⟩) fun M v ⟨r, hch, ro⟩ => ⟨r, lchase_ok X hch (.init X), ro⟩) fun _ _ => ga_nil) (fun M vs ⟨_, _, e1, _, e2⟩ => by subst e2 e1; show 1 ≤ sizeLine; decide) H1 mh1 Q1 fun p vs M' H' g h0 m0 hw ⟨uv, _, e1, ⟨o, he, ro⟩, e2⟩ => q1 p vs M' H' g h0 m0 hw (by
        subst e2 e1
        exact ⟨uv, o, rfl, he, ro⟩)
    refine gd_dispO (a := "code") (b := "put") (c := "so") (σ := [some v]) (t1 := tVar 0) (t2 := tLst tNil) (R1 := LawR c) (gv_var rfl r1) (fun M1 s1 => gl_nil) ch (by decide) (by decide) (by decide) mh fun p ob u1 pl sl ws M3 M' H' g hm rc npl op os s3 ⟨u, o, ew, he, ro⟩ => ?_
    subst ew
    exact q (.ref p) pl sl o u M' H' g ⟨p, ob, u1, rfl, hm, rc⟩ npl op os he (Mon.mono s3 ro)
abbrev s__law_put : Stmt := topS 49
theorem sc__law_put : FnScope ["_law_m", "_law_literal", "_law_before", "_law_one"] ["_law_m", "_law_literal"] (defScope s__law_put) := ⟨rfl, rfl, rfl, by decide +kernel, rfl, by decide +kernel, by decide +kernel⟩
end
end My

set_option Elab.async false
set_option linter.all false
set_option maxRecDepth 100000
set_option maxHeartbeats 8000000
set_option pp.maxSteps 900
namespace My
open PySem PySem.Spec PyProof.Rows L2 L3
open L3.Strm
/-! own lists that change, beside all that is known -/
structure LW (S : Strm) (M W H : Hp) (k : Nat) : Prop where
  mh : Same M (S.cut H)
  at_ : S.At k H
  w : ∀ x o, W x = some o → M x = none ∧ S.cut H x = some o ∧ ∃ vs, o = .lst vs
/-- what is known and the lists, together -/
def wth (M W : Hp) : Hp := fun a => (M a).or (W a)
theorem wth_m {M W : Hp} : Same M (wth M W) := fun a o e => by unfold wth; rw [e]; rfl
section
variable {S : Strm} {M W H M' H' : Hp} {j k c : Nat} {σ : Sl} {D : Ends} {tz tb : TS} {tt : L2.TT} {p q : Addr} {us vs ws : List V}
theorem LW.le (L : LW S M W H k) (e : j ≤ k) : LW S M W H j := ⟨L.mh, L.at_.le e, L.w⟩
theorem LW.step (L : LW S M W H k) (g : Gr M (S.cut H) M' (S.cut H')) (a : S.At j H') : LW S M' W H' j := ⟨g.mh, a, fun x o e => by
  obtain ⟨h1, h2, vs, rfl⟩ := L.w x o e
  exact ⟨g.keep h1 h2, g.hh _ _ h2, vs, rfl⟩⟩
theorem LW.plain (L : LW S M W H k) (g : Gr M H M' H') : LW S M' W H' k := L.step (lift L.mh L.at_ g) (L.at_.same g.hh)
theorem LW.m (L : LW S M W H k) : Same M H := L.mh.trans cut_same
theorem LW.idle (L : LW S M W H k) (hh : Same H H') : LW S M W H' k := L.plain (.idle L.m hh)
theorem LW.here (L : LW S M W H k) (hp : W p = some (.lst vs)) : H p = some (.lst vs) ∧ S.cut H p = some (.lst vs) ∧ M p = none := by
  obtain ⟨h1, h2, _⟩ := L.w p _ hp
  exact ⟨of_cut h2, h2, h1⟩
theorem LW.put (L : LW S M W H k) (hp : W p = some (.lst us)) : LW S M (upd W p (.lst vs)) (upd H p (.lst vs)) k := by
  obtain ⟨_, h2, h1⟩ := L.here hp
  refine ⟨by rw [cut_upd (on_of h2)]; exact same_mut L.mh h1, L.at_.upd (on_of h2), fun x o e => ?_⟩
  rw [cut_upd (on_of h2)]
  by_cases z : x = p
  · subst z
    rw [upd_same] at e
    cases e
    exact ⟨h1, upd_same, _, rfl⟩
  · rw [upd_ne z] at e ⊢
    exact L.w x o e
theorem LW.add (L : LW S M W H k) (hm : M p = none) (hp : S.cut H p = some (.lst us)) : LW S M (upd W p (.lst us)) H k := ⟨L.mh, L.at_, fun x o e => by
  by_cases z : x = p
  · subst z
    rw [upd_same] at e
    cases e
    exact ⟨hm, hp, _, rfl⟩
  · rw [upd_ne z] at e
    exact L.w x o e⟩
/-- lists that nobody asks for any more -/
theorem LW.drop {W' : Hp} (L : LW S M W H k) (h : Same W' W) : LW S M W' H k := ⟨L.mh, L.at_, fun x o e => L.w x o (h x o e)⟩
theorem LW.off (L : LW S M W H k) (hp : W p = some (.lst us)) : ¬ S.off p := on_of (L.here hp).2.1
theorem LW.w_w (L : LW S M W H k) (hp : W p = some (.lst us)) : wth M W p = some (.lst us) := by
  unfold wth
  rw [(L.here hp).2.2, hp]
  rfl
/-- a new thing is none of ours -/
theorem LW.fresh (L : LW S M W H k) (h0 : H p = none) : W p = none := by
  cases e : W p with
  | none => rfl
  | some o => have := of_cut (L.w p o e).2.1; rw [h0] at this; cases this
theorem LW.all (L : LW S M W H k) : Same (wth M W) (S.cut H) := fun a o e => by
  unfold wth at e
  cases z : M a with
  | some u => rw [z] at e; cases e; exact L.mh a _ z
  | none => rw [z] at e; exact (L.w a o e).2.1
/-- back from a state that knew the lists, too -/
theorem LW.back (L : LW S M W H k) (s : Same (wth M W) M') (mh : Same M' (S.cut H')) (a : S.At j H') : LW S M W H' j := ⟨fun x o e => mh _ _ (s _ _ (wth_m x o e)), a, fun x o e => by
  obtain ⟨h1, _, h3⟩ := L.w x o e
  refine ⟨h1, mh _ _ (s _ _ ?_), h3⟩
  unfold wth
  rw [h1]
  exact e⟩
/-- .. by one step -/
theorem LW.read (L : LW S M W H k) (g : Gr (wth M W) H M' H') : LW S M W H' k := L.back g.mm (lift L.all L.at_ g).mh (L.at_.same g.hh)
theorem same_del {bs : List Addr} (s : Same M H) (hb : ∀ b ∈ bs, M b = none) : Same M (delS H bs) := fun a o e => by
  rw [delS_on fun z => by rw [hb a z] at e; cases e]
  exact s a o e
theorem LW.cutS {bs : List Addr} (L : LW S M W H k) (hb : ∀ b ∈ bs, ∃ vs, W b = some (.lst vs)) : Same M (delS H bs) := same_del L.m fun b h => let ⟨_, e⟩ := hb b h; (L.here e).2.2
/-- two lists of ours are changed -/
theorem LW.two {us' : List V} (L : LW S M W H k) (t : TwoAt M H M' H' p q vs ws) (hp : W p = some (.lst us)) (hq : W q = some (.lst us')) : LW S M' (upd (upd W p (.lst vs)) q (.lst ws)) H' k := by
  have off : ∀ x, S.off x → x ∉ [p, q] := fun x z n => by
    simp only [List.mem_cons, List.not_mem_nil, or_false] at n
    rcases n with rfl | rfl
    · exact L.off hp z
    · exact L.off hq z
  have chg : ∀ x o, H x = some o → x ∉ [p, q] → H' x = some o := fun x o e n => by
    have := t.g.hh x o (by rw [delS_on n]; exact e)
    rw [delS_on n] at this
    exact this
  obtain ⟨c, x, n, m, h1, h2, h3⟩ := L.at_.ex
  refine ⟨fun y o e => ?_, ⟨L.at_.ne, c, x, n, m, chg _ _ h1 (off _ (.inl rfl)), chg _ _ h2 (off _ (.inr rfl)), h3⟩, fun y o e => ?_⟩
  · have h := t.mh y o e
    rw [cut_on (fun z => ?_)]
    · exact h
    · obtain ⟨vs, hv⟩ := L.at_.at_ z
      have m0 : M y = none := by
        cases e0 : M y with
        | none => rfl
        | some u => have := L.mh y u e0; rw [cut_off z] at this; cases this
      have := t.g.keep m0 (o := .lst vs) (by rw [delS_on (off y z)]; exact hv)
      rw [this] at e
      cases e
  · by_cases zq : y = q
    · subst zq
      rw [upd_same] at e
      cases e
      exact ⟨t.mq, by rw [cut_on (L.off hq)]; exact t.hq, _, rfl⟩
    · rw [upd_ne zq] at e
      by_cases zp : y = p
      · subst zp
        rw [upd_same] at e
        cases e
        exact ⟨t.mp, by rw [cut_on (L.off hp)]; exact t.hp, _, rfl⟩
      · rw [upd_ne zp] at e
        obtain ⟨h1, h2, vs, rfl⟩ := L.w y o e
        have n : y ∉ [p, q] := by simp [zq, zp]
        have e1 : delS H [p, q] y = some (.lst vs) := by rw [delS_on n]; exact of_cut h2
        exact ⟨t.g.keep h1 e1, by rw [cut_on (on_of h2)]; exact chg _ _ (of_cut h2) n, _, rfl⟩
/-- two lists of ours that stay -/
theorem LW.two0 {us' : List V} (L : LW S M W H k) (t : TwoAt M H M' H' p q us us') (hp : W p = some (.lst us)) (hq : W q = some (.lst us')) : LW S M' W H' k := by
  have e : upd (upd W p (.lst us)) q (.lst us') = W := by
    funext y
    by_cases zq : y = q
    · subst zq; rw [upd_same, hq]
    · rw [upd_ne zq]
      by_cases zp : y = p
      · subst zp; rw [upd_same, hp]
      · rw [upd_ne zp]
  have h := L.two t hp hq
  rw [e] at h
  exact h
theorem lw_ifS {tx ty : TS} {B : Bool → Prop} (L : LW S M W H (k + c)) (h : GvTS S c tt σ M B) (h1 : B true → ∀ M' H', Same M M' → LW S M' W H' k → tx D σ H') (h2 : B false → ∀ M' H', Same M M' → LW S M' W H' k → ty D σ H') : tIfS tt tx ty D σ H := h H k L.mh L.at_ _ fun b M' H' g a e => by
  cases b with
  | true =>
    show (if true = true then _ else _)
    rw [if_pos rfl]
    exact h1 e M' H' g.mm (L.step g a)
  | false =>
    show (if false = true then _ else _)
    rw [if_neg (by decide)]
    exact h2 e M' H' g.mm (L.step g a)
/-- a test that reads the lists -/
theorem lw_ifN (L : LW S M W H k) (h : GvT tt σ (wth M W) false) (go : ∀ H', LW S M W H' k → tz D σ H') : tSeq (tIfS tt tb tNext) tz D σ H :=
  q_if0 (L.all.trans cut_same) h (fun e => nomatch e) fun _ H' hh => go H' (L.idle hh)
end
/-- all that was ever so, from the start -/
inductive Cz (c : CodeD) : List Str → List (Option (List Str)) → Option (List Str) → Prop
  | nil {o : Option (List Str)} : EndsOk c.names c.clauses [] o → Cz c [] [] o
  | put {ls : List Str} {ss : List (Option (List Str))} {so : List Str} {l : Str} {o' : Option (List Str)} : Cz c ls ss (some so) → l ∈ litsOf c.signs → l ∉ so → opp l ∉ so → EndsOk c.names c.clauses (ls ++ [l]) o' → Cz c (ls ++ [l]) (ss ++ [some so]) o'
section
variable {c : CodeD} {ls : List Str} {ss ss2 : List (Option (List Str))} {o o2 : Option (List Str)}
theorem Cz.ends (h : Cz c ls ss o) : EndsOk c.names c.clauses ls o := by cases h <;> assumption
theorem Cz.len (h : Cz c ls ss o) : ss.length = ls.length := by
  induction h with
  | nil _ => rfl
  | put _ _ _ _ _ ih => rw [List.length_append, List.length_append, ih]; rfl
theorem Cz.pop {l : Str} (h : Cz c (ls ++ [l]) ss o) : ∃ ss1 o1, ss = ss1 ++ [o1] ∧ Cz c ls ss1 o1 := by
  generalize e : ls ++ [l] = xs at h
  cases h with
  | nil _ => simp at e
  | put h1 _ _ _ h2 =>
    obtain ⟨rfl, _⟩ := List.append_inj' e rfl
    exact ⟨_, _, rfl, h1⟩
/-- each was put where it was open -/
theorem Cz.at_ (h : Cz c ls ss o) : ∀ i l, ls[i]? = some l → l ∈ litsOf c.signs ∧ ∃ so, EndsOk c.names c.clauses (ls.take i) (some so) ∧ l ∉ so ∧ opp l ∉ so := by
  induction h with
  | nil _ => intro i l e; simp at e
  | @put ls ss so l o' h1 hl n1 n2 _ ih =>
    intro i x e
    by_cases z : i < ls.length
    · rw [List.getElem?_append_left z] at e
      rw [List.take_append_of_le_length (by omega)]
      exact ih i x e
    · have hi : i = ls.length := by
        have := (List.getElem?_eq_some_iff.mp e).1
        rw [List.length_append, List.length_singleton] at this
        omega
      subst hi
      rw [List.getElem?_append_right (Nat.le_refl _), Nat.sub_self] at e
      cases e
      rw [List.take_append_of_le_length (Nat.le_refl _), List.take_length]
      exact ⟨hl, so, h1.ends, n1, n2⟩
/-- both tell the same -/
theorem ends_same {ns ms : List Str} {cs : List (List Str)} (e1 : EndsOk ns cs ls o) (e2 : EndsOk ms cs ls o2) : (o = none ↔ o2 = none) ∧ ∀ so so2, o = some so → o2 = some so2 → ∀ l, l ∈ so ↔ l ∈ so2 := by
  cases o with
  | none => cases o2 with
    | none => exact ⟨⟨fun _ => rfl, fun _ => rfl⟩, fun _ _ e => by cases e⟩
    | some s2 => exact absurd e1 e2.1
  | some s1 => cases o2 with
    | none => exact absurd e2 e1.1
    | some s2 => exact ⟨⟨fun e => (nomatch e), fun e => (nomatch e)⟩, fun so so2 a b l => by cases a; cases b; rw [e1.2.1, e2.2.1]⟩
end
/-- somebody led: what is known of him, and his two lists -/
structure LedW (CL C : Addr) (c : CodeD) (x p q : Addr) (ls : List Str) (ss : List (Option (List Str))) (o : Option (List Str)) (M W : Hp) : Prop where
  i : ∃ dx vc, M x = some (.ins CL dx (ledF vc p q)) ∧ CodeR C c M vc
  ne : p ≠ q
  hp : W p = some (.lst (ls.map V.str))
  hq : ∃ ms, W q = some (.lst ms) ∧ Pd (OpR' DcF) M (ss ++ [o]) ms
  c : Cz c ls ss o
/-- the law's own -/
structure LawW (c : CodeD) (m : V) (pl sl : Addr) (ls : List Str) (ss : List (Option (List Str))) (o : Option (List Str)) (M W : Hp) : Prop where
  i : MR c pl sl M m
  ne : pl ≠ sl
  hp : W pl = some (.lst (ls.map V.str))
  hq : ∃ ms, W sl = some (.lst ms) ∧ Pd (OpR' (LiR Tx)) M (ss ++ [o]) ms
  c : Cz c ls ss o
section
variable {CL C : Addr} {c : CodeD} {x p q : Addr} {m : V} {ls : List Str} {ss : List (Option (List Str))} {o : Option (List Str)} {S : Strm} {M W M' W' H H' : Hp} {k : Nat}
theorem LedW.mono (h : LedW CL C c x p q ls ss o M W) (s : Same M M') (hp : W' p = W p) (hq : W' q = W q) : LedW CL C c x p q ls ss o M' W' :=
  let ⟨dx, vc, h1, h2⟩ := h.i; let ⟨ms, h3, h4⟩ := h.hq
  ⟨⟨dx, vc, s _ _ h1, Mon.mono s h2⟩, h.ne, by rw [hp]; exact h.hp, ⟨ms, by rw [hq]; exact h3, h4.mono s⟩, h.c⟩
theorem LawW.mono (h : LawW c m p q ls ss o M W) (s : Same M M') (hp : W' p = W p) (hq : W' q = W q) : LawW c m p q ls ss o M' W' :=
  let ⟨ms, h3, h4⟩ := h.hq
  ⟨Mono.mono s h.i, h.ne, by rw [hp]; exact h.hp, ⟨ms, by rw [hq]; exact h3, h4.mono s⟩, h.c⟩
/-- all of him, where the lists are known -/
theorem LedW.all (h : LedW CL C c x p q ls ss o M W) (L : LW S M W H k) : LedR CL C ⟨c, ls, ss, o⟩ (wth M W) (.ref x) := by
  obtain ⟨dx, vc, h1, h2⟩ := h.i
  obtain ⟨ms, h3, h4⟩ := h.hq
  exact ⟨x, dx, vc, p, q, ms, rfl, wth_m _ _ h1, Mon.mono wth_m h2, L.w_w h.hp, L.w_w h3, h4.mono wth_m⟩
/-- .. ready for a deed -/
theorem LedW.led (h : LedW CL C c x p q ls ss o M W) (L : LW S M W H k) : ∃ dx vc ms, LedH CL C ⟨c, ls, ss, o⟩ x dx p q vc ms M H ∧ W q = some (.lst ms) := by
  obtain ⟨dx, vc, h1, h2⟩ := h.i
  obtain ⟨ms, h3, h4⟩ := h.hq
  exact ⟨dx, vc, ms, ⟨h1, h2, h.ne, (L.here h.hp).1, (L.here h3).1, h4, L.cutS fun b hb => by
    simp only [List.mem_cons, List.not_mem_nil, or_false] at hb
    rcases hb with rfl | rfl
    · exact ⟨_, h.hp⟩
    · exact ⟨_, h3⟩⟩, h3⟩
theorem pd_last {α β : Type} {F : α → β → Prop} {x : α} : ∀ {xs : List α} {vs : List β}, Paired F (xs ++ [x]) vs → ∃ as u, vs = as ++ [u] ∧ F x u ∧ Paired F xs as
  | [], _, .cons h .nil => ⟨[], _, rfl, h, .nil⟩
  | _ :: _, _, .cons h t => by
    obtain ⟨as, u, e, hh, hp⟩ := pd_last t
    exact ⟨_ :: as, u, by rw [e]; rfl, hh, .cons h hp⟩
/-- all of the law's own, where the lists are known -/
theorem LawW.all (h : LawW c m p q ls ss o M W) (L : LW S M W H k) : ∃ ms u, MS c p q (ms ++ [u]) (wth M W) m ∧ OpR' (LiR Tx) o (wth M W) u ∧ wth M W p = some (.lst (ls.map V.str)) := by
  obtain ⟨ms, h3, h4⟩ := h.hq
  obtain ⟨as, u, rfl, hu, _⟩ := pd_last h4
  exact ⟨as, u, ⟨Mono.mono wth_m h.i, L.w_w h3⟩, Mono.mono wth_m hu, L.w_w h.hp⟩
end
end My

set_option Elab.async false
set_option linter.all false
set_option maxRecDepth 100000
set_option maxHeartbeats 8000000
set_option pp.maxSteps 900
namespace My
open PySem PySem.Spec PyProof.Rows L2 L3
open L3.Strm
/-! somebody led: what he tells -/
structure LedOk (d : LedD) : Prop where
  nm : NmL d.c.names
  k : ∀ k ∈ d.c.clauses, Lits d.c.names k
  w : ChW d.c.clauses
  l : Lits d.c.names d.ls
  e : EndsOk d.c.names d.c.clauses d.ls d.o
theorem LedOk.x {d : LedD} (X : LedOk d) : Ctx d.c.names d.c.clauses d.ls := ⟨X.nm, X.k, X.l⟩
theorem LedOk.few {d : LedD} (X : LedOk d) {so : List Str} (h : d.o = some so) : Lits d.c.names so := by
  have e := X.e
  rw [h] at e
  exact so_lits X.nm e.2.2
def drawnL (d : LedD) (so : List Str) : List Str := asc (so.filter fun x => decide (x ∉ d.ls)) d.c.names
/-- what he says that is so -/
def knownL (d : LedD) : List Str := d.o.getD d.ls
def inLed (d : LedD) (t : PyData) : Bool := match t with
  | .str l => decide (l ∈ knownL d)
  | _ => false
section
variable {P : Program} {w : World} {K : PySem.W.Frag} {mg : Str → Option Value} {base : Heap}
abbrev s_Led_choices : Stmt := inClass (topS 24) 2
theorem sc_Led_choices : FnScope ["self"] ["self"] (defScope s_Led_choices) := ⟨rfl, rfl, rfl, by decide +kernel, rfl, by decide +kernel, by decide +kernel⟩
def sp_Led_choices (K : PySem.W.Frag) (CL C : Addr) : Sp := sl1 (LedR CL C) (fun _ => True) fun d M ws => Pd Tx M d.ls ws
theorem ok_Led_choices {f CL C : Addr} {fd : FuncData} (F : Fun K "choices" "Led.choices" s_Led_choices f fd) (T : Gc mg) (TL : LedT K CL) : FnOk P w K mg base CX0 1 f fd ["self"] (sp_Led_choices K CL C) := by
  refine F.ok sc_Led_choices (fun vs H Q E h => ?_) (fun cdv A outer s H vs Q E hr h => ?_)
  · obtain ⟨x, M, v, rfl, _⟩ := h
    rfl
  · obtain ⟨d, M, v, rfl, mh, r1, _, q⟩ := h
    have hu := hr.units
    refine ⟨_, (pss_one (ps_ret (pe_callTy call_lstA (by rfl) T.list boot_list (pa_cons (pe_fld (pv 0) rfl) pa_nil)))), ?_⟩
    exact s_retL mh (gl_lstOf (K := K) (R1 := Tx) (gv_is (gv_putrow (K := K) TL (gv_var rfl r1)) fun _ _ h => h.sq)) q
abbrev s_Led_drawn : Stmt := inClass (topS 24) 3
theorem sc_Led_drawn : FnScope ["self", "one"] ["self"] (defScope s_Led_drawn) := ⟨rfl, rfl, rfl, by decide +kernel, rfl, by decide +kernel, by decide +kernel⟩
def sp_Led_drawn (K : PySem.W.Frag) (CL C : Addr) : Sp := fun vs H Q _ => ∃ d M v, vs = [v] ∧ Same M H ∧ LedR CL C d M v ∧ LedOk d ∧ (d.o = none → ∀ M' H', Gr M H M' H' → Q .non H') ∧
  (∀ so, d.o = some so → ∀ p M' H', Gr M H M' H' → H p = none → M' p = none → H' p = some (.lst ((drawnL d so).map V.str)) → Q (.ref p) H')
theorem ok_Led_drawn {f CL C : Addr} {fd : FuncData} (F : Fun K "drawn" "Led.drawn" s_Led_drawn f fd) (T : Gc mg) (TL : LedT K CL) (TC : CodeT K mg C) (m_is_dead : Met P w K mg base 1 CL "is_dead" ["self"] (sp_Led_is_dead K CL C)) (c_ascending : Cal P w K mg base 1 "ascending" ["literals", "names"] (sp_ascending K)) : FnOk P w K mg base CX0 3 f fd ["self"] (sp_Led_drawn K CL C) := by
  refine F.ok sc_Led_drawn (fun vs H Q E h => ?_) (fun cdv A outer s H vs Q E hr h => ?_)
  · obtain ⟨_, _, v, rfl, _⟩ := h
    rfl
  · obtain ⟨d, M, v, rfl, mh, r1, X, qn, q⟩ := h
    have hu := hr.units
    refine ⟨_, (pss_cons (ps_if (pt_val (pe_m0 m_is_dead (hr.mono (by decide)) (pv 0))) (pss_one (ps_ret pe_non)) pss_nil)
      (pss_one (ps_ret (pe_callTy call_lstA (by rfl) T.list boot_list (pa_cons (pe_f c_ascending (hr.mono (by decide)) (pa_cons (pe_lc (own := [("one", 1)]) (g := (gName 1)) (tt := (tTest (tOp (rInA K true) (tVar 1) (tFld K (tVar 0) "put_row")))) (te := (tVar 1)) (by rfl) sc_Led_drawn.nd (pi_keys (pe_ix ix_X (pe_fld (pv 0) rfl) (pe_un un_neg pe_int) (fun _ _ => rfl))) (blkOk_by (by rfl)) (fun _ _ _ _ _ => (pg_name (i := 1) sc_Led_drawn.nd rfl (by first | exact .inl rfl | exact .inr rfl))) (fun _ _ _ _ _ => (pts_one (pt_cmpR (op_niA hu) (pv 1) (pe_fld (pv 0) rfl) (by rfl)))) (fun _ _ _ _ _ => (pv 1))) (pa_cons (pe_fld (pe_fld (pv 0) rfl) rfl) pa_nil))) pa_nil))))), ?_⟩
    cases eo : d.o with
    | none =>
      refine q_if0 (b := true) mh (gt_is (gt_B (gv_isdead (K := K) (gv_var rfl r1))) (by rw [eo]; rfl)) (fun _ H1 hh1 => ?_) fun h => nomatch h
      exact s_ret (P := fun _ v => v = .non) (mh.trans hh1) (gv_c rfl) fun z M' H' g r => by
        rw [show z = _ from r]
        exact qn eo M' H' ((Gr.idle mh hh1).trans g)
    | some so =>
      refine q_if0 (b := false) mh (gt_is (gt_B (gv_isdead (K := K) (gv_var rfl r1))) (by rw [eo]; rfl)) (fun h => nomatch h) fun _ H1 hh1 => ?_
      have G1 := Gr.idle mh hh1
      have few := lits_len (X.few eo) X.nm
      have nn := X.nm.n
      refine s_retL G1.mh (gl_lstOf (K := K) (R1 := Tx) (gv_is (gv_call2 (R1 := CtR K) (R2 := SqR K Tx) (pre := fun _ ns => Shorts ns) (R := fun ls ns => TT (asc ls ns)) (x := so.filter fun y => decide (y ∉ d.ls)) (y := d.c.names) (gv_is (gl_c1 (S := Tx) (R := Tx) (xs := so) (gi_keys (gv_is (gv_lastM (K := K) TL (gv_var rfl r1)) fun M v h => by
        rw [eo] at h
        exact (show DcF so M v from h))) (szK (by omega)) (fun y => decide (y ∉ d.ls)) id
        (fun y hy M12 u12 sm ru => gt_is (gt_test (gv_inA (K := K) (neg := true) (gv_var rfl ru) (gv_is (gv_putrow (K := K) TL (gv_var rfl (Mon.mono sm r1))) fun _ _ h => .inl h.sq))) (by simp)) fun y hy _ M12 u12 sm ru => gv_var rfl ru).li fun _ _ h => .inl (by rw [List.map_id] at h; exact LiR.sq h)) (gv_is (gv_names TC (gv_kept (K := K) TL (gv_var rfl r1))) fun _ _ h => h.sq) (nm_shorts X.nm)) fun _ _ h => TT.sq h)) fun p ws M' H' g h0 m0 hp pd => ?_
      have e := pd_tx pd
      subst e
      exact q so eo p M' H' (G1.trans g) (G1.hh.free h0) m0 hp
abbrev s_Led_len : Stmt := inClass (topS 24) 7
theorem sc_Led_len : FnScope ["self"] ["self"] (defScope s_Led_len) := ⟨rfl, rfl, rfl, by decide +kernel, rfl, by decide +kernel, by decide +kernel⟩
def sp_Led_len (K : PySem.W.Frag) (CL C : Addr) : Sp := sp1 (LedR CL C) (fun _ => True) fun d => It' (d.ls.length : Nat)
theorem ok_Led_len {f CL C : Addr} {fd : FuncData} (F : Fun K "__len__" "Led.__len__" s_Led_len f fd) (T : Gc mg) (TL : LedT K CL) : FnOk P w K mg base CX0 1 f fd ["self"] (sp_Led_len K CL C) := by
  refine F.ok sc_Led_len (fun vs H Q E h => ?_) (fun cdv A outer s H vs Q E hr h => ?_)
  · obtain ⟨x, M, v, rfl, _⟩ := h
    rfl
  · obtain ⟨d, M, v, rfl, mh, r1, _, q⟩ := h
    have hu := hr.units
    refine ⟨_, (pss_one (ps_ret (pe_callB call_lenA (by rfl) T.len boot_len (pa_cons (pe_fld (pv 0) rfl) pa_nil)))), ?_⟩
    exact s_ret mh (gv_lenA (K := K) (R := Tx) (gv_is (gv_putrow (K := K) TL (gv_var rfl r1)) fun _ _ h => LiR.sq h)) q
abbrev s_Led_contains : Stmt := inClass (topS 24) 9
theorem sc_Led_contains : FnScope ["self", "thing"] ["self", "thing"] (defScope s_Led_contains) := ⟨rfl, rfl, rfl, by decide +kernel, rfl, by decide +kernel, by decide +kernel⟩
def sp_Led_contains (K : PySem.W.Frag) (CL C : Addr) : Sp := sp2 (LedR CL C) (DdF K) (fun _ _ => True) fun d t => Bl (inLed d t)
theorem ok_Led_contains {f CL C : Addr} {fd : FuncData} (F : Fun K "__contains__" "Led.__contains__" s_Led_contains f fd) (T : Gc mg) (TL : LedT K CL) (m_is_dead : Met P w K mg base 1 CL "is_dead" ["self"] (sp_Led_is_dead K CL C)) : FnOk P w K mg base CX0 2 f fd ["self", "thing"] (sp_Led_contains K CL C) := by
  refine F.ok sc_Led_contains (fun vs H Q E h => ?_) (fun cdv A outer s H vs Q E hr h => ?_)
  · obtain ⟨x, y, M, v, w, rfl, _⟩ := h
    rfl
  · obtain ⟨d, t, M, v, w, rfl, mh, r1, r2, _, q⟩ := h
    have hu := hr.units
    refine ⟨_, (pss_cons (ps_if (pt_not (pt_val (pe_callB call_isi (by rfl) T.isinstance boot_isinstance (pa_cons (pv 1) (pa_cons (pe_bltn (v := .ty "str") (u := .type "str") (by rfl) T.str (by decide +kernel) rfl) pa_nil))))) (pss_one (ps_ret pe_bl)) pss_nil)
      (pss_one (ps_ret (pe_ifExp (pt_val (pe_m0 m_is_dead (hr.mono (by decide)) (pv 0))) (pe_cmpR (op_inA hu) (pv 1) (pe_fld (pv 0) rfl) (by rfl)) (pe_cmpR (op_inA hu) (pv 1) (pe_ix ix_X (pe_fld (pv 0) rfl) (pe_un un_neg pe_int) (fun _ _ => rfl)) (by rfl)))))), ?_⟩
    by_cases st : ∃ l, t = .str l
    · obtain ⟨l, rfl⟩ := st
      have ew : w = .str l := by
        rcases r2 with h | ⟨h, _⟩
        · cases h; rfl
        · cases h
      subst ew
      refine q_if0 (b := false) mh (gt_is (gt_not (gt_B (gv_isiF (b := true) (gv_var rfl r2) (by simp only [tyN]; decide +kernel)))) rfl) (fun h => nomatch h) fun _ H1 hh1 => ?_
      refine s_ret (P := Bl (inLed d (.str l))) (mh.trans hh1) (gv_if (b := d.o.isNone) (gt_B (gv_isdead (K := K) (gv_var rfl r1))) (fun hb => ?_) fun hb => ?_) fun z M' H' g r => q z M' H' ((Gr.idle mh hh1).trans g) r
      · have e : d.o = none := Option.isNone_iff_eq_none.mp hb
        exact gv_is (gv_inA (K := K) (neg := false) (x := l) (xs := d.ls) (gv_var rfl rfl) (gv_is (gv_putrow (K := K) TL (gv_var rfl r1)) fun _ _ h => .inl (LiR.sq h))) fun M v h => by
          rw [show v = _ from h]
          show V.bl _ = V.bl (decide (l ∈ knownL d))
          unfold knownL
          rw [e]
          simp
      · cases e : d.o with
        | none => rw [e] at hb; cases hb
        | some so =>
          refine gv_is (gv_inA (K := K) (neg := false) (x := l) (xs := so) (gv_var rfl rfl) (gv_is (gv_lastM (K := K) TL (gv_var rfl r1)) fun M v h => by
            rw [e] at h
            exact .inr (show DcF so M v from h).dc)) fun M v h => ?_
          rw [show v = _ from h]
          show V.bl _ = V.bl (decide (l ∈ knownL d))
          unfold knownL
          rw [e]
          simp
    · have e : inLed d t = false := by
        cases t with
        | str l => exact absurd ⟨l, rfl⟩ st
        | _ => rfl
      refine q_if0 (b := true) mh (gt_is (gt_not (gt_B (gv_isiF (b := false) (gv_var rfl r2) (by cases t with
          | str l => exact absurd ⟨l, rfl⟩ st
          | _ => simp only [tyN]; decide +kernel)))) rfl) (fun _ H1 hh1 => ?_) fun h => nomatch h
      exact s_ret (P := Bl false) (mh.trans hh1) (gv_c rfl) fun z M' H' g r => q z M' H' ((Gr.idle mh hh1).trans g) (by show Bl (inLed d t) M' z; rw [e]; exact r)
theorem inst_led {CL C : Addr} (d : LedD) : ∀ (M : Hp) (v : V), LedR CL C d M v → ∃ a dx fs, v = .ref a ∧ M a = some (.ins CL dx fs) := fun M v ⟨x, dx, _, _, _, _, e, h, _⟩ => ⟨x, dx, _, e, h⟩
abbrev s_Led_eq : Stmt := inClass (topS 24) 10
theorem sc_Led_eq : FnScope ["self", "other"] ["self", "other"] (defScope s_Led_eq) := ⟨rfl, rfl, rfl, by decide +kernel, rfl, by decide +kernel, by decide +kernel⟩
def eqL (a b : LedD) : Bool := eqC a.c b.c && decide (a.ls = b.ls)
def sp_Led_eq (K : PySem.W.Frag) (CL C : Addr) : Sp := sp2 (LedR CL C) (LedR CL C) (fun a b => CodeP a.c ∧ CodeP b.c) fun a b => Bl (eqL a b)
theorem ok_Led_eq {f CL C : Addr} {fd : FuncData} (F : Fun K "__eq__" "Led.__eq__" s_Led_eq f fd) (T : Gc mg) (TL : LedT K CL) (IL : InsF K CL) (g_Led : mg "Led" = some (.ref CL)) (o_eq : OwnSp P w K mg base 5 C "__eq__" ["self", "other"] (sp_Code_eq K C)) : FnOk P w K mg base CX0 6 f fd ["self", "other"] (sp_Led_eq K CL C) := by
  refine F.ok sc_Led_eq (fun vs H Q E h => ?_) (fun cdv A outer s H vs Q E hr h => ?_)
  · obtain ⟨x, y, M, v, w, rfl, _⟩ := h
    rfl
  · obtain ⟨a, b, M, v, w, rfl, mh, r1, r2, ⟨XA, XB⟩, q⟩ := h
    have hu := hr.units
    refine ⟨_, (pss_one (ps_ret (pe_and (pe_callB call_isi (by rfl) T.isinstance boot_isinstance (pa_cons (pv 1) (pa_cons (pe_glob (v := .ref CL) (by rfl) g_Led rfl) pa_nil))) (pe_and (pe_cmpR (op_eqO o_eq (hr.mono (by decide))) (pe_fld (pv 0) rfl) (pe_fld (pv 1) rfl) (nomark _)) (pe_one (pe_cmpR (op_eqP hu) (pe_fld (pv 0) rfl) (pe_fld (pv 1) rfl) (nomark _))))))), ?_⟩
    exact s_ret mh (gv_is (gv_andV (b := true) (gv_isC (K := K) IL (gv_var (P := LedR CL C b) rfl r2) (inst_led b)) fun _ => gv_andV (b := eqC a.c b.c) (gv_is (gv_eqO (R1 := CodeR C) (pre := fun a b => CodeP a ∧ CodeP b) (B := eqC) (x := a.c) (y := b.c) (neg := false) (gv_kept (K := K) TL (gv_var rfl r1)) (gv_kept (K := K) TL (gv_var rfl r2)) inst_code ⟨XA, XB⟩) fun M v h => by simpa using h) fun _ => gv_eqT (K := K) (R := LiR Tx) (neg := false) (x := a.ls) (y := b.ls) (fun xs M v h => py_lst py_str _ _ _ (LiR.lst (K := K) h)) (inj_lst inj_str) (gv_putrow (K := K) TL (gv_var rfl r1)) (gv_putrow (K := K) TL (gv_var rfl r2)) (by simp [PyData.depth, depthS])) fun M v h => by
      rw [show v = _ from h]
      show V.bl _ = V.bl _
      unfold eqL
      simp) q
def sp_Led_eqD (K : PySem.W.Frag) (CL C : Addr) : Sp := sp2 (LedR CL C) (DdF K) (fun _ _ => True) fun _ _ => Bl false
theorem ok_Led_eqD {f CL C : Addr} {fd : FuncData} (F : Fun K "__eq__" "Led.__eq__" s_Led_eq f fd) (T : Gc mg) (O : OffC K CL) (g_Led : mg "Led" = some (.ref CL)) : FnOk P w K mg base CX0 6 f fd ["self", "other"] (sp_Led_eqD K CL C) := by
  refine F.ok sc_Led_eq (fun vs H Q E h => ?_) (fun cdv A outer s H vs Q E hr h => ?_)
  · obtain ⟨x, y, M, v, w, rfl, _⟩ := h
    rfl
  · obtain ⟨a, d, M, v, w, rfl, mh, r1, r2, _, q⟩ := h
    have hu := hr.units
    refine ⟨_, (pss_one (ps_ret (pe_and (pe_callB call_isi (by rfl) T.isinstance boot_isinstance (pa_cons (pv 1) (pa_cons (pe_glob (v := .ref CL) (by rfl) g_Led rfl) pa_nil))) (pe_and (pe_cmpR (op_eqP hu) (pe_fld (pv 0) rfl) (pe_fld (pv 1) rfl) (nomark _)) (pe_one (pe_cmpR (op_eqP hu) (pe_fld (pv 0) rfl) (pe_fld (pv 1) rfl) (nomark _))))))), ?_⟩
    exact s_ret mh (gv_is (gv_andV (b := false) (c := false) (fun H mh Q q => ⟨w, rfl, _, _, .type (tyN d), .ref CL, false, rfl, .own CL, ty_F (Mon.mono mh r2), O.kit, q _ M H (.refl mh) rfl⟩) fun h => nomatch h) fun M v h => h) q
def sp_Led_eqI (K : PySem.W.Frag) (CL C : Addr) : Sp := sp2 (LedR CL C) (CodeR C) (fun _ _ => True) fun _ _ => Bl false
theorem ok_Led_eqI {f CL C : Addr} {fd : FuncData} (F : Fun K "__eq__" "Led.__eq__" s_Led_eq f fd) (T : Gc mg) (I : InsF K C) (hk : PySem.W.kitOne K (.ref C) (.ref CL) = some false) (g_Led : mg "Led" = some (.ref CL)) : FnOk P w K mg base CX0 6 f fd ["self", "other"] (sp_Led_eqI K CL C) := by
  refine F.ok sc_Led_eq (fun vs H Q E h => ?_) (fun cdv A outer s H vs Q E hr h => ?_)
  · obtain ⟨x, y, M, v, w, rfl, _⟩ := h
    rfl
  · obtain ⟨a, c, M, v, w, rfl, mh, r1, r2, _, q⟩ := h
    have hu := hr.units
    refine ⟨_, (pss_one (ps_ret (pe_and (pe_callB call_isi (by rfl) T.isinstance boot_isinstance (pa_cons (pv 1) (pa_cons (pe_glob (v := .ref CL) (by rfl) g_Led rfl) pa_nil))) (pe_and (pe_cmpR (op_eqP hu) (pe_fld (pv 0) rfl) (pe_fld (pv 1) rfl) (nomark _)) (pe_one (pe_cmpR (op_eqP hu) (pe_fld (pv 0) rfl) (pe_fld (pv 1) rfl) (nomark _))))))), ?_⟩
    exact s_ret mh (gv_is (gv_andV (b := false) (c := false) (fun H mh Q q => by
      obtain ⟨b, dx, fs, rfl, hi⟩ := inst_code c M w r2
      exact ⟨.ref b, rfl, _, _, .ref C, .ref CL, false, rfl, .own CL, .base (.ins (mh _ _ hi) I.cl I.gc I.sp I.tk I.mr), hk, q _ M H (.refl mh) rfl⟩) fun h => nomatch h) fun M v h => h) q
end
end My

set_option Elab.async false
set_option linter.all false
set_option maxRecDepth 100000
set_option maxHeartbeats 8000000
set_option pp.maxSteps 900
namespace My
open PySem PySem.Spec PyProof.Rows L2 L3
open L3.Strm
/-! somebody led: a copy, and deeds that may fail -/
theorem delS_new {M : Hp} {bs : List Addr} (h : ∀ b ∈ bs, M b = none) : delS M bs = M := by
  funext x
  by_cases z : x ∈ bs
  · rw [delS_off z, h x z]
  · rw [delS_on z]
/-- a new thing is forgotten again, to be changed -/
theorem Gr.forget {M H M' H' : Hp} {x : Addr} (g : Gr M H M' H') (mh : Same M H) (h0 : H x = none) : Gr M H (delS M' [x]) H' := by
  have m0 : M x = none := mh.free h0
  have h := Gr.delB (bs := [x]) g
  rw [delS_new (fun b hb => by rw [List.mem_singleton.mp hb]; exact m0), delS_new (fun b hb => by rw [List.mem_singleton.mp hb]; exact h0)] at h
  refine Gr.unS (bs := [x]) (.refl mh) (M' := delS M' [x]) (H' := H') ?_ fun b hb => by rw [List.mem_singleton.mp hb]; exact h0
  rw [delS_new (M := H) (fun b hb => by rw [List.mem_singleton.mp hb]; exact h0)]
  exact h
def HoldL (CL x dx : Addr) (vc : V) (p q a : Addr) (us : List V) : Pr := fun M v => v = .ref x ∧ M x = some (.ins CL dx (ledF vc p q)) ∧ M a = some (.lst us)
instance {CL x dx : Addr} {vc : V} {p q a : Addr} {us : List V} : Mono (HoldL CL x dx vc p q a us) := ⟨fun e ⟨h, h1, h2⟩ => ⟨h, e _ _ h1, e _ _ h2⟩⟩
theorem pd_eq {M : Hp} : ∀ {xs vs : List V}, Pd EqV M xs vs → vs = xs
  | [], _, .nil => rfl
  | _ :: _, _, .cons h t => by rw [show _ = _ from h, pd_eq t]
section
variable {P : Program} {w : World} {K : PySem.W.Frag} {mg : Str → Option Value} {base : Heap}
abbrev s_Led_copy : Stmt := inClass (topS 24) 11
theorem sc_Led_copy : FnScope ["self", "other"] ["self"] (defScope s_Led_copy) := ⟨rfl, rfl, rfl, by decide +kernel, rfl, by decide +kernel, by decide +kernel⟩
def sp_Led_copy (K : PySem.W.Frag) (CL C : Addr) : Sp := fun vs H Q _ => ∃ d x dx p q vc ms M, vs = [.ref x] ∧ LedH CL C d x dx p q vc ms M H ∧ LedOk d ∧ (d.ls.length ≤ 1000 ∧ ms.length ≤ 1000) ∧
  ∀ x2 dx2 p2 q2 M' H', TwoAt M H M' H' p q (d.ls.map V.str) ms → H x2 = none → M' x2 = some (.ins CL dx2 (ledF vc p2 q2)) → p2 ≠ q2 → H p2 = none → M' p2 = none → H' p2 = some (.lst (d.ls.map V.str)) → H q2 = none → M' q2 = none → H' q2 = some (.lst ms) → Q (.ref x2) H'
theorem ok_Led_copy {f CL C : Addr} {fd : FuncData} (F : Fun K "copy" "Led.copy" s_Led_copy f fd) (T : Gc mg) (TL : LedT K CL) (k_Led : Mak P w K mg base 4 "Led" CL ["self", "code"] (sp_Led_init K CL C)) : FnOk P w K mg base CX0 6 f fd ["self"] (sp_Led_copy K CL C) := by
  refine F.ok sc_Led_copy (fun vs H Q E h => ?_) (fun cdv A outer s H vs Q E hr h => ?_)
  · obtain ⟨_, _, _, _, _, _, _, _, rfl, _⟩ := h
    rfl
  · obtain ⟨d, x, dx, p, q, vc, ms, M, rfl, L, X, ⟨l1, l2⟩, qq⟩ := h
    have hu := hr.units
    refine ⟨_, (pss_cons (ps_set (i := 1) sc_Led_copy.nd rfl (by first | exact .inl rfl | exact .inr rfl) (pe_mk k_Led (hr.mono (by decide)) (pa_cons (pe_fld (pv 0) rfl) pa_nil)))
      (pss_cons (ps_fld (pv 1) (pe_callTy call_lstA (by rfl) T.list boot_list (pa_cons (pe_fld (pv 0) rfl) pa_nil)) rfl)
      (pss_cons (ps_fld (pv 1) (pe_callTy call_lstA (by rfl) T.list boot_list (pa_cons (pe_fld (pv 0) rfl) pa_nil)) rfl)
      (pss_one (ps_ret (pv 1)))))), ?_⟩
    obtain ⟨mh, rl⟩ := L.known
    have hx0 : (upd (upd M p (.lst (d.ls.map V.str))) q (.lst ms)) x = some (.ins CL dx (ledF vc p q)) := L.up _ _ L.x
    have rc0 : CodeR C d.c (upd (upd M p (.lst (d.ls.map V.str))) q (.lst ms)) vc := Mon.mono L.up L.c
    have fin := fun {M' H' : Hp} (g : Gr (upd (upd M p (.lst (d.ls.map V.str))) q (.lst ms)) H M' H') => TwoAt.ofKnown L.mh L.ne L.hp L.hq g
    have kp : (upd (upd M p (.lst (d.ls.map V.str))) q (.lst ms)) p = some (.lst (d.ls.map V.str)) := by rw [upd_ne L.ne, upd_same]
    have kq : (upd (upd M p (.lst (d.ls.map V.str))) q (.lst ms)) q = some (.lst ms) := upd_same
    revert mh rl hx0 rc0 fin kp kq
    generalize upd (upd M p (.lst (d.ls.map V.str))) q (.lst ms) = W
    intro mh rl hx0 rc0 fin kp kq
    have X0 : Ctx d.c.names d.c.clauses [] := ⟨X.nm, X.k, ⟨.nil, fun _ h => by cases h⟩⟩
    refine q_asgS (gv_fieldA rfl hx0 TL.cl TL.nK rfl H mh _ fun vc' M1 H1 g1 e1 => ?_)
    cases (show vc' = vc from e1)
    intro x2 dx2 nx ndx ne
    refine ⟨d.c, M1, H1, x2, dx2, vc, rfl, (Gr.own g1.mh ndx).trans (.own (Gr.own g1.mh ndx).mh (by rw [upd_ne (Ne.symm ne)]; exact nx)), nx, g1.mh.free nx, upd_same, Mon.mono g1.mm rc0, X0, X.w, fun o u pa qa M2 H2 g2 hx2 _ _ _ _ _ => ⟨rfl, ?_⟩⟩
    have g3 : Gr M1 H1 (delS M2 [x2]) H2 := Gr.forget g2 g1.mh nx
    have h2 : H2 x2 = some (.ins CL dx2 (ledF vc pa qa)) := g2.mh _ _ hx2
    have m2 : (delS M2 [x2]) x2 = none := delS_off (by simp)
    have G3 := g1.trans g3
    have hx2n : H x2 = none := g1.hh.free nx
    have xne : x ≠ x2 := fun e => by have := mh _ _ hx0; rw [e, hx2n] at this; cases this
    clear g2 g3 hx2 nx ndx
    revert G3 m2
    generalize delS M2 [x2] = M3
    intro m2 G3
    -- the choices
    refine q_fldRaw (gl_lstOf (K := K) (R1 := EqV) (xs := d.ls.map V.str) (gv_fld (P' := HoldL CL x dx vc p q p (d.ls.map V.str)) (gv_var (i := 0) rfl ⟨rfl, G3.mm _ _ hx0, G3.mm _ _ kp⟩) fun M v ⟨e, h1, h2⟩ => ⟨x, CL, dx, _, .ref p, e, h1, TL.cl, TL.nP, rfl, .inl ⟨p, _, rfl, .inl (.inl h2), pd_eqv _⟩⟩) H2 G3.mh _ fun p2 ws M4 H4 g4 h04 m04 hp4 pd4 => ?_)
    have e4 := pd_eq pd4
    subst e4
    have G4 := G3.trans g4
    have h4 := g4.hh _ _ h2
    have m4 := g4.keep m2 h2
    have np2 : p2 ≠ x2 := fun e => by rw [e, h2] at h04; cases h04
    refine ⟨.ref x2, rfl, x2, CL, dx2, _, rfl, h4, TL.cl, TL.nP, by show 3 < 1000; decide, ?_⟩
    have G5 := G4.mut (o := .ins CL dx2 (putF "put_row" (.ref p2) (ledF vc pa qa))) hx2n m4
    have h5 : upd H4 x2 (.ins CL dx2 (putF "put_row" (.ref p2) (ledF vc pa qa))) x2 = some (.ins CL dx2 (ledF vc p2 qa)) := upd_same
    have o5 : (upd H4 x2 (.ins CL dx2 (putF "put_row" (.ref p2) (ledF vc pa qa)))) p2 = some (.lst (d.ls.map V.str)) := by rw [upd_ne np2]; exact hp4
    revert G5 h5 o5
    generalize upd H4 x2 (.ins CL dx2 (putF "put_row" (.ref p2) (ledF vc pa qa))) = H5
    intro G5 h5 o5
    -- the moments
    refine q_fldRaw (gl_lstOf (K := K) (R1 := EqV) (xs := ms) (gv_fld (P' := HoldL CL x dx vc p q q ms) (gv_var (i := 0) rfl ⟨rfl, G5.mm _ _ hx0, G5.mm _ _ kq⟩) fun M v ⟨e, h1, h2⟩ => ⟨x, CL, dx, _, .ref q, e, h1, TL.cl, TL.nM, rfl, .inl ⟨q, _, rfl, .inl (.inl h2), pd_eqv _⟩⟩) H5 G5.mh _ fun q2 ws M6 H6 g6 h06 m06 hq6 pd6 => ?_)
    have e6 := pd_eq pd6
    subst e6
    have G6 := G5.trans g6
    have h6 := g6.hh _ _ h5
    have m6 := g6.keep m4 h5
    have o6 := g6.hh _ _ o5
    have mp6 := g6.keep m04 o5
    have nq2 : q2 ≠ x2 := fun e => by rw [e, h5] at h06; cases h06
    have npq : p2 ≠ q2 := fun e => by rw [← e, o5] at h06; cases h06
    refine ⟨.ref x2, rfl, x2, CL, dx2, _, rfl, h6, TL.cl, TL.nM, by show 3 < 1000; decide, ?_⟩
    have G7 := (G6.mut (o := .ins CL dx2 (putF "moments" (.ref q2) (ledF vc p2 qa))) hx2n m6).freeze (o := .ins CL dx2 (ledF vc p2 q2)) hx2n m6 upd_same
    have x2p : x2 ≠ p := fun e => by have := mh _ _ kp; rw [← e, hx2n] at this; cases this
    have x2q : x2 ≠ q := fun e => by have := mh _ _ kq; rw [← e, hx2n] at this; cases this
    have x2n : x2 ∉ [p, q] := by simp [x2p, x2q]
    have none_ : ∀ b, M6 b = none → b ≠ x2 → (delS (upd M6 x2 (.ins CL dx2 (ledF vc p2 q2))) [p, q]) b = none := fun b hb nb => by
      by_cases z : b ∈ [p, q]
      · exact delS_off z
      · rw [delS_on z, upd_ne nb]; exact hb
    exact ⟨.ref x2, rfl, qq x2 dx2 p2 q2 _ _ (fin G7) hx2n (by rw [delS_on x2n, upd_same]) npq (G3.hh.free h04) (none_ _ mp6 np2) (by rw [upd_ne np2]; exact o6) (G5.hh.free h06) (none_ _ m06 nq2) (by rw [upd_ne nq2]; exact hq6)⟩
end
end My

set_option Elab.async false
set_option linter.all false
set_option maxRecDepth 100000
set_option maxHeartbeats 8000000
set_option pp.maxSteps 900
namespace My
open PySem PySem.Spec PyProof.Rows L2 L3
open L3.Strm
/-! deeds that may fail -/
def putL (ns : List Str) (so s' : List Str) (l : Str) : List Str := asc (s'.filter fun x => decide (x ∉ so) && decide (x ≠ l)) ns
/-- what a put tells, or raises; self: it is a += -/
def sp_putX (K : PySem.W.Frag) (CL C DE BL IS : Addr) (self : Bool) : Sp := fun vs H Q E => ∃ d t w x dx p q vc ms M, vs = [.ref x, w] ∧ LedH CL C d x dx p q vc ms M H ∧ DdF K t M w ∧ LedOk d ∧ shortD t ∧ (d.ls.length ≤ 1000 ∧ ms.length ≤ 1000) ∧
  (d.o = none → ∀ M' H', TwoAt M H M' H' p q (d.ls.map V.str) ms → E (.ref DE) none H') ∧
  (∀ so, d.o = some so → isLit d.c.signs t = false → ∀ a M' H', TwoAt M H M' H' p q (d.ls.map V.str) ms → H' a = some (.xd [("literal", w)]) → E (.ref BL) (some a) H') ∧
  (∀ so l, d.o = some so → t = .str l → isLit d.c.signs t = true → (l ∈ so ∨ opp l ∈ so) → ∀ a M' H', TwoAt M H M' H' p q (d.ls.map V.str) ms → H' a = some (.xd [("name", .str (nameOf l))]) → E (.ref IS) (some a) H') ∧
  (∀ so l, d.o = some so → t = .str l → isLit d.c.signs t = true → l ∉ so → opp l ∉ so → ∀ u M' H', TwoAt M H M' H' p q ((d.ls ++ [l]).map V.str) (ms ++ [u]) → u = .non → EndsOk d.c.names d.c.clauses (d.ls ++ [l]) none → Q (if self then .ref x else .non) H') ∧
  (∀ so l, d.o = some so → t = .str l → isLit d.c.signs t = true → l ∉ so → opp l ∉ so → ∀ s' u r M' H', TwoAt M H M' H' p q ((d.ls ++ [l]).map V.str) (ms ++ [u]) → DcF s' M' u → EndsOk d.c.names d.c.clauses (d.ls ++ [l]) (some s') → H r = none → M' r = none → H' r = some (.lst ((putL d.c.names so s' l).map V.str)) → Q (if self then .ref x else .ref r) H')
theorem lit_sign {ns : List Str} {l : Str} (h : isLit ns (.str l) = true) : nameOf l ∈ ns := of_decide_eq_true h
theorem lit_side {ns : List Str} {l : Str} (nm : NmL ns) (h : isLit ns (.str l) = true) : l ∈ litsOf ns := by
  have h := lit_sign h
  refine mem_litsOf.mpr ⟨nameOf l, h, ?_⟩
  exact name_shape l
section
variable {P : Program} {w : World} {K : PySem.W.Frag} {mg : Str → Option Value} {base : Heap}
theorem ok_putX {f CL C DE BL IS : Addr} {fd : FuncData} (F : Fun K "put" "Led.put" s_Led_put f fd) (T : Gc mg) (TL : LedT K CL) (TC : CodeT K mg C) (RD : RawC K mg "Dead" DE) (RB : Rai P w K mg base 1 "BadLiteral" BL "literal") (RI : Rai P w K mg base 1 "IsSet" IS "name") (m_is_dead : Met P w K mg base 1 CL "is_dead" ["self"] (sp_Led_is_dead K CL C)) (c_is_literal : Cal P w K mg base 2 "is_literal" ["thing", "names"] (sp_is_literalE K)) (c_opposite : Cal P w K mg base 1 "opposite" ["literal"] (sp_opposite K)) (c_name_of : Cal P w K mg base 1 "name_of" ["literal"] (sp_name_of K))
    (c_chase : Cal P w K mg base 3 "chase" ["clauses", "setting"] (sp_chase K)) (c_ascending : Cal P w K mg base 1 "ascending" ["literals", "names"] (sp_ascending K)) : FnOk P w K mg base (L2.CX P w) 5 f fd ["self", "literal"] (sp_putX K CL C DE BL IS false) := by
  refine F.okX sc_Led_put (fun vs H Q E h => ?_) (fun cdv A outer s H vs Q E hr h => ?_)
  · obtain ⟨_, _, _, _, _, _, _, _, _, _, rfl, _⟩ := h
    rfl
  · obtain ⟨d, t, w, x, dx, p, q, vc, ms, M, rfl, L, r2, X, sh, ⟨xn1, xn2⟩, qd, qb, qi, qn, qs⟩ := h
    have hu := hr.units
    refine ⟨_, (pss_cons (ps_if (pt_val (pe_m0 m_is_dead (hr.mono (by decide)) (pv 0))) (pss_one (ps_raw RD rfl (takes_of rfl rfl rfl rfl))) pss_nil)
      (pss_cons (ps_if (pt_not (pt_val (pe_f c_is_literal (hr.mono (by decide)) (pa_cons (pv 1) (pa_cons (pe_fld (pe_fld (pv 0) rfl) rfl) pa_nil))))) (pss_one (ps_rai RB (hr.mono (by decide)) rfl (takes_of rfl rfl rfl rfl) (pa_cons (pv 1) pa_nil))) pss_nil)
      (pss_cons (ps_set (i := 2) sc_Led_put.nd rfl (by first | exact .inl rfl | exact .inr rfl) (pe_ix ix_X (pe_fld (pv 0) rfl) (pe_un un_neg pe_int) (fun _ _ => rfl)))
      (pss_cons (ps_if (PW.pt (pw_or (pt_cmpR (op_inA hu) (pv 1) (pv 2) (by rfl)) (pw_or1 (pt_cmpR (op_inA hu) (pe_f c_opposite (hr.mono (by decide)) (pa_cons (pv 1) pa_nil)) (pv 2) (by rfl))))) (pss_one (ps_rai RI (hr.mono (by decide)) rfl (takes_of rfl rfl rfl rfl) (pa_cons (pe_f c_name_of (hr.mono (by decide)) (pa_cons (pv 1) pa_nil)) pa_nil))) pss_nil)
      (pss_cons (ps_asg (pe_f c_chase (hr.mono (by decide)) (pa_cons (pe_fld (pe_fld (pv 0) rfl) rfl) (pa_cons (pe_lst (pa_starK (by rfl) (pv 2) (pa_cons (pv 1) pa_nil))) pa_nil))) (pg_tup (by rfl) (pgs_cons (pg_name (i := 3) sc_Led_put.nd rfl (by first | exact .inl rfl | exact .inr rfl)) (pgs_cons (pg_name (i := 4) sc_Led_put.nd rfl (by first | exact .inl rfl | exact .inr rfl)) pgs_nil))))
      (pss_cons (ps_expr (pe_bm PySem.F.plainAttrs_list PySem.F.slot_list_append PySem.F.type_list_append mt_append (pe_fld (pv 0) rfl) (pa_cons (pv 1) pa_nil)))
      (pss_cons (ps_expr (pe_bm PySem.F.plainAttrs_list PySem.F.slot_list_append PySem.F.type_list_append mt_append (pe_fld (pv 0) rfl) (pa_cons (pv 3) pa_nil)))
      (pss_cons (ps_if (pt_cmp (pc_isN (pv 3))) (pss_one (ps_ret pe_non)) pss_nil)
      (pss_one (ps_ret (pe_callTy call_lstA (by rfl) T.list boot_list (pa_cons (pe_f c_ascending (hr.mono (by decide)) (pa_cons (pe_lc (own := [("one", 5)]) (g := (gName 5)) (tt := (tAnd (tTest (tOp (rInA K true) (tVar 5) (tVar 2))) (tTest (tOp (rEqP K true) (tVar 5) (tVar 1))))) (te := (tVar 5)) (by rfl) sc_Led_put.nd (pi_keys (pv 3)) (blkOk_by (by rfl)) (fun _ _ _ _ _ => (pg_name (i := 5) sc_Led_put.nd rfl (by first | exact .inl rfl | exact .inr rfl))) (fun _ _ _ _ _ => (pts_one (PW.pt (pw_and (pt_cmpR (op_niA hu) (pv 5) (pv 2) (by rfl)) (pw_and1 (pt_cmpR (op_neP hu) (pv 5) (pv 1) (nomark _))))))) (fun _ _ _ _ _ => (pv 5))) (pa_cons (pe_fld (pe_fld (pv 0) rfl) rfl) pa_nil))) pa_nil)))))))))))), ?_⟩
    obtain ⟨mh, rl⟩ := L.known
    have fin := fun {M' H' : Hp} (g : Gr (upd (upd M p (.lst (d.ls.map V.str))) q (.lst ms)) H M' H') => TwoAt.ofKnown L.mh L.ne L.hp L.hq g
    have r2k : DdF K t (upd (upd M p (.lst (d.ls.map V.str))) q (.lst ms)) w := Mon.mono L.up r2
    cases eo : d.o with
    | none =>
      refine q_if0 (b := true) mh (gt_is (gt_B (gv_isdead (K := K) (gv_var rfl rl))) (by rw [eo]; rfl)) (fun _ H1 hh1 => ?_) fun h => nomatch h
      exact qd eo _ H1 (fin (.idle mh hh1))
    | some so =>
    refine q_if0 (b := false) mh (gt_is (gt_B (gv_isdead (K := K) (gv_var rfl rl))) (by rw [eo]; rfl)) (fun h => nomatch h) fun _ H1 hh1 => ?_
    have G1 := Gr.idle mh hh1
    have gl : GvT (tNot (tB (tCall (sp_is_literalE K) [] E0 (tCons (tVar 1) (tCons (tFld K (tFld K (tVar 0) "kept") "sign_row") tNil))))) [some (.ref x), some w, none, none, none, none] (upd (upd M p (.lst (d.ls.map V.str))) q (.lst ms)) (!isLit d.c.signs t) := gt_not (gt_B (gv_call2 (R1 := DdF K) (R2 := SqR K Tx) (pre := fun d _ => shortD d) (R := fun d ns => Bl (isLit ns d)) (x := t) (y := d.c.signs) (gv_var rfl r2k) (gv_is (gv_sign TC (gv_kept (K := K) TL (gv_var rfl rl))) fun _ _ h => h.sq) sh))
    cases hl : isLit d.c.signs t with
    | false =>
      refine q_if0 (b := true) G1.mh (gt_is gl (by rw [hl]; rfl)) (fun _ H2 hh2 => ?_) fun h => nomatch h
      have G2 := G1.trans (.idle G1.mh hh2)
      exact s_rai (P := fun _ v => v = w) G2.mh (gv_var rfl rfl) fun v6 M6 H6 d6 g6 e6 nd => by
        cases (show v6 = w from e6)
        exact qb so eo hl d6 _ _ (fin ((G2.trans g6).trans (.own g6.mh nd))) upd_same
    | true =>
    obtain ⟨l, rfl⟩ : ∃ l, t = .str l := by
      cases t with
      | str l => exact ⟨l, rfl⟩
      | _ => cases hl
    have ew : w = .str l := by
      rcases r2 with h | ⟨h, _⟩
      · cases h; rfl
      · cases h
    subst ew
    refine q_if0 (b := false) G1.mh (gt_is gl (by rw [hl]; rfl)) (fun h => nomatch h) fun _ H2 hh2 => ?_
    have G2 := G1.trans (.idle G1.mh hh2)
    have nmS : NmL d.c.signs := ⟨(List.nodup_append.mp (show (d.c.signs ++ d.c.helpers).Nodup from X.nm.nd)).1, fun n hn => X.nm.nm n (List.mem_append_left _ hn), Nat.le_trans (by show d.c.signs.length ≤ (d.c.signs ++ d.c.helpers).length; rw [List.length_append]; omega) X.nm.n⟩
    have hll := lit_side nmS hl
    obtain ⟨n, hn, side⟩ := mem_litsOf.mp hll
    have hm := nmS.nm n hn
    have hnl := nm_len hm
    have ll : l.length ≤ 1000 := sh
    have gopp : ∀ {σ' : Sl} {M' : Hp} {te : TE}, Gv te σ' M' (Tx l) → Gv (tCall (sp_opposite K) [] E0 (tCons te tNil)) σ' M' (Tx (opp l)) := fun h => gv_call1 (R1 := Tx) (pre := fun x => x.length ≤ 1000) (R := fun x => Tx (opp x)) (x := l) h (by omega)
    refine q_asg (P := OpR' DcF d.o) G2.mh (gv_lastM (K := K) TL (gv_var rfl rl)) fun v2 M3 H3 g3 r3 => ?_
    rw [eo] at r3
    have r3 : DcF so M3 v2 := r3
    have rc : CtR K so M3 v2 := .inr r3.dc
    have G3 := G2.trans g3
    have rl3 : LedR CL C d M3 (.ref x) := Mon.mono g3.mm rl
    by_cases hs : l ∈ so ∨ opp l ∈ so
    · refine q_if0 (b := true) G3.mh (gt_is (gt_or (gt_is (gt_test (gv_inA (K := K) (neg := false) (x := l) (xs := so) (gv_var rfl rfl) (gv_var rfl rc))) (by simp; rfl)) fun _ => gt_is (gt_test (gv_inA (K := K) (neg := false) (x := opp l) (xs := so) (gopp (gv_var rfl rfl)) (gv_var rfl rc))) (by simp; rfl)) (by simpa using hs)) (fun _ H4 hh4 => ?_) fun h => nomatch h
      have G4 := G3.trans (.idle G3.mh hh4)
      exact s_rai (P := Tx (nameOf l)) G4.mh (gv_call1 (R1 := Tx) (pre := fun x => x.length ≤ 1000) (R := fun x => Tx (nameOf x)) (x := l) (gv_var rfl rfl) ll) fun v6 M6 H6 d6 g6 e6 nd => by
        cases (show v6 = .str (nameOf l) from e6)
        exact qi so l eo rfl hl hs d6 _ _ (fin ((G4.trans g6).trans (.own g6.mh nd))) upd_same
    obtain ⟨n1, n2⟩ := not_or.mp hs
    refine q_if0 (b := false) G3.mh (gt_is (gt_or (gt_is (gt_test (gv_inA (K := K) (neg := false) (x := l) (xs := so) (gv_var rfl rfl) (gv_var rfl rc))) (by simp; rfl)) fun _ => gt_is (gt_test (gv_inA (K := K) (neg := false) (x := opp l) (xs := so) (gopp (gv_var rfl rfl)) (gv_var rfl rc))) (by simp; rfl)) (by rw [decide_eq_false n1, decide_eq_false n2]; rfl)) (fun h => nomatch h) fun _ H4 hh4 => ?_
    have G4 := G3.trans (.idle G3.mh hh4)
    -- following
    have he : EndsOk d.c.names d.c.clauses d.ls (some so) := eo ▸ X.e
    have Lso := so_lits X.nm he.2.2
    have hno : n ∈ opn d.c.names so := mem_opn.mpr ⟨List.mem_append_left _ hn, fun z => by
      rcases side with e | e
      · exact n1 (e ▸ z)
      · exact n2 (by rw [e, opp_neg hm]; exact z), fun z => by
      rcases side with e | e
      · exact n2 (by rw [e, opp_nm hm]; exact z)
      · exact n1 (e ▸ z)⟩
    have X2 : Ctx d.c.names d.c.clauses (so ++ [l]) := ⟨X.nm, X.k, lits_put X.nm Lso hno side⟩
    have few := so_few X.x he.2.2
    have nn := X.nm.n
    refine q_chase (ns := d.c.names) G4.mh (gv_is (gv_clause TC (gv_kept TL (gv_var rfl rl3))) fun _ _ h => by
      obtain ⟨a, vs, e, h1, h2⟩ := h
      exact .inr ⟨a, vs, e, .inl (.inl h1), Paired.mapP h2 fun _ _ q => TT.sq q⟩) (gv_is (gv_starK (gv_var rfl r3.dc) (gv_var rfl rfl) (by omega)) fun _ _ h => h.sq) X2 X.w fun o' u5 v6 M5 H5 g5 he5 ru => ?_
    have G5 := G4.trans g5
    have T5 := fin G5
    have s5 : Same M (delS M5 [p, q]) := T5.g.mm
    have hx5 : (delS M5 [p, q]) x = some (.ins CL dx (ledF vc p q)) := s5 _ _ L.x
    have nmq : ∀ {a : Addr} {o : HO}, M5 a = some o → (∀ vs, o ≠ .lst vs) → a ∉ [p, q] := fun {a o} e ne z => by
      simp only [List.mem_cons, List.not_mem_nil, or_false] at z
      rcases z with rfl | rfl
      · have := G5.mh _ _ e; rw [T5.hp] at this; exact ne _ (Option.some.inj this).symm
      · have := G5.mh _ _ e; rw [T5.hq] at this; exact ne _ (Option.some.inj this).symm
    have ru5 : OpR' DcF o' (delS M5 [p, q]) u5 := by
      cases o' with
      | none => exact ru
      | some s' =>
        obtain ⟨a, ob, e, h⟩ := (show DcF s' M5 u5 from ru)
        exact ⟨a, ob, e, by rw [delS_on (nmq h fun vs z => by cases z)]; exact h⟩
    have r25 : CtR K so (delS M5 [p, q]) v2 := by
      obtain ⟨a, ob, e, h⟩ := (Mon.mono (g5.mm) r3 : DcF so M5 v2)
      exact .inr (DcF.dc ⟨a, ob, e, by rw [delS_on (nmq h fun vs z => by cases z)]; exact h⟩)
    have rc5 : CodeR C d.c (delS M5 [p, q]) vc := Mon.mono s5 L.c
    revert T5 s5 hx5 ru5 r25 rc5
    generalize delS M5 [p, q] = M6
    intro T5 s5 hx5 ru5 r25 rc5
    -- both lists
    refine q_appAtG (P := fun _ v => v = .str l) T5.mh (gv_fieldA rfl hx5 TL.cl TL.nP rfl) T5.hp (szM (by rw [List.length_map]; omega)) (fun M1 sm => gv_var rfl rfl) fun v7 M7 H7 g7 r7 => ?_
    cases (show v7 = _ from r7)
    have T7 := (T5.step g7).putp (vs' := d.ls.map V.str ++ [.str l])
    revert T7
    generalize upd H7 p (.lst (d.ls.map V.str ++ [.str l])) = H8
    intro T7
    refine q_appAtG (P := fun _ v => v = u5) T7.mh (gv_fieldA rfl (g7.mm _ _ hx5) TL.cl TL.nM rfl) T7.hq (szM (by omega)) (fun M1 sm => gv_var rfl rfl) fun v9 M9 H9 g9 r9 => ?_
    cases (show v9 = _ from r9)
    have T9 := (T7.step g9).putq (ws' := ms ++ [u5])
    revert T9
    generalize upd H9 q (.lst (ms ++ [u5])) = H10
    intro T9
    have s79 := g7.mm.trans g9.mm
    have ru9 : OpR' DcF o' M9 u5 := Mon.mono s79 ru5
    have told := fun {M' H' : Hp} (g : Gr M9 H10 M' H') => by
      have := T9.step g
      rw [show d.ls.map V.str ++ [V.str l] = (d.ls ++ [l]).map V.str by rw [List.map_append]; rfl] at this
      exact this
    have ends := ends_put X.x he he5
    refine q_if0 (b := o'.isNone) T9.mh (gt_B (gv_isN (b := o'.isNone) (gv_var (P := OpR' DcF o') rfl ru9) fun M v h => opD_non h)) (fun hb H11 hh => ?_) fun hb H11 hh => ?_
    · have e0 : o' = none := Option.isNone_iff_eq_none.mp hb
      subst e0
      exact s_ret (P := fun _ v => v = .non) (T9.mh.trans hh) (gv_c rfl) fun z M' H' g r => by
        rw [show z = _ from r]
        exact qn so l eo rfl hl n1 n2 u5 M' H' (told ((Gr.idle T9.mh hh).trans g)) ru9 ends
    cases o' with
    | none => cases hb
    | some s' =>
      have ru9 : DcF s' M9 u5 := ru9
      have few' := so_few X2 he5.2.2
      have sh' : ∀ y ∈ s', y.length ≤ 1000 := fun y hy => Nat.le_trans (lits_short (so_lits X.nm he5.2.2) X.nm y hy) (by decide)
      have hp10 : ∀ {r : Addr}, H11 r = none → H r = none := fun {r} h0 => by
        by_cases z : r ∈ [p, q]
        · simp only [List.mem_cons, List.not_mem_nil, or_false] at z
          rcases z with rfl | rfl
          · have := hh _ _ T9.hp; rw [h0] at this; cases this
          · have := hh _ _ T9.hq; rw [h0] at this; cases this
        · cases e : H r with
          | none => rfl
          | some ob =>
            have := T9.g.hh r ob (by rw [delS_on z]; exact e)
            rw [delS_on z] at this
            have := hh _ _ this
            rw [h0] at this
            cases this
      exact s_retL (T9.mh.trans hh) (gl_lstOf (K := K) (R1 := Tx) (gv_is (gv_call2 (R1 := CtR K) (R2 := SqR K Tx) (pre := fun _ ns => Shorts ns) (R := fun ls ns => TT (asc ls ns)) (y := d.c.names) (gv_is (gl_c1 (S := Tx) (R := Tx) (xs := s') (gi_keys (gv_var rfl ru9)) (szK (by omega)) (fun y => decide (y ∉ so) && decide (y ≠ l)) id
        (fun y hy M12 u12 sm ru => gt_and (b := decide (y ∉ so)) (c := decide (y ≠ l)) (gt_is (gt_test (gv_inA (K := K) (neg := true) (gv_var rfl ru) (gv_var rfl (Mon.mono (s79.trans sm) r25)))) (by simp)) fun _ => gt_is (gt_test (gv_eqT (K := K) (neg := true) py_str inj_str (gv_var rfl ru) (gv_var rfl rfl) (by simp [PyData.depth]))) (by simp)) fun y hy _ M12 u12 sm ru => gv_var rfl ru).li fun _ _ h => .inl (by rw [List.map_id] at h; exact LiR.sq h)) (gv_is (gv_names TC (gv_fld (gv_var (P := HoldR CL C x dx vc p q d.c) rfl ⟨rfl, s79 _ _ hx5, Mon.mono s79 rc5⟩) fun M' v ⟨e, h, hc⟩ => ⟨x, CL, dx, _, vc, e, h, TL.cl, TL.nK, rfl, hc⟩)) fun _ _ h => h.sq) (nm_shorts X.nm)) fun _ _ h => TT.sq h)) fun r ws M' H' g h0 m0 hr pd => by
          have e := pd_tx pd
          subst e
          exact qs so l eo rfl hl n1 n2 s' u5 r M' H' (told ((Gr.idle T9.mh hh).trans g)) (Mon.mono g.mm ru9) ends (hp10 h0) m0 hr
abbrev s_Led_iadd : Stmt := inClass (topS 24) 5
theorem sc_Led_iadd : FnScope ["self", "literal"] ["self", "literal"] (defScope s_Led_iadd) := ⟨rfl, rfl, rfl, by decide +kernel, rfl, by decide +kernel, by decide +kernel⟩
theorem ok_iaddX {f CL C DE BL IS : Addr} {fd : FuncData} (F : Fun K "__iadd__" "Led.__iadd__" s_Led_iadd f fd) (mX_put : MetX P w K mg base 5 CL "put" ["self", "literal"] (sp_putX K CL C DE BL IS false)) : FnOk P w K mg base (L2.CX P w) 6 f fd ["self", "literal"] (sp_putX K CL C DE BL IS true) := by
  refine F.okX sc_Led_iadd (fun vs H Q E h => ?_) (fun cdv A outer s H vs Q E hr h => ?_)
  · obtain ⟨_, _, _, _, _, _, _, _, _, _, rfl, _⟩ := h
    rfl
  · obtain ⟨d, t, w, x, dx, p, q, vc, ms, M, rfl, L, r2, X, sh, xn, qd, qb, qi, qn, qs⟩ := h
    have hu := hr.units
    refine ⟨_, (pss_cons (ps_expr (pe_mX1 (E := E) mX_put (hr.mono (by decide)) (takes_of rfl rfl rfl rfl) (fun _ _ _ _ h => h) (pv 0) (pa_cons (pv 1) pa_nil)))
      (pss_one (ps_ret (pv 0)))), ?_⟩
    refine ⟨.ref x, rfl, x, dx, ledF vc p q, rfl, (cutS_same L.mh) _ _ L.x, rfl, w, rfl, d, t, w, x, dx, p, q, vc, ms, M, rfl, L, r2, X, sh, xn, qd, qb, qi, fun so l e1 e2 e3 e4 e5 u M' H' t e6 e7 => ⟨.ref x, rfl, qn so l e1 e2 e3 e4 e5 u M' H' t e6 e7⟩, fun so l e1 e2 e3 e4 e5 s' u r M' H' t e6 e7 h0 m0 hr => ⟨.ref x, rfl, qs so l e1 e2 e3 e4 e5 s' u r M' H' t e6 e7 h0 m0 hr⟩⟩
def sp_undoX (K : PySem.W.Frag) (CL C NU : Addr) : Sp := fun vs H Q E => ∃ d x dx p q vc ms M, vs = [.ref x] ∧ LedH CL C d x dx p q vc ms M H ∧
  (d.ls = [] → ∀ M' H', TwoAt M H M' H' p q (d.ls.map V.str) ms → E (.ref NU) none H') ∧
  (∀ ls l ms0 m, d.ls = ls ++ [l] → ms = ms0 ++ [m] → ∀ M' H', TwoAt M H M' H' p q (ls.map V.str) ms0 → Q (.str l) H')
theorem ok_undoX {f CL C NU : Addr} {fd : FuncData} (F : Fun K "undo" "Led.undo" s_Led_undo f fd) (TL : LedT K CL) (RN : RawC K mg "NothingToUndo" NU) : FnOk P w K mg base (L2.CX P w) 1 f fd ["self"] (sp_undoX K CL C NU) := by
  refine F.okX sc_Led_undo (fun vs H Q E h => ?_) (fun cdv A outer s H vs Q E hr h => ?_)
  · obtain ⟨_, _, _, _, _, _, _, _, rfl, _⟩ := h
    rfl
  · obtain ⟨d, x, dx, p, q, vc, ms, M, rfl, L, qe, qq⟩ := h
    have hu := hr.units
    refine ⟨_, (pss_cons (ps_if (pt_cmpR (op_eqP hu) (pe_fld (pv 0) rfl) (pe_lst pa_nil) (nomark _)) (pss_one (ps_raw RN rfl (takes_of rfl rfl rfl rfl))) pss_nil)
      (pss_cons (ps_expr (pe_bm0 PySem.F.plainAttrs_list PySem.F.slot_list_pop PySem.F.type_list_pop mt_pop (pe_fld (pv 0) rfl)))
      (pss_one (ps_ret (pe_bm0 PySem.F.plainAttrs_list PySem.F.slot_list_pop PySem.F.type_list_pop mt_pop (pe_fld (pv 0) rfl)))))), ?_⟩
    obtain ⟨mh, rl⟩ := L.known
    have gt : GvT (tTest (tOp (rEqP K false) (tFld K (tVar 0) "put_row") (tLst tNil))) [some (.ref x)] (upd (upd M p (.lst (d.ls.map V.str))) q (.lst ms)) (decide (d.ls = [])) := gt_is (gt_test (gv_eqT (K := K) (R := LiR Tx) (neg := false) (x := d.ls) (y := []) (fun xs M v h => py_lst py_str _ _ _ (LiR.lst (K := K) h)) (inj_lst inj_str) (gv_putrow TL (gv_var rfl rl)) gv_nilL (by simp [PyData.depth, depthS]))) (by simp)
    by_cases en : d.ls = []
    · refine q_if0 (b := true) mh (gt_is gt (by simp [en])) (fun _ H1 hh1 => ?_) fun h => nomatch h
      exact qe en _ H1 (TwoAt.ofKnown L.mh L.ne L.hp L.hq (Gr.idle mh hh1))
    refine q_if0 (b := false) mh (gt_is gt (by simp [en])) (fun h => nomatch h) fun _ H1 hh1 => ?_
    obtain ⟨ls, l, el⟩ : ∃ ls l, d.ls = ls ++ [l] := ⟨d.ls.dropLast, d.ls.getLast en, (List.dropLast_concat_getLast en).symm⟩
    have pl := L.pd.length
    rw [List.length_append, List.length_singleton] at pl
    obtain ⟨ms0, m, em⟩ : ∃ ms0 m, ms = ms0 ++ [m] := by
      have ne : ms ≠ [] := fun z => by rw [z] at pl; simp at pl
      exact ⟨ms.dropLast, ms.getLast ne, (List.dropLast_concat_getLast ne).symm⟩
    have T1 := TwoAt.ofKnown L.mh L.ne L.hp L.hq (Gr.idle mh hh1)
    have s1 : Same M (delS (upd (upd M p (.lst (d.ls.map V.str))) q (.lst ms)) [p, q]) := T1.g.mm
    revert T1 s1
    generalize delS (upd (upd M p (.lst (d.ls.map V.str))) q (.lst ms)) [p, q] = M2
    intro T1 s1
    refine t_popAt (K := K) (ws := ms0) (w := m) T1.mh (gv_fieldA rfl (s1 _ _ L.x) TL.cl TL.nM rfl) (by rw [T1.hq, em]) fun M3 H3 g3 => ?_
    have T3 := (T1.step g3).putq (ws' := ms0)
    revert T3
    generalize upd H3 q (.lst ms0) = H4
    intro T3
    refine t_popAt (K := K) (ws := ls.map V.str) (w := .str l) T3.mh (gv_fieldA rfl (g3.mm _ _ (s1 _ _ L.x)) TL.cl TL.nP rfl) (by rw [T3.hp, el, List.map_append]; rfl) fun M5 H5 g5 => ?_
    exact qq ls l ms0 m el em M5 _ ((T3.step g5).putp)
end
end My

set_option Elab.async false
set_option linter.all false
set_option maxRecDepth 100000
set_option maxHeartbeats 8000000
set_option pp.maxSteps 900
namespace My
open PySem PySem.Spec PyProof.Rows L2 L3
open L3.Strm
/-! the law's own put, and how a put must end -/
theorem TwoAt.freeze {M H M' H' : Hp} {p q r : Addr} {vs ws xs : List V} {us us' : List V} (t : TwoAt M H M' H' p q vs ws) (hp : H p = some (.lst us)) (hq : H q = some (.lst us')) (h0 : H r = none) (hm : M' r = none) (hr : H' r = some (.lst xs)) : TwoAt M H (upd M' r (.lst xs)) H' p q vs ws := by
  have n : r ∉ [p, q] := fun z => by
    simp only [List.mem_cons, List.not_mem_nil, or_false] at z
    rcases z with rfl | rfl
    · rw [hp] at h0; cases h0
    · rw [hq] at h0; cases h0
  exact ⟨t.g.freeze (by rw [delS_on n]; exact h0) hm (by rw [delS_on n]; exact hr), t.ne, t.hp, t.hq⟩
theorem TwoAt.trans {M H M1 H1 M' H' : Hp} {p q : Addr} {vs ws vs' ws' : List V} (t : TwoAt M H M1 H1 p q vs ws) (u : TwoAt M1 H1 M' H' p q vs' ws') : TwoAt M H M' H' p q vs' ws' := ⟨t.g.trans u.g, t.ne, u.hp, u.hq⟩
def putLw (ns : List Str) (so s' : List Str) (l : Str) : List Str := (asc s' ns).filter fun x => decide (x ∉ so) && decide (x ≠ l)
theorem putLw_eq {ns so so2 s' s2 : List Str} {l : Str} (h1 : ∀ x, x ∈ so ↔ x ∈ so2) (h2 : ∀ x, x ∈ s' ↔ x ∈ s2) : putLw ns so2 s2 l = putL ns so s' l := by
  unfold putLw putL asc
  rw [List.filter_flatMap]
  congr 1
  funext n
  rw [List.filter_filter]
  refine List.filter_congr fun x _ => ?_
  rw [Bool.eq_iff_iff]
  simp only [Bool.and_eq_true, decide_eq_true_eq, List.mem_filter, h1, h2]
  exact ⟨fun ⟨a, b⟩ => ⟨b, a⟩, fun ⟨a, b⟩ => ⟨b, a⟩⟩
theorem drawn_eq {d : LedD} {so so2 : List Str} (h : ∀ x, x ∈ so ↔ x ∈ so2) : (asc so2 d.c.names).filter (fun x => decide (x ∉ d.ls)) = drawnL d so := by
  unfold drawnL asc
  rw [List.filter_flatMap]
  congr 1
  funext n
  rw [List.filter_filter]
  refine List.filter_congr fun x _ => ?_
  rw [Bool.eq_iff_iff]
  simp only [Bool.and_eq_true, decide_eq_true_eq, List.mem_filter, h]
  exact ⟨fun ⟨a, b⟩ => ⟨b, a⟩, fun ⟨a, b⟩ => ⟨b, a⟩⟩
/-- a put that fails, and how -/
def setD (so : List Str) : PyData → Option PyData
  | .str l => if l ∈ so ∨ opp l ∈ so then some (.tuple [.str "set", .str (nameOf l)]) else none
  | _ => none
def failD (sg : List Str) : Option (List Str) → PyData → Option PyData
  | none, _ => some (.tuple [.str "dead"])
  | some so, t => if isLit sg t = true then setD so t else some (txD ("bad", t))
theorem fail_same {sg : List Str} {o o2 : Option (List Str)} {t : PyData} (h : o = none ↔ o2 = none) (h2 : ∀ so so2, o = some so → o2 = some so2 → ∀ l, l ∈ so ↔ l ∈ so2) : failD sg o t = failD sg o2 t := by
  cases o with
  | none => rw [h.mp rfl]
  | some so => cases o2 with
    | none => exact nomatch h.mpr rfl
    | some so2 =>
      show (if isLit sg t = true then setD so t else _) = (if isLit sg t = true then setD so2 t else _)
      have e : setD so t = setD so2 t := by
        cases t with
        | str l =>
          show (if l ∈ so ∨ opp l ∈ so then _ else _) = (if l ∈ so2 ∨ opp l ∈ so2 then _ else _)
          simp only [h2 so so2 rfl rfl]
        | _ => rfl
      rw [e]
def optStr (o : Option (List Str)) : PyData := match o with
  | none => .none
  | some xs => .list (xs.map .str)
structure LawOk (c : CodeD) (ls : List Str) (o : Option (List Str)) : Prop where
  nm : NmL c.names
  k : ∀ k ∈ c.clauses, Lits c.names k
  w : ChW c.clauses
  l : Lits c.names ls
  e : EndsOk c.names c.clauses ls o
theorem LawOk.sg {c : CodeD} {ls : List Str} {o : Option (List Str)} (X : LawOk c ls o) : NmL c.signs := ⟨(List.nodup_append.mp (show (c.signs ++ c.helpers).Nodup from X.nm.nd)).1, fun n hn => X.nm.nm n (List.mem_append_left _ hn), Nat.le_trans (by show c.signs.length ≤ (c.signs ++ c.helpers).length; rw [List.length_append]; omega) X.nm.n⟩
/-- what an open literal is -/
theorem LawOk.open_ {c : CodeD} {ls : List Str} {so : List Str} {l : Str} (X : LawOk c ls (some so)) (hl : isLit c.signs (.str l) = true) (n1 : l ∉ so) (n2 : opp l ∉ so) : Ctx c.names c.clauses (so ++ [l]) ∧ Lits c.names (ls ++ [l]) := by
  obtain ⟨n, hn, side⟩ := mem_litsOf.mp (lit_side X.sg hl)
  have hnm : n ∈ c.names := List.mem_append_left _ hn
  have hm := X.nm.nm n hnm
  have opn_of : ∀ zs : List Str, l ∉ zs → opp l ∉ zs → n ∈ opn c.names zs := fun zs a b => mem_opn.mpr ⟨hnm, fun z => by
    rcases side with e | e
    · exact a (e ▸ z)
    · exact b (by rw [e, opp_neg hm]; exact z), fun z => by
    rcases side with e | e
    · exact b (by rw [e, opp_nm hm]; exact z)
    · exact a (e ▸ z)⟩
  exact ⟨⟨X.nm, X.k, lits_put X.nm (so_lits X.nm X.e.2.2) (opn_of so n1 n2) side⟩, lits_put X.nm X.l (opn_of ls (fun z => n1 (X.e.2.2.sub l z)) fun z => n2 (X.e.2.2.sub _ z)) side⟩
section
variable {P : Program} {w : World} {K : PySem.W.Frag} {mg : Str → Option Value} {base : Heap}
def sp__law_putZ (K : PySem.W.Frag) : Sp := fun vs H Q _ => ∃ c pl sl ls ms u so l M mv, vs = [mv, .str l] ∧ MR c pl sl M mv ∧ Same M (delS H [pl, sl]) ∧ pl ≠ sl ∧ H pl = some (.lst (ls.map V.str)) ∧ H sl = some (.lst (ms ++ [u])) ∧ LiR Tx so M u ∧ Ctx c.names c.clauses (so ++ [l]) ∧ ChW c.clauses ∧ (ls.length ≤ 1000 ∧ ms.length ≤ 1000) ∧
  (∀ M' H', TwoAt M H M' H' pl sl ((ls ++ [l]).map V.str) (ms ++ [u] ++ [.non]) → EndsOk c.names c.clauses (so ++ [l]) none → Q .non H') ∧
  (∀ s' u' z M' H', TwoAt M H M' H' pl sl ((ls ++ [l]).map V.str) (ms ++ [u] ++ [u']) → LiR Tx s' M' u' → EndsOk c.names c.clauses (so ++ [l]) (some s') → LiR Tx (putLw c.names so s' l) M' z → Q z H')
theorem ok__law_putZ {f : Addr} {fd : FuncData} (F : Fun K "_law_put" "_law_put" s__law_put f fd) (T : Gc mg) (c__law_chase : Cal P w K mg base 2 "_law_chase" ["_law_clauses", "_law_half"] (sp__law_chase K)) (c__law_up : Cal P w K mg base 1 "_law_up" ["_law_some", "_law_names_here"] (sp__law_up K)) (c__law_names_of : Cal P w K mg base 1 "_law_names_of" ["_law_m"] (sp__law_names_of K)) : FnOk P w K mg base CX0 3 f fd ["_law_m", "_law_literal"] (sp__law_putZ K) := by
  refine F.ok sc__law_put (fun vs H Q E h => ?_) (fun cdv A outer s H vs Q E hr h => ?_)
  · obtain ⟨_, _, _, _, _, _, _, _, _, _, rfl, _⟩ := h
    rfl
  · obtain ⟨c, pl, sl, ls, ms, u, so, l, M, mv, rfl, rm, mh0, ne, hp, hs, ru, X, hw, ⟨n1, n2⟩, qn, qs⟩ := h
    have hu := hr.units
    refine ⟨_, (pss_cons (ps_set (i := 2) sc__law_put.nd rfl (by first | exact .inl rfl | exact .inr rfl) (pe_ix ix_X (pe_dget (Nat.lt_of_le_of_lt (Nat.add_le_add_left (by decide) _) hu) (pv 0) pe_str (fun _ _ => rfl)) (pe_un un_neg pe_int) (fun _ _ => rfl)))
      (pss_cons (ps_expr (pe_bm PySem.F.plainAttrs_list PySem.F.slot_list_append PySem.F.type_list_append mt_append (pe_dget (Nat.lt_of_le_of_lt (Nat.add_le_add_left (by decide) _) hu) (pv 0) pe_str (fun _ _ => rfl)) (pa_cons (pv 1) pa_nil)))
      (pss_cons (ps_expr (pe_bm PySem.F.plainAttrs_list PySem.F.slot_list_append PySem.F.type_list_append mt_append (pe_dget (Nat.lt_of_le_of_lt (Nat.add_le_add_left (by decide) _) hu) (pv 0) pe_str (fun _ _ => rfl)) (pa_cons (pe_f c__law_chase (hr.mono (by decide)) (pa_cons (pe_dget (Nat.lt_of_le_of_lt (Nat.add_le_add_left (by decide) _) hu) (pe_dget (Nat.lt_of_le_of_lt (Nat.add_le_add_left (by decide) _) hu) (pv 0) pe_str (fun _ _ => rfl)) pe_str (fun _ _ => rfl)) (pa_cons (pe_op op_addA (pv 2) (pe_lst (pa_cons (pv 1) pa_nil))) pa_nil))) pa_nil)))
      (pss_cons (ps_if (pt_cmp (pc_isN (pe_ix ix_X (pe_dget (Nat.lt_of_le_of_lt (Nat.add_le_add_left (by decide) _) hu) (pv 0) pe_str (fun _ _ => rfl)) (pe_un un_neg pe_int) (fun _ _ => rfl)))) (pss_one (ps_ret pe_non)) pss_nil)
      (pss_one (ps_ret (pe_lc (own := [("_law_one", 3)]) (g := (gName 3)) (tt := (tAnd (tTest (tOp (rInA K true) (tVar 3) (tVar 2))) (tTest (tOp (rEqP K true) (tVar 3) (tVar 1))))) (te := (tVar 3)) (by rfl) sc__law_put.nd (pi_sq (pe_f c__law_up (hr.mono (by decide)) (pa_cons (pe_ix ix_X (pe_dget (Nat.lt_of_le_of_lt (Nat.add_le_add_left (by decide) _) hu) (pv 0) pe_str (fun _ _ => rfl)) (pe_un un_neg pe_int) (fun _ _ => rfl)) (pa_cons (pe_f c__law_names_of (hr.mono (by decide)) (pa_cons (pv 0) pa_nil)) pa_nil)))) (blkOk_by (by rfl)) (fun _ _ _ _ _ => (pg_name (i := 3) sc__law_put.nd rfl (by first | exact .inl rfl | exact .inr rfl))) (fun _ _ _ _ _ => (pts_one (PW.pt (pw_and (pt_cmpR (op_niA hu) (pv 3) (pv 2) (by rfl)) (pw_and1 (pt_cmpR (op_neP hu) (pv 3) (pv 1) (nomark _))))))) (fun _ _ _ _ _ => (pv 3))))))))), ?_⟩
    have mp : M pl = none := delS_none (bs := [pl, sl]) (by simp) mh0
    have ms0 : M sl = none := delS_none (bs := [pl, sl]) (by simp) mh0
    have mh := lent_two mh0 hp hs
    have up : Same M (upd (upd M pl (.lst (ls.map V.str))) sl (.lst (ms ++ [u]))) := (same_new mp).trans (same_new (by rw [upd_ne (Ne.symm ne)]; exact ms0))
    have nn := X.nm.n
    have sl2 := lits_len X.h X.nm
    rw [List.length_append, List.length_singleton] at sl2
    -- before
    refine q_asg (P := fun _ v => v = u) mh (gv_mLast (K := K) (gv_var rfl ⟨Mono.mono up rm, upd_same⟩)) fun v2 M2 H2 g2 e2 => ?_
    cases (show v2 = u from e2)
    have T2 := TwoAt.ofKnown mh0 ne hp hs g2
    have s2 : Same M (delS M2 [pl, sl]) := T2.g.mm
    have rm2 : MR c pl sl (delS M2 [pl, sl]) mv := Mono.mono s2 rm
    have ru2 : LiR Tx so (delS M2 [pl, sl]) u := Mon.mono s2 ru
    revert T2 s2 rm2 ru2
    generalize delS M2 [pl, sl] = M3
    intro T2 s2 rm2 ru2
    refine q_appAtG (P := fun _ v => v = .str l) T2.mh (gv_mP (gv_var rfl rm2)) T2.hp (szM (by rw [List.length_map]; omega)) (fun M1 sm => gv_var rfl rfl) fun v4 M4 H4 g4 e4 => ?_
    cases (show v4 = _ from e4)
    have T4 := (T2.step g4).putp (vs' := ls.map V.str ++ [.str l])
    have rm4 : MR c pl sl M4 mv := Mono.mono g4.mm rm2
    have ru4 : LiR Tx so M4 u := Mon.mono g4.mm ru2
    revert T4
    generalize upd H4 pl (.lst (ls.map V.str ++ [.str l])) = H5
    intro T4
    refine q_appAtG (P := fun M v => ∃ o', EndsOk c.names c.clauses (so ++ [l]) o' ∧ OpR' (LiR Tx) o' M v) T4.mh (gv_mS (gv_var rfl rm4)) T4.hq (szM (by rw [List.length_append, List.length_singleton]; omega)) (fun M1 sm => gv_is (gv_call2 (R1 := SqR K (SqR K Tx)) (R2 := SqR K Tx) (pre := ChOk) (R := fun cs hs M v => ∃ r, LChase cs (once hs) r ∧ OpR' (LiR Tx) r M v) (x := c.clauses) (y := so ++ [l]) (gv_is (gv_cC (gv_mC (gv_var rfl (Mono.mono sm rm4)))) fun _ _ h => c_li h) (gv_is (gl_addL (K := K) (R := Tx) (xs := so) (ys := [l]) (gv_var rfl (Mon.mono sm ru4)) (gv_lstG (R := Tx) (xs := [l]) (ga_rl (gv_var rfl rfl) fun _ _ => ga_rl0) (by show 1 ≤ 1000; decide)) (szM (by show so.length + 1 ≤ _; omega))).li fun _ _ h => h.sq) ⟨hw.1, hw.2.1, hw.2.2, by rw [List.length_append]; show so.length + 1 ≤ _; omega⟩) fun M v ⟨r, hch, ro⟩ => by
      rw [once_self (lits_nodup X.h)] at hch
      exact ⟨r, lchase_ok X hch (.init X), ro⟩) fun v6 M6 H6 g6 ⟨o', he, ro⟩ => ?_
    have T6 := (T4.step g6).putq (ws' := ms ++ [u] ++ [v6])
    have rm6 : MR c pl sl M6 mv := Mono.mono g6.mm rm4
    have ru6 : LiR Tx so M6 u := Mon.mono g6.mm ru4
    revert T6
    generalize upd H6 sl (.lst (ms ++ [u] ++ [v6])) = H7
    intro T6
    have back := fun {M' H' : Hp} (g : Gr (upd (upd M6 pl (.lst (ls.map V.str ++ [.str l]))) sl (.lst (ms ++ [u] ++ [v6]))) H7 M' H') => by
      have g' := Gr.delB (bs := [pl, sl]) g
      rw [delS_two T6.mp T6.mq] at g'
      have t : TwoAt M H (delS M' [pl, sl]) H' pl sl ((ls ++ [l]).map V.str) (ms ++ [u] ++ [v6]) := ⟨T6.g.trans g', ne, by rw [List.map_append]; exact g.hh _ _ T6.hp, g.hh _ _ T6.hq⟩
      exact And.intro t g'.mm
    have mh7 := same_lent (same_lent T6.mh T6.hp) T6.hq
    have up7 : Same M6 (upd (upd M6 pl (.lst (ls.map V.str ++ [.str l]))) sl (.lst (ms ++ [u] ++ [v6]))) := (same_new T6.mp).trans (same_new (by rw [upd_ne (Ne.symm ne)]; exact T6.mq))
    have rm7 : MS c pl sl (ms ++ [u] ++ [v6]) (upd (upd M6 pl (.lst (ls.map V.str ++ [.str l]))) sl (.lst (ms ++ [u] ++ [v6]))) mv := ⟨Mono.mono up7 rm6, upd_same⟩
    have ro7 := Mon.mono up7 ro
    have ru7 := Mon.mono up7 ru6
    have nh : ∀ {r : Addr}, H7 r = none → H r = none ∧ r ∉ [pl, sl] := fun {r} h0 => by
      have z : r ∉ [pl, sl] := fun z => by
        simp only [List.mem_cons, List.not_mem_nil, or_false] at z
        rcases z with rfl | rfl
        · rw [T6.hp] at h0; cases h0
        · rw [T6.hq] at h0; cases h0
      refine ⟨?_, z⟩
      cases e : H r with
      | none => rfl
      | some ob =>
        have := T6.g.hh r ob (by rw [delS_on z]; exact e)
        rw [delS_on z, h0] at this
        cases this
    revert mh7 rm7 ro7 ru7 back
    generalize upd (upd M6 pl (.lst (ls.map V.str ++ [.str l]))) sl (.lst (ms ++ [u] ++ [v6])) = M7
    intro back mh7 rm7 ro7 ru7
    refine q_if0 (b := o'.isNone) mh7 (gt_B (gv_isN (b := o'.isNone) (gv_is (gv_mLast (K := K) (ws := ms ++ [u]) (u := v6) (gv_var rfl rm7)) fun M v h => h) fun M v h => by
      rw [show v = v6 from h]
      cases o' with
      | none => rw [show v6 = .non from ro]; rfl
      | some s' => obtain ⟨a, vs, e, _⟩ := (show LiR Tx s' M6 v6 from ro); rw [e]; rfl)) (fun hb H8 hh8 => ?_) fun hb H8 hh8 => ?_
    · have e0 : o' = none := Option.isNone_iff_eq_none.mp hb
      subst e0
      cases (show v6 = .non from ro)
      exact s_ret (P := fun _ v => v = .non) (mh7.trans hh8) (gv_c rfl) fun z M' H' g r => by
        rw [show z = _ from r]
        exact qn _ H' (back ((Gr.idle mh7 hh8).trans g)).1 he
    cases o' with
    | none => cases hb
    | some s' =>
      have ro7 : LiR Tx s' M7 v6 := ro7
      have ro : LiR Tx s' M6 v6 := ro
      have nl : c.names.length ≤ 1000 := by omega
      refine s_retL (mh7.trans hh8) (gl_c1 (S := Tx) (R := Tx) (xs := asc s' c.names) (gi_sq (K := K) (gv_is (gv_call2 (R1 := CtR K) (R2 := SqR K Tx) (pre := fun _ ns => Shorts ns) (R := fun ls ns => TT (asc ls ns)) (x := s') (y := c.names) (gv_is (gv_mLast2 (K := K) rm7 ro7) fun _ _ h => .inl h.sq) (gv_is (gv_call1 (R1 := MRl) (pre := fun a => a.1.names.length ≤ 1000) (R := fun a => LiR Tx a.1.names) (x := (c, pl, sl)) (gv_var rfl rm7.1) nl) fun _ _ h => h.sq) (nm_shorts X.nm)) fun _ _ h => TT.sq h)) (szK (by
        have : (asc s' c.names).length ≤ 2 * c.names.length := flat_le fun x _ => List.length_filter_le _ _
        omega)) (fun x => decide (x ∉ so) && decide (x ≠ l)) id (fun x _ M1 u1 sm ru1 => gt_and (gt_is (gt_test (gv_inA (K := K) (neg := true) (gv_var rfl ru1) (gv_var rfl (.inl (Mon.mono sm ru7).sq)))) (by simp)) fun _ => gt_is (gt_test (gv_eqT (K := K) (neg := true) py_str inj_str (gv_var rfl ru1) (gv_var rfl rfl) (by simp [PyData.depth]))) (by simp)) fun x _ _ M1 u1 sm ru1 => gv_var rfl ru1) fun r ws M' H' g h0 m0 hr pd => ?_
      rw [List.map_id] at pd
      have e := pd_tx pd
      subst e
      obtain ⟨t, sm⟩ := back ((Gr.idle mh7 hh8).trans g)
      obtain ⟨hr0, nr⟩ := nh (hh8.free h0)
      have mr : (delS M' [pl, sl]) r = none := by rw [delS_on nr]; exact m0
      exact qs s' v6 (.ref r) _ H' (t.freeze hp hs hr0 mr hr) (Mon.mono (sm.trans (same_new mr)) ro) he ⟨r, _, rfl, upd_same, pd_of_tx _⟩
abbrev s__law_due : Stmt := topS 53
theorem sc__law_due : FnScope ["_law_m", "_law_thing", "_law_so"] ["_law_m", "_law_thing"] (defScope s__law_due) := ⟨rfl, rfl, rfl, by decide +kernel, rfl, by decide +kernel, by decide +kernel⟩
def sp__law_due (K : PySem.W.Frag) : Sp := fun vs H Q _ => ∃ c pl sl ls ms u o t w M mv, vs = [mv, w] ∧ MR c pl sl M mv ∧ Same M (delS H [pl, sl]) ∧ pl ≠ sl ∧ H pl = some (.lst (ls.map V.str)) ∧ H sl = some (.lst (ms ++ [u])) ∧ OpR' (LiR Tx) o M u ∧ LawOk c ls o ∧ DdF K t M w ∧ shortD t ∧ (ls.length ≤ 1000 ∧ ms.length ≤ 1000) ∧
  (∀ e, failD c.signs o t = some e → ∀ z M' H', TwoAt M H M' H' pl sl (ls.map V.str) (ms ++ [u]) → DxT K e M' z → Q z H') ∧
  (∀ so l, o = some so → t = .str l → isLit c.signs t = true → l ∉ so → opp l ∉ so → ∀ o' u' z M' H', TwoAt M H M' H' pl sl ((ls ++ [l]).map V.str) (ms ++ [u] ++ [u']) → OpR' (LiR Tx) o' M' u' → EndsOk c.names c.clauses (ls ++ [l]) o' → Dd K (.tuple [.str "told", optStr (o'.map fun s' => putLw c.names so s' l)]) M' z → Q z H')
theorem dd_tup {K : PySem.W.Frag} {M : Hp} {p : Addr} {ds : List PyData} {vs : List V} (h : M p = some (.tup vs)) (pd : Pd (Dd K) M ds vs) : Dd K (.tuple ds) M (.ref p) := .tup (.inl (.inl h)) (dpa_pd pd)
theorem gv_tup1s {K : PySem.W.Frag} {σ : Sl} {M : Hp} {s : Str} : Gv (tTup (tCons (tC (.str s)) tNil)) σ M (Dd K (.tuple [.str s])) := gv_tup (R := fun M vs => vs = [.str s]) (fun H mh Q q => q _ _ H (.refl mh) rfl) (fun M vs e => by rw [e]; show 1 ≤ sizeLine; decide) fun M vs q e n => dd_tup (upd_same.trans (by rw [e])) (.cons (.str _) .nil)
/-- (s, x) -/
theorem gv_tup2s {K : PySem.W.Frag} {σ : Sl} {M : Hp} {te : TE} {s : Str} {d : PyData} (h : Gv te σ M (Dd K d)) : Gv (tTup (tCons (tC (.str s)) (tCons te tNil))) σ M (Dd K (.tuple [.str s, d])) := gv_tup (R := fun M vs => ∃ v, vs = [.str s, v] ∧ Dd K d M v) (fun H mh Q q => h H mh _ fun v M1 H1 g r => q _ M1 H1 g ⟨v, rfl, r⟩) (fun M vs ⟨v, e, _⟩ => by rw [e]; show 2 ≤ sizeLine; decide) fun M vs q ⟨v, e, r⟩ n => dd_tup (upd_same.trans (by rw [e])) (.cons (.str _) (.cons (Mon.mono (R := Dd K) (same_new n) r) .nil))
theorem ok__law_due {f : Addr} {fd : FuncData} (F : Fun K "_law_due" "_law_due" s__law_due f fd) (T : Gc mg) (c__law_bare : Cal P w K mg base 1 "_law_bare" ["_law_one"] (sp__law_bare K)) (c__law_neg : Cal P w K mg base 1 "_law_neg" ["_law_one"] (sp__law_neg K)) (c__law_put : Cal P w K mg base 3 "_law_put" ["_law_m", "_law_literal"] (sp__law_putZ K)) : FnOk P w K mg base CX0 4 f fd ["_law_m", "_law_thing"] (sp__law_due K) := by
  refine F.ok sc__law_due (fun vs H Q E h => ?_) (fun cdv A outer s H vs Q E hr h => ?_)
  · obtain ⟨_, _, _, _, _, _, _, _, _, _, _, rfl, _⟩ := h
    rfl
  · obtain ⟨c, pl, sl, ls, ms, u, o, t, w, M, mv, rfl, rm, mh0, ne, hp, hs, ru, X, rt, sh, ⟨xn1, xn2⟩, qe, qs⟩ := h
    have hu := hr.units
    refine ⟨_, (pss_cons (ps_set (i := 2) sc__law_due.nd rfl (by first | exact .inl rfl | exact .inr rfl) (pe_ix ix_X (pe_dget (Nat.lt_of_le_of_lt (Nat.add_le_add_left (by decide) _) hu) (pv 0) pe_str (fun _ _ => rfl)) (pe_un un_neg pe_int) (fun _ _ => rfl)))
      (pss_cons (ps_if (pt_cmp (pc_isN (pv 2))) (pss_one (ps_ret (pe_tup (pa_cons pe_str pa_nil)))) pss_nil)
      (pss_cons (ps_if (PW.pt (pw_or (pt_not (pt_val (pe_callB call_isi (by rfl) T.isinstance boot_isinstance (pa_cons (pv 1) (pa_cons (pe_bltn (v := .ty "str") (u := .type "str") (by rfl) T.str (by decide +kernel) rfl) pa_nil))))) (pw_or1 (pt_cmpR (op_niA hu) (pe_f c__law_bare (hr.mono (by decide)) (pa_cons (pv 1) pa_nil)) (pe_dget (Nat.lt_of_le_of_lt (Nat.add_le_add_left (by decide) _) hu) (pe_dget (Nat.lt_of_le_of_lt (Nat.add_le_add_left (by decide) _) hu) (pv 0) pe_str (fun _ _ => rfl)) pe_str (fun _ _ => rfl)) (by rfl))))) (pss_one (ps_ret (pe_tup (pa_cons pe_str (pa_cons (pv 1) pa_nil))))) pss_nil)
      (pss_cons (ps_if (PW.pt (pw_or (pt_cmpR (op_inA hu) (pv 1) (pv 2) (by rfl)) (pw_or1 (pt_cmpR (op_inA hu) (pe_f c__law_neg (hr.mono (by decide)) (pa_cons (pv 1) pa_nil)) (pv 2) (by rfl))))) (pss_one (ps_ret (pe_tup (pa_cons pe_str (pa_cons (pe_f c__law_bare (hr.mono (by decide)) (pa_cons (pv 1) pa_nil)) pa_nil))))) pss_nil)
      (pss_one (ps_ret (pe_tup (pa_cons pe_str (pa_cons (pe_f c__law_put (hr.mono (by decide)) (pa_cons (pv 0) (pa_cons (pv 1) pa_nil))) pa_nil))))))))), ?_⟩
    have mp : M pl = none := delS_none (bs := [pl, sl]) (by simp) mh0
    have ms0 : M sl = none := delS_none (bs := [pl, sl]) (by simp) mh0
    have up : Same M (upd (upd M pl (.lst (ls.map V.str))) sl (.lst (ms ++ [u]))) := (same_new mp).trans (same_new (by rw [upd_ne (Ne.symm ne)]; exact ms0))
    refine q_asg (P := fun _ v => v = u) (lent_two mh0 hp hs) (gv_mLast (K := K) (gv_var rfl ⟨Mono.mono up rm, upd_same⟩)) fun v2 M2 H2 g2 e2 => ?_
    cases (show v2 = u from e2)
    have T2 := TwoAt.ofKnown mh0 ne hp hs g2
    have s2 : Same M (delS M2 [pl, sl]) := T2.g.mm
    have rm2 : MR c pl sl (delS M2 [pl, sl]) mv := Mono.mono s2 rm
    have ru2 : OpR' (LiR Tx) o (delS M2 [pl, sl]) u := Mon.mono s2 ru
    have rt2 : DdF K t (delS M2 [pl, sl]) w := Mon.mono s2 rt
    revert T2 s2 rm2 ru2 rt2
    generalize delS M2 [pl, sl] = M3
    intro T2 s2 rm2 ru2 rt2
    have tn : GvT (tB (tIsN (tVar 2))) [some mv, some w, some u] M3 o.isNone := gt_B (gv_isN (b := o.isNone) (gv_var rfl ru2) fun M v h => by
      cases o with
      | none => rw [show v = .non from h]; rfl
      | some s' => obtain ⟨a, vs, e, _⟩ := (show LiR Tx s' M v from h); rw [e]; rfl)
    cases o with
    | none =>
      refine q_if0 (b := true) T2.mh tn (fun _ H3 hh3 => ?_) fun h => nomatch h
      have g3 := Gr.idle T2.mh hh3
      exact s_ret g3.mh (gv_tup1s (K := K)) fun z M' H' g r => qe _ rfl z M' H' (T2.step (g3.trans g)) (.inl r)
    | some so =>
    refine q_if0 (b := false) T2.mh tn (fun h => nomatch h) fun _ H3 hh3 => ?_
    have g3 := Gr.idle T2.mh hh3
    have ru2 : LiR Tx so M3 u := ru2
    have bad : isLit c.signs t = false → ∀ H4, Same H3 H4 → tRet (tTup (tCons (tC (.str "bad")) (tCons (tVar 1) tNil))) { nx := fun _ H' => Q .non H', rt := Q } [some mv, some w, some u] H4 := fun hl H4 hh4 => by
      have g4 := g3.trans (.idle g3.mh hh4)
      exact s_ret g4.mh (gv_tupF (K := K) (x := "bad") (d := t) (gv_c rfl) (gv_var rfl rt2)) fun z M' H' g r => qe (txD ("bad", t)) (by show (if isLit c.signs t = true then setD so t else _) = _; rw [hl]; rfl) z M' H' (T2.step (g4.trans g)) (.inr ⟨_, rfl, r⟩)
    by_cases st : ∃ l, t = .str l
    · obtain ⟨l, rfl⟩ := st
      have ew : w = .str l := ddf_str rt
      subst ew
      have ll : l.length ≤ 1000 := sh
      have bare : ∀ {M' : Hp}, Gv (tCall (sp__law_bare K) [] E0 (tCons (tVar 1) tNil)) [some mv, some (.str l), some u] M' (Tx (nameOf l)) := gv_call1 (R1 := Tx) (pre := fun x => x.length ≤ 1000) (R := fun x => Tx (nameOf x)) (x := l) (gv_var rfl rfl) ll
      refine q_if0 (b := !isLit c.signs (.str l)) g3.mh (gt_is (gt_or (b := false) (c := !isLit c.signs (.str l)) (gt_is (gt_not (gt_B (gv_isiF (b := true) (gv_var rfl rt2) (by simp only [tyN]; decide +kernel)))) rfl) fun _ => gt_is (gt_test (gv_inA (K := K) (neg := true) (x := nameOf l) (xs := c.signs) bare (gv_is (gv_cS (gv_mC (gv_var rfl rm2))) fun _ _ h => .inl (LiR.sq h)))) (by
        show xor true (decide (nameOf l ∈ c.signs)) = !decide (nameOf l ∈ c.signs)
        simp)) (Bool.false_or _)) (fun hb H4 hh4 => bad (by simpa using hb) H4 hh4) fun hb H4 hh4 => ?_
      have hl : isLit c.signs (.str l) = true := by simpa using hb
      have g4 := g3.trans (.idle g3.mh hh4)
      have neg : ∀ {M' : Hp}, Gv (tCall (sp__law_neg K) [] E0 (tCons (tVar 1) tNil)) [some mv, some (.str l), some u] M' (Tx (opp l)) := gv_call1 (R1 := Tx) (pre := fun x => x.length ≤ 1000) (R := fun x => Tx (opp x)) (x := l) (gv_var rfl rfl) ll
      have gs : GvT (tOr (tTest (tOp (rInA K false) (tVar 1) (tVar 2))) (tTest (tOp (rInA K false) (tCall (sp__law_neg K) [] E0 (tCons (tVar 1) tNil)) (tVar 2)))) [some mv, some (.str l), some u] M3 (decide (l ∈ so) || decide (opp l ∈ so)) := gt_or (b := decide (l ∈ so)) (c := decide (opp l ∈ so)) (gt_is (gt_test (gv_inA (K := K) (neg := false) (x := l) (xs := so) (gv_var rfl rfl) (gv_var rfl (.inl ru2.sq)))) (by simp)) fun _ => gt_is (gt_test (gv_inA (K := K) (neg := false) (x := opp l) (xs := so) neg (gv_var rfl (.inl ru2.sq)))) (by simp)
      by_cases hs1 : l ∈ so ∨ opp l ∈ so
      · refine q_if0 (b := true) g4.mh (gt_is gs (by simpa using hs1)) (fun _ H5 hh5 => ?_) fun h => nomatch h
        have g5 := g4.trans (.idle g4.mh hh5)
        exact s_ret g5.mh (gv_tup2s (K := K) (s := "set") (d := .str (nameOf l)) (gv_is bare fun M v h => by rw [show v = _ from h]; exact .str _)) fun z M' H' g r => qe (.tuple [.str "set", .str (nameOf l)]) (by
          show (if isLit c.signs (.str l) = true then setD so (.str l) else _) = _
          rw [if_pos hl]
          exact if_pos hs1) z M' H' (T2.step (g5.trans g)) (.inl r)
      obtain ⟨m1, m2⟩ := not_or.mp hs1
      refine q_if0 (b := false) g4.mh (gt_is gs (by simp [m1, m2])) (fun h => nomatch h) fun _ H5 hh5 => ?_
      have T5 := T2.step (g4.trans (.idle g4.mh hh5))
      obtain ⟨X2, _⟩ := X.open_ hl m1 m2
      have X0 : Ctx c.names c.clauses ls := ⟨X.nm, X.k, X.l⟩
      refine ⟨mv, rfl, .str l, rfl, c, pl, sl, ls, ms, u, so, l, M3, mv, rfl, rm2, T5.g.mh, ne, T5.hp, T5.hq, ru2, X2, X.w, ⟨xn1, xn2⟩, fun M' H' t he => ⟨by show 2 ≤ sizeLine; decide, fun r nr => ?_⟩, fun s' u' z M' H' t ru' he rz => ⟨by show 2 ≤ sizeLine; decide, fun r nr => ?_⟩⟩
      · exact qs so l rfl rfl hl m1 m2 none .non (.ref r) _ _ ((T5.trans t).step (.new (o := .tup [.str "told", .non]) t.mh nr)) rfl (ends_put X0 X.e he) (dd_tup upd_same (.cons (.str _) (.cons .non .nil)))
      · exact qs so l rfl rfl hl m1 m2 (some s') u' (.ref r) _ _ ((T5.trans t).step (.new (o := .tup [.str "told", z]) t.mh nr)) (Mon.mono (same_new (t.mh.free nr)) ru' : LiR Tx s' _ u') (ends_put X0 X.e he) (dd_tup upd_same (.cons (.str _) (.cons (py_lst py_str _ _ _ (LiR.lst (K := K) (Mon.mono (same_new (t.mh.free nr)) rz : LiR Tx (putLw c.names so s' l) _ z))) .nil)))
    · have hl : isLit c.signs t = false := by
        cases t with
        | str l => exact absurd ⟨l, rfl⟩ st
        | _ => rfl
      refine q_if0 (b := true) g3.mh (gt_is (gt_or (b := true) (c := false) (gt_is (gt_not (gt_B (gv_isiF (b := false) (gv_var rfl rt2) (by cases t with
          | str l => exact absurd ⟨l, rfl⟩ st
          | _ => simp only [tyN]; decide +kernel)))) rfl) fun h => nomatch h) rfl) (fun _ H4 hh4 => bad hl H4 hh4) fun h => nomatch h
end
end My

set_option Elab.async false
set_option linter.all false
set_option maxRecDepth 100000
set_option maxHeartbeats 8000000
set_option pp.maxSteps 900
namespace My
open PySem PySem.Spec PyProof.Rows L2 L3
open L3.Strm
/-! whether somebody led is as the law's own -/
theorem dd_strs {K : PySem.W.Frag} {xs : List Str} {M : Hp} {v : V} (h : LiR Tx xs M v) : Dd K (.list (xs.map .str)) M v := py_lst py_str _ _ _ (LiR.lst (K := K) h)
theorem dd_opt {K : PySem.W.Frag} {o : Option (List Str)} {M : Hp} {v : V} (h : OpR' (LiR Tx) o M v) : Dd K (optStr o) M v := by
  cases o with
  | none => rw [show v = .non from h]; exact .non
  | some xs => exact dd_strs (show LiR Tx xs M v from h)
theorem opr_non {o : Option (List Str)} {M : Hp} {v : V} (h : OpR' (LiR Tx) o M v) : decide (v = .non) = o.isNone := by
  cases o with
  | none => rw [show v = .non from h]; rfl
  | some s' => obtain ⟨a, vs, e, _⟩ := (show LiR Tx s' M v from h); rw [e]; rfl
theorem gv_lstD {K : PySem.W.Frag} {σ : Sl} {M : Hp} {ta : TA} {ds : List PyData} (h : GvA ta σ M fun M vs => Pd (Dd K) M ds vs) (hz : ds.length ≤ 1000) : Gv (tLst ta) σ M (Dd K (.list ds)) := gv_is (gv_lstG (R := Dd K) h hz) fun M v r => by
  have r := py_lst (K := K) (R := Dd K) (e := id) (fun d M v h => h) _ _ _ (LiR.lst (K := K) r)
  dsimp only at r
  rw [List.map_id] at r
  exact r
section
variable {K : PySem.W.Frag} {σ : Sl} {M : Hp} {te : TE} {CL C : Addr} {d : LedD}
theorem gv_drawn (h : Gv te σ M (LedR CL C d)) (X : LedOk d) : Gv (tMeth CL "drawn" (sp_Led_drawn K CL C) [] E0 te tNil) σ M (OpR' (LiR Tx) (d.o.map (drawnL d))) := fun H mh Q q =>
  h H mh _ fun v M1 H1 g1 r1 => by
    obtain ⟨a, dx, fs, e, ha, hlk⟩ := insR_led (m := "drawn") (by decide +kernel) (by decide +kernel) (by decide +kernel) M1 v r1
    refine ⟨a, dx, fs, e, g1.mh _ _ ha, hlk, d, M1, v, rfl, g1.mh, r1, X, fun eo M' H' g => q _ M' H' (g1.trans g) (by rw [eo]; rfl), fun so eo p M' H' g h0 m0 hp => q _ _ H' ((g1.trans g).freeze (g1.hh.free h0) m0 hp) ?_⟩
    rw [eo]
    exact ⟨p, _, rfl, upd_same, pd_of_tx _⟩
theorem gv_choices (h : Gv te σ M (LedR CL C d)) : Gv (tMeth CL "choices" (sp_Led_choices K CL C) [] E0 te tNil) σ M (LiR Tx d.ls) := (gl_met1 (R1 := LedR CL C) (pre := fun _ => True) (R := fun d M ws => Pd Tx M d.ls ws) (x := d) (insR_led (by decide +kernel) (by decide +kernel) (by decide +kernel)) h trivial).li
end
def stD (d : LedD) : PyData := .list [.list (d.ls.map .str), optStr (d.o.map (drawnL d)), .bool d.o.isNone, .int (d.ls.length : Nat)]
theorem fit_st {d : LedD} (X : LedOk d) : FitD (stD d) := by
  have nl : d.c.names.length ≤ 1000 := (nm_shorts X.nm).1
  have ll := lits_len X.l X.nm
  have a1 : SmW 2 (10 * d.ls.length + 10) (.list (d.ls.map .str)) := (sm_strs X.nm fun l hl => X.l.of l hl).lst
  have a2 : SmW 2 20020 (optStr (d.o.map (drawnL d))) := by
    cases eo : d.o with
    | none => exact ⟨rfl, by simp [optStr, PyData.depth], by show PyData.leavesShort 13 PyData.none = true; decide +kernel, by show PyData.weight PyData.none ≤ 20020; decide +kernel⟩
    | some so =>
      have h : ∀ l ∈ drawnL d so, LitN d.c.names l := fun l hl => by
        obtain ⟨n, hn, hl⟩ := List.mem_flatMap.mp hl
        have := (List.mem_filter.mp hl).1
        exact ⟨n, hn, by simpa using this⟩
      have hn : (drawnL d so).length ≤ 2 * d.c.names.length := flat_le fun x _ => List.length_filter_le _ _
      exact ((sm_strs X.nm h).lst).up (Nat.le_refl _) (by omega)
  have a3 : SmW 2 40 (.bool d.o.isNone) := by cases d.o.isNone <;> exact ⟨rfl, by simp [PyData.depth], by decide +kernel, by decide +kernel⟩
  have a4 : SmW 2 40 (.int (d.ls.length : Nat)) := (sm_nat (by omega)).up (by decide) (Nat.le_refl _)
  exact (SmA.lst (.cons a1 (.cons a2 (.cons a3 (.cons a4 .nil))))).fit (by decide) (by omega)
def oddS : List PyData := [.none, .int 5, .str "", .list [], .dict [], .list [.str "a"], .tuple [.str "a"], .bool true]
/-- what is odd lies in nobody led -/
theorem odd_out {d : LedD} (X : LedOk d) : ∀ t ∈ oddS, inLed d t = false := by
  intro t ht
  unfold oddS at ht
  simp only [List.mem_cons, List.not_mem_nil, or_false] at ht
  rcases ht with rfl | rfl | rfl | rfl | rfl | rfl | rfl | rfl
  all_goals first | rfl | skip
  show decide (("" : Str) ∈ knownL d) = false
  refine decide_eq_false fun z => ?_
  have L : Lits d.c.names (knownL d) := by
    unfold knownL
    cases eo : d.o with
    | none => exact X.l
    | some so => exact X.few eo
  obtain ⟨n, hn, e⟩ := L.of _ z
  have hm := X.nm.nm n hn
  rcases e with e | e
  · rw [← e] at hm; exact absurd hm (by decide +kernel)
  · have := congrArg Str.length e
    have h2 : (("-" : Str) ++ n).length = n.length + 1 := by rw [← SX.S_tl n, neg_S, SX.S_len, SX.S_len]; rfl
    rw [h2] at this
    cases this
theorem li_ddf {K : PySem.W.Frag} {xs : List Str} {M : Hp} {v : V} (h : LiR Tx xs M v) : LiR (DdF K) (xs.map .str) M v := by
  obtain ⟨a, vs, e, h1, h2⟩ := h
  refine ⟨a, vs, e, h1, ?_⟩
  clear h1 e
  induction h2 with
  | nil => exact .nil
  | cons q _ ih => exact .cons (by rw [show _ = _ from q]; exact .inl (.str _)) ih
section
variable {P : Program} {w : World} {K : PySem.W.Frag} {mg : Str → Option Value} {base : Heap}
abbrev s__law_stands : Stmt := topS 50
theorem sc__law_stands : FnScope ["_law_led", "_law_m", "_law_drawn", "_law_known", "_law_literals_here", "_law_odd_here", "_law_dead", "_law_so", "_law_one"] ["_law_led", "_law_m"] (defScope s__law_stands) := ⟨rfl, rfl, rfl, by decide +kernel, rfl, by decide +kernel, by decide +kernel⟩
def sp__law_stands (K : PySem.W.Frag) (CL C : Addr) : Sp := fun vs H Q _ => ∃ d pl sl ws u o2 M v m, vs = [v, m] ∧ Same M H ∧ LedR CL C d M v ∧ MS d.c pl sl (ws ++ [u]) M m ∧ OpR' (LiR Tx) o2 M u ∧ M pl = some (.lst (d.ls.map V.str)) ∧ LedOk d ∧ EndsOk d.c.names d.c.clauses d.ls o2 ∧ ∀ M' H', Gr M H M' H' → Q (.bl true) H'
theorem ok__law_stands {f CL C : Addr} {fd : FuncData} (F : Fun K "_law_stands" "_law_stands" s__law_stands f fd) (T : Gc mg) (c__law_up : Cal P w K mg base 1 "_law_up" ["_law_some", "_law_names_here"] (sp__law_up K)) (c__law_names_of : Cal P w K mg base 1 "_law_names_of" ["_law_m"] (sp__law_names_of K)) (m_is_dead : Met P w K mg base 1 CL "is_dead" ["self"] (sp_Led_is_dead K CL C)) (m_drawn : Met P w K mg base 3 CL "drawn" ["self"] (sp_Led_drawn K CL C)) (m_choices : Met P w K mg base 1 CL "choices" ["self"] (sp_Led_choices K CL C))
    (c__law_literals : Cal P w K mg base 1 "_law_literals" ["_law_names_here"] (sp__law_literals K)) (c__law_same : CalG P w K mg base 1 "_law_same" ["_law_found", "_law_due_here"] (sp__law_same K)) (o_len : OwnLen P w K mg base 1 CL (sp_Led_len K CL C)) (o_in : OwnSp P w K mg base 2 CL "__contains__" ["self", "thing"] (sp_Led_contains K CL C)) : FnG P w K mg base CX0 4 f fd ["_law_led", "_law_m"] (sp__law_stands K CL C) := by
  refine fun_okG F sc__law_stands (fun vs H Q E h => ?_) (fun cdv A outer s H vs Q E hgu hr h => ?_)
  · obtain ⟨_, _, _, _, _, _, _, _, _, rfl, _⟩ := h
    rfl
  · obtain ⟨d, pl, sl, ws, u, o2, M, v, m, rfl, mh, LR, rm, ru, rpl, X, e2, q⟩ := h
    have hu := hr.units
    have hgu : (A.deeper (envOfC "_law_stands" (defScope s__law_stands) s.heap.objs.size f cdv)).guards = some [] := hgu
    refine ⟨_, (pss_cons (ps_par (i := 6) (j := 7) (by rfl) sc__law_stands.nd rfl rfl (by decide) rfl rfl (pa_cons (pe_cmp (pc_isN (pe_ix ix_X (pe_dget (Nat.lt_of_le_of_lt (Nat.add_le_add_left (by decide) _) hu) (pv 1) pe_str (fun _ _ => rfl)) (pe_un un_neg pe_int) (fun _ _ => rfl)))) (pa_cons (pe_ix ix_X (pe_dget (Nat.lt_of_le_of_lt (Nat.add_le_add_left (by decide) _) hu) (pv 1) pe_str (fun _ _ => rfl)) (pe_un un_neg pe_int) (fun _ _ => rfl)) pa_nil)) (by rfl))
      (pss_cons (ps_set (i := 2) sc__law_stands.nd rfl (by first | exact .inl rfl | exact .inr rfl) pe_non)
      (pss_cons (ps_if (pt_not (pt_val (pv 6))) (pss_one (ps_setLc (i := 2) (own := [("_law_one", 8)]) (g := (gName 8)) (tt := (tTest (tOp (rInA K true) (tVar 8) (tDGet (tVar 1) (tC (.str "put")))))) (te := (tVar 8)) (by rfl) sc__law_stands.nd rfl rfl (sw_true rfl rfl rfl (by decide +kernel)) (pi_sq (pe_f c__law_up (hr.mono (by decide)) (pa_cons (pv 7) (pa_cons (pe_f c__law_names_of (hr.mono (by decide)) (pa_cons (pv 1) pa_nil)) pa_nil)))) (blkOk_by (by rfl)) (fun _ _ _ _ _ => (pg_name (i := 8) sc__law_stands.nd rfl (by first | exact .inl rfl | exact .inr rfl))) (fun _ _ _ _ _ => (pts_one (pt_cmpR (op_niA hu) (pv 8) (pe_dget (Nat.lt_of_le_of_lt (Nat.add_le_add_left (by decide) _) hu) (pv 1) pe_str (fun _ _ => rfl)) (by rfl)))) (fun _ _ _ _ _ => (pv 8)))) pss_nil)
      (pss_cons (ps_if (pt_not (pt_val (pe_fG c__law_same hgu (hr.mono (by decide)) (pa_cons (pe_lst (pa_cons (pe_m0 m_choices (hr.mono (by decide)) (pv 0)) (pa_cons (pe_m0 m_drawn (hr.mono (by decide)) (pv 0)) (pa_cons (pe_m0 m_is_dead (hr.mono (by decide)) (pv 0)) (pa_cons (pe_callB (call_lenO o_len (hr.mono (by decide))) (by rfl) T.len boot_len (pa_cons (pv 0) pa_nil)) pa_nil))))) (pa_cons (pe_lst (pa_cons (pe_dget (Nat.lt_of_le_of_lt (Nat.add_le_add_left (by decide) _) hu) (pv 1) pe_str (fun _ _ => rfl)) (pa_cons (pv 2) (pa_cons (pv 6) (pa_cons (pe_callB call_lenA (by rfl) T.len boot_len (pa_cons (pe_dget (Nat.lt_of_le_of_lt (Nat.add_le_add_left (by decide) _) hu) (pv 1) pe_str (fun _ _ => rfl)) pa_nil)) pa_nil))))) pa_nil))))) (pss_one (ps_ret pe_bl)) pss_nil)
      (pss_cons (ps_set (i := 3) sc__law_stands.nd rfl (by first | exact .inl rfl | exact .inr rfl) (pe_ifExp (pt_val (pv 6)) (pe_dget (Nat.lt_of_le_of_lt (Nat.add_le_add_left (by decide) _) hu) (pv 1) pe_str (fun _ _ => rfl)) (pv 7)))
      (pss_cons (ps_set (i := 4) sc__law_stands.nd rfl (by first | exact .inl rfl | exact .inr rfl) (pe_f c__law_literals (hr.mono (by decide)) (pa_cons (pe_f c__law_names_of (hr.mono (by decide)) (pa_cons (pv 1) pa_nil)) pa_nil)))
      (pss_cons (ps_set (i := 5) sc__law_stands.nd rfl (by first | exact .inl rfl | exact .inr rfl) (pe_op op_addA (pe_lst (pa_cons pe_non (pa_cons pe_int (pa_cons pe_str (pa_cons (pe_lst pa_nil) (pa_cons pe_dnewK (pa_cons (pe_lst (pa_cons pe_str pa_nil)) (pa_cons (pe_tup (pa_cons pe_str pa_nil)) (pa_cons pe_bl pa_nil))))))))) (pe_lc (own := [("_law_one", 8)]) (g := (gName 8)) (tt := (tTest (tOp (rInA K true) (tVar 8) (tVar 3)))) (te := (tVar 8)) (by rfl) sc__law_stands.nd (pi_sq (pv 4)) (blkOk_by (by rfl)) (fun _ _ _ _ _ => (pg_name (i := 8) sc__law_stands.nd rfl (by first | exact .inl rfl | exact .inr rfl))) (fun _ _ _ _ _ => (pts_one (pt_cmpR (op_niA hu) (pv 8) (pv 3) (by rfl)))) (fun _ _ _ _ _ => (pv 8)))))
      (pss_one (ps_ret (pe_and (pe_callB (cr_all rfl) (by rfl) T.all boot_all (pa_cons (pe_lc (own := [("_law_one", 8)]) (g := (gName 8)) (tt := tYes) (te := (tOp (rInO CL (sp_Led_contains K CL C) false) (tVar 8) (tVar 0))) (by rfl) sc__law_stands.nd (pi_sq (pv 3)) (blkOk_by (by rfl)) (fun _ _ _ _ _ => (pg_name (i := 8) sc__law_stands.nd rfl (by first | exact .inl rfl | exact .inr rfl))) (fun _ _ _ _ _ => pts_nil) (fun _ _ _ _ _ => (pe_cmpR (op_inO o_in (hr.mono (by decide))) (pv 8) (pv 0) (by rfl)))) pa_nil)) (pe_one (pe_not (pe_callB (cr_any rfl) (by rfl) T.any boot_any (pa_cons (pe_lc (own := [("_law_one", 8)]) (g := (gName 8)) (tt := tYes) (te := (tOp (rInO CL (sp_Led_contains K CL C) false) (tVar 8) (tVar 0))) (by rfl) sc__law_stands.nd (pi_sq (pv 5)) (blkOk_by (by rfl)) (fun _ _ _ _ _ => (pg_name (i := 8) sc__law_stands.nd rfl (by first | exact .inl rfl | exact .inr rfl))) (fun _ _ _ _ _ => pts_nil) (fun _ _ _ _ _ => (pe_cmpR (op_inO o_in (hr.mono (by decide))) (pv 8) (pv 0) (by rfl)))) pa_nil)))))))))))))), ?_⟩
    have nl : d.c.names.length ≤ 1000 := (nm_shorts X.nm).1
    have nn := X.nm.n
    have ll := lits_len X.l X.nm
    have same := ends_same X.e e2
    have iso : d.o.isNone = o2.isNone := by
      rw [Bool.eq_iff_iff, Option.isNone_iff_eq_none, Option.isNone_iff_eq_none]
      exact same.1
    have put : ∀ {σ' : Sl} {M' : Hp}, Same M M' → σ'[1]? = some (some m) → Gv (tDGet (tVar 1) (tC (.str "put"))) σ' M' (LiR Tx d.ls) := fun sm h1 => gv_dgetF (P := fun M v => MR d.c pl sl M v ∧ M pl = some (.lst (d.ls.map V.str))) (gv_var h1 ⟨Mono.mono sm rm.1, sm _ _ rpl⟩) fun M v ⟨⟨m, o, cv, h1, h2, h3⟩, hl⟩ => ⟨m, o, _, .ref pl, h1, h2, rfl, ⟨pl, _, rfl, hl, pd_of_tx _⟩⟩
    have names : ∀ {σ' : Sl} {M' : Hp}, Same M M' → σ'[1]? = some (some m) → Gv (tCall (sp__law_names_of K) [] E0 (tCons (tVar 1) tNil)) σ' M' (LiR Tx d.c.names) := fun sm h1 => gv_call1 (R1 := MRl) (pre := fun a => a.1.names.length ≤ 1000) (R := fun a => LiR Tx a.1.names) (x := (d.c, pl, sl)) (gv_var h1 (Mono.mono sm rm.1)) nl
    -- dead, so
    refine q_par2 (a_V mh (gv_isN (b := o2.isNone) (gv_mLast2 (K := K) (i := 1) rm ru rfl) fun M v h => opr_non h) fun v6 M1 H1 g1 r6 => gv_mLast2 (K := K) (i := 1) (Mono.mono g1.mm rm) (Mono.mono g1.mm ru) rfl H1 g1.mh _ fun v7 M2 H2 g2 r7 => ⟨_, _, rfl, ?_⟩)
    cases (show v6 = .bl o2.isNone from r6)
    have G2 := g1.trans g2
    refine q_asg (P := fun _ v => v = .non) G2.mh (gv_c rfl) fun v2 M3 H3 g3 e3 => ?_
    cases (show v2 = .non from e3)
    have G3 := G2.trans g3
    have r7 : OpR' (LiR Tx) o2 M3 v7 := Mono.mono g3.mm r7
    -- drawn
    refine q_cut (fun σ' H' => ∃ M' v2, Gr M H M' H' ∧ Same M3 M' ∧ OpR' (LiR Tx) (o2.map fun s' => (asc s' d.c.names).filter fun x => decide (x ∉ d.ls)) M' v2 ∧ σ' = [some v, some m, some v2, none, none, none, some (.bl o2.isNone), some v7, none]) (fun nx hnx => ?_) ?_
    · cases eo : o2 with
      | none =>
        rw [eo] at r7
        exact s_if0 (b := false) G3.mh (gt_is (gt_not (gt_B (gv_var (P := Bl true) rfl rfl))) rfl) (fun h => nomatch h) fun _ H4 hh4 => hnx _ _ ⟨M3, .non, G3.trans (.idle G3.mh hh4), Same.refl _, by rw [eo]; exact rfl, by rw [eo]; rfl⟩
      | some s2 =>
        rw [eo] at r7
        have r7 : LiR Tx s2 M3 v7 := r7
        refine s_if0 (b := true) G3.mh (gt_is (gt_not (gt_B (gv_var (P := Bl false) rfl rfl))) rfl) (fun _ H4 hh4 => ?_) fun h => nomatch h
        have G4 := G3.trans (.idle G3.mh hh4)
        exact s_asg G4.mh (gv_is (gl_c1 (S := Tx) (R := Tx) (xs := asc s2 d.c.names) (gi_sq (K := K) (gv_is (gv_call2 (R1 := CtR K) (R2 := SqR K Tx) (pre := fun _ ns => Shorts ns) (R := fun ls ns => TT (asc ls ns)) (x := s2) (y := d.c.names) (gv_var rfl (.inl r7.sq)) (gv_is (names G3.mm rfl) fun _ _ h => h.sq) (nm_shorts X.nm)) fun _ _ h => TT.sq h)) (szK (by
          have : (asc s2 d.c.names).length ≤ 2 * d.c.names.length := flat_le fun x _ => List.length_filter_le _ _
          omega)) (fun x => decide (x ∉ d.ls)) id (fun x _ M1 u1 sm ru1 => gt_is (gt_test (gv_inA (K := K) (neg := true) (gv_var rfl ru1) (gv_is (put (G3.mm.trans sm) rfl) fun _ _ h => .inl h.sq))) (by simp)) fun x _ _ M1 u1 sm ru1 => gv_var rfl ru1).li fun M v h => by rw [List.map_id] at h; rw [eo]; exact h) fun v2 M5 H5 g5 r5 => hnx _ _ ⟨M5, v2, G4.trans g5, g5.mm, r5, by rw [eo]; rfl⟩
    rintro σ' H4 ⟨M4, v2, G4, s34, r2, rfl⟩
    have r7 : OpR' (LiR Tx) o2 M4 v7 := Mono.mono s34 r7
    have ed : o2.map (fun s' => (asc s' d.c.names).filter fun x => decide (x ∉ d.ls)) = d.o.map (drawnL d) := by
      cases eo : o2 with
      | none => rw [same.1.mpr eo]; rfl
      | some s2 =>
        cases eo1 : d.o with
        | none => rw [same.1.mp eo1] at eo; cases eo
        | some so => exact congrArg some (drawn_eq (same.2 so s2 eo1 eo))
    rw [ed] at r2
    have LR4 : LedR CL C d M4 v := Mon.mono G4.mm LR
    -- what is told
    have fit := fit_st X
    refine q_if0 (b := false) G4.mh (gt_is (gt_not (gt_B (gv_call2 (R1 := Dd K) (R2 := Dd K) (pre := fun d e => FitD d ∧ FitD e) (R := fun d e => Bl (decide (d.shown = e.shown))) (x := stD d) (y := stD d)
      (gv_lstD (ga_rl (gv_is (gv_choices (K := K) (gv_var rfl LR4)) fun _ _ h => dd_strs h) fun M5 s5 => ga_rl (gv_is (gv_drawn (K := K) (gv_var rfl (Mon.mono s5 LR4)) X) fun _ _ h => dd_opt h) fun M6 s6 => ga_rl (gv_is (gv_isdead (K := K) (gv_var rfl (Mon.mono (s5.trans s6) LR4))) fun _ _ h => py_bl _ _ _ h) fun M7 s7 => ga_rl (gv_is (gv_lenO (R1 := LedR CL C) (pre := fun _ => True) (R := fun d => It' (d.ls.length : Nat)) (x := d) (n := d.ls.length) (gv_var rfl (Mon.mono (s5.trans (s6.trans s7)) LR4)) (fun M v r => inst_led _ M v r) trivial (by omega) fun _ _ r => r) fun _ _ h => py_int _ _ _ h) fun _ _ => ga_rl0) (by show 4 ≤ 1000; decide))
      (gv_lstD (ga_rl (gv_is (put G4.mm rfl) fun _ _ h => dd_strs h) fun M5 s5 => ga_rl (gv_is (gv_var (P := OpR' (LiR Tx) (d.o.map (drawnL d))) rfl (Mono.mono s5 r2)) fun _ _ h => dd_opt h) fun M6 s6 => ga_rl (gv_var rfl (by rw [iso]; exact .bl _)) fun M7 s7 => ga_rl (gv_is (gv_lenA (K := K) (R := Tx) (gv_is (put (G4.mm.trans (s5.trans (s6.trans s7))) rfl) fun _ _ h => LiR.sq h)) fun _ _ h => py_int _ _ _ h) fun _ _ => ga_rl0) (by show 4 ≤ 1000; decide)) ⟨fit, fit⟩))) (by simp)) (fun h => nomatch h) fun _ H5 hh5 => ?_
    have G5 := G4.trans (.idle G4.mh hh5)
    -- known
    have kn : ∀ x, x ∈ o2.getD d.ls ↔ x ∈ knownL d := fun x => by
      unfold knownL
      cases eo : o2 with
      | none => rw [same.1.mpr eo]
      | some s2 =>
        cases eo1 : d.o with
        | none => rw [same.1.mp eo1] at eo; cases eo
        | some so => exact (same.2 so s2 eo1 eo x).symm
    refine q_asg (P := LiR Tx (o2.getD d.ls)) G5.mh (gv_if (b := o2.isNone) (gt_B (gv_var rfl rfl)) (fun hb => ?_) fun hb => ?_) fun v3 M6 H6 g6 r3 => ?_
    · rw [Option.isNone_iff_eq_none.mp hb]
      exact put G4.mm rfl
    · cases eo : o2 with
      | none => rw [eo] at hb; cases hb
      | some s2 =>
        rw [eo] at r7
        exact gv_var (P := LiR Tx s2) rfl r7
    have G6 := G5.trans g6
    have kl : (o2.getD d.ls).length ≤ 1000 := by
      cases eo : o2 with
      | none => show d.ls.length ≤ _; omega
      | some s2 =>
        rw [eo] at e2
        have := lits_len (so_lits X.nm e2.2.2) X.nm
        show s2.length ≤ _
        omega
    revert kn r3 kl
    generalize o2.getD d.ls = kk
    intro kn r3 kl
    -- literals
    refine q_asg (P := LiR Tx (litsOf d.c.names)) G6.mh (gv_call1 (R1 := SqR K Tx) (pre := fun ns => ns.length ≤ 1000 ∧ ∀ n ∈ ns, n.length ≤ 1000) (R := fun ns => LiR Tx (litsOf ns)) (x := d.c.names) (gv_is (names G6.mm rfl) fun _ _ h => h.sq) ⟨nl, fun n hn => Nat.le_trans (nm_len (X.nm.nm n hn)) (by decide)⟩) fun v4 M7 H7 g7 r4 => ?_
    have G7 := G6.trans g7
    have r3 : LiR Tx kk M7 v3 := Mon.mono g7.mm r3
    have lo : (litsOf d.c.names).length ≤ 2 * d.c.names.length := flat_le fun x _ => Nat.le_refl 2
    -- odd things
    refine q_asg (P := LiR (DdF K) (oddS ++ ((litsOf d.c.names).filter fun x => decide (x ∉ kk)).map PyData.str)) G7.mh (gl_addL (K := K) (R := DdF K) (xs := oddS) (ys := ((litsOf d.c.names).filter fun x => decide (x ∉ kk)).map PyData.str)
      (gv_lstG (xs := oddS) (ga_rl (gv_c (.inl .non)) fun _ _ => ga_rl (gv_c (.inl (.int 5))) fun _ _ => ga_rl (gf_str (gv_c rfl)) fun _ _ => ga_rl (gv_is gv_nilD fun _ _ h => .inl h) fun _ _ => ga_rl gf_dnew fun _ _ => ga_rl (gf_lst (gv_c rfl)) fun _ _ => ga_rl (gf_tup (gv_c rfl)) fun _ _ => ga_rl (gv_c (.inl (.bl true))) fun _ _ => ga_rl0) (by show 8 ≤ 1000; decide))
      (gv_is (gl_c1 (S := Tx) (R := Tx) (xs := litsOf d.c.names) (gi_sq (K := K) (gv_var rfl r4.sq)) (szK (by omega)) (fun x => decide (x ∉ kk)) id (fun x _ M1 u1 sm ru1 => gt_is (gt_test (gv_inA (K := K) (neg := true) (gv_var rfl ru1) (gv_var rfl (.inl (Mon.mono sm r3 : LiR Tx kk M1 v3).sq)))) (by simp)) fun x _ _ M1 u1 sm ru1 => gv_var rfl ru1).li fun M v h => by rw [List.map_id] at h; exact li_ddf h) (szM (by
        have := List.length_filter_le (fun x => decide (x ∉ kk)) (litsOf d.c.names)
        rw [List.length_map]
        show 8 + _ ≤ _
        omega))).li fun v5 M8 H8 g8 r5 => ?_
    have G8 := G7.trans g8
    have LR8 : LedR CL C d M8 v := Mon.mono G8.mm LR
    have r3 : LiR Tx kk M8 v3 := Mon.mono g8.mm r3
    have len5 : (oddS ++ ((litsOf d.c.names).filter fun x => decide (x ∉ kk)).map PyData.str).length ≤ 3000 := by
      have := List.length_filter_le (fun x => decide (x ∉ kk)) (litsOf d.c.names)
      rw [List.length_append, List.length_map]
      show 8 + _ ≤ _
      omega
    refine s_ret (P := Bl true) G8.mh (gv_is (gv_andV (b := true) (gv_is (gv_all (K := K) (gl_m1 (S := Bl) (R := Tx) (xs := kk) (gi_sq (K := K) (gv_var rfl r3.sq)) (szK (by omega)) (fun x => inLed d (.str x)) fun x hx M1 u1 sm ru1 => gv_is (gv_inO (R1 := LedR CL C) (R2 := DdF K) (pre := fun _ _ => True) (B := inLed) (x := d) (y := .str x) (neg := false) (gf_str (gv_var rfl ru1)) (gv_var rfl (Mon.mono sm LR8)) (inst_led d) trivial) fun M v h => by simpa using h)) fun M v h => by
        rw [show v = _ from h]
        show V.bl _ = V.bl true
        congr 1
        rw [List.all_map, List.all_eq_true]
        exact fun x hx => decide_eq_true ((kn x).mp hx)) fun _ => gv_is (gv_notV (gv_any (K := K) (gl_m1 (S := Bl) (R := DdF K) (xs := oddS ++ ((litsOf d.c.names).filter fun x => decide (x ∉ kk)).map PyData.str) (gi_sq (K := K) (gv_var rfl (LiR.sq r5))) (szK (by omega)) (fun t => inLed d t) fun t ht M1 u1 sm ru1 => gv_is (gv_inO (R1 := LedR CL C) (R2 := DdF K) (pre := fun _ _ => True) (B := inLed) (x := d) (y := t) (neg := false) (gv_var rfl ru1) (gv_var rfl (Mon.mono sm LR8)) (inst_led d) trivial) fun M v h => by simpa using h))) fun M v h => by
        rw [show v = _ from h]
        show V.bl _ = V.bl true
        congr 1
        rw [Bool.not_eq_true', List.any_map, List.any_eq_false]
        intro t ht
        rcases List.mem_append.mp ht with ht | ht
        · simp [odd_out X t ht]
        · obtain ⟨x, hx, rfl⟩ := List.mem_map.mp ht
          have := (List.mem_filter.mp hx).2
          have n : x ∉ kk := by simpa using this
          show ¬ decide (x ∈ knownL d) = true
          simpa using fun z => n ((kn x).mpr z)) fun M v h => h) fun z M' H' g r => ?_
    rw [show z = _ from r]
    exact q M' H' (G8.trans g)
end
end My

set_option Elab.async false
set_option linter.all false
set_option maxRecDepth 100000
set_option maxHeartbeats 8000000
set_option pp.maxSteps 900
namespace My
open PySem PySem.Spec PyProof.Rows L2 L3
open L3.Strm
/-! how a put or an undo ends -/
theorem eqC_self {c : CodeD} (X : CodeP c) (N : Nf c) : eqC c c = true := by
  unfold eqC
  rw [sameN_self, sameN_self]
  simp only [decide_true, Bool.true_and, List.all_eq_true]
  intro x hx
  unfold inD
  rw [Bool.and_eq_true, decide_eq_true_eq, decide_eq_true_eq]
  refine ⟨(clOk_lits X.nm (X.l x hx)).1, ?_⟩
  show asc (strsOf (x.map PyData.str)) c.names ∈ c.clauses
  rw [strs_map, N.a x hx]
  exact hx
abbrev s__law_did : Stmt := topS 54
theorem sc__law_did : FnScope ["_law_led", "_law_way", "_law_thing", "e", "_law_kept", "_law_found"] ["_law_led", "_law_way", "_law_thing"] (defScope s__law_did) := ⟨rfl, rfl, rfl, by decide +kernel, rfl, by decide +kernel, by decide +kernel⟩
structure RefD (K : PySem.W.Frag) (mg : Str → Option Value) (DE BL IS NU : Addr) : Prop where
  g1 : mg "Dead" = some (.ref DE)
  g2 : mg "BadLiteral" = some (.ref BL)
  g3 : mg "IsSet" = some (.ref IS)
  g4 : mg "NothingToUndo" = some (.ref NU)
  x2 : XfC K BL
  n2 : PySem.W.findIn K (.ref BL) "literal" = some none
  x3 : XfC K IS
  n3 : PySem.W.findIn K (.ref IS) "name" = some none
  e0_0 : PySem.W.exmOne K (.ref DE) (.ref DE) = some true
  e1_0 : PySem.W.exmOne K (.ref BL) (.ref DE) = some false
  e1_1 : PySem.W.exmOne K (.ref BL) (.ref BL) = some true
  e2_0 : PySem.W.exmOne K (.ref IS) (.ref DE) = some false
  e2_1 : PySem.W.exmOne K (.ref IS) (.ref BL) = some false
  e2_2 : PySem.W.exmOne K (.ref IS) (.ref IS) = some true
  e3_0 : PySem.W.exmOne K (.ref NU) (.ref DE) = some false
  e3_1 : PySem.W.exmOne K (.ref NU) (.ref BL) = some false
  e3_2 : PySem.W.exmOne K (.ref NU) (.ref IS) = some false
  e3_3 : PySem.W.exmOne K (.ref NU) (.ref NU) = some true
def rawAs (C : Addr) (a : Str) (Q : VK) (cls : Value) (d : Option Addr) (H' : Hp) : Prop := cls = .ref C ∧ d = none ∧ ∀ p, H' p = none → Q (.ref p) (upd H' p (.tup [.str a]))
def raisedAs (C : Addr) (a f : Str) (Q : VK) (cls : Value) (d : Option Addr) (H' : Hp) : Prop := cls = .ref C ∧ ∃ x v, d = some x ∧ H' x = some (.xd [(f, v)]) ∧ ∀ p, H' p = none → Q (.ref p) (upd H' p (.tup [.str a, v]))
/-- what is told of the tuple that is handed out, and its last thing -/
def LastR (K : PySem.W.Frag) (e : PyData) (u : V) : Pr := fun M z => DxT K e M z ∧ ∃ a vs, z = .ref a ∧ M a = some (.tup (vs ++ [u]))
instance {K : PySem.W.Frag} {e : PyData} {u : V} : Mono (LastR K e u) := ⟨fun s ⟨h, a, vs, h1, h2⟩ => ⟨Mon.mono s h, a, vs, h1, s _ _ h2⟩⟩
theorem slotL {σ : Sl} {y : Option V} (h : σ.length = 6) : (σ.set 5 y)[5]? = some y := List.getElem?_set_self (by omega)
theorem slotN {σ : Sl} {x y : Option V} (h : σ.length = 6) : (((σ.set 3 x).set 5 y).set 3 none)[5]? = some y := by
  rw [List.getElem?_set_ne (by decide), List.getElem?_set_self (by rw [List.length_set]; omega)]
def didB (K : PySem.W.Frag) (CL C DE BL IS NU : Addr) (E : XK) : TS :=
  tSeq (tIfS (tTest (tOp (rEqP K false) (tVar 1) (tC (.int 0)))) (tRet (tTup (tCons (tC (.str "told")) (tCons (tMeth CL "undo" (sp_undoX K CL C NU) [] E (tVar 0) tNil) tNil)))) tNext)
  (tSeq (tIfS (tTest (tOp (rI0 fun i j => .bl (decide (i < j))) (tVar 1) (tC (.int 4)))) (tRet (tTup (tCons (tC (.str "told")) (tCons (tMeth CL "put" (sp_putX K CL C DE BL IS false) [] E (tVar 0) (tCons (tVar 2) tNil)) tNil)))) tNext)
  (tSeq (tAsg (tVar 0) (gName 4))
  (tSeq (tAug 0 (tVar 2) (tIaddX CL (sp_putX K CL C DE BL IS true) E))
  (tAsg (tTup (tCons (tC (.str "same")) (tCons (tOp (rEqO CL (sp_Led_eq K CL C) false) (tVar 4) (tVar 0)) tNil))) (gName 5)))))
section
variable {P : Program} {w : World} {K : PySem.W.Frag} {mg : Str → Option Value} {base : Heap}
def sp__law_did (K : PySem.W.Frag) (CL C : Addr) : Sp := fun vs H Q _ => ∃ d, ∃ way : Nat, ∃ t w x dx p q vc ms M, vs = [.ref x, .int (way : Nat), w] ∧ LedH CL C d x dx p q vc ms M H ∧ DdF K t M w ∧ LedOk d ∧ (CodeP d.c ∧ Nf d.c) ∧ shortD t ∧ (d.ls.length ≤ 1000 ∧ ms.length ≤ 1000) ∧ way ≤ 10 ∧
  (way = 0 → d.ls = [] → ∀ z M' H', TwoAt M H M' H' p q (d.ls.map V.str) ms → LastR K (.tuple [.str "nothing"]) (.str "nothing") M' z → Q z H') ∧
  (way = 0 → ∀ ls l ms0 m, d.ls = ls ++ [l] → ms = ms0 ++ [m] → ∀ z M' H', TwoAt M H M' H' p q (ls.map V.str) ms0 → LastR K (.tuple [.str "told", .str l]) (.str l) M' z → Q z H') ∧
  (way ≠ 0 → ∀ e, failD d.c.signs d.o t = some e → ∀ u z M' H', TwoAt M H M' H' p q (d.ls.map V.str) ms → (u = w ∨ ∃ s, u = .str s) → LastR K e u M' z → Q z H') ∧
  (way ≠ 0 → ∀ so l, d.o = some so → t = .str l → isLit d.c.signs t = true → l ∉ so → opp l ∉ so → ∀ o' u' M' H', TwoAt M H M' H' p q ((d.ls ++ [l]).map V.str) (ms ++ [u']) → OpR' DcF o' M' u' → EndsOk d.c.names d.c.clauses (d.ls ++ [l]) o' →
    (4 ≤ way → ∀ z, LastR K (.tuple [.str "same", .bool true]) (.bl true) M' z → Q z H') ∧
    (way < 4 → o' = none → ∀ z, LastR K (.tuple [.str "told", .none]) .non M' z → Q z H') ∧
    (way < 4 → ∀ s', o' = some s' → ∀ a r, H r = none → M' r = none → H' r = some (.lst ((putL d.c.names so s' l).map V.str)) → M' a = some (.tup [.str "told", .ref r]) → Q (.ref a) H'))
theorem ok__law_did {f CL C DE BL IS NU : Addr} {fd : FuncData} (F : Fun K "_law_did" "_law_did" s__law_did f fd) (R : RefD K mg DE BL IS NU) (mX_undo : MetX P w K mg base 1 CL "undo" ["self"] (sp_undoX K CL C NU)) (mX_put : MetX P w K mg base 5 CL "put" ["self", "literal"] (sp_putX K CL C DE BL IS false)) (oX_iadd : OwnX P w K mg base 6 CL "__iadd__" ["self", "literal"] (sp_putX K CL C DE BL IS true)) (sfL : PySem.W.selfFirst K CL = true) (oL_eq : OwnSp P w K mg base 6 CL "__eq__" ["self", "other"] (sp_Led_eq K CL C)) : FnOk P w K mg base CX0 7 f fd ["_law_led", "_law_way", "_law_thing"] (sp__law_did K CL C) := by
  refine F.ok sc__law_did (fun vs H Q E h => ?_) (fun cdv A outer s H vs Q E hr h => ?_)
  · obtain ⟨_, _, _, _, _, _, _, _, _, _, _, rfl, _⟩ := h
    rfl
  · obtain ⟨d, way, t, w, x, dx, p, q, vc, ms, M, rfl, L, rt, X, ⟨CP, NF⟩, sh, ⟨xn1, xn2⟩, hway, q0, qu, qf, qp⟩ := h
    have hu := hr.units
    have nd := sc__law_did.nd
    refine ⟨_, (pss_cons (ps_try_cl (tb := fun W D σ H => ∃ Ech : XK, (∀ cls d σ' H', Ech cls d H' → σ'.length = 6 → W cls d σ' H') ∧ didB K CL C DE BL IS NU Ech D σ H)
      (l := [(.ref DE, none, fun a cls d => tAsg (tTup (tCons (tC (.str "dead")) tNil)) (gName 5)), (.ref BL, some 3, fun a cls d => tAsg (tTup (tCons (tC (.str "bad")) (tCons (tXf a cls d BL "literal" (tVar 3)) tNil))) (gName 5)), (.ref IS, some 3, fun a cls d => tAsg (tTup (tCons (tC (.str "set")) (tCons (tXf a cls d IS "name" (tVar 3)) tNil))) (gName 5)), (.ref NU, none, fun a cls d => tAsg (tTup (tCons (tC (.str "nothing")) tNil)) (gName 5))])
      (W := fun _ _ _ _ => False) rfl rfl L2.takes0 (fun W pn xe tk _ => ⟨fun pins s' σ H' D I h' => by
        obtain ⟨Ech, hW, h'⟩ := h'
        exact (pss_cons (ps_if (pt_cmpR (op_eqP hu) (pv 1) pe_int (nomark _)) (pss_one (ps_ret (pe_tup (pa_cons pe_str (pa_cons (pe_mX0 mX_undo (hr.mono (by decide)) (takes_len tk) hW (pv 0)) pa_nil))))) pss_nil)
          (pss_cons (ps_if (pt_cmpR op_lt (pv 1) pe_int (nomark _)) (pss_one (ps_ret (pe_tup (pa_cons pe_str (pa_cons (pe_mX1 mX_put (hr.mono (by decide)) (takes_len tk) hW (pv 0) (pa_cons (pv 2) pa_nil)) pa_nil))))) pss_nil)
          (pss_cons (ps_set (i := 4) nd rfl (by first | exact .inl rfl | exact .inr rfl) (pv 0))
          (pss_cons (ps_aug (i := 0) nd rfl (by first | exact .inl rfl | exact .inr rfl) (pv 2) (pip_iadd oX_iadd sfL (hr.mono (by decide)) (takes_len tk) hW))
          (pss_one (ps_set (i := 5) nd rfl (by first | exact .inl rfl | exact .inr rfl) (pe_tup (pa_cons pe_str (pa_cons (pe_cmpR (op_eqO oL_eq (hr.mono (by decide))) (pv 4) (pv 0) (nomark _)) pa_nil))))))))).run pins s' σ H' D I h'⟩)
      (.plain ⟨rfl, by decide, .inl R.g1⟩ (fun a oe cls d pn hz hf => pss_one (ps_set (i := 5) nd rfl (by first | exact .inl rfl | exact .inr rfl) (pe_tup (pa_cons pe_str pa_nil))))
        (.named nd rfl rfl ⟨rfl, by decide, .inl R.g2⟩ (fun a oe cls d pn hz hf => pss_one (ps_set (i := 5) nd rfl (by first | exact .inl rfl | exact .inr rfl) (pe_tup (pa_cons pe_str (pa_cons (pe_xf R.x2 R.n2 hz hf (pv 3)) pa_nil)))))
        (.named nd rfl rfl ⟨rfl, by decide, .inl R.g3⟩ (fun a oe cls d pn hz hf => pss_one (ps_set (i := 5) nd rfl (by first | exact .inl rfl | exact .inr rfl) (pe_tup (pa_cons pe_str (pa_cons (pe_xf R.x3 R.n3 hz hf (pv 3)) pa_nil)))))
        (.plain ⟨rfl, by decide, .inl R.g4⟩ (fun a oe cls d pn hz hf => pss_one (ps_set (i := 5) nd rfl (by first | exact .inl rfl | exact .inr rfl) (pe_tup (pa_cons pe_str pa_nil))))
        .nil))))) (pss_one (ps_ret (pv 5)))), ?_⟩
    refine ⟨fun cls d H' => rawAs DE "dead" Q cls d H' ∨ raisedAs BL "bad" "literal" Q cls d H' ∨ raisedAs IS "set" "name" Q cls d H' ∨ rawAs NU "nothing" Q cls d H', fun cls d σ' H' hh hl => ?_, ?_⟩
    · rcases hh with ⟨e1, e2, h2⟩ | ⟨e1, a, v, e2, h1, h2⟩ | ⟨e1, a, v, e2, h1, h2⟩ | ⟨e1, e2, h2⟩
      · subst e1 e2
        exact ⟨true, R.e0_0, fun _ a' na => ⟨by show 1 ≤ sizeLine; decide, fun p np => ⟨.ref p, slotL hl, h2 p np⟩⟩, fun h => nomatch h⟩
      · subst e1 e2
        exact ⟨false, R.e1_0, (fun h => nomatch h), fun _ => ⟨true, R.e1_1, fun _ a' na => ⟨.ref a', by show (σ'.set 3 (some (V.ref a')))[3]? = _; rw [List.getElem?_set_self (by omega)], rfl, rfl, a, _, _, rfl, h1, rfl, by show 2 ≤ sizeLine; decide, fun p np => ⟨.ref p, slotN hl, h2 p np⟩⟩, fun h => nomatch h⟩⟩
      · subst e1 e2
        exact ⟨false, R.e2_0, (fun h => nomatch h), fun _ => ⟨false, R.e2_1, (fun h => nomatch h), fun _ => ⟨true, R.e2_2, fun _ a' na => ⟨.ref a', by show (σ'.set 3 (some (V.ref a')))[3]? = _; rw [List.getElem?_set_self (by omega)], rfl, rfl, a, _, _, rfl, h1, rfl, by show 2 ≤ sizeLine; decide, fun p np => ⟨.ref p, slotN hl, h2 p np⟩⟩, fun h => nomatch h⟩⟩⟩
      · subst e1 e2
        exact ⟨false, R.e3_0, (fun h => nomatch h), fun _ => ⟨false, R.e3_1, (fun h => nomatch h), fun _ => ⟨false, R.e3_2, (fun h => nomatch h), fun _ => ⟨true, R.e3_3, fun _ a' na => ⟨by show 1 ≤ sizeLine; decide, fun p np => ⟨.ref p, slotL hl, h2 p np⟩⟩, fun h => nomatch h⟩⟩⟩⟩
    -- the deed
    have T0 : TwoAt M H M H p q (d.ls.map V.str) ms := ⟨.refl L.mh, L.ne, L.hp, L.hq⟩
    have idle : ∀ {H1 : Hp}, Same H H1 → LedH CL C d x dx p q vc ms M H1 ∧ TwoAt M H M H1 p q (d.ls.map V.str) ms := fun hh => ⟨⟨L.x, L.c, L.ne, hh _ _ L.hp, hh _ _ L.hq, L.pd, fun a o e => by
      have h := L.mh a o e
      by_cases z : a ∈ [p, q]
      · rw [delS_off z] at h; cases h
      · rw [delS_on z] at h ⊢; exact hh _ _ h⟩, T0.step (.idle (cutS_same L.mh) hh)⟩
    have mh := cutS_same L.mh
    have tup1 : ∀ {M' H' : Hp} {s : Str} {r : Addr} {vs ws : List V}, TwoAt M H M' H' p q vs ws → H' r = none → TwoAt M H (upd M' r (.tup [.str s])) (upd H' r (.tup [.str s])) p q vs ws ∧ LastR K (.tuple [.str s]) (.str s) (upd M' r (.tup [.str s])) (.ref r) := fun t nr => ⟨t.step (.new t.mh nr), .inl (dd_tup upd_same (.cons (.str _) .nil)), _, [], rfl, upd_same⟩
    have g0 : GvT (tTest (tOp (rEqP K false) (tVar 1) (tC (.int 0)))) [some (.ref x), some (.int (way : Nat)), some w, none, none, none] M (decide (way = 0)) := gt_is (gt_test (gv_eqT (K := K) (R := It') (neg := false) (x := ((way : Nat) : Int)) (y := 0) py_int inj_int (gv_var rfl rfl) (gv_c rfl) (by simp [PyData.depth]))) (by
      rw [Bool.false_xor, decide_eq_decide]; omega)
    by_cases ew : way = 0
    · refine q_if0 (b := true) mh (gt_is g0 (decide_eq_true ew)) (fun _ H1 hh1 => ?_) fun h => nomatch h
      obtain ⟨L1, T1⟩ := idle hh1
      refine ⟨.ref x, rfl, x, dx, ledF vc p q, rfl, (cutS_same L1.mh) _ _ L1.x, rfl, d, x, dx, p, q, vc, ms, M, rfl, L1, fun en M' H' t => .inr (.inr (.inr ⟨rfl, rfl, fun r nr => ?_⟩)), fun ls l ms0 m el em M' H' t => ⟨by show 2 ≤ sizeLine; decide, fun r nr => ?_⟩⟩
      · obtain ⟨t1, t2⟩ := tup1 (s := "nothing") (T1.trans t) nr
        exact q0 ew en _ _ _ t1 t2
      · exact qu ew ls l ms0 m el em _ _ _ ((T1.trans t).step (.new (o := .tup [.str "told", .str l]) t.mh nr)) ⟨.inl (dd_tup upd_same (.cons (.str _) (.cons (.str _) .nil))), r, [.str "told"], rfl, upd_same⟩
    refine q_if0 (b := false) mh (gt_is g0 (decide_eq_false ew)) (fun h => nomatch h) fun _ H1 hh1 => ?_
    -- what a failing put does
    have fd : ∀ {H2 : Hp}, Same H H2 → d.o = none → ∀ M' H', TwoAt M H2 M' H' p q (d.ls.map V.str) ms → rawAs DE "dead" Q (.ref DE) none H' := fun hh eo M' H' t => ⟨rfl, rfl, fun r nr => by
      obtain ⟨t1, t2⟩ := tup1 (s := "dead") ((idle hh).2.trans t) nr
      exact qf ew _ (by rw [eo]; rfl) _ _ _ _ t1 (.inr ⟨_, rfl⟩) t2⟩
    have fb : ∀ {H2 : Hp}, Same H H2 → ∀ so, d.o = some so → isLit d.c.signs t = false → ∀ a M' H', TwoAt M H2 M' H' p q (d.ls.map V.str) ms → H' a = some (.xd [("literal", w)]) → raisedAs BL "bad" "literal" Q (.ref BL) (some a) H' := fun hh so eo hl a M' H' tt ha => ⟨rfl, a, w, rfl, ha, fun r nr => qf ew (txD ("bad", t)) (by rw [eo]; show (if isLit d.c.signs _ = true then _ else _) = _; rw [hl]; rfl) w _ _ _ (((idle hh).2.trans tt).step (.new (o := .tup [.str "bad", w]) tt.mh nr)) (.inl rfl) ⟨.inr ⟨_, rfl, r, w, rfl, upd_same, Mon.mono (R := DdF K) (((idle hh).2.trans tt).g.mm.trans (same_new (tt.mh.free nr))) rt⟩, r, [.str "bad"], rfl, upd_same⟩⟩
    have fi : ∀ {H2 : Hp}, Same H H2 → ∀ so l, d.o = some so → t = .str l → isLit d.c.signs t = true → (l ∈ so ∨ opp l ∈ so) → ∀ a M' H', TwoAt M H2 M' H' p q (d.ls.map V.str) ms → H' a = some (.xd [("name", .str (nameOf l))]) → raisedAs IS "set" "name" Q (.ref IS) (some a) H' := fun hh so l eo et hl hs a M' H' t ha => ⟨rfl, a, _, rfl, ha, fun r nr => qf ew (.tuple [.str "set", .str (nameOf l)]) (by
      subst et
      rw [eo]
      show (if isLit d.c.signs (.str l) = true then setD so (.str l) else _) = _
      rw [if_pos hl]
      exact if_pos hs) (.str (nameOf l)) _ _ _ (((idle hh).2.trans t).step (.new (o := .tup [.str "set", .str (nameOf l)]) t.mh nr)) (.inr ⟨_, rfl⟩) ⟨.inl (dd_tup upd_same (.cons (.str _) (.cons (.str _) .nil))), r, [.str "set"], rfl, upd_same⟩⟩
    have g4 : GvT (tTest (tOp (rI0 fun i j => .bl (decide (i < j))) (tVar 1) (tC (.int 4)))) [some (.ref x), some (.int (way : Nat)), some w, none, none, none] M (decide (way < 4)) := gt_is (gt_test (gv_lt (i := ((way : Nat) : Int)) (j := 4) (gv_var rfl rfl) (gv_c rfl))) (by rw [decide_eq_decide]; omega)
    by_cases h4 : way < 4
    · refine q_if0 (b := true) (mh.trans hh1) (gt_is g4 (decide_eq_true h4)) (fun _ H2 hh2 => ?_) fun h => nomatch h
      have hh := hh1.trans hh2
      obtain ⟨L2, T2⟩ := idle hh
      refine ⟨.ref x, rfl, x, dx, ledF vc p q, rfl, (cutS_same L2.mh) _ _ L2.x, rfl, w, rfl, d, t, w, x, dx, p, q, vc, ms, M, rfl, L2, rt, X, sh, ⟨xn1, xn2⟩, fun eo M' H' t => .inl (fd hh eo M' H' t), fun so eo hl a M' H' t ha => .inr (.inl (fb hh so eo hl a M' H' t ha)), fun so l eo et hl hs a M' H' t ha => .inr (.inr (.inl (fi hh so l eo et hl hs a M' H' t ha))), fun so l eo et hl n1 n2 u M' H' t eu he => ⟨by show 2 ≤ sizeLine; decide, fun r nr => ?_⟩, fun so l eo et hl n1 n2 s' u r0 M' H' t ru he h0 m0 hr0 => ⟨by show 2 ≤ sizeLine; decide, fun r nr => ?_⟩⟩
      · exact (qp ew so l eo et hl n1 n2 none u _ _ ((T2.trans t).step (.new (o := .tup [.str "told", .non]) t.mh nr)) eu he).2.1 h4 rfl (.ref r) ⟨.inl (dd_tup upd_same (.cons (.str _) (.cons .non .nil))), r, [.str "told"], rfl, upd_same⟩
      · have nrr : r0 ≠ r := fun e => by rw [e, nr] at hr0; cases hr0
        exact (qp ew so l eo et hl n1 n2 (some s') u _ _ ((T2.trans t).step (.new (o := .tup [.str "told", .ref r0]) t.mh nr)) (Mon.mono (same_new (t.mh.free nr)) ru : DcF s' _ u) he).2.2 h4 s' rfl r r0 (hh.free h0) (by rw [upd_ne nrr]; exact m0) (by rw [upd_ne nrr]; exact hr0) upd_same
    refine q_if0 (b := false) (mh.trans hh1) (gt_is g4 (decide_eq_false h4)) (fun h => nomatch h) fun _ H2 hh2 => ?_
    have hh := hh1.trans hh2
    obtain ⟨L2, T2⟩ := idle hh
    have after : ∀ so l, d.o = some so → t = .str l → isLit d.c.signs t = true → l ∉ so → opp l ∉ so → ∀ o' u' M' H', TwoAt M H2 M' H' p q ((d.ls ++ [l]).map V.str) (ms ++ [u']) → OpR' DcF o' M' u' → EndsOk d.c.names d.c.clauses (d.ls ++ [l]) o' → (tAsg (tTup (tCons (tC (.str "same")) (tCons (tOp (rEqO CL (sp_Led_eq K CL C) false) (tVar 4) (tVar 0)) tNil))) (gName 5)) { nx := tRet (tVar 5) { nx := fun _ H' => Q .non H', rt := Q }, rt := Q } [some (.ref x), some (.int (way : Nat)), some w, none, some (.ref x), none] H' := fun so l eo et hl n1 n2 o' u' M' H' tt ru he => by
      have tA := T2.trans tt
      have up : Same M' (upd (upd M' p (.lst ((d.ls ++ [l]).map V.str))) q (.lst (ms ++ [u']))) := (same_new tt.mp).trans (same_new (by rw [upd_ne (Ne.symm L.ne)]; exact tt.mq))
      have rk : LedR CL C ⟨d.c, d.ls ++ [l], d.ss ++ [d.o], o'⟩ (upd (upd M' p (.lst ((d.ls ++ [l]).map V.str))) q (.lst (ms ++ [u']))) (.ref x) := ⟨x, dx, vc, p, q, ms ++ [u'], rfl, up _ _ (tt.g.mm _ _ L.x), Mon.mono (tt.g.mm.trans up) L.c, by rw [upd_ne L.ne, upd_same], upd_same, pd_app (Pd.mono (R := OpR' DcF) (tt.g.mm.trans up) L.pd) (.cons (Mon.mono up ru) .nil)⟩
      have mk : Same (upd (upd M' p (.lst ((d.ls ++ [l]).map V.str))) q (.lst (ms ++ [u']))) H' := lent_two (M := M') (H := H') (tt.g.mh) tt.hp tt.hq
      refine gv_eqO (R1 := LedR CL C) (pre := fun a b => CodeP a.c ∧ CodeP b.c) (B := eqL) (x := ⟨d.c, d.ls ++ [l], d.ss ++ [d.o], o'⟩) (y := ⟨d.c, d.ls ++ [l], d.ss ++ [d.o], o'⟩) (neg := false) (gv_var (i := 4) rfl rk) (gv_var (i := 0) rfl rk) inst_led ⟨CP, CP⟩ H' mk _ fun v M2 H3 g r => ⟨by show 2 ≤ sizeLine; decide, fun r0 nr => ⟨.ref r0, rfl, ?_⟩⟩
      have ev : v = .bl true := by
        rw [show v = _ from r]
        show V.bl (xor false (eqC d.c d.c && decide (d.ls ++ [l] = d.ls ++ [l]))) = _
        rw [eqC_self CP NF]
        simp
      subst ev
      have t3 := TwoAt.ofKnown tt.g.mh L.ne tt.hp tt.hq g
      have t4 := (tA.trans t3).step (.new (o := .tup [.str "same", .bl true]) t3.mh nr)
      exact (qp ew so l eo et hl n1 n2 o' u' _ _ t4 (Mon.mono (t3.g.mm.trans (same_new (t3.mh.free nr))) ru) he).1 (by omega) (.ref r0) ⟨.inl (dd_tup upd_same (.cons (.str _) (.cons (.bl true) .nil))), r0, [.str "same"], rfl, upd_same⟩
    refine ⟨.ref x, rfl, ?_⟩
    exact ⟨.ref x, rfl, w, rfl, x, dx, ledF vc p q, rfl, (cutS_same L2.mh) _ _ L2.x, d, t, w, x, dx, p, q, vc, ms, M, rfl, L2, rt, X, sh, ⟨xn1, xn2⟩, fun eo M' H' t => .inl (fd hh eo M' H' t), fun so eo hl a M' H' t ha => .inr (.inl (fb hh so eo hl a M' H' t ha)), fun so l eo et hl hs a M' H' t ha => .inr (.inr (.inl (fi hh so l eo et hl hs a M' H' t ha))), fun so l eo et hl n1 n2 u M' H' t eu he => ⟨⟨x, rfl⟩, after so l eo et hl n1 n2 none u M' H' t eu he⟩, fun so l eo et hl n1 n2 s' u r0 M' H' t ru he h0 m0 hr0 => ⟨⟨x, rfl⟩, after so l eo et hl n1 n2 (some s') u M' H' t ru he⟩⟩
end
end My

set_option Elab.async false
set_option linter.all false
set_option maxRecDepth 100000
set_option maxHeartbeats 1000000
namespace L3
open PySem PySem.Spec PyProof.Rows L2
/-! xs[1::-1] of a list -/
theorem rev1_pick (items : Array Value) : slicePick items (some 1) none (some (-1)) = (items.toList.take 2).reverse.toArray := by
  obtain ⟨xs⟩ := items
  unfold slicePick
  match xs with
  | [] => rfl
  | [a] =>
    have e : sliceRange (sliceBounds (some 1) none (some (-1)) 1).1 (sliceBounds (some 1) none (some (-1)) 1).2.1 (sliceBounds (some 1) none (some (-1)) 1).2.2 = [0] := by decide +kernel
    show ((sliceRange (sliceBounds (some 1) none (some (-1)) 1).1 (sliceBounds (some 1) none (some (-1)) 1).2.1 (sliceBounds (some 1) none (some (-1)) 1).2.2).filterMap ([a].toArray[·]?)).toArray = _
    rw [e]
    rfl
  | a :: b :: r =>
    have e : sliceBounds (some 1) none (some (-1)) (a :: b :: r).toArray.size = (1, -1, -1) := by
      rw [List.size_toArray, List.length_cons, List.length_cons]
      unfold sliceBounds
      simp
      omega
    rw [e]
    rfl
def tRev1L (K : PySem.W.Frag) (te : TE) : TE := fun σ H Q => te σ H fun x H1 => ∃ a xs, x = .ref a ∧ SqL K H1 a xs ∧ ∀ p, H1 p = none → Q (.ref p) (upd H1 p (.lst (xs.take 2).reverse))
theorem pe_rev1L {X : Cx} {e : Expr} {te : TE} {k k0 : Nat} {p0 p1 p2 p3 pos : Pos} (he : PE X e te) : PE X (.Subscript e (.Slice (some (.Constant (.int 1) k0 p0)) none (some (.UnaryOp .USub (.Constant (.int 1) k p1) p2)) p3) pos) (tRev1L X.K te) := by
  refine ⟨fun pins s σ H Q I h => ?_⟩
  refine Subscript_ (thn (he.run pins s σ H _ I h) fun v s1 ⟨x, H1, I1, r1, q1⟩ => ?_)
  obtain ⟨a, xs, ex, hx, q⟩ := q1
  subst ex
  cases r1
  have hst : PO X (some (.UnaryOp .USub (.Constant (.int 1) k p1) p2)) (tPart (tUn (rU fun i => .int (-i)) (tC (.int 1)))) := po_some (pe_un un_neg pe_int)
  have hlo : PO X (some (.Constant (.int 1) k0 p0)) (tPart (tC (.int 1))) := po_some pe_int
  refine wpAny_Slice (thn (hlo.run pins s1 σ H1 (fun o H2 => o = some 1 ∧ H2 = H1) I1 ⟨1, rfl, rfl, rfl⟩) fun vl s2 ⟨l, H2, I2, pl, el, e2⟩ => ?_)
  subst el e2
  refine thn (po_none.run pins s2 σ H2 (fun o H3 => o = none ∧ H3 = H2) I2 ⟨rfl, rfl⟩) fun vu s3 ⟨u, H3, I3, pu, eu, e3⟩ => ?_
  subst eu e3
  refine thn (hst.run pins s3 σ H3 (fun o H4 => o = some (-1) ∧ H4 = H3) I3 ⟨1, rfl, -1, rfl, rfl, rfl⟩) fun vs s4 ⟨o, H4, I4, ps, eo, e4⟩ => ?_
  subst eo e4
  have I5 : Inv X pins σ H4 { s4 with heap := s4.heap.push { cls := .type "slice", data := .fields #[vl, vu, vs] } } := I4.kept (t' := s4.toks) fun b ob q => Heap.get?_push_of_some _ q
  obtain ⟨its, r, ht, hz⟩ := I5.list hx
  have hlen := r.length
  show wpAny (model X.prog X.w) X.A (subscriptTail e (.Slice (some (.Constant (.int 1) k0 p0)) none (some (.UnaryOp .USub (.Constant (.int 1) k p1) p2)) p3) (.ref a) (.ref s4.heap.objs.size)) (EP X pins σ Q) X.xe { s4 with heap := s4.heap.push { cls := .type "slice", data := .fields #[vl, vu, vs] } }
  refine tail_any (ops := [.ref a, .ref s4.heap.objs.size]) ht.isList.typeIs (PySem.slot_list_getitem.lookup) ?_ (by with_unfolding_all rfl)
  refine wpAny_getItem_list_slice ht.isList (Heap.IsSliceOf.new _ vl vu vs) pl pu ps (by decide) ?_ (by rw [List.size_toArray]; omega)
  rw [rev1_pick]
  refine ⟨.ref _, _, I5.laid (t' := s4.toks) (o := .lst (xs.take 2).reverse) (fun b ob q => Heap.get?_push_of_some _ q) (Nat.le_refl _) ?_, rfl, q _ (I5.hok.fresh (Nat.le_refl _))⟩
  exact ⟨by rw [List.length_reverse, List.length_take]; omega, _, 0, (r.take 2).reverse, Heap.get?_push_size _ rfl⟩
theorem gl_rev1L {K : PySem.W.Frag} {σ : Sl} {M : Hp} {te : TE} {α : Type} {R : Rl α} [Mon R] {xs : List α} (h : Gv te σ M (LstR K R xs)) : GvL (tRev1L K te) σ M fun M ws => Pd R M (xs.take 2).reverse ws := fun H mh Q q =>
  h H mh _ fun v M1 H1 g1 ⟨a, vs, e, hs, hp⟩ => ⟨a, vs, e, sl_mono g1.mh hs, fun p np => by
    have pr : ∀ {α : Type} {R : Rl α} {M : Hp} {xs : List α} {vs : List V}, Pd R M xs vs → Pd R M xs.reverse vs.reverse := fun {α R M xs vs} h => by
      induction h with
      | nil => exact .nil
      | cons q _ ih => rw [List.reverse_cons, List.reverse_cons]; exact pd_app ih (.cons q .nil)
    exact q p _ M1 _ (g1.trans (.own g1.mh np)) (g1.hh.free np) (g1.mh.free np) upd_same (pr (pd_take 2 hp))⟩
end L3

set_option Elab.async false
set_option linter.all false
set_option maxRecDepth 100000
set_option maxHeartbeats 8000000
set_option pp.maxSteps 900
namespace My
open PySem PySem.Spec PyProof.Rows L2 L3
open L3.Strm
/-! others who are led, beside somebody led -/
section
variable {K : PySem.W.Frag}
/-- the parts of a code, as data -/
def partD (c : CodeD) (x : Str) : PyData := if x = "signs" then .list (c.signs.map .str) else if x = "helpers" then .list (c.helpers.map .str) else .list (c.clauses.map fun d => .tuple (d.map .str))
theorem gv_part {σ : Sl} {M : Hp} {td ti : TE} {c : CodeD} {x : Str} (hx : x ∈ (["signs", "helpers", "clauses"] : List Str)) (h : Gv td σ M (LawR c)) (hi : Gv ti σ M (Tx x)) : Gv (tDGet td ti) σ M (Dd K (partD c x)) := fun H mh Q q => h H mh _ fun v M1 H1 g1 p1 => hi.le g1.mm H1 g1.mh _ fun u M2 H2 g2 p2 => by
  obtain ⟨a, o, u1, u2, u3, rfl, ha, r1, r2, r3⟩ := p1
  cases (show u = _ from p2)
  have ha' := g2.mh _ _ (g2.mm _ _ ha)
  have G := g1.trans g2
  have d1 : Dd K (.list (c.signs.map .str)) M2 u1 := py_lst py_str _ _ _ (Mon.mono g2.mm r1 : LiR Tx c.signs M2 u1).lst
  have d2 : Dd K (.list (c.helpers.map .str)) M2 u2 := py_lst py_str _ _ _ (Mon.mono g2.mm r2 : LiR Tx c.helpers M2 u2).lst
  have d3 : Dd K (.list (c.clauses.map fun d => .tuple (d.map .str))) M2 u3 := py_LTT _ _ _ (Mon.mono g2.mm r3)
  simp only [List.mem_cons, List.not_mem_nil, or_false] at hx
  rcases hx with rfl | rfl | rfl
  · exact ⟨a, u1, rfl, .inl ⟨_, Sum.inr _, .inr ⟨o, ha'⟩, rfl, rfl⟩, q u1 M2 H2 G d1⟩
  · exact ⟨a, u2, rfl, .inl ⟨_, Sum.inr _, .inr ⟨o, ha'⟩, rfl, rfl⟩, q u2 M2 H2 G d2⟩
  · exact ⟨a, u3, rfl, .inl ⟨_, Sum.inr _, .inr ⟨o, ha'⟩, rfl, rfl⟩, q u3 M2 H2 G d3⟩
theorem parts_code (c : CodeD) : PyData.list ((["signs", "helpers", "clauses"] : List Str).map (partD c)) = codeD c := by
  have h1 : partD c "signs" = .list (c.signs.map .str) := if_pos rfl
  have h2 : partD c "helpers" = .list (c.helpers.map .str) := (if_neg (by decide)).trans (if_pos rfl)
  have h3 : partD c "clauses" = .list (c.clauses.map fun d => .tuple (d.map .str)) := (if_neg (by decide)).trans (if_neg (by decide))
  simp only [List.map_cons, List.map_nil, h1, h2, h3]
  rfl
theorem gv_tupG {α : Type} {R : Rl α} [Mon R] {σ : Sl} {M : Hp} {ta : TA} {xs : List α} (h : GvA ta σ M fun M vs => Pd R M xs vs) (hz : xs.length ≤ 1000) : Gv (tTup ta) σ M (SqR K R xs) := gv_tup h (fun M vs p => by rw [← p.length]; exact Nat.le_trans hz (by decide)) fun M vs p r n => .inr ⟨p, vs, rfl, .inl (.inl upd_same), r.mono (same_new n)⟩
theorem gv_mkCodeD {C : Addr} {σ : Sl} {M : Hp} {t1 t2 : TE} {dv : V} {ss : List Str} {cs : List (List Str)} (hd : ∀ M, SqR K Tx [] M dv) (h1 : Gv t1 σ M (SqR K Tx ss)) (h2 : Gv t2 σ M (SqR K (SqR K Tx) cs)) (ok : CodeOk ss [] cs) : Gv (tMake C (sp_Code_init K C) [dv] E0 (tCons t1 (tCons t2 tNil))) σ M (CodeR C (mkCode ss [] cs)) := fun H mh Q q =>
  h1 H mh _ fun v1 M1 H1 g1 q1 => h2.le g1.mm H1 g1.mh _ fun v2 M2 H2 g2 q2 x dx hx hdx hne => by
    have m3 := g2.mh
    have gN : Gr M2 H2 M2 (upd (upd H2 dx (.own x)) x (.ins C dx [])) := (Gr.own m3 hdx).trans (.own (m3.trans (same_new hdx)) (by rw [upd_ne (Ne.symm hne)]; exact hx))
    exact ⟨ss, [], cs, M2, H2, x, dx, v1, v2, dv, rfl, gN, hx, m3.free hx, upd_same, Mon.mono g2.mm q1, q2, hd _, ok, fun M' H' g r => ⟨rfl, q _ M' H' ((g1.trans g2).trans g) r⟩⟩
/-- a code whose signs are drawn -/
theorem gs_mkCode3 {S : Strm} {c : Nat} {C : Addr} {σ : Sl} {M : Hp} {t1 t2 t3 : TE} {good : List Str → Prop} {hs : List Str} {cs : List (List Str)} (h1 : GvS S c t1 σ M (Ex (LiR Tx) good)) (h2 : Gv t2 σ M (SqR K (SqR K Tx) cs)) (h3 : Gv t3 σ M (SqR K Tx hs)) (ok : ∀ ss, good ss → CodeOk ss hs cs) : GvS S c (tMake C (sp_Code_init K C) [] E0 (tCons t1 (tCons t2 (tCons t3 tNil)))) σ M (fun M v => ∃ ss, good ss ∧ CodeR C (mkCode ss hs cs) M v) := fun H k mh a Q q =>
  h1 H k mh a _ fun v1 M1 H1 g1 a1 ⟨ss, gs, q1⟩ => h2.le g1.mm H1 (g1.mh.trans cut_same) _ fun v2 M2 H2 g2 q2 => h3.le (g1.mm.trans g2.mm) H2 g2.mh _ fun v3 M3 H3 g3 q3 x dx hx hdx hne => by
    have m3 := g3.mh
    have gN : Gr M3 H3 M3 (upd (upd H3 dx (.own x)) x (.ins C dx [])) := (Gr.own m3 hdx).trans (.own (m3.trans (same_new hdx)) (by rw [upd_ne (Ne.symm hne)]; exact hx))
    exact ⟨ss, hs, cs, M3, H3, x, dx, v1, v2, v3, rfl, gN, hx, m3.free hx, upd_same, (Mon.mono (g2.mm.trans g3.mm) q1 : LiR Tx ss M3 v1).sq, Mon.mono g3.mm q2, q3, ok ss gs, fun M' H' g r => ⟨rfl, q _ M' H' (g1.trans (lift g1.mh a1 ((g2.trans g3).trans g))) (a1.same ((g2.trans g3).trans g).hh) ⟨ss, gs, r⟩⟩⟩
def Fin3 (K : PySem.W.Frag) (i j l : Nat) (tz : TS) (D : Ends) (σ : Sl) : List V → Hp → Prop := fun vs H1 => vs.length ≤ sizeLine ∧ ∀ p, H1 p = none → gTup K 3 (gCons (gName i) (gCons (gName j) (gCons (gName l) gNil))) (.ref p) σ (upd H1 p (.tup vs)) fun σ' H' => tz D σ' H'
theorem q_asg3 {i j l : Nat} {tz : TS} {D : Ends} {σ : Sl} {H : Hp} {ta : TA} (h : ta σ H (Fin3 K i j l tz D σ)) : tSeq (tAsg (tTup ta) (gTup K 3 (gCons (gName i) (gCons (gName j) (gCons (gName l) gNil))))) tz D σ H := h
theorem fin3 {i j l : Nat} {tz : TS} {D : Ends} {σ : Sl} {H1 : Hp} {u v w : V} (h : ∀ p, H1 p = none → tz D (((σ.set i (some u)).set j (some v)).set l (some w)) (upd H1 p (.tup [u, v, w]))) : Fin3 K i j l tz D σ [u, v, w] H1 :=
  ⟨by show 3 ≤ sizeLine; decide, fun p np => ⟨p, _, rfl, .inl (.inl upd_same), rfl, u, _, rfl, v, _, rfl, w, _, rfl, rfl, h p np⟩⟩
end
/-! new ones, and puts -/
section
variable {K : PySem.W.Frag} {S : Strm} {σ : Sl} {D : Ends} {CL C : Addr} {M W H : Hp} {k : Nat}
theorem w_mkLed {te : TE} {good : CodeD → Prop} {cst : Nat} (L : LW S M W H (k + cst)) (h : GvS S cst te σ M (fun M v => ∃ c, good c ∧ CodeR C c M v)) (hX : ∀ c, good c → Ctx c.names c.clauses [] ∧ ChW c.clauses) {Q : VK}
    (go : ∀ c x p q o u M' H', good c → Same M M' → LW S M' (upd (upd W p (.lst [])) q (.lst [u])) H' k → LedW CL C c x p q [] [] o M' (upd (upd W p (.lst [])) q (.lst [u])) → W p = none → W q = none → Q (.ref x) H') : tMake CL (sp_Led_init K CL C) [] E0 (tCons te tNil) σ H Q :=
  h H k L.mh L.at_ _ fun vc M1 H1 g1 a1 ⟨c, gc, rc⟩ x dx nx ndx ne => by
    obtain ⟨X0, hw⟩ := hX c gc
    have L1 : LW S M1 W H1 k := L.step g1 a1
    refine ⟨c, M1, H1, x, dx, vc, rfl, (Gr.own L1.m ndx).trans (.own (Gr.own L1.m ndx).mh (by rw [upd_ne (Ne.symm ne)]; exact nx)), nx, L1.m.free nx, upd_same, rc, X0, hw, fun o u p q M2 H2 g2 hx2 pq op oq e ru => ⟨rfl, ?_⟩⟩
    have L2 := L1.plain g2
    have cp : S.cut H2 p = some (.lst []) := by rw [cut_on (L1.at_.fresh op.h0)]; exact op.h
    have cq : S.cut H2 q = some (.lst [u]) := by rw [cut_on (L1.at_.fresh oq.h0)]; exact oq.h
    exact go c x p q o u M2 H2 gc (g1.mm.trans g2.mm) ((L2.add op.m cp).add oq.m cq) ⟨⟨dx, vc, hx2, Mon.mono g2.mm rc⟩, pq, by rw [upd_ne pq, upd_same]; rfl, ⟨[u], upd_same, .cons ru .nil⟩, .nil e⟩ (L1.fresh op.h0) (L1.fresh oq.h0)
theorem w_put {c : CodeD} {x p q : Addr} {ls : List Str} {ss : List (Option (List Str))} {so : List Str} {l : Str} {to tl : TE} (L : LW S M W H k) (LD : LedW CL C c x p q ls ss (some so) M W) (nm : NmL c.names) (hk : ∀ k ∈ c.clauses, Lits c.names k) (hw : ChW c.clauses) (lit : Lits c.names ls) (hl : l ∈ litsOf c.signs) (n1 : l ∉ so) (n2 : opp l ∉ so)
    (ho : ∀ Q : VK, (∀ H1, LW S M W H1 k → Q (.ref x) H1) → to σ H Q) (ht : ∀ H1 (Q : VK), Q (.str l) H1 → tl σ H1 Q)
    (go : ∀ o' us M' H', Same M M' → LW S M' (upd (upd W p (.lst ((ls ++ [l]).map V.str))) q (.lst us)) H' k → LedW CL C c x p q (ls ++ [l]) (ss ++ [some so]) o' M' (upd (upd W p (.lst ((ls ++ [l]).map V.str))) q (.lst us)) → D.nx σ H') :
    tDrop (tMeth CL "put" (sp_Led_put K CL C) [] E0 to (tCons tl tNil)) D σ H := ho _ fun H1 L1 => by
  obtain ⟨dx, vc, ms, LH, hq⟩ := LD.led L1
  have X0 : Ctx c.names c.clauses ls := ⟨nm, hk, lit⟩
  have nn := (nm_shorts nm).1
  have ll := lits_len lit nm
  have lc := LD.c.len
  refine ⟨x, dx, ledF vc p q, rfl, L1.m _ _ LH.x, rfl, ht H1 _ ⟨⟨c, ls, ss, some so⟩, l, x, dx, p, q, vc, ms, M, rfl, LH, ⟨nm, hk, hw, ⟨so, ls, rfl, LD.c.ends, X0, n1, n2⟩, hl, by show ls.length ≤ 1000; omega, by show ss.length ≤ 1000; omega⟩, fun o' u z M' H' t ru he => ?_⟩⟩
  exact go o' (ms ++ [u]) M' H' t.g.mm (L1.two t LD.hp hq) ⟨⟨dx, vc, t.g.mm _ _ LH.x, Mon.mono t.g.mm LH.c⟩, LD.ne, by rw [upd_ne LD.ne, upd_same], ⟨_, upd_same, pd_app (Pd.mono (R := OpR' DcF) t.g.mm LH.pd) (.cons ru .nil)⟩, .put LD.c hl n1 n2 (he ls so rfl LD.c.ends X0)⟩
end
/-! a code with one more sign -/
def widen (c : CodeD) (n : Str) : CodeD := ⟨c.signs ++ [n], c.helpers, c.clauses⟩
theorem asc_mid {xs ys d : List Str} {n : Str} (h1 : n ∉ d) (h2 : ("-" : Str) ++ n ∉ d) : asc d (xs ++ [n] ++ ys) = asc d (xs ++ ys) := by
  unfold asc
  simp only [List.flatMap_append, List.flatMap_cons, List.flatMap_nil, List.append_nil]
  have e : [n, ("-" : Str) ++ n].filter (fun l => decide (l ∈ d)) = [] := by simp [h1, h2]
  rw [e, List.append_nil]
section
variable {c : CodeD} {n : Str} (g : Good c) (h1 : isNm n = true) (h2 : n ∉ c.names)
include h1 h2 g
theorem widen_names : (widen c n).names.Perm (n :: c.names) := by
  show (c.signs ++ [n] ++ c.helpers).Perm (n :: (c.signs ++ c.helpers))
  rw [List.append_assoc]
  exact List.perm_middle
theorem widen_nm (hn : c.names.length < 60) : NmL (widen c n).names := by
  have P := widen_names g h1 h2
  refine ⟨P.symm.nodup (List.nodup_cons.mpr ⟨h2, g.nm.nd⟩), fun m hm => ?_, by rw [P.length_eq, List.length_cons]; have := g.nm.n; omega⟩
  rcases List.mem_cons.mp (P.mem_iff.mp hm) with rfl | hm
  · exact h1
  · exact g.nm.nm m hm
theorem widen_lits : ∀ x ∈ (widen c n).clauses, Lits (widen c n).names x := fun x hx => by
  have P := widen_names g h1 h2
  have L := g.lits x hx
  exact ⟨L.nd, fun y hy => by
    obtain ⟨m, hm, e⟩ := L.of y hy
    exact ⟨m, P.mem_iff.mpr (List.mem_cons_of_mem _ hm), e⟩⟩
theorem widen_not : ∀ x ∈ c.clauses, n ∉ x ∧ ("-" : Str) ++ n ∉ x := fun x hx => by
  have L := g.lits x hx
  have hm : ∀ y ∈ x, nameOf y ≠ n := fun y hy e => by
    obtain ⟨m, hm, s⟩ := L.of y hy
    have := g.nm.nm m hm
    rcases s with s | s
    · rw [s, nameOf_nm this] at e; exact h2 (e ▸ hm)
    · rw [s, nameOf_neg this] at e; exact h2 (e ▸ hm)
  exact ⟨fun z => hm _ z (nameOf_nm h1), fun z => hm _ z (nameOf_neg h1)⟩
theorem widen_made : mkCode (c.signs ++ [n]) c.helpers c.clauses = widen c n := by
  show (⟨_, _, _⟩ : CodeD) = ⟨_, _, _⟩
  have nf := g.nf
  congr 1
  have e : (c.clauses.map fun d => asc d (c.signs ++ [n] ++ c.helpers)) = c.clauses := by
    refine map_self fun x hx => ?_
    obtain ⟨a, b⟩ := widen_not g h1 h2 x hx
    rw [asc_mid a b]
    exact nf.a x hx
  rw [e]
  exact once_self nf.nd
theorem widen_ok (hn : c.names.length < 60) : CodeOk (c.signs ++ [n]) c.helpers c.clauses := by
  have W := widen_nm g h1 h2 hn
  obtain ⟨n1, n2, n3⟩ := List.nodup_append.mp (show (c.signs ++ [n] ++ c.helpers).Nodup from W.nd)
  have hl : (c.signs ++ [n] ++ c.helpers).length = (c.signs ++ [n]).length + c.helpers.length := List.length_append
  have h60 := W.n
  have h60 : (c.signs ++ [n] ++ c.helpers).length ≤ _ := h60
  refine ⟨⟨n1, fun x hx => ⟨W.nm x (List.mem_append_left _ hx), fun h => by cases h⟩, by omega⟩, ⟨n2, fun x hx => ⟨W.nm x (List.mem_append_right _ hx), fun h => n3 x h x hx rfl⟩, by omega⟩, Nat.le_trans g.few (by decide), fun x hx => clOk_lits W (widen_lits g h1 h2 x hx), ?_⟩
  omega
theorem widen_p (hn : c.names.length < 60) : CodeP (widen c n) := ⟨widen_nm g h1 h2 hn, widen_lits g h1 h2, by rw [(widen_names g h1 h2).length_eq, List.length_cons]; omega, Nat.le_trans g.few (by decide)⟩
end
theorem widen_ne (c : CodeD) (n : Str) : eqC c (widen c n) = false := by
  unfold eqC
  have e : sameN c.signs (widen c n).signs = false := by
    unfold sameN
    rw [show decide (c.signs.length = (widen c n).signs.length) = false from decide_eq_false (by show c.signs.length ≠ (c.signs ++ [n]).length; rw [List.length_append, List.length_singleton]; omega)]
    rfl
  rw [e]
  simp
theorem good_p {c : CodeD} (g : Good c) : CodeP c := ⟨g.nm, g.lits, Nat.le_trans g.n (by decide), Nat.le_trans g.few (by decide)⟩
/-! a code without clauses -/
theorem nm_minus (n : Str) : isNm (("-" : Str) ++ n) = false := by
  rw [← SX.S_tl n, neg_S]
  have e : (SX.S (45 :: n.cps.toList)).cps.toList.all (fun c => decide (c ∈ g_LETTERS.cps.toList)) = false := by
    show (45 :: n.cps.toList).all (fun c => decide (c ∈ g_LETTERS.cps.toList)) = false
    rw [List.all_cons, show decide (45 ∈ g_LETTERS.cps.toList) = false by decide +kernel]
    rfl
  unfold isNm
  rw [e, Bool.and_false]
theorem free_der {P : List Str} {x : Str} : Der [] P x ↔ x ∈ P := by
  constructor
  · intro h
    cases h with
    | base h => exact h
    | step h _ _ => cases h
  · exact .base
theorem free_so {ns P : List Str} {o : Option (List Str)} (e : EndsOk ns [] P o) : ∃ so, o = some so ∧ ∀ x, x ∈ so ↔ x ∈ P := by
  cases o with
  | none =>
    obtain ⟨d, hd, _⟩ := (show Dead [] P from e)
    cases hd
  | some so => exact ⟨so, rfl, fun x => (e.2.1 x).trans free_der⟩
theorem free_next {ns : List Str} (nm : NmL ns) {o : List Str} (nd : o.Nodup) (hs : ∀ x ∈ o, x ∈ ns) {j : Nat} {n : Str} (h : o[j]? = some n) : n ∉ o.take j ∧ opp n ∉ o.take j := by
  have hn := List.mem_of_getElem? h
  have hm := nm.nm n (hs n hn)
  refine ⟨fun z => ?_, fun z => ?_⟩
  · obtain ⟨i, hi, e⟩ := List.mem_take_iff_getElem.mp z
    obtain ⟨h1, h2⟩ := List.getElem?_eq_some_iff.mp h
    have := (List.getElem_inj nd).mp (e.trans h2.symm)
    omega
  · have z2 := nm.nm _ (hs _ (List.mem_of_mem_take z))
    rw [opp_nm hm, nm_minus] at z2
    cases z2
end My

set_option Elab.async false
set_option linter.all false
set_option maxRecDepth 100000
set_option maxHeartbeats 16000000
set_option pp.maxSteps 900
namespace My
open PySem PySem.Spec PyProof.Rows L2 L3
open L3.Strm
/-! whether somebody led equals just one who was led so -/
def OthY (K : PySem.W.Frag) (C : Addr) : Rl (CodeD ⊕ PyData) := fun o M v => match o with
  | .inl d => CodeR C d M v
  | .inr d => DdF K d M v
instance {K : PySem.W.Frag} {C : Addr} : Mon (OthY K C) := ⟨fun {x M M' v} e h => by
  cases x with
  | inl d => exact (Mon.mono e (h : CodeR C d M v) : CodeR C d M' v)
  | inr d => exact (Mon.mono e (h : DdF K d M v) : DdF K d M' v)⟩
def rEqY (K : PySem.W.Frag) (CL C : Addr) (spI spD : Sp) : R2 := fun x y H Q => rEqA CL C spI x y H Q ∨ rEqD K CL spD x y H Q
theorem op_eqY {X : Cx} {k : Nat} {CL C : Addr} {ps qs : List Str} {spI spD : Sp} (o : OwnSp X.prog X.w X.K X.mg X.base k CL "__eq__" ps spI) (nf : PySem.W.notFirst X.K CL (.ref C) = true) (o2 : OwnSp X.prog X.w X.K X.mg X.base k CL "__eq__" qs spD) (hr : Room k X.A) : OpR X (compareOp .Eq) (rEqY X.K CL C spI spD) := by
  intro pins s σ H x y u v Q I rx ry h
  rcases h with h | h
  · exact L3.op_eqA o nf hr _ _ _ _ _ _ _ _ _ I rx ry h
  · exact L3.op_eqD o2 hr _ _ _ _ _ _ _ _ _ I rx ry h
theorem gv_eqY {K : PySem.W.Frag} {CL C : Addr} {σ : Sl} {M : Hp} {ta tb : TE} {d : LedD} {o : CodeD ⊕ PyData} (ha : Gv ta σ M (LedR CL C d)) (hb : Gv tb σ M (OthY K C o)) : Gv (tOp (rEqY K CL C (sp_Led_eqI K CL C) (sp_Led_eqD K CL C)) ta tb) σ M (Bl false) := fun H mh Q q =>
  ha H mh _ fun v M1 H1 g1 p1 => hb.le g1.mm H1 g1.mh _ fun w M2 H2 g2 p2 => by
    have p12 : LedR CL C d M2 v := Mon.mono g2.mm p1
    obtain ⟨a, dx, fs, rfl, h1⟩ := inst_led d M2 v p12
    cases o with
    | inl c =>
      have p2 : CodeR C c M2 w := p2
      obtain ⟨b, dy, gs, rfl, h2⟩ := inst_code c M2 w p2
      exact .inl ⟨a, b, dx, dy, fs, gs, rfl, rfl, g2.mh _ _ h1, g2.mh _ _ h2, d, c, M2, _, _, rfl, g2.mh, p12, p2, trivial, fun u M' H' g r => ⟨_, r, q _ M' H' ((g1.trans g2).trans g) rfl⟩⟩
    | inr e =>
      have p2 : DdF K e M2 w := p2
      exact .inr ⟨a, dx, fs, e, rfl, g2.mh _ _ h1, Mon.mono g2.mh p2, d, e, M2, _, w, rfl, g2.mh, p12, p2, trivial, fun u M' H' g r => ⟨_, r, q _ M' H' ((g1.trans g2).trans g) rfl⟩⟩
theorem gs_lst1 {S : Strm} {c : Nat} {σ : Sl} {M : Hp} {te : TE} {α : Type} {R : Rl α} [Mon R] {good : α → Prop} (h : GvS S c te σ M (Ex R good)) : GvS S c (tLst (tCons te tNil)) σ M (Ex (LiR R) fun xs => ∃ x, good x ∧ xs = [x]) := fun H k mh a Q q =>
  h H k mh a _ fun v M1 H1 g1 a1 ⟨x, gx, r⟩ => ⟨by show 1 ≤ sizeLine; decide, fun p np => by
    have m1 : Same M1 H1 := g1.mh.trans cut_same
    have g2 := (Gr.own (o := .lst [v]) m1 np).freeze np (m1.free np) upd_same
    exact q (.ref p) _ _ (g1.trans (lift g1.mh a1 g2)) (a1.same g2.hh) ⟨[x], ⟨x, gx, rfl⟩, p, [v], rfl, upd_same, .cons (Mon.mono (same_new (m1.free np)) r) .nil⟩⟩
section
variable {P : Program} {w : World} {K : PySem.W.Frag} {mg : Str → Option Value} {base : Heap}
abbrev s__law_is_twin : Stmt := topS 52
theorem sc__law_is_twin : FnScope ["_law_stream", "_law_led", "_law_code_here", "_law_m", "_law_wider", "_law_one", "_law_order", "_law_c", "_law_twin", "_law_others", "_law_name", "_law_part"] ["_law_stream", "_law_led", "_law_code_here", "_law_m"] (defScope s__law_is_twin) := ⟨rfl, rfl, rfl, by decide +kernel, rfl, by decide +kernel, by decide +kernel⟩
def sp__law_is_twin (K : PySem.W.Frag) (CL C : Addr) : Sp := fun vs H Q _ => ∃ S : Strm, ∃ d pl sl M v vk m k, vs = [.ref S.a, v, vk, m] ∧ Same M (S.cut H) ∧ S.At (k + 12) H ∧ LedR CL C d M v ∧ CodeR C d.c M vk ∧ MR d.c pl sl M m ∧ M pl = some (.lst (d.ls.map V.str)) ∧ Good d.c ∧ d.c.names.length < 60 ∧ LedOk d ∧
  (∀ i l, d.ls[i]? = some l → l ∈ litsOf d.c.signs ∧ ∃ so, EndsOk d.c.names d.c.clauses (d.ls.take i) (some so) ∧ l ∉ so ∧ opp l ∉ so) ∧ FitD (codeD d.c) ∧ ∀ H', Same M (S.cut H') → S.At k H' → Q (.bl true) H'
theorem ok__law_is_twin {f CL C : Addr} {fd : FuncData} {dv : V} (F : Fun K "_law_is_twin" "_law_is_twin" s__law_is_twin f fd) (T : Gc mg) (hdv : ∀ M, SqR K Tx [] M dv) (NEL : NeObj K CL) (nfL : PySem.W.notFirst K CL (.ref C) = true) (c__law_made : Cal P w K mg base 7 "_law_made" ["_law_c"] (sp__law_made K C)) (k_Led : Mak P w K mg base 4 "Led" CL ["self", "code"] (sp_Led_init K CL C)) (k_Code : Mak P w K mg base 5 "Code" C ["self", "signs", "clauses", "helpers"] (sp_Code_init K C)) (d_Code : MakD P w K mg base 5 "Code" C ["self", "signs", "clauses", "helpers"] [dv] (sp_Code_init K C))
    (c__law_fresh : Cal P w K mg base 3 "_law_fresh" ["_law_stream", "_law_taken"] (sp__law_fresh K)) (c__law_names_of : Cal P w K mg base 1 "_law_names_of" ["_law_m"] (sp__law_names_of K)) (m_put : Met P w K mg base 4 CL "put" ["self", "literal"] (sp_Led_put K CL C)) (m_clauses : Met P w K mg base 1 C "clauses" ["self"] (sp_Code_clauses K C)) (m_helpers : Met P w K mg base 1 C "helpers" ["self"] (sp_Code_helpers K C)) (m_signs : Met P w K mg base 1 C "signs" ["self"] (sp_Code_signs K C))
    (oL_eq : OwnSp P w K mg base 6 CL "__eq__" ["self", "other"] (sp_Led_eq K CL C)) (oL_eqI : OwnSp P w K mg base 6 CL "__eq__" ["self", "other"] (sp_Led_eqI K CL C)) (oL_eqD : OwnSp P w K mg base 6 CL "__eq__" ["self", "other"] (sp_Led_eqD K CL C)) (c__law_same : CalG P w K mg base 1 "_law_same" ["_law_found", "_law_due_here"] (sp__law_same K)) : FnG P w K mg base CX0 9 f fd ["_law_stream", "_law_led", "_law_code_here", "_law_m"] (sp__law_is_twin K CL C) := by
  refine fun_okG F sc__law_is_twin (fun vs H Q E h => ?_) (fun cdv A outer s H vs Q E hgu hr h => ?_)
  · obtain ⟨S, _, _, _, _, _, _, _, _, rfl, _⟩ := h
    rfl
  · obtain ⟨S, d, pl, sl, M, v, vk, m, k, rfl, mh, at_, LR, rk, rm, rpl, good, hn60, X, hop, fitc, q⟩ := h
    have hu := hr.units
    have hgu : (A.deeper (envOfC "_law_is_twin" (defScope s__law_is_twin) s.heap.objs.size f cdv)).guards = some [] := hgu
    refine ⟨_, (pss_cons (ps_asg (pe_tup (pa_cons (pe_dget (Nat.lt_of_le_of_lt (Nat.add_le_add_left (by decide) _) hu) (pv 3) pe_str (fun _ _ => rfl)) (pa_cons (pe_mk k_Led (hr.mono (by decide)) (pa_cons (pe_f c__law_made (hr.mono (by decide)) (pa_cons (pe_dget (Nat.lt_of_le_of_lt (Nat.add_le_add_left (by decide) _) hu) (pv 3) pe_str (fun _ _ => rfl)) pa_nil)) pa_nil)) (pa_cons (pe_lst pa_nil) pa_nil)))) (pg_tup (by rfl) (pgs_cons (pg_name (i := 7) sc__law_is_twin.nd rfl (by first | exact .inl rfl | exact .inr rfl)) (pgs_cons (pg_name (i := 8) sc__law_is_twin.nd rfl (by first | exact .inl rfl | exact .inr rfl)) (pgs_cons (pg_name (i := 9) sc__law_is_twin.nd rfl (by first | exact .inl rfl | exact .inr rfl)) pgs_nil)))))
      (pss_cons (ps_set (i := 4) sc__law_is_twin.nd rfl (by first | exact .inl rfl | exact .inr rfl) (pe_mk k_Led (hr.mono (by decide)) (pa_cons (pe_mk k_Code (hr.mono (by decide)) (pa_cons (pe_op op_addA (pe_dget (Nat.lt_of_le_of_lt (Nat.add_le_add_left (by decide) _) hu) (pv 7) pe_str (fun _ _ => rfl)) (pe_lst (pa_cons (pe_f c__law_fresh (hr.mono (by decide)) (pa_cons (pv 0) (pa_cons (pe_f c__law_names_of (hr.mono (by decide)) (pa_cons (pv 3) pa_nil)) pa_nil))) pa_nil))) (pa_cons (pe_dget (Nat.lt_of_le_of_lt (Nat.add_le_add_left (by decide) _) hu) (pv 7) pe_str (fun _ _ => rfl)) (pa_cons (pe_dget (Nat.lt_of_le_of_lt (Nat.add_le_add_left (by decide) _) hu) (pv 7) pe_str (fun _ _ => rfl)) pa_nil)))) pa_nil)))
      (pss_cons (ps_for PassesOwn.never (by rfl) (pi_sq (pe_dget (Nat.lt_of_le_of_lt (Nat.add_le_add_left (by decide) _) hu) (pv 3) pe_str (fun _ _ => rfl))) (pg_name (i := 5) sc__law_is_twin.nd rfl (by first | exact .inl rfl | exact .inr rfl)) (pss_cons (ps_expr (pe_m m_put (hr.mono (by decide)) (pv 8) (pa_cons (pv 5) pa_nil)))
      (pss_one (ps_expr (pe_m m_put (hr.mono (by decide)) (pv 4) (pa_cons (pv 5) pa_nil))))))
      (pss_cons (ps_for PassesOwn.never (by rfl) (pi_sq (pe_tup (pa_cons (pe_slice sl_X (pe_dget (Nat.lt_of_le_of_lt (Nat.add_le_add_left (by decide) _) hu) (pv 7) pe_str (fun _ _ => rfl)) po_none (po_some pe_int)) (pa_cons (pe_rev1L (pe_dget (Nat.lt_of_le_of_lt (Nat.add_le_add_left (by decide) _) hu) (pv 7) pe_str (fun _ _ => rfl))) pa_nil)))) (pg_name (i := 6) sc__law_is_twin.nd rfl (by first | exact .inl rfl | exact .inr rfl)) (pss_cons (ps_expr (pe_bm PySem.F.plainAttrs_list PySem.F.slot_list_append PySem.F.type_list_append mt_append (pv 9) (pa_cons (pe_mk k_Led (hr.mono (by decide)) (pa_cons (pe_mkD d_Code (hr.mono (by decide)) (pa_cons (pe_dget (Nat.lt_of_le_of_lt (Nat.add_le_add_left (by decide) _) hu) (pv 7) pe_str (fun _ _ => rfl)) (pa_cons (pe_lst pa_nil) pa_nil))) pa_nil)) pa_nil)))
      (pss_one (ps_for PassesOwn.never (by rfl) (pi_sq (pv 6)) (pg_name (i := 10) sc__law_is_twin.nd rfl (by first | exact .inl rfl | exact .inr rfl)) (pss_one (ps_expr (pe_m m_put (hr.mono (by decide)) (pe_ix ix_X (pv 9) (pe_un un_neg pe_int) (fun _ _ => rfl)) (pa_cons (pv 10) pa_nil))))))))
      (pss_cons (ps_if (PW.pt (pw_or (PW.pt (pw_and (pt_cmpR op_gt (pe_callB call_lenA (by rfl) T.len boot_len (pa_cons (pe_dget (Nat.lt_of_le_of_lt (Nat.add_le_add_left (by decide) _) hu) (pv 7) pe_str (fun _ _ => rfl)) pa_nil)) pe_int (nomark _)) (pw_and1 (pt_cmpR (op_eqO oL_eq (hr.mono (by decide))) (pe_ix ix_X (pv 9) pe_int (fun _ _ => rfl)) (pe_ix ix_X (pv 9) pe_int (fun _ _ => rfl)) (nomark _))))) (pw_or1 (pt_cmpR (op_eqO oL_eq (hr.mono (by decide))) (pv 1) (pv 4) (nomark _))))) (pss_one (ps_ret pe_bl)) pss_nil)
      (pss_cons (ps_if (PW.pt (pw_or (pt_val (pe_callB (cr_any rfl) (by rfl) T.any boot_any (pa_cons (pe_lc (own := [("_law_one", 5)]) (g := (gName 5)) (tt := tYes) (te := (tOp (rEqY K CL C (sp_Led_eqI K CL C) (sp_Led_eqD K CL C)) (tVar 1) (tVar 5))) (by rfl) sc__law_is_twin.nd (pi_sq (pe_tup (pa_cons (pv 2) (pa_cons pe_non (pa_cons pe_int (pa_cons (pe_dget (Nat.lt_of_le_of_lt (Nat.add_le_add_left (by decide) _) hu) (pv 3) pe_str (fun _ _ => rfl)) (pa_cons pe_str pa_nil))))))) (blkOk_by (by rfl)) (fun _ _ _ _ _ => (pg_name (i := 5) sc__law_is_twin.nd rfl (by first | exact .inl rfl | exact .inr rfl))) (fun _ _ _ _ _ => pts_nil) (fun _ _ _ _ _ => (pe_cmpR (op_eqY oL_eqI nfL oL_eqD (hr.mono (by decide))) (pv 1) (pv 5) (nomark _)))) pa_nil))) (pw_or (pt_not (pt_cmpR (op_eqO oL_eq (hr.mono (by decide))) (pv 8) (pv 1) (nomark _))) (pw_or1 (pt_cmpR (op_neO oL_eq NEL (hr.mono (by decide))) (pv 1) (pv 8) (nomark _)))))) (pss_one (ps_ret pe_bl)) pss_nil)
      (pss_one (ps_ret (pe_fG c__law_same hgu (hr.mono (by decide)) (pa_cons (pe_lst (pa_cons (pe_m0 m_signs (hr.mono (by decide)) (pv 2)) (pa_cons (pe_m0 m_helpers (hr.mono (by decide)) (pv 2)) (pa_cons (pe_m0 m_clauses (hr.mono (by decide)) (pv 2)) pa_nil)))) (pa_cons (pe_lc (own := [("_law_part", 11)]) (g := (gName 11)) (tt := tYes) (te := (tDGet (tVar 7) (tVar 11))) (by rfl) sc__law_is_twin.nd (pi_keys (pv 7)) (blkOk_by (by rfl)) (fun _ _ _ _ _ => (pg_name (i := 11) sc__law_is_twin.nd rfl (by first | exact .inl rfl | exact .inr rfl))) (fun _ _ _ _ _ => pts_nil) (fun _ _ _ _ _ => (pe_dget (Nat.lt_of_le_of_lt (Nat.add_le_add_left (by decide) _) hu) (pv 7) (pv 11) (fun _ _ => rfl)))) pa_nil))))))))))), ?_⟩
    have hX : Ctx d.c.names d.c.clauses [] ∧ ChW d.c.clauses := ⟨⟨X.nm, X.k, ⟨.nil, fun _ h => by cases h⟩⟩, X.w⟩
    have L0 : LW S M (fun _ => none) H (k + 12) := ⟨mh, at_, fun x o e => by cases e⟩
    have nl : d.c.names.length ≤ 1000 := by omega
    have nmS : NmL d.c.signs := ⟨(List.nodup_append.mp (show (d.c.signs ++ d.c.helpers).Nodup from X.nm.nd)).1, fun n hn => X.nm.nm n (List.mem_append_left _ hn), Nat.le_trans (by show d.c.signs.length ≤ (d.c.signs ++ d.c.helpers).length; rw [List.length_append]; omega) X.nm.n⟩
    -- the code, a twin, others
    refine q_asg3 (gv_mC (gv_var (i := 3) rfl rm) H (mh.trans cut_same) _ fun vc M1 H1 g1 rc => ?_)
    have L1 := L0.plain g1
    refine w_mkLed (good := (· = d.c)) (k := k + 12) (cst := 0) L1 ((gv_is (gv_call1 (R1 := LawR) (pre := Good) (R := fun c => CodeR C c) (x := d.c) (gv_mC (gv_var (i := 3) rfl (Mono.mono g1.mm rm))) good) fun M v h => ⟨_, rfl, h⟩).s) (fun c e => e ▸ hX) fun c' xt pt qt ot ut M2 H2 ec s2 L2 TW _ _ => ?_
    subst ec
    refine gl_nil H2 L2.m _ fun p9 ws M3 H3 g3 h03 m03 hp3 ev => a_nil (fin3 fun t nt => ?_)
    subst ev
    have w9 := L2.fresh h03
    have n1 : pt ≠ p9 := fun e => by rw [← e, TW.hp] at w9; cases w9
    have n2 : qt ≠ p9 := fun e => by
      obtain ⟨ms, h, _⟩ := TW.hq
      rw [← e, h] at w9
      cases w9
    have L3 := (L2.plain g3).add m03 (by rw [cut_on (L2.at_.fresh h03)]; exact hp3)
    have L4 := L3.plain (.own (o := .tup [vc, .ref xt, .ref p9]) L3.m nt)
    have TW : LedW CL C d.c xt pt qt [] [] ot M3 (upd (upd (upd (fun _ => none) pt (.lst [])) qt (.lst [ut])) p9 (.lst [])) := TW.mono g3.mm (upd_ne n1) (upd_ne n2)
    have h9 := (upd_same : (upd (upd (upd (fun _ => none) pt (.lst [])) qt (.lst [ut])) p9 (.lst [])) p9 = some (.lst []))
    have s13 : Same M M3 := g1.mm.trans (s2.trans g3.mm)
    have rc3 : LawR d.c M3 vc := Mono.mono (s2.trans g3.mm) rc
    clear L1 L2 L3 g1 g3 hp3 h03 m03
    revert TW L4 h9
    generalize upd (upd (upd (fun _ => none) pt (.lst [])) qt (.lst [ut])) p9 (.lst []) = W3
    generalize upd H3 t (.tup [vc, .ref xt, .ref p9]) = H4
    intro L4 TW h9
    -- one sign more
    refine q_asgS (w_mkLed (good := fun c => ∃ n, isNm n = true ∧ n ∉ d.c.names ∧ c = widen d.c n) (k := k) (cst := 0 + 12) L4 ((gs_mkCode3 (K := K) (good := fun ss => ∃ n, isNm n = true ∧ n ∉ d.c.names ∧ ss = d.c.signs ++ [n]) (hs := d.c.helpers) (cs := d.c.clauses)
      (gs_op (c1 := 0) (c2 := 12) (P := LiR Tx d.c.signs) (P1 := Ex (LiR Tx) fun xs => ∃ n, (isNm n = true ∧ n ∉ d.c.names) ∧ xs = [n]) (gv_cS (gv_var (i := 7) rfl rc3)).s (gs_lst1 (gs_call1 (S := S) (R1 := SqR K Tx) (pre := fun xs => xs.length ≤ 600) (cs := fun _ => 12) (R := fun xs => Ex Tx fun x => isNm x = true ∧ x ∉ xs) (x := d.c.names) rfl (gv_is (gv_call1 (R1 := MRl) (pre := fun a => a.1.names.length ≤ 1000) (R := fun a => LiR Tx a.1.names) (x := (d.c, pl, sl)) (gv_var (i := 3) rfl (Mono.mono s13 rm)) nl) fun _ _ h => h.sq) (by omega)))
        fun M' u z pu ⟨xs, ⟨n, ⟨a1, a2⟩, ex⟩, pz⟩ => fun H mh Q q => (gl_addL (K := K) (R := Tx) (xs := d.c.signs) (ys := xs) (σ := []) (M := M') (gv_c pu) (gv_c pz) (szM (by rw [ex]; have : d.c.names.length = d.c.signs.length + d.c.helpers.length := List.length_append; show _ + 1 ≤ _; omega))).li H mh Q fun v M' H' g r => q v M' H' g ⟨d.c.signs ++ xs, ⟨n, a1, a2, by rw [ex]⟩, r⟩)
      (gv_is (gv_cC (gv_var (i := 7) rfl rc3)) fun _ _ h => c_li h) (gv_is (gv_cH (gv_var (i := 7) rfl rc3)) fun _ _ h => h.sq) (fun ss ⟨n, a1, a2, e⟩ => e ▸ widen_ok good a1 a2 hn60)).is fun M v ⟨ss, ⟨n, a1, a2, e⟩, r⟩ => ⟨widen d.c n, ⟨n, a1, a2, rfl⟩, by subst e; rw [widen_made good a1 a2] at r; exact r⟩)
      (fun c ⟨n, a1, a2, e⟩ => by
        subst e
        exact ⟨⟨widen_nm good a1 a2 hn60, widen_lits good a1 a2, ⟨.nil, fun _ h => by cases h⟩⟩, X.w⟩) fun cw xw pw qw ow uw M5 H5 ⟨n, hn1, hn2, ecw⟩ s5 L5 WW wpw wqw => ?_)
    subst ecw
    have ptw : pt ≠ pw ∧ pt ≠ qw := ⟨fun e => (by rw [← e, TW.hp] at wpw; cases wpw), fun e => (by rw [← e, TW.hp] at wqw; cases wqw)⟩
    have qtw : qt ≠ pw ∧ qt ≠ qw := by
      obtain ⟨ms, h, _⟩ := TW.hq
      exact ⟨fun e => (by rw [← e, h] at wpw; cases wpw), fun e => (by rw [← e, h] at wqw; cases wqw)⟩
    have p9w : p9 ≠ pw ∧ p9 ≠ qw := ⟨fun e => (by rw [← e, h9] at wpw; cases wpw), fun e => (by rw [← e, h9] at wqw; cases wqw)⟩
    have TW5 : LedW CL C d.c xt pt qt [] [] ot M5 (upd (upd W3 pw (.lst [])) qw (.lst [uw])) := TW.mono s5 (by rw [upd_ne ptw.2, upd_ne ptw.1]) (by rw [upd_ne qtw.2, upd_ne qtw.1])
    have h95 : (upd (upd W3 pw (.lst [])) qw (.lst [uw])) p9 = some (.lst []) := by rw [upd_ne p9w.2, upd_ne p9w.1]; exact h9
    have s15 : Same M M5 := s13.trans s5
    have rc5 : LawR d.c M5 vc := Mono.mono s5 rc3
    clear TW h9 L4 s5 rc3 s13 wpw wqw w9
    revert L5 WW TW5 h95
    generalize upd (upd W3 pw (.lst [])) qw (.lst [uw]) = W5
    intro L5 WW TW5 h95
    have cwn := widen_nm good hn1 hn2 hn60
    have cwl := widen_lits good hn1 hn2
    -- both are led along
    refine q_for (K := K) (R1 := Tx) (xs := d.ls) L5.m (gv_dgetF (P := fun M v => MR d.c pl sl M v ∧ M pl = some (.lst (d.ls.map V.str))) (gv_var (i := 3) rfl ⟨Mono.mono s15 rm, s15 _ _ rpl⟩) fun M v ⟨⟨m, o, cv, h1, h2, h3⟩, hl⟩ => ⟨m, o, _, .ref pl, h1, h2, rfl, LiR.sq ⟨pl, _, rfl, hl, pd_of_tx _⟩⟩)
      (fun Mk i σ' M' H' => ∃ Wx sst ot ssw ow y5, Same Mk M' ∧ LW S M' Wx H' k ∧ LedW CL C d.c xt pt qt (d.ls.take i) sst ot M' Wx ∧ LedW CL C (widen d.c n) xw pw qw (d.ls.take i) ssw ow M' Wx ∧ Wx p9 = some (.lst []) ∧ σ' = [some (.ref S.a), some v, some vk, some m, some (.ref xw), y5, none, some vc, some (.ref xt), some (.ref p9), none, none])
      (fun M6 H6 g6 => ⟨W5, _, _, _, _, _, Same.refl _, L5.plain g6, TW5.mono g6.mm rfl rfl, WW.mono g6.mm rfl rfl, h95, rfl⟩) (fun M6 i σ' M' H' ⟨_, _, _, _, _, _, s, l, _⟩ => ⟨s, l.m⟩) ?_ ?_
    · rintro Mk i l lv σ' M' H' sk hi ⟨Wx, sst, ot, ssw, ow, y5, sm, Lx, TWx, WWx, h9x, rfl⟩ rl
      cases (show lv = .str l from rl)
      obtain ⟨hl, so0, e0, a1, a2⟩ := hop i l hi
      have etk : d.ls.take (i + 1) = d.ls.take i ++ [l] := by rw [List.take_add_one, hi]; rfl
      have litT : Lits d.c.names (d.ls.take i) := ⟨List.Nodup.sublist ((List.take_sublist i d.ls).map _) X.l.nd, fun y hy => X.l.of y (List.mem_of_mem_take hy)⟩
      have litW : Lits (widen d.c n).names (d.ls.take i) := ⟨litT.nd, fun y hy => by
        obtain ⟨mm, hm, e⟩ := litT.of y hy
        exact ⟨mm, (widen_names good hn1 hn2).mem_iff.mpr (List.mem_cons_of_mem _ hm), e⟩⟩
      obtain ⟨eT1, eT2⟩ := ends_same e0 TWx.c.ends
      obtain ⟨eW1, eW2⟩ := ends_same e0 WWx.c.ends
      obtain ⟨sot, rfl⟩ : ∃ so, ot = some so := by
        cases ot with
        | none => exact nomatch eT1.mpr rfl
        | some so => exact ⟨so, rfl⟩
      obtain ⟨sow, rfl⟩ : ∃ so, ow = some so := by
        cases ow with
        | none => exact nomatch eW1.mpr rfl
        | some so => exact ⟨so, rfl⟩
      have mT := eT2 so0 sot rfl rfl
      have mW := eW2 so0 sow rfl rfl
      show tDrop (tMeth CL "put" (sp_Led_put K CL C) [] E0 (tVar 8) (tCons (tVar 5) tNil)) _ _ H'
      refine w_put Lx TWx X.nm X.k X.w litT hl (fun z => a1 ((mT _).mpr z)) (fun z => a2 ((mT _).mpr z)) (fun Q q => ⟨.ref xt, rfl, q _ Lx⟩) (fun H1 Q q => ⟨.str l, rfl, q⟩) fun o1 us1 M1 H1 s1 L1 TW1 => ?_
      have WW1 : LedW CL C (widen d.c n) xw pw qw (d.ls.take i) ssw (some sow) M1 (upd (upd Wx pt (.lst ((d.ls.take i ++ [l]).map V.str))) qt (.lst us1)) := WWx.mono s1 (by rw [upd_ne (Ne.symm qtw.1), upd_ne (Ne.symm ptw.1)]) (by rw [upd_ne (Ne.symm qtw.2), upd_ne (Ne.symm ptw.2)])
      show tDrop (tMeth CL "put" (sp_Led_put K CL C) [] E0 (tVar 4) (tCons (tVar 5) tNil)) _ _ H1
      refine w_put L1 WW1 cwn cwl X.w litW (by
        obtain ⟨mm, hm, e⟩ := mem_litsOf.mp hl
        exact mem_litsOf.mpr ⟨mm, List.mem_append_left _ hm, e⟩) (fun z => a1 ((mW _).mpr z)) (fun z => a2 ((mW _).mpr z)) (fun Q q => ⟨.ref xw, rfl, q _ L1⟩) (fun H1 Q q => ⟨.str l, rfl, q⟩) fun o2 us2 M2 H2 s2 L2 WW2 => ?_
      refine ⟨M2, _, sst ++ [some sot], o1, ssw ++ [some sow], o2, _, sm.trans (s1.trans s2), L2, ?_, ?_, ?_, rfl⟩
      · rw [etk]
        exact TW1.mono s2 (by rw [upd_ne ptw.2, upd_ne ptw.1]) (by rw [upd_ne qtw.2, upd_ne qtw.1])
      · rw [etk]
        exact WW2
      · rw [upd_ne p9w.2, upd_ne p9w.1, upd_ne (Ne.symm n2), upd_ne (Ne.symm n1)]
        exact h9x
    rintro Mk σ' M6 H6 sk ⟨W6, sst, ot6, ssw, ow6, y5, sm, L6, TW6, WW6, h96, rfl⟩
    rw [List.take_length] at TW6 WW6
    have s16 : Same M M6 := s15.trans (sk.trans sm)
    have rc6 : LawR d.c M6 vc := Mono.mono (sk.trans sm) rc5
    clear TW5 WW L5 h95 sk sm rc5 s15
    -- two others
    have cut2 : ∀ {M' : Hp} {σ' : Sl}, Same M6 M' → σ'[7]? = some (some vc) → Gv (tSl (rSlX K) (tDGet (tVar 7) (tC (.str "signs"))) tNoPart (tPart (tC (.int 2)))) σ' M' (LiR Tx (d.c.signs.take 2)) := fun sm h7 => gv_is ((gl_cut (K := K) (R := Tx) (xs := d.c.signs) (lo := none) (hi := some ((2 : Nat) : Int)) (gv_is (gv_cS (gv_var h7 (Mono.mono sm rc6))) fun _ _ h => h.lst) (fun _ _ h => h) (fun _ _ h => ⟨_, rfl, h⟩)).li) fun M v h => by rw [cut_take] at h; exact h
    have ndo : (d.c.signs.take 2).Nodup := (List.take_sublist 2 _).nodup nmS.nd
    have c0k : CodeOk d.c.signs [] [] := by
      refine ⟨⟨nmS.nd, fun x hx => ⟨nmS.nm x hx, fun h => by cases h⟩, by have := nmS.n; omega⟩, ⟨.nil, (fun x hx => by cases hx), by show 0 ≤ _; omega⟩, by decide, (fun x hx => by cases hx), by rw [List.append_nil]; exact (nm_shorts nmS).1⟩
    have c0n : NmL (⟨d.c.signs, [], []⟩ : CodeD).names := by
      show NmL (d.c.signs ++ [])
      rw [List.append_nil]
      exact nmS
    have c0x : Ctx (⟨d.c.signs, [], []⟩ : CodeD).names [] [] ∧ ChW [] := ⟨⟨c0n, (fun _ h => by cases h), ⟨.nil, fun _ h => by cases h⟩⟩, ⟨(fun _ h => by cases h), by decide, by decide⟩⟩
    have c0p : CodeP ⟨d.c.signs, [], []⟩ := ⟨c0n, (fun _ h => by cases h), by
      show (d.c.signs ++ []).length ≤ 100
      rw [List.append_nil]
      have : d.c.names.length = d.c.signs.length + d.c.helpers.length := List.length_append
      omega, by show 0 ≤ 1000; decide⟩
    refine q_for (K := K) (R1 := LiR Tx) (xs := [d.c.signs.take 2, (d.c.signs.take 2).reverse]) L6.m (gv_tupG (R := LiR Tx) (xs := [d.c.signs.take 2, (d.c.signs.take 2).reverse]) (ga_rl (cut2 (Same.refl _) rfl) fun M7 s7 => ga_rl ((gl_rev1L (K := K) (R := Tx) (xs := d.c.signs) (gv_is (gv_cS (gv_var (i := 7) rfl (Mono.mono s7 rc6))) fun _ _ h => h.lst)).li) fun _ _ => ga_rl0) (by show 2 ≤ 1000; decide))
      (fun Mk i σ' M' H' => ∃ Wx, ∃ ys : List (Addr × Addr × Addr), ∃ y6 y10, Same Mk M' ∧ LW S M' Wx H' k ∧ LedW CL C d.c xt pt qt d.ls sst ot6 M' Wx ∧ LedW CL C (widen d.c n) xw pw qw d.ls ssw ow6 M' Wx ∧ Wx p9 = some (.lst (ys.map fun y => V.ref y.1)) ∧ Paired (fun (o : List Str) (y : Addr × Addr × Addr) => (∃ ss o', LedW CL C ⟨d.c.signs, [], []⟩ y.1 y.2.1 y.2.2 o ss o' M' Wx) ∧ y.2.1 ≠ p9 ∧ y.2.2 ≠ p9) ([d.c.signs.take 2, (d.c.signs.take 2).reverse].take i) ys ∧ σ' = [some (.ref S.a), some v, some vk, some m, some (.ref xw), y5, y6, some vc, some (.ref xt), some (.ref p9), y10, none])
      (fun M7 H7 g7 => ⟨W6, [], _, _, Same.refl _, L6.plain g7, TW6.mono g7.mm rfl rfl, WW6.mono g7.mm rfl rfl, h96, .nil, rfl⟩) (fun M7 i σ' M' H' ⟨_, _, _, _, s, l, _⟩ => ⟨s, l.m⟩) ?_ ?_
    · rintro Mk i o ov σ' M7 H7 sk hi ⟨Wx, ys, y6, y10, sm, Lx, TWx, WWx, h9x, prd, rfl⟩ ro
      have oin : o = d.c.signs.take 2 ∨ o = (d.c.signs.take 2).reverse := by simpa using List.mem_of_getElem? hi
      have os : (∀ z ∈ o, z ∈ d.c.signs) ∧ o.Nodup := by
        rcases oin with e | e
        · exact ⟨fun z hz => List.mem_of_mem_take (e ▸ hz), e ▸ ndo⟩
        · exact ⟨fun z hz => List.mem_of_mem_take (List.mem_reverse.mp (e ▸ hz)), by rw [e]; exact (List.reverse_perm _).symm.nodup ndo⟩
      have etk : ([d.c.signs.take 2, (d.c.signs.take 2).reverse] : List (List Str)).take (i + 1) = [d.c.signs.take 2, (d.c.signs.take 2).reverse].take i ++ [o] := by rw [List.take_add_one, hi]; rfl
      have pl := prd.length
      have ysl : ys.length ≤ 2 := by rw [← pl, List.length_take]; show min i 2 ≤ 2; omega
      have h9H := (Lx.here h9x).1
      refine ⟨.ref p9, rfl, .inl ⟨rfl, _, .inl (.inl h9H)⟩, w_mkLed (good := (· = ⟨d.c.signs, [], []⟩)) (k := k) (cst := 0) Lx ((gv_is (gv_mkCodeD (K := K) (ss := d.c.signs) (cs := []) hdv (gv_is (gv_cS (gv_var (i := 7) rfl (Mono.mono (sk.trans sm) rc6))) fun _ _ h => h.sq) (gv_is (gv_nilL (R := SqR K Tx)) fun _ _ h => h.sq) c0k) fun M v h => ⟨_, rfl, h⟩).s) (fun c e => e ▸ c0x) fun c' xn pn qn on un M8 H8 ec s8 L8 NW wpn wqn => ?_⟩
      subst ec
      have pt9 : p9 ≠ pn ∧ p9 ≠ qn := ⟨fun e => (by rw [← e, h9x] at wpn; cases wpn), fun e => (by rw [← e, h9x] at wqn; cases wqn)⟩
      have h98 : (upd (upd Wx pn (.lst [])) qn (.lst [un])) p9 = some (.lst (ys.map fun y => V.ref y.1)) := by rw [upd_ne pt9.2, upd_ne pt9.1]; exact h9x
      have L9 := L8.put (vs := (ys.map fun y => V.ref y.1) ++ [V.ref xn]) h98
      have NW9 : LedW CL C ⟨d.c.signs, [], []⟩ xn pn qn [] [] on M8 (upd (upd (upd Wx pn (.lst [])) qn (.lst [un])) p9 (.lst ((ys.map fun y => V.ref y.1) ++ [V.ref xn]))) := NW.mono (Same.refl _) (upd_ne (Ne.symm pt9.1)) (upd_ne (Ne.symm pt9.2))
      have old : ∀ y, y ≠ pn → y ≠ qn → y ≠ p9 → (upd (upd (upd Wx pn (.lst [])) qn (.lst [un])) p9 (.lst ((ys.map fun y => V.ref y.1) ++ [V.ref xn]))) y = Wx y := fun y a b e => by rw [upd_ne e, upd_ne b, upd_ne a]
      have h99 : (upd (upd (upd Wx pn (.lst [])) qn (.lst [un])) p9 (.lst ((ys.map fun y => V.ref y.1) ++ [V.ref xn]))) p9 = some (.lst ((ys.map fun y => V.ref y.1) ++ [V.ref xn])) := upd_same
      refine ⟨p9, _, .ref xn, rfl, rfl, (L8.here h98).1, szL (by rw [List.length_map]; omega), ?_⟩
      revert L9 NW9 old h99
      generalize upd (upd (upd Wx pn (.lst [])) qn (.lst [un])) p9 (.lst ((ys.map fun y => V.ref y.1) ++ [V.ref xn])) = W9
      generalize upd H8 p9 (.lst ((ys.map fun y => V.ref y.1) ++ [V.ref xn])) = H9
      intro L9 NW9 old h99
      refine s_for (K := K) (R1 := Tx) (xs := o) L9.m (gv_var (i := 6) (v := ov) rfl (LiR.sq (Mon.mono s8 ro : LiR Tx o M8 ov)))
        (fun Mk2 j σ'' M'' H'' => ∃ Wy ssn on y10, Same Mk2 M'' ∧ LW S M'' Wy H'' k ∧ (∀ y, y ≠ pn → y ≠ qn → Wy y = W9 y) ∧ LedW CL C ⟨d.c.signs, [], []⟩ xn pn qn (o.take j) ssn on M'' Wy ∧ σ'' = [some (.ref S.a), some v, some vk, some m, some (.ref xw), y5, some ov, some vc, some (.ref xt), some (.ref p9), y10, none])
        (fun Ma Ha ga => ⟨W9, _, _, _, Same.refl _, L9.plain ga, fun _ _ _ => rfl, NW9.mono ga.mm rfl rfl, rfl⟩) (fun Ma j σ'' M'' H'' ⟨_, _, _, _, s, l, _⟩ => ⟨s, l.m⟩) ?_ ?_
      · rintro Mk2 j nm_ nv σ'' Ma Ha sk2 hj ⟨Wy, ssn, on', y10', sm2, Ly, oldy, NWy, rfl⟩ rn
        cases (show nv = .str nm_ from rn)
        have etj : o.take (j + 1) = o.take j ++ [nm_] := by rw [List.take_add_one, hj]; rfl
        obtain ⟨son, rfl, memn⟩ := free_so NWy.c.ends
        obtain ⟨f1, f2⟩ := free_next nmS os.2 os.1 hj
        have hin := os.1 nm_ (List.mem_of_getElem? hj)
        have lit : Lits (⟨d.c.signs, [], []⟩ : CodeD).names (o.take j) := by
          have e : (o.take j).map nameOf = o.take j := map_self fun x hx => nameOf_nm (nmS.nm x (os.1 x (List.mem_of_mem_take hx)))
          exact ⟨by rw [e]; exact (List.take_sublist j o).nodup os.2, fun y hy => ⟨y, List.mem_append_left _ (os.1 y (List.mem_of_mem_take hy)), .inl rfl⟩⟩
        have h9y : Wy p9 = some (.lst ((ys.map fun y => V.ref y.1) ++ [V.ref xn])) := by rw [oldy p9 pt9.1 pt9.2]; exact h99
        show tDrop (tMeth CL "put" (sp_Led_put K CL C) [] E0 (tOp (rIxX K) (tVar 9) (tUn (rU fun i => .int (-i)) (tC (.int 1)))) (tCons (tVar 10) tNil)) _ _ Ha
        refine w_put Ly NWy c0n (fun _ h => by cases h) c0x.2 lit (mem_litsOf.mpr ⟨nm_, hin, .inl rfl⟩) (fun z => f1 ((memn _).mp z)) (fun z => f2 ((memn _).mp z)) (fun Q qq => gv_ix (K := K) (R := EqV) (xs := (ys.map fun y => V.ref y.1) ++ [V.ref xn]) (i := -1) (x := .ref xn) (M := wth Ma Wy) (gv_var (i := 9) rfl (.inl ⟨p9, _, rfl, .inl (.inl (Ly.w_w h9y)), pd_eqv _⟩)) gv_minusD (atI_lastD _ _) Ha (Ly.all.trans cut_same) _ fun zv Mz Hz gz e => by
          cases (show zv = .ref xn from e)
          exact qq Hz (Ly.read gz)) (fun H1 Q qq => ⟨.str nm_, rfl, qq⟩) fun o1 us1 M1 H1 s1 L1 N1 => ?_
        refine ⟨M1, _, ssn ++ [some son], o1, _, sm2.trans s1, L1, fun y a b => ?_, ?_, rfl⟩
        · rw [upd_ne b, upd_ne a]
          exact oldy y a b
        · rw [etj]
          exact N1
      · rintro Mk2 σ'' Ma Ha sk2 ⟨Wy, ssn, on', y10', sm2, Ly, oldy, NWy, rfl⟩
        rw [List.take_length] at NWy
        have s7a : Same M7 Ma := s8.trans (sk2.trans sm2)
        have keep : ∀ y us, Wx y = some (.lst us) → y ≠ p9 → Wy y = Wx y := fun y us e e9 => by
          have a : y ≠ pn := fun z => by rw [z, wpn] at e; cases e
          have b : y ≠ qn := fun z => by rw [z, wqn] at e; cases e
          rw [oldy y a b, old y a b e9]
        have kept : ∀ {c x p q' ls ss o'}, LedW CL C c x p q' ls ss o' M7 Wx → p ≠ p9 → q' ≠ p9 → LedW CL C c x p q' ls ss o' Ma Wy := fun {c x p q' ls ss o'} h a b => h.mono s7a (keep p _ h.hp a) (by obtain ⟨ms, e, _⟩ := h.hq; exact keep q' _ e b)
        refine ⟨Ma, Wy, ys ++ [(xn, pn, qn)], _, _, sm.trans s7a, Ly, kept TWx n1 n2, kept WWx (Ne.symm p9w.1) (Ne.symm p9w.2), ?_, ?_, rfl⟩
        · rw [oldy p9 pt9.1 pt9.2, h99, List.map_append]
          rfl
        · rw [etk]
          exact pd_app (Paired.mapP prd fun a b ⟨⟨ss, o', h⟩, h1, h2⟩ => ⟨⟨ss, o', kept h h1 h2⟩, h1, h2⟩) (.cons ⟨⟨_, _, NWy⟩, Ne.symm pt9.1, Ne.symm pt9.2⟩ .nil)
    rintro Mk σ' M7 H7 sk ⟨Wx, ys, y6, y10, sm, Lx, TWx, WWx, h9x, prd, rfl⟩
    obtain ⟨ya, yb, rfl, ⟨⟨ssa, oa, Na⟩, _⟩, ⟨ssb, ob, Nb⟩, _⟩ : ∃ ya yb, ys = [ya, yb] ∧ ((∃ ss o', LedW CL C ⟨d.c.signs, [], []⟩ ya.1 ya.2.1 ya.2.2 (d.c.signs.take 2) ss o' M7 Wx) ∧ True) ∧ (∃ ss o', LedW CL C ⟨d.c.signs, [], []⟩ yb.1 yb.2.1 yb.2.2 (d.c.signs.take 2).reverse ss o' M7 Wx) ∧ True := by
      cases prd with
      | cons a r => cases r with
        | cons b r =>
          cases r
          exact ⟨_, _, rfl, ⟨a.1, trivial⟩, b.1, trivial⟩
    have s17 : Same M M7 := s16.trans (sk.trans sm)
    have sW : Same M7 (wth M7 Wx) := wth_m
    have rT := TWx.all Lx
    have rW := WWx.all Lx
    have rA := Na.all Lx
    have rB := Nb.all Lx
    have rL : LedR CL C d (wth M7 Wx) v := Mon.mono (s17.trans sW) LR
    have cp := good_p good
    have wp := widen_p good hn1 hn2 hn60
    have nf := good.nf
    have rcW : LawR d.c (wth M7 Wx) vc := Mono.mono (sk.trans (sm.trans sW)) rc6
    have rkW : CodeR C d.c (wth M7 Wx) vk := Mon.mono (s17.trans sW) rk
    have rmW : MR d.c pl sl (wth M7 Wx) m ∧ (wth M7 Wx) pl = some (.lst (d.ls.map V.str)) := ⟨Mono.mono (s17.trans sW) rm, sW _ _ (s17 _ _ rpl)⟩
    have ab : SqR K (LedR CL C) [⟨⟨d.c.signs, [], []⟩, d.c.signs.take 2, ssa, oa⟩, ⟨⟨d.c.signs, [], []⟩, (d.c.signs.take 2).reverse, ssb, ob⟩] (wth M7 Wx) (.ref p9) := .inl ⟨p9, _, rfl, .inl (.inl (Lx.w_w h9x)), .cons rA (.cons rB .nil)⟩
    have geq : ∀ {σ' : Sl} {t1 t2 : TE} {a b : LedD}, CodeP a.c → CodeP b.c → Gv t1 σ' (wth M7 Wx) (LedR CL C a) → Gv t2 σ' (wth M7 Wx) (LedR CL C b) → Gv (tOp (rEqO CL (sp_Led_eq K CL C) false) t1 t2) σ' (wth M7 Wx) (Bl (eqL a b)) := fun pa pb h1 h2 => gv_is (gv_eqO (R1 := LedR CL C) (pre := fun a b => CodeP a.c ∧ CodeP b.c) (B := eqL) (neg := false) h1 h2 inst_led ⟨pa, pb⟩) fun M v h => by simpa using h
    -- the two others are unlike, nobody is like the one with one sign more
    refine lw_ifN Lx (gt_is (gt_or (b := false) (c := false) (gt_is (gt_and (b := decide (1 < d.c.signs.length)) (gt_is (gt_test (gv_gt (g := fun i j => .bl (decide (j < i))) (i := (d.c.signs.length : Int)) (j := 1) (gv_lenA (K := K) (R := Tx) (gv_is (gv_cS (gv_var (i := 7) rfl rcW)) fun _ _ h => h.sq)) (gv_c rfl))) (by rw [decide_eq_decide]; omega)) fun _ => gt_test (geq c0p c0p (gv_ix (K := K) (R := LedR CL C) (i := 0) (gv_var (i := 9) rfl ab) (gv_c rfl) (atI_nat (j := 0) rfl)) (gv_ix (K := K) (R := LedR CL C) (i := 1) (gv_var (i := 9) rfl ab) (gv_c rfl) (atI_nat (j := 1) rfl)))) ?_) fun _ => gt_is (gt_test (geq cp wp (gv_var (i := 1) rfl rL) (gv_var (i := 4) rfl rW))) (by unfold eqL; rw [widen_ne]; rfl)) rfl) fun H8 L8 => ?_
    · by_cases h1 : 1 < d.c.signs.length
      · have : eqL ⟨⟨d.c.signs, [], []⟩, d.c.signs.take 2, ssa, oa⟩ ⟨⟨d.c.signs, [], []⟩, (d.c.signs.take 2).reverse, ssb, ob⟩ = false := by
          unfold eqL
          rw [decide_eq_false (p := d.c.signs.take 2 = (d.c.signs.take 2).reverse), Bool.and_false]
          intro e
          match hs : d.c.signs, h1 with
          | a :: b :: r, _ =>
            rw [hs] at e
            have nd := nmS.nd
            rw [hs] at nd
            have e : [a, b] = [b, a] := e
            injection e with e1 _
            subst e1
            exact (List.nodup_cons.mp nd).1 (List.mem_cons_self ..)
        rw [this, Bool.and_false]
      · rw [decide_eq_false h1, Bool.false_and]
    -- equal to nothing else
    have eqT : eqL ⟨d.c, d.ls, sst, ot6⟩ d = true := by
      unfold eqL
      rw [show eqC (⟨d.c, d.ls, sst, ot6⟩ : LedD).c d.c = true from eqC_self cp nf]
      simp
    have eqT2 : eqL d ⟨d.c, d.ls, sst, ot6⟩ = true := by
      unfold eqL
      rw [show eqC d.c (⟨d.c, d.ls, sst, ot6⟩ : LedD).c = true from eqC_self cp nf]
      simp
    refine lw_ifN L8 (gt_is (gt_or (b := false) (c := false) (gt_is (gt_B (gv_any (K := K) (gl_m1 (S := Bl) (R := OthY K C) (xs := [.inl d.c, .inr .none, .inr (.int 5), .inr (.list (d.ls.map .str)), .inr (.str "a")]) (gi_sq (K := K) (gv_tupG (R := OthY K C) (xs := [.inl d.c, .inr .none, .inr (.int 5), .inr (.list (d.ls.map .str)), .inr (.str "a")]) (ga_rl (gv_var (i := 2) rfl rkW) fun M1 s1 => ga_rl (gv_c (.inl .non)) fun M2 s2 => ga_rl (gv_c (.inl (.int 5))) fun M3 s3 => ga_rl (gv_dgetF (P := fun M v => MR d.c pl sl M v ∧ M pl = some (.lst (d.ls.map V.str))) (gv_var (i := 3) rfl ⟨Mono.mono (s1.trans (s2.trans s3)) rmW.1, (s1.trans (s2.trans s3)) _ _ rmW.2⟩) fun M v ⟨⟨m, o, cv, h1, h2, h3⟩, hl⟩ => ⟨m, o, _, .ref pl, h1, h2, rfl, .inl (dd_strs ⟨pl, _, rfl, hl, pd_of_tx _⟩)⟩) fun _ _ => ga_rl (gv_c (.inl (.str "a"))) fun _ _ => ga_rl0) (by show 5 ≤ 1000; decide))) (by show 5 ≤ sizeLine; decide) (fun _ => false) fun x hx M1 u1 s1 r1 => gv_eqY (K := K) (gv_var (i := 1) rfl (Mon.mono s1 rL)) (gv_var rfl r1)))) (by rfl)) fun _ => gt_or (b := false) (c := false) (gt_is (gt_not (gt_test (geq (a := ⟨d.c, d.ls, sst, ot6⟩) (b := d) cp cp (gv_var (i := 8) rfl rT) (gv_var (i := 1) rfl rL)))) (by rw [eqT]; rfl)) fun _ => gt_is (gt_test (gv_eqO (R1 := LedR CL C) (pre := fun a b => CodeP a.c ∧ CodeP b.c) (B := eqL) (x := d) (y := ⟨d.c, d.ls, sst, ot6⟩) (neg := true) (gv_var (i := 1) rfl rL) (gv_var (i := 8) rfl rT) inst_led ⟨cp, cp⟩)) (by rw [eqT2]; rfl)) rfl) fun H9 L9 => ?_
    -- the code stays
    refine s_ret (P := Bl true) (L9.all.trans cut_same) (gv_is (gv_call2 (R1 := Dd K) (R2 := Dd K) (pre := fun d e => FitD d ∧ FitD e) (R := fun d e => Bl (decide (d.shown = e.shown))) (x := codeD d.c) (y := codeD d.c)
      (gv_lstD (ga_rl (gv_is (gv_signsM (gv_var (i := 2) rfl rkW)) fun M v h => dd_strs h) fun M1 s1 => ga_rl (gv_is (gv_helpersM (gv_var (i := 2) rfl (Mon.mono s1 rkW))) fun M v h => dd_strs h) fun M2 s2 => ga_rl (gv_is (gv_clauses (gv_var (i := 2) rfl (Mon.mono (s1.trans s2) rkW))) fun M v h => py_LTT _ _ _ h) fun _ _ => ga_rl0) (by show 3 ≤ 1000; decide))
      (gv_is (gl_m1 (S := Dd K) (R := Tx) (xs := ["signs", "helpers", "clauses"]) (gi_keys3 (gv_var (i := 7) rfl rcW)) (by show 3 ≤ sizeLine; decide) (partD d.c) fun x hx M u sm ru => gv_part hx (gv_var (i := 7) rfl (Mon.mono sm rcW)) (gv_var rfl ru)).li fun M v h => by
          have h := py_lst (K := K) (R := Dd K) (e := id) (fun d M v h => h) _ _ _ (LiR.lst (K := K) h)
          simp only [List.map_id] at h
          rw [parts_code] at h
          exact h) ⟨fitc, fitc⟩) fun M v h => by rw [show v = _ from h]; simp) fun z M' H' g r => ?_
    rw [show z = _ from r]
    have L10 := L9.read g
    exact q H' (fun a o e => L10.mh _ _ (s17 _ _ e)) L10.at_
end
end My

set_option Elab.async false
set_option linter.all false
set_option maxRecDepth 100000
set_option maxHeartbeats 8000000
set_option pp.maxSteps 900
namespace My
open PySem PySem.Spec PyProof.Rows L2 L3
open L3.Strm
def oddN (ns : List Str) : Str := match ns with
  | [] => "--"
  | n :: _ => ("--" : Str) ++ n
abbrev oddL (ns : List Str) : List PyData := [.str "", .str "-", .str (oddN ns), .str "Zz", .str "-Zz", .none, .int 5, .bool true, .tuple [.str "a"], .list [.str "b"], .dict [], .str "a b"]
theorem odd_short {ns : List Str} (nm : NmL ns) : ∀ d ∈ oddL ns ++ [PyData.str "ninewords", PyData.str "-ninewords"], shortD d := by
  have h1 : (oddN ns).length ≤ 1000 := by
    cases ns with
    | nil => decide
    | cons n r =>
      have := nm_len (nm.nm n (List.mem_cons_self ..))
      show (("--" : Str) ++ n).length ≤ 1000
      have e : ("--" : Str) = SX.S [45, 45] := rfl
      rw [e, ← SX.S_tl n, SX.S_cat, SX.S_len, List.length_append]
      have e2 : n.cps.toList.length = n.length := rfl
      show 2 + n.cps.toList.length ≤ 1000
      omega
  intro d hd
  simp only [List.mem_append, List.mem_cons, List.not_mem_nil, or_false] at hd
  rcases hd with (rfl | rfl | rfl | rfl | rfl | rfl | rfl | rfl | rfl | rfl | rfl | rfl) | rfl | rfl
  all_goals first | exact h1 | trivial | (show _ ≤ 1000; decide)
abbrev oddA (ns : List Str) : List PyData := oddL ns ++ [PyData.str "ninewords", PyData.str "-ninewords"]
/-! what fits -/
theorem sma_tup {k w : Nat} {ds : List PyData} (h : SmA k w ds) : SmW (k + 1) (w + 10) (.tuple ds) := ⟨by rw [PyData.showable]; exact h.sh, by
  have := h.dp
  rw [PyData.depth]; omega, by rw [PyData.leavesShort]; exact h.ls, by
  have := h.wt
  rw [PyData.weight]; omega⟩
theorem sm_short {s : Str} (h1 : s.length ≤ 10) (h2 : ∀ c ∈ s.cps.toList, c < 16 ^ 8) : SmW 1 40 (.str s) := ⟨rfl, by simp [PyData.depth], by
  simp only [PyData.leavesShort, List.all_eq_true, decide_eq_true_eq]
  exact fun c hc => h2 c hc, by
  have h : s.cps.size ≤ 10 := h1
  simp only [PyData.weight]
  omega⟩
theorem sm_lit {ns : List Str} (nm : NmL ns) {l : Str} (h : LitN ns l) : SmW 1 40 (.str l) := by
  obtain ⟨h1, h2⟩ := lit_signs nm h
  exact sm_short (by omega) h2
theorem fit_two {a : Str} {d : PyData} (ha : SmW 1 40 (.str a)) (hd : SmW 2 20020 d) : FitD (.tuple [.str a, d]) := (sma_tup (.cons (ha.up (by decide) (Nat.le_refl _)) (.cons hd .nil))).fit (by decide) (by omega)
theorem sm_wd {s : Str} (h : (PyData.str s).leavesShort 13 = true ∧ (PyData.str s).weight ≤ 40) : SmW 1 40 (.str s) := ⟨rfl, by simp [PyData.depth], h.1, h.2⟩
theorem sm_bad : SmW 1 40 (.str "bad") := sm_wd ⟨by decide +kernel, by decide +kernel⟩
theorem sm_told : SmW 1 40 (.str "told") := sm_wd ⟨by decide +kernel, by decide +kernel⟩
theorem sm_set : SmW 1 40 (.str "set") := sm_wd ⟨by decide +kernel, by decide +kernel⟩
/-- a thing that is put -/
structure ThingOk (t : PyData) : Prop where
  sh : shortD t
  fit : FitD (txD ("bad", t))
theorem thing_lit {ns : List Str} (nm : NmL ns) {l : Str} (h : LitN ns l) : ThingOk (.str l) := ⟨by
  have := (lit_signs nm h).1
  show l.length ≤ 1000
  omega, fit_two sm_bad ((sm_lit nm h).up (by decide) (by decide))⟩
theorem thing_odd {ns : List Str} (nm : NmL ns) : ∀ t ∈ oddA ns, ThingOk t := by
  intro t ht
  refine ⟨odd_short nm t ht, ?_⟩
  have h3 : FitD (txD ("bad", .str (oddN ns))) := by
    refine fit_two sm_bad (SmW.up (k := 1) (w := 40) ?_ (by decide) (by decide))
    cases ns with
    | nil => exact sm_wd ⟨by decide +kernel, by decide +kernel⟩
    | cons n r =>
      obtain ⟨a1, a2⟩ := lit_signs nm (l := n) ⟨n, List.mem_cons_self .., .inl rfl⟩
      have e0 : ("--" : Str) = SX.S [45, 45] := rfl
      have e : oddN (n :: r) = SX.S (45 :: 45 :: n.cps.toList) := by
        show ("--" : Str) ++ n = _
        rw [e0, ← SX.S_tl n, SX.S_cat]
        rfl
      have e2 : n.cps.toList.length = n.length := rfl
      have n8 := nm_len (nm.nm n (List.mem_cons_self ..))
      rw [e]
      refine sm_short (by rw [SX.S_len, List.length_cons, List.length_cons]; omega) fun c hc => ?_
      have hc : c ∈ 45 :: 45 :: n.cps.toList := hc
      rcases List.mem_cons.mp hc with rfl | hc
      · decide
      rcases List.mem_cons.mp hc with rfl | hc
      · decide
      exact a2 c hc
  have ht : t ∈ oddL ns ++ [PyData.str "ninewords", PyData.str "-ninewords"] := ht
  simp only [List.mem_append, List.mem_cons, List.not_mem_nil, or_false] at ht
  rcases ht with (rfl | rfl | rfl | rfl | rfl | rfl | rfl | rfl | rfl | rfl | rfl | rfl) | rfl | rfl
  all_goals first | exact ⟨by decide +kernel, by decide +kernel, by decide +kernel⟩ | exact h3
theorem fit_nothing : FitD (.tuple [.str "nothing"]) := ⟨by decide +kernel, by decide +kernel, by decide +kernel⟩
theorem fit_dead : FitD (.tuple [.str "dead"]) := ⟨by decide +kernel, by decide +kernel, by decide +kernel⟩
theorem fit_sameT : FitD (.tuple [.str "same", .bool true]) := ⟨by decide +kernel, by decide +kernel, by decide +kernel⟩
theorem fit_toldN : FitD (.tuple [.str "told", .none]) := ⟨by decide +kernel, by decide +kernel, by decide +kernel⟩
theorem fit_toldL {ns : List Str} (nm : NmL ns) {l : Str} (h : LitN ns l) : FitD (.tuple [.str "told", .str l]) := fit_two sm_told ((sm_lit nm h).up (by decide) (by decide))
theorem fit_toldX {ns so s' : List Str} {l : Str} (nm : NmL ns) : FitD (.tuple [.str "told", .list ((putL ns so s' l).map .str)]) := by
  have nl : ns.length ≤ 1000 := (nm_shorts nm).1
  have h : ∀ x ∈ putL ns so s' l, LitN ns x := fun x hx => by
    obtain ⟨n, hn, hl⟩ := List.mem_flatMap.mp hx
    have := (List.mem_filter.mp hl).1
    exact ⟨n, hn, by simpa using this⟩
  have hn : (putL ns so s' l).length ≤ 2 * ns.length := flat_le fun x _ => List.length_filter_le _ _
  exact fit_two sm_told (((sm_strs nm h).lst).up (Nat.le_refl _) (by omega))
theorem lit_name {ns : List Str} {l : Str} (h : isLit ns (.str l) = true) : LitN ns (nameOf l) := ⟨nameOf l, lit_sign h, .inl rfl⟩
/-- how it ends where it does not go: the tuple, and its head -/
theorem fail_fit {sg : List Str} {o : Option (List Str)} {t e : PyData} (nm : NmL sg) (h : failD sg o t = some e) (ht : ThingOk t) : FitD e ∧ ∃ s ds, e = .tuple (.str s :: ds) ∧ s ∉ (["told", "same"] : List Str) := by
  cases o with
  | none =>
    cases h
    exact ⟨fit_dead, "dead", [], rfl, by decide +kernel⟩
  | some so =>
    have h : (if isLit sg t = true then setD so t else some (txD ("bad", t))) = some e := h
    by_cases hl : isLit sg t = true
    · rw [if_pos hl] at h
      cases t with
      | str l =>
        have h : (if l ∈ so ∨ opp l ∈ so then some (PyData.tuple [.str "set", .str (nameOf l)]) else none) = some e := h
        by_cases n : l ∈ so ∨ opp l ∈ so
        · rw [if_pos n] at h
          cases h
          exact ⟨fit_two sm_set ((sm_lit nm (lit_name hl)).up (by decide) (by decide)), "set", _, rfl, by decide +kernel⟩
        · rw [if_neg n] at h; cases h
      | _ => cases hl
    · rw [if_neg hl] at h
      cases h
      exact ⟨ht.fit, "bad", _, rfl, by decide +kernel⟩
/-- the head of what is told -/
theorem head_of {K : PySem.W.Frag} {s : Str} {ds : List PyData} {M : Hp} {v : V} (h : DxT K (.tuple (.str s :: ds)) M v) : ∃ us, SqR K EqV (.str s :: us) M v := by
  rcases h with h | ⟨t, e, h⟩
  · cases h with
    | tup hs hd => cases hd with
      | cons h1 h2 =>
        cases h1
        exact ⟨_, .inr ⟨_, _, rfl, hs, pd_eqv _⟩⟩
  · obtain ⟨p, w, rfl, hp, _⟩ := h
    have e : PyData.tuple [.str t.1, t.2] = .tuple (.str s :: ds) := e
    injection e with e
    injection e with e1 e2
    injection e1 with e1
    exact ⟨[w], .inr ⟨p, _, rfl, .inl (.inl hp), by rw [e1]; exact pd_eqv _⟩⟩
def sp_pickG (K : PySem.W.Frag) {α : Type} (R : Rl α) : Sp := spS1 (SqR K R) (fun xs => 0 < xs.length ∧ xs.length ≤ 1000000) (fun _ => 1) fun xs => Ex R fun x => x ∈ xs
/-! things, and a list among them that is nobody's -/
def OddR (K : PySem.W.Frag) (M0 : Hp) : Rl PyData := fun d M v => DdF K d M v ∧ (tyN d = "list" → ∃ p vs, v = .ref p ∧ M p = some (.lst vs) ∧ vs.length ≤ 10 ∧ M0 p = none)
instance {K : PySem.W.Frag} {M0 : Hp} : Mon (OddR K M0) := ⟨fun e ⟨h, g⟩ => ⟨Mon.mono e h, fun z => let ⟨p, vs, h1, h2, h3, h4⟩ := g z; ⟨p, vs, h1, e _ _ h2, h3, h4⟩⟩⟩
section
variable {K : PySem.W.Frag} {σ : Sl} {M M0 : Hp} {t te t1 t2 : TE} {S : Strm} {c : Nat} {α : Type} {R : Rl α}
theorem go_f {d : PyData} (h : Gv t σ M (DdF K d)) (n : tyN d ≠ "list") : Gv t σ M (OddR K M0 d) := gv_is h fun M v r => ⟨r, fun e => absurd e n⟩
theorem go_lst {x : Str} (s0 : Same M0 M) (h : Gv t σ M (Tx x)) : Gv (tLst (tCons t tNil)) σ M (OddR K M0 (.list [.str x])) := fun H mh Q q =>
  h H mh _ fun v M1 H1 g1 e => ⟨by show 1 ≤ sizeLine; decide, fun p np => by
    cases (show v = _ from e)
    have m0 := g1.mh.free np
    exact q (.ref p) _ _ (g1.trans ((Gr.own (o := .lst [.str x]) g1.mh np).freeze np m0 upd_same)) ⟨.inl (py_lst py_str [x] _ _ ⟨p, _, rfl, .inl (.inl upd_same), pd_of_tx _⟩), fun _ => ⟨p, _, rfl, upd_same, by show 1 ≤ 10; decide, (s0.trans g1.mm).free m0⟩⟩⟩
/-- one of them is picked -/
theorem gs_pickP [Mon R] {good : List α → Prop} {i : Nat} (hi : σ[i]? = some (some (.ref S.a))) (h : GvS S c te σ M (Ex (LiR R) good)) (hg : ∀ xs, good xs → 0 < xs.length ∧ xs.length ≤ 1000000) : GvS S (c + 1) (tCall (sp_pickG K EqV) [] E0 (tCons (tVar i) (tCons te tNil))) σ M (Ex R fun x => ∃ xs, good xs ∧ x ∈ xs) := fun H k mh a Q q =>
  ⟨_, hi, h H (k + 1) mh (a.le (by omega)) _ fun v M1 H1 g1 a1 ⟨xs, gx, p, vs, e, hp, pd⟩ => ⟨S, vs, M1, v, k, rfl, g1.mh, a1, by subst e; exact .inl ⟨p, vs, rfl, .inl (.inl hp), pd_eqv vs⟩, by show 0 < vs.length ∧ vs.length ≤ 1000000; rw [← pd.length]; exact hg xs gx, fun u M' H' g a' ⟨x, hx, ex⟩ => by
    have ex : u = x := ex
    subst ex
    obtain ⟨y, hy, ry⟩ := pd_mem pd u hx
    exact q u M' H' (g1.trans g) a' ⟨y, ⟨xs, gx, hy⟩, Mon.mono g.mm ry⟩⟩⟩
theorem gs_addP [Mon R] {xs : List α} {good : List α → Prop} (h1 : Gv t1 σ M (LiR R xs)) (h2 : GvS S c t2 σ M (Ex (LiR R) good)) (hz : ∀ ys, good ys → xs.length + ys.length ≤ sizeLine) : GvS S c (tOp (rAddA K) t1 t2) σ M (Ex (LiR R) fun zs => ∃ ys, good ys ∧ zs = xs ++ ys) :=
  (gs_op (c1 := 0) (c2 := c) h1.s h2 fun M' u z pu ⟨ys, gy, pz⟩ => fun H mh Q q => (gl_addL (K := K) (R := R) (xs := xs) (ys := ys) (σ := []) (M := M') (gv_c pu) (gv_c pz) (hz ys gy)).li H mh Q fun v M' H' g r => q v M' H' g ⟨xs ++ ys, ⟨ys, gy, rfl⟩, r⟩).cost (by omega)
end
section
variable {P : Program} {w : World} {K : PySem.W.Frag} {mg : Str → Option Value} {base : Heap}
theorem ok_pickG {α : Type} {R : Rl α} [Mon R] {f : Addr} {fd : FuncData} (F : Fun K "_law_pick" "_law_pick" s__law_pick f fd) (T : Gc mg) (c__law_draw : Cal P w K mg base 1 "_law_draw" ["_law_stream", "_law_many"] (sp__law_draw K)) : FnOk P w K mg base CX0 2 f fd ["_law_stream", "_law_things"] (sp_pickG K R) := by
  refine F.ok sc__law_pick (fun vs H Q E h => ?_) (fun cdv A outer s H vs Q E hr h => ?_)
  · obtain ⟨S, x, M, v, k, rfl, _⟩ := h
    rfl
  · obtain ⟨S, xs, M, v, k, rfl, mh, at_, r1, ⟨h1, h2⟩, q⟩ := h
    have hu := hr.units
    refine ⟨_, (pss_one (ps_ret (pe_ix ix_X (pv 1) (pe_f c__law_draw (hr.mono (by decide)) (pa_cons (pv 0) (pa_cons (pe_callB call_lenA (by rfl) T.len boot_len (pa_cons (pv 1) pa_nil)) pa_nil))) (fun _ _ => rfl)))), ?_⟩
    refine z_ret (S := S) (c := 0 + 1) mh at_ (gs_op (P := SqR K R xs) (P1 := Ex It' fun i => 0 ≤ i ∧ i < (xs.length : Int)) (gv_var rfl r1).s (gs_draw (K := K) rfl (gv_lenA (K := K) (R := R) (gv_var rfl r1)) (by omega) (by omega)) fun M' u w pu ⟨i, hi, pw⟩ => ?_) q
    obtain ⟨x, hx, ha⟩ := atI_in hi.1 hi.2
    exact fun H mh Q q => rv_ix pu pw ha H mh Q fun v M' H' g r => q v M' H' g ⟨x, hx, r⟩
abbrev s__law_odd : Stmt := topS 46
theorem sc__law_odd : FnScope ["_law_stream", "_law_names_here", "_law_odd_here"] ["_law_stream", "_law_names_here"] (defScope s__law_odd) := ⟨rfl, rfl, rfl, by decide +kernel, rfl, by decide +kernel, by decide +kernel⟩
def sp__law_oddV (K : PySem.W.Frag) : Sp := fun vs H Q _ => ∃ (S : Strm) (ns : List Str) (M : Hp) (v : V) (k : Nat), vs = [.ref S.a, v] ∧ Same M (S.cut H) ∧ S.At (k + 1) H ∧ LiR Tx ns M v ∧ NmL ns ∧ ∀ d u M' H', Gr M (S.cut H) M' (S.cut H') → S.At k H' → d ∈ oddA ns → OddR K M d M' u → Q u H'
theorem ok__law_oddV {f : Addr} {fd : FuncData} (F : Fun K "_law_odd" "_law_odd" s__law_odd f fd) (T : Gc mg) (c__law_pick : Cal P w K mg base 2 "_law_pick" ["_law_stream", "_law_things"] (sp_pickG K EqV)) : FnOk P w K mg base CX0 3 f fd ["_law_stream", "_law_names_here"] (sp__law_oddV K) := by
  refine F.ok sc__law_odd (fun vs H Q E h => ?_) (fun cdv A outer s H vs Q E hr h => ?_)
  · obtain ⟨S, x, M, v, k, rfl, _⟩ := h
    rfl
  · obtain ⟨S, ns, M, v, k, rfl, mh, at_, r1, nm, q⟩ := h
    have hu := hr.units
    refine ⟨_, (pss_cons (ps_set (i := 2) sc__law_odd.nd rfl (by first | exact .inl rfl | exact .inr rfl) (pe_lst (pa_cons pe_str (pa_cons pe_str (pa_cons (pe_ifExp (pt_cmpR (op_neP hu) (pv 1) (pe_lst pa_nil) (nomark _)) (pe_op op_addA pe_str (pe_ix ix_X (pv 1) pe_int (fun _ _ => rfl))) pe_str) (pa_cons pe_str (pa_cons pe_str (pa_cons pe_non (pa_cons pe_int (pa_cons pe_bl (pa_cons (pe_tup (pa_cons pe_str pa_nil)) (pa_cons (pe_lst (pa_cons pe_str pa_nil)) (pa_cons pe_dnewK (pa_cons pe_str pa_nil))))))))))))))
      (pss_one (ps_ret (pe_f c__law_pick (hr.mono (by decide)) (pa_cons (pv 0) (pa_cons (pe_op op_addA (pv 2) (pe_lst (pa_cons pe_str (pa_cons pe_str pa_nil)))) pa_nil)))))), ?_⟩
    have third : ∀ {σ' : Sl} {M' : Hp}, σ'[1]? = some (some v) → Same M M' → Gv (tIf (tTest (tOp (rEqP K true) (tVar 1) (tLst tNil))) (tOp (rAddA K) (tC (.str "--")) (tOp (rIxX K) (tVar 1) (tC (.int 0)))) (tC (.str "--"))) σ' M' (DdF K (.str (oddN ns))) := fun {σ' M'} hs sm => by
      refine gf_str (gv_if (b := decide (ns ≠ [])) (gt_test (gv_is (gv_eq (K := K) (neg := true) (d := .list (ns.map .str)) (e := .list []) (gv_var hs (py_lst py_str _ _ _ (Mon.mono sm r1 : LiR Tx ns M' v).lst)) gv_nilD ?_) fun M v h => ?_)) (fun hb => ?_) fun hb => ?_)
      · simp [PyData.depth, depthS]
      · rw [show v = _ from h]
        have := optD_eq (some ns) []
        simp only [optD, List.map_nil] at this
        rw [this]; simp
      · cases ns with
        | nil => simp at hb
        | cons n r => exact gv_addSt (K := K) (gv_c rfl) (gv_ix (K := K) (R := Tx) (i := ((0 : Nat) : Int)) (gv_var hs (Mon.mono sm r1 : LiR Tx (n :: r) M' v).sq) (gv_c rfl) (atI_nat (xs := n :: r) (j := 0) rfl)) (szM (by have := nm_len (nm.nm n (List.mem_cons_self ..)); show 2 + _ ≤ _; omega))
      · cases ns with
        | nil => exact gv_c rfl
        | cons n r => simp at hb
    have ns_ : ∀ {x : Str}, tyN (.str x) ≠ "list" := fun {x} => by show "str" ≠ "list"; decide
    refine z_asg (S := S) (k := k + 1) (c := 0) (P := LiR (OddR K M) (oddL ns)) mh at_ (gv_lstG (ga_rl (go_f (gf_str (gv_c rfl)) ns_) fun _ s1 => ga_rl (go_f (gf_str (gv_c rfl)) ns_) fun _ s2 => ga_rl (go_f (third rfl (s1.trans s2)) ns_) fun _ s3 => ga_rl (go_f (gf_str (gv_c rfl)) ns_) fun _ s4 => ga_rl (go_f (gf_str (gv_c rfl)) ns_) fun _ s5 => ga_rl (go_f (gv_c (.inl .non)) (by decide)) fun _ s6 => ga_rl (go_f (gv_c (.inl (.int 5))) (by show "int" ≠ "list"; decide)) fun _ s7 => ga_rl (go_f (gv_c (.inl (.bl true))) (by show "bool" ≠ "list"; decide)) fun _ s8 =>
      ga_rl (go_f (gf_tup (gv_c rfl)) (by show "tuple" ≠ "list"; decide)) fun _ s9 => ga_rl (go_lst ((((((((s1.trans s2).trans s3).trans s4).trans s5).trans s6).trans s7).trans s8).trans s9) (gv_c rfl)) fun _ _ => ga_rl (go_f gf_dnew (by show "dict" ≠ "list"; decide)) fun _ _ => ga_rl (go_f (gf_str (gv_c rfl)) ns_) fun _ _ => ga_rl0) (by show 12 ≤ 1000; decide)).s fun v2 M2 H2 g2 a2 r2 => ?_
    refine z_ret (S := S) (k := k) (c := 0 + 1) g2.mh a2 (gs_pickP (K := K) (R := OddR K M) (good := (· = oddA ns)) rfl (gv_is (gl_addL (K := K) (R := OddR K M) (gv_var rfl r2) (gv_lstG (xs := [PyData.str "ninewords", PyData.str "-ninewords"]) (ga_rl (go_f (gf_str (gv_c rfl)) ns_) fun _ _ => ga_rl (go_f (gf_str (gv_c rfl)) ns_) fun _ _ => ga_rl0) (by decide)) (by show 12 + 2 ≤ sizeLine; decide)).li fun _ _ h => ⟨_, rfl, h⟩).s fun xs e => by subst e; constructor <;> simp) fun u M' H' g a ⟨x, ⟨xs, e, hx⟩, r⟩ => q x u M' H' (g2.trans g) a (e ▸ hx) r
/-- .. is called -/
theorem gs_odd {σ : Sl} {M M0 : Hp} {te : TE} {S : Strm} {ns : List Str} {i : Nat} (s0 : Same M0 M) (hi : σ[i]? = some (some (.ref S.a))) (h : Gv te σ M (LiR Tx ns)) (nm : NmL ns) : GvS S 1 (tCall (sp__law_oddV K) [] E0 (tCons (tVar i) (tCons te tNil))) σ M (Ex (OddR K M0) fun d => d ∈ oddA ns) := fun H k mh a Q q =>
  ⟨_, hi, h H (mh.trans cut_same) _ fun v M1 H1 g1 r1 => ⟨S, ns, M1, v, k, rfl, (lift mh a g1).mh, a.same g1.hh, r1, nm, fun d u M' H' g a' hd r => q u M' H' ((lift mh a g1).trans g) a' ⟨d, hd, r.1, fun e => let ⟨p, vs, e1, e2, e3, e4⟩ := r.2 e; ⟨p, vs, e1, e2, e3, (s0.trans g1.mm).free e4⟩⟩⟩⟩
def sp__law_sameT (K : PySem.W.Frag) : Sp := sp2 (DxT K) (DxT K) (fun d e => FitD d ∧ FitD e) fun d e => Bl (decide (d.shown = e.shown))
theorem ok__law_sameT {f : Addr} {fd : FuncData} (F : Fun K "_law_same" "_law_same" s__law_same f fd) (T : Gc mg) : FnG P w K mg base CX0 1 f fd ["_law_found", "_law_due_here"] (sp__law_sameT K) := by
  refine fun_okG F sc__law_same (fun vs H Q E h => ?_) (fun cdv A outer s H vs Q E hgu hr h => ?_)
  · obtain ⟨x, y, M, v, w, rfl, _⟩ := h
    rfl
  · obtain ⟨d, e, M, v, w, rfl, mh, r1, r2, ⟨⟨h1, h2, h3⟩, h4, h5, h6⟩, q⟩ := h
    have hu := hr.units
    have hgu : (A.deeper (envOfC "_law_same" (defScope s__law_same) s.heap.objs.size f cdv)).guards = some [] := hgu
    have hu7 : (A.deeper (envOfC "_law_same" (defScope s__law_same) s.heap.objs.size f cdv)).units + 70 < cLine := by have := hr.un; omega
    refine ⟨_, (pss_one (ps_ret (pe_cmpR (op_eqP hu) (pe_callB (call_reprT hgu hu7) (by rfl) T.repr boot_repr (pa_cons (pv 0) pa_nil)) (pe_callB (call_reprT hgu hu7) (by rfl) T.repr boot_repr (pa_cons (pv 1) pa_nil)) (nomark _)))), ?_⟩
    exact s_ret mh (gv_eqT (K := K) (neg := false) py_str inj_str (gv_reprT (K := K) (gv_var rfl r1) h1 h2 h3) (gv_reprT (K := K) (gv_var rfl r2) h4 h5 h6) (by simp [PyData.depth])) fun v M' H' g r => q v M' H' g (by rw [show v = _ from r, Bool.false_xor])
end
end My

set_option Elab.async false
set_option linter.all false
set_option maxRecDepth 100000
set_option maxHeartbeats 8000000
set_option pp.maxSteps 900
namespace My
open PySem PySem.Spec PyProof.Rows L2 L3
open L3.Strm
/-! the state beside lists of ours, more of it -/
structure CodeK (c : CodeD) : Prop where
  good : Good c
  n : c.names.length < 60
  s1 : 0 < c.signs.length
theorem CodeK.w {c : CodeD} (g : CodeK c) : ChW c.clauses := ⟨g.good.w.c, g.good.w.n, g.good.w.k⟩
theorem CodeK.sg {c : CodeD} (g : CodeK c) : NmL c.signs := ⟨(List.nodup_append.mp (show (c.signs ++ c.helpers).Nodup from g.good.nm.nd)).1, fun n hn => g.good.nm.nm n (List.mem_append_left _ hn), Nat.le_trans (by show c.signs.length ≤ (c.signs ++ c.helpers).length; rw [List.length_append]; omega) g.good.nm.n⟩
/-- somebody led and the law's own, side by side -/
structure PairW (CL C : Addr) (c : CodeD) (x p q : Addr) (m : V) (pl sl : Addr) (ls : List Str) (ss ss2 : List (Option (List Str))) (o o2 : Option (List Str)) (M W : Hp) : Prop where
  led : LedW CL C c x p q ls ss o M W
  law : LawW c m pl sl ls ss2 o2 M W
  nd : p ≠ pl ∧ p ≠ sl ∧ q ≠ pl ∧ q ≠ sl
  lit : Lits c.names ls
section
variable {CL C : Addr} {c : CodeD} {x p q pl sl : Addr} {m : V} {ls : List Str} {ss ss2 : List (Option (List Str))} {o o2 : Option (List Str)} {S : Strm} {M W M' W' H H' : Hp} {k j : Nat} {σ : Sl} {K : PySem.W.Frag} {D : Ends} {tx ty tz tb : TS} {tt : L2.TT} {b : Bool}
theorem PairW.mono (h : PairW CL C c x p q m pl sl ls ss ss2 o o2 M W) (s : Same M M') (a : ∀ z ∈ [p, q, pl, sl], W' z = W z) : PairW CL C c x p q m pl sl ls ss ss2 o o2 M' W' :=
  ⟨h.led.mono s (a _ (by simp)) (a _ (by simp)), h.law.mono s (a _ (by simp)) (a _ (by simp)), h.nd, h.lit⟩
theorem PairW.ledOk (h : PairW CL C c x p q m pl sl ls ss ss2 o o2 M W) (g : CodeK c) : LedOk ⟨c, ls, ss, o⟩ := ⟨g.good.nm, g.good.lits, g.w, h.lit, h.led.c.ends⟩
theorem PairW.lawOk (h : PairW CL C c x p q m pl sl ls ss ss2 o o2 M W) (g : CodeK c) : LawOk c ls o2 := ⟨g.good.nm, g.good.lits, g.w, h.lit, h.law.c.ends⟩
/-- all four are lists of ours -/
theorem PairW.own (h : PairW CL C c x p q m pl sl ls ss ss2 o o2 M W) : ∀ z ∈ [p, q, pl, sl], ∃ vs, W z = some (.lst vs) := fun z hz => by
  obtain ⟨ms, h3, _⟩ := h.led.hq
  obtain ⟨ns, h4, _⟩ := h.law.hq
  simp only [List.mem_cons, List.not_mem_nil, or_false] at hz
  rcases hz with rfl | rfl | rfl | rfl
  · exact ⟨_, h.led.hp⟩
  · exact ⟨_, h3⟩
  · exact ⟨_, h.law.hp⟩
  · exact ⟨_, h4⟩
theorem lw_if (L : LW S M W H k) (h : GvT tt σ (wth M W) b) (h1 : b = true → ∀ H', LW S M W H' k → tx D σ H') (h2 : b = false → ∀ H', LW S M W H' k → ty D σ H') : tIfS tt tx ty D σ H := h H (L.all.trans cut_same) _ fun M' H' g => by
  cases b with
  | true =>
    show (if true = true then _ else _)
    rw [if_pos rfl]
    exact h1 rfl H' (L.read g)
  | false =>
    show (if false = true then _ else _)
    rw [if_neg (by decide)]
    exact h2 rfl H' (L.read g)
/-- a thing that stands is known from now on -/
theorem LW.know {a : Addr} {ob : HO} (L : LW S M W H k) (h : S.cut H a = some ob) (hn : ∀ vs, ob ≠ .lst vs) : LW S (upd M a ob) W H k ∧ Same M (upd M a ob) := by
  have s : Same M (upd M a ob) := fun z u e => by
    by_cases hz : z = a
    · subst hz
      rw [upd_same]
      have := L.mh _ _ e
      rw [h] at this
      exact this
    · rw [upd_ne hz]; exact e
  refine ⟨⟨fun z u e => ?_, L.at_, fun z u e => ?_⟩, s⟩
  · by_cases hz : z = a
    · subst hz
      rw [upd_same] at e
      cases e
      exact h
    · rw [upd_ne hz] at e; exact L.mh _ _ e
  · obtain ⟨h1, h2, vs, rfl⟩ := L.w z u e
    refine ⟨?_, h2, vs, rfl⟩
    by_cases hz : z = a
    · subst hz
      rw [h] at h2
      exact absurd (Option.some.inj h2) (hn vs)
    · rw [upd_ne hz]; exact h1
/-- a list that was known is one of ours -/
theorem LW.lose {a : Addr} {vs : List V} (L : LW S M W H k) (h : M a = some (.lst vs)) : LW S (delS M [a]) (upd W a (.lst vs)) H k := by
  have sub : ∀ z u, delS M [a] z = some u → M z = some u := fun z u e => by
    by_cases hz : z ∈ [a]
    · rw [delS_off hz] at e; cases e
    · rw [delS_on hz] at e; exact e
  refine ⟨fun z u e => L.mh _ _ (sub _ _ e), L.at_, fun z u e => ?_⟩
  by_cases hz : z = a
  · subst hz
    rw [upd_same] at e
    cases e
    exact ⟨delS_off (by simp), L.mh _ _ h, vs, rfl⟩
  · rw [upd_ne hz] at e
    obtain ⟨h1, h2, us, rfl⟩ := L.w z u e
    refine ⟨?_, h2, us, rfl⟩
    rw [delS_on (by simp [hz])]
    exact h1
theorem gt_stands {i j : Nat} (L : LW S M W H k) (ck : CodeK c) (pw : PairW CL C c x p q m pl sl ls ss ss2 o o2 M W) (hi : σ[i]? = some (some (.ref x))) (hj : σ[j]? = some (some m)) : GvT (tB (tCall (sp__law_stands K CL C) [] E0 (tCons (tVar i) (tCons (tVar j) tNil)))) σ (wth M W) true := fun H' mh Q q => by
  obtain ⟨ms, u, hms, hu, hpl⟩ := pw.law.all L
  exact ⟨.ref x, hi, m, hj, ⟨⟨c, ls, ss, o⟩, pl, sl, ms, u, o2, wth M W, .ref x, m, rfl, mh, pw.led.all L, hms, hu, hpl, pw.ledOk ck, pw.law.c.ends, fun M' H' g => ⟨true, rfl, q M' H' g⟩⟩⟩
/-- a list of ours, or no list at all -/
def St (K : PySem.W.Frag) (M W : Hp) (bs : List Addr) (n : Nat) (v : V) : Prop := (∃ r ws, v = .ref r ∧ W r = some (.lst ws) ∧ ws.length ≤ 3000 + n ∧ r ∉ bs) ∨ ∃ t, DdF K t M v ∧ kitB (tyN t) "list" = some false
theorem St.mono {bs cs : List Addr} {n : Nat} {v : V} (h : St K M W bs n v) (s : Same M M') (hW : ∀ r vs, W r = some (.lst vs) → W' r = some (.lst vs)) (hb : ∀ z ∈ cs, z ∈ bs) : St K M' W' cs n v := by
  rcases h with ⟨r, ws, h1, h2, h3, h4⟩ | ⟨t, h1, h2⟩
  · exact .inl ⟨r, ws, h1, hW _ _ h2, h3, fun z => h4 (hb _ z)⟩
  · exact .inr ⟨t, Mon.mono s h1, h2⟩
theorem kit_not {t : PyData} (h : tyN t ≠ "list") : kitB (tyN t) "list" = some false := by
  cases t with
  | list _ => exact absurd rfl h
  | _ => simp only [tyN]; decide +kernel
/-! what was told is changed -/
def toldT (K : PySem.W.Frag) (CL C : Addr) : TS := tFor (iSq K (tTup (tCons (tMeth CL "choices" (sp_Led_choices K CL C) [] E0 (tVar 4) tNil) (tCons (tMeth CL "drawn" (sp_Led_drawn K CL C) [] E0 (tVar 4) tNil) (tCons (tOp (rIxX K) (tVar 8) (tUn (rU fun i => .int (-i)) (tC (.int 1)))) tNil))))) (gName 9) (tIfS (tB (tCB (rIsi K) (tCons (tVar 9) (tCons (tC (V.ty "list")) tNil)))) (tDrop (tBM K "list" rAppend (tVar 9) (tCons (tC (.str "more")) tNil))) tNext)
def standsT (K : PySem.W.Frag) (CL C : Addr) (i j : Nat) : TS := tIfS (tNot (tB (tCall (sp__law_stands K CL C) [] E0 (tCons (tVar i) (tCons (tVar j) tNil))))) (tRet (tC (.bl false))) tNext
theorem gv_isiL {α : Type} {R : Rl α} [Mon R] {xs : List α} {te : TE} (h : Gv te σ M (LiR R xs)) : Gv (tCB (rIsi K) (tCons te (tCons (tC (.ty "list")) tNil))) σ M (Bl true) := fun H mh Q q =>
  h H mh _ fun v M1 H1 g1 ⟨a, vs, e, ha, _⟩ => by
    subst e
    exact ⟨.ref a, .ty "list", _, _, true, rfl, .ty "list", .base (.lst (g1.mh _ _ ha)), kit_ty (by decide +kernel), q _ M1 H1 g1 rfl⟩
theorem told_for {a0 a1 a2 a3 a5 a6 a10 a11 a12 a13 a14 : Option V} {a9 : Option V} {f u : V} (ck : CodeK c) (L : LW S M W H k) (pw : PairW CL C c x p q m pl sl ls ss ss2 o o2 M W) (hf : ∃ vs, SqR K EqV (vs ++ [u]) M f) (hu : St K M W [p, q, pl, sl] 0 u)
    (fin : ∀ a9 M' W' H', Same M M' → LW S M' W' H' k → PairW CL C c x p q m pl sl ls ss ss2 o o2 M' W' → tz D [a0, a1, a2, a3, some (.ref x), a5, a6, some m, some f, a9, a10, a11, a12, a13, a14] H') :
    tSeq (toldT K CL C) tz D [a0, a1, a2, a3, some (.ref x), a5, a6, some m, some f, a9, a10, a11, a12, a13, a14] H := by
  have X := pw.ledOk ck
  have nl : c.names.length ≤ 1000 := (nm_shorts X.nm).1
  have ll : ls.length ≤ c.names.length := lits_len X.l X.nm
  obtain ⟨fs, hf⟩ := hf
  -- choices
  refine gl_met1 (R1 := LedR CL C) (pre := fun _ => True) (R := fun d M ws => Pd Tx M d.ls ws) (x := (⟨c, ls, ss, o⟩ : LedD)) (insR_led (by decide +kernel) (by decide +kernel) (by decide +kernel)) (gv_var (i := 4) rfl (pw.led.all L)) trivial H (L.all.trans cut_same) _ fun p1 v1 M1 H1 g1 h01 m01 hp1 pd1 => ?_
  have e1 := pd_tx pd1
  subst e1
  have w1 := L.fresh h01
  have n1 : ∀ z ∈ [p, q, pl, sl], z ≠ p1 := fun z hz e => by
    obtain ⟨vs, hv⟩ := pw.own z hz
    rw [e, w1] at hv
    cases hv
  have L1 := (L.read g1).add (L.m.free h01) (by rw [cut_on (L.at_.fresh h01)]; exact hp1)
  have pw1 : PairW CL C c x p q m pl sl ls ss ss2 o o2 M (upd W p1 (.lst (ls.map V.str))) := pw.mono (Same.refl _) fun z hz => upd_ne (n1 z hz)
  have hu1 : St K M (upd W p1 (.lst (ls.map V.str))) [p, q, pl, sl] 0 u := hu.mono (Same.refl _) (fun r vs e => by rw [upd_ne (fun z => by rw [z, w1] at e; cases e)]; exact e) fun _ h => h
  have s1 : St K M (upd W p1 (.lst (ls.map V.str))) [p, q, pl, sl] 0 (.ref p1) := .inl ⟨p1, _, rfl, upd_same, by rw [List.length_map]; show ls.length ≤ _; omega, fun z => n1 _ z rfl⟩
  clear hu pw L w1 n1 hp1 h01 m01 g1
  revert L1 pw1 hu1 s1
  generalize upd W p1 (.lst (ls.map V.str)) = W1
  intro L pw hu s1
  -- drawn
  have cont : ∀ v2 W2 H2, LW S M W2 H2 k → PairW CL C c x p q m pl sl ls ss ss2 o o2 M W2 → St K M W2 [p, q, pl, sl] 0 u → St K M W2 [p, q, pl, sl] 0 (.ref p1) → St K M W2 [p, q, pl, sl] 0 v2 →
      (tCons (tOp (rIxX K) (tVar 8) (tUn (rU fun i => .int (-i)) (tC (.int 1)))) tNil) [a0, a1, a2, a3, some (.ref x), a5, a6, some m, some f, a9, a10, a11, a12, a13, a14] H2 fun vs H3 => (V.ref p1 :: v2 :: vs).length ≤ sizeLine ∧ ∀ t, H3 t = none → tSeq (tFor (iSq K (tC (.ref t))) (gName 9) (tIfS (tB (tCB (rIsi K) (tCons (tVar 9) (tCons (tC (V.ty "list")) tNil)))) (tDrop (tBM K "list" rAppend (tVar 9) (tCons (tC (.str "more")) tNil))) tNext)) tz D [a0, a1, a2, a3, some (.ref x), a5, a6, some m, some f, a9, a10, a11, a12, a13, a14] (upd H3 t (.tup (.ref p1 :: v2 :: vs))) := fun v2 W2 H2 L pw hu s1 s2 => by
    refine gv_ix (K := K) (R := EqV) (xs := fs ++ [u]) (i := -1) (x := u) (gv_var (i := 8) rfl hf) gv_minusD (atI_lastD _ _) H2 L.m _ fun u' M3 H3 g3 e3 => ⟨by show 3 ≤ sizeLine; decide, fun t nt => ?_⟩
    cases (show u' = u from e3)
    have L3 := L.plain (g3.trans (.new (o := .tup [.ref p1, v2, u]) g3.mh nt))
    have sM : Same M (upd M3 t (.tup [.ref p1, v2, u])) := (g3.trans (.new (o := .tup [.ref p1, v2, u]) g3.mh nt)).mm
    have ht : (upd M3 t (.tup [.ref p1, v2, u])) t = some (.tup [.ref p1, v2, u]) := upd_same
    have pw3 := pw.mono sM (W' := W2) fun _ _ => rfl
    have hv : ∀ v ∈ [.ref p1, v2, u], St K (upd M3 t (.tup [.ref p1, v2, u])) W2 [p, q, pl, sl] 0 v := fun v hv => by
      simp only [List.mem_cons, List.not_mem_nil, or_false] at hv
      rcases hv with rfl | rfl | rfl
      · exact s1.mono sM (fun _ _ h => h) fun _ h => h
      · exact s2.mono sM (fun _ _ h => h) fun _ h => h
      · exact hu.mono sM (fun _ _ h => h) fun _ h => h
    revert L3 sM ht pw3 hv
    generalize upd M3 t (.tup [.ref p1, v2, u]) = M4
    generalize upd H3 t (.tup [.ref p1, v2, u]) = H4
    intro L3 sM ht pw3 hv
    refine q_for (K := K) (R1 := EqV) (xs := [.ref p1, v2, u]) L3.m (gv_c (.inr ⟨t, _, rfl, .inl (.inl ht), pd_eqv _⟩)) (fun M5 i σ' M' H' => ∃ W' y9, Same M5 M' ∧ LW S M' W' H' k ∧ (∀ z ∈ [p, q, pl, sl], W' z = W2 z) ∧ (∀ v ∈ [.ref p1, v2, u], St K M' W' [p, q, pl, sl] i v) ∧ σ' = [a0, a1, a2, a3, some (.ref x), a5, a6, some m, some f, y9, a10, a11, a12, a13, a14])
      (fun M5 H5 g5 => ⟨W2, a9, Same.refl _, L3.plain g5, fun _ _ => rfl, fun v h => (hv v h).mono g5.mm (fun _ _ h => h) fun _ h => h, rfl⟩) (fun M5 i σ' M' H' ⟨_, _, s, l, _⟩ => ⟨s, l.m⟩) ?_ ?_
    · rintro M5 i y v σ' M' H' s5 hi ⟨W', y9, s, l, ag, hv, rfl⟩ ev
      have ev : v = y := ev
      subst ev
      have up : ∀ {W'' : Hp}, (∀ r vs, W' r = some (.lst vs) → ∃ us, W'' r = some (.lst us) ∧ us.length ≤ vs.length + 1) → ∀ v ∈ [.ref p1, v2, u], St K M' W'' [p, q, pl, sl] (i + 1) v := fun {W''} hW v hv' => by
        rcases hv v hv' with ⟨r, ws, h1, h2, h3, h4⟩ | h
        · obtain ⟨us, h5, h6⟩ := hW r ws h2
          exact .inl ⟨r, us, h1, h5, by omega, h4⟩
        · exact .inr h
      have i3 : i < 3 := (List.getElem?_eq_some_iff.mp hi).1
      rcases hv v (List.mem_of_getElem? hi) with ⟨r, ws, rfl, h2, h3, h4⟩ | ⟨t, h1, h2⟩
      · refine lw_if (b := true) l (gt_B (gv_isiL (K := K) (R := EqV) (xs := ws) (gv_var (i := 9) rfl ⟨r, ws, rfl, l.w_w h2, pd_eqv ws⟩))) (fun _ H5 l5 => ?_) fun h => nomatch h
        refine s_app (P := fun _ v => v = .str "more") l5.m rfl (l5.here h2).1 (szM (by omega)) (gv_c rfl) fun v M6 H6 g6 e6 => ?_
        cases (show v = _ from e6)
        have h26 : W' r = some (.lst ws) := h2
        refine ⟨M6, upd W' r (.lst (ws ++ [.str "more"])), some (.ref r), s.trans g6.mm, (l5.plain g6).put h26, fun z hz => by
          have ne : z ≠ r := fun e => h4 (by rw [← e]; exact hz)
          rw [upd_ne ne]
          exact ag z hz, fun v hv' => (up (W'' := upd W' r (.lst (ws ++ [.str "more"]))) (fun r' vs e => ?_) v hv').mono g6.mm (fun _ _ h => h) fun _ h => h, rfl⟩
        by_cases z : r' = r
        · subst z
          rw [h2] at e
          cases e
          exact ⟨_, upd_same, by rw [List.length_append]; exact Nat.le_refl _⟩
        · exact ⟨vs, by rw [upd_ne z]; exact e, by omega⟩
      · refine lw_if (b := false) l (gt_B (gv_isiF (b := false) (gv_var (i := 9) rfl (Mon.mono wth_m h1)) h2)) (fun h => nomatch h) fun _ H5 l5 => ?_
        exact ⟨M', W', some v, s, l5, ag, up fun r vs e => ⟨vs, e, by omega⟩, rfl⟩
    · rintro M5 σ' M' H' s5 ⟨W', y9, s, l, ag, _, rfl⟩
      exact fin y9 M' W' H' (sM.trans (s5.trans s)) l (pw3.mono (s5.trans s) ag)
  obtain ⟨dx, vc, hx, _⟩ := pw.led.i
  refine ⟨.ref x, rfl, x, dx, ledF vc p q, rfl, L.m _ _ hx, rfl, ⟨c, ls, ss, o⟩, wth M W1, .ref x, rfl, L.all.trans cut_same, pw.led.all L, X, fun eo M' H' g => ?_, fun so eo p2 M' H' g h0 m0 hp => ?_⟩
  · exact cont .non W1 H' (L.read g) pw hu s1 (.inr ⟨.none, .inl .non, kit_not (by show "NoneType" ≠ "list"; decide)⟩)
  · have w2 := L.fresh h0
    have n2 : ∀ z ∈ [p, q, pl, sl], z ≠ p2 := fun z hz e => by
      obtain ⟨vs, hv⟩ := pw.own z hz
      rw [e, w2] at hv
      cases hv
    have keep : ∀ r vs, W1 r = some (.lst vs) → (upd W1 p2 (.lst ((drawnL ⟨c, ls, ss, o⟩ so).map V.str))) r = some (.lst vs) := fun r vs e => by
      rw [upd_ne (fun z => by rw [z, w2] at e; cases e)]
      exact e
    have hn : (drawnL ⟨c, ls, ss, o⟩ so).length ≤ 2 * c.names.length := flat_le fun x _ => List.length_filter_le _ _
    exact cont (.ref p2) _ H' ((L.read g).add (L.m.free h0) (by rw [cut_on (L.at_.fresh h0)]; exact hp)) (pw.mono (Same.refl _) fun z hz => upd_ne (n2 z hz)) (hu.mono (Same.refl _) keep fun _ h => h) (s1.mono (Same.refl _) keep fun _ h => h) (.inl ⟨p2, _, rfl, upd_same, by rw [List.length_map]; omega, fun z => n2 _ z rfl⟩)
def eqsT (K : PySem.W.Frag) (CL C : Addr) : TS := tIfS (tOr (tTest (tOp (rEqP K true) (tOp (rEqO CL (sp_Led_eq K CL C) false) (tVar 12) (tVar 4)) (tOp (rInA K true) (tOp (rIxX K) (tVar 14) (tC (.int 0))) (tTup (tCons (tC (.str "told")) (tCons (tC (.str "same")) tNil)))))) (tTest (tOp (rEqP K true) (tOp (rEqO CL (sp_Led_eq K CL C) true) (tVar 12) (tVar 4)) (tOp (rInA K false) (tOp (rIxX K) (tVar 14) (tC (.int 0))) (tTup (tCons (tC (.str "told")) (tCons (tC (.str "same")) tNil))))))) (tRet (tC (.bl false))) tNext
def sameT (K : PySem.W.Frag) (CL C : Addr) : TS := tIfS (tOr (tNot (tB (tCall (sp__law_sameT K) [] E0 (tCons (tVar 8) (tCons (tVar 14) tNil))))) (tNot (tB (tCall (sp__law_stands K CL C) [] E0 (tCons (tVar 4) (tCons (tVar 7) tNil)))))) (tRet (tC (.bl false))) tNext
def swapT (K : PySem.W.Frag) : TS := tIfS (tTest (tOp (rEqP K false) (tCall (sp__law_draw K) [] E0 (tCons (tVar 1) (tCons (tC (.int 3)) tNil))) (tC (.int 0)))) (tPar 4 7 (tCons (tVar 12) (tCons (tVar 13) tNil))) tNext
def restT (K : PySem.W.Frag) (CL C : Addr) : TS := tSeq (sameT K CL C) (tSeq (eqsT K CL C) (tSeq (standsT K CL C 12 13) (tSeq (swapT K) (tSeq (toldT K CL C) (standsT K CL C 4 7)))))
/-- all that is looked at behind a deed -/
theorem deed_rest {a0 a2 a3 a5 a6 a9 a10 a11 : Option V} {B : Hp} {x2 p2 q2 pl2 sl2 : Addr} {m2 f dv u : V} {ls' : List Str} {ss' ss2' : List (Option (List Str))} {o' o2' : Option (List Str)} {e : PyData} {s : Str} {ds : List PyData}
    (ck : CodeK c) (L : LW S M W H (k + 1)) (sB : Same B M) (LB : ∀ H9 j, LW S M W H9 j → LW S B W' H9 j) (ag : ∀ z ∈ [p, q, pl, sl] ++ [p2, q2, pl2, sl2], W' z = W z)
    (pw : PairW CL C c x p q m pl sl ls' ss' ss2' o' o2' B W) (pw2 : PairW CL C c x2 p2 q2 m2 pl2 sl2 ls ss ss2 o o2 B W)
    (rf : DxT K e (wth M W) f) (rd : DxT K e (wth M W) dv) (he : e = .tuple (.str s :: ds)) (fit : FitD e) (hE : decide (ls = ls') = !decide (s ∈ (["told", "same"] : List Str)))
    (hf : ∃ vs, SqR K EqV (vs ++ [u]) B f) (hu : St K B W' ([p, q, pl, sl] ++ [p2, q2, pl2, sl2]) 0 u)
    (fin : ∀ x p q m pl sl ls ss ss2 o o2 a9 M' W' H', Same B M' → LW S M' W' H' k → PairW CL C c x p q m pl sl ls ss ss2 o o2 M' W' → D.nx [a0, some (.ref S.a), a2, a3, some (.ref x), a5, a6, some m, some f, a9, a10, a11, some (.ref x2), some m2, some dv] H') :
    restT K CL C D [a0, some (.ref S.a), a2, a3, some (.ref x), a5, a6, some m, some f, a9, a10, a11, some (.ref x2), some m2, some dv] H := by
  have pwM := pw.mono sB (W' := W) fun _ _ => rfl
  have pwM2 := pw2.mono sB (W' := W) fun _ _ => rfl
  refine lw_ifN L (gt_is (gt_or (b := false) (c := false) (gt_is (gt_not (gt_B (gv_is (gv_call2 (R1 := DxT K) (R2 := DxT K) (pre := fun d e => FitD d ∧ FitD e) (R := fun d e => Bl (decide (d.shown = e.shown))) (x := e) (y := e) (gv_var (i := 8) rfl rf) (gv_var (i := 14) rfl rd) ⟨fit, fit⟩) fun M v h => by rw [show v = _ from h, decide_eq_true rfl]))) rfl) fun _ => gt_is (gt_not (gt_stands L ck pwM rfl rfl)) rfl) rfl) fun H1 L => ?_
  -- both equal, or not
  obtain ⟨us, hs⟩ := head_of (he ▸ rd)
  have hd : ∀ {neg : Bool} {σ' : Sl}, σ'[14]? = some (some dv) → Gv (tOp (rInA K neg) (tOp (rIxX K) (tVar 14) (tC (.int 0))) (tTup (tCons (tC (.str "told")) (tCons (tC (.str "same")) tNil)))) σ' (wth M W) (Bl (xor neg (decide (s ∈ (["told", "same"] : List Str))))) := fun h14 =>
    gv_inA (K := K) (x := s) (xs := ["told", "same"]) (gv_is (gv_ix (K := K) (R := EqV) (xs := .str s :: us) (i := ((0 : Nat) : Int)) (x := .str s) (gv_var h14 hs) (gv_c rfl) (atI_nat (xs := .str s :: us) (j := 0) rfl)) fun _ _ h => h) (gv_is (gv_tupG (K := K) (R := Tx) (xs := ["told", "same"]) (ga_rl (gv_c rfl) fun _ _ => ga_rl (gv_c rfl) fun _ _ => ga_rl0) (by decide)) fun _ _ h => .inl h)
  have eqs : ∀ {neg : Bool} {σ' : Sl}, σ'[12]? = some (some (.ref x2)) → σ'[4]? = some (some (.ref x)) → Gv (tOp (rEqO CL (sp_Led_eq K CL C) neg) (tVar 12) (tVar 4)) σ' (wth M W) (Bl (xor neg (decide (ls = ls')))) := fun h12 h4 =>
    gv_is (gv_eqO (C := CL) (R1 := LedR CL C) (pre := fun a b => CodeP a.c ∧ CodeP b.c) (B := eqL) (x := ⟨c, ls, ss, o⟩) (y := ⟨c, ls', ss', o'⟩) (gv_var h12 (pwM2.led.all L)) (gv_var h4 (pwM.led.all L)) inst_led ⟨good_p ck.good, good_p ck.good⟩) fun M v h => by
      rw [show v = _ from h]
      unfold eqL
      rw [eqC_self (good_p ck.good) ck.good.nf, Bool.true_and]
  refine lw_ifN L (gt_is (gt_or (b := false) (c := false) (gt_is (gt_test (gv_eqT (K := K) (neg := true) py_bl inj_bl (eqs rfl rfl) (hd rfl) (by simp [PyData.depth]))) (by rw [hE]; cases decide (s ∈ (["told", "same"] : List Str)) <;> rfl)) fun _ => gt_is (gt_test (gv_eqT (K := K) (neg := true) py_bl inj_bl (eqs rfl rfl) (hd rfl) (by simp [PyData.depth]))) (by rw [hE]; cases decide (s ∈ (["told", "same"] : List Str)) <;> rfl)) rfl) fun H2 L => ?_
  refine lw_ifN L (gt_is (gt_not (gt_stands L ck pwM2 rfl rfl)) rfl) fun H3 L => ?_
  -- from here on the base
  have LB3 := LB H3 _ L
  have pB := pw.mono (Same.refl _) (W' := W') fun z hz => ag z (List.mem_append_left _ hz)
  have pB2 := pw2.mono (Same.refl _) (W' := W') fun z hz => ag z (List.mem_append_right _ hz)
  refine lw_ifS (D := { D with nx := (tSeq (toldT K CL C) (standsT K CL C 4 7)) D }) LB3 (gts_zero (K := K) rfl (gv_c rfl) (by decide) (by decide)) (fun _ M4 H4 s4 L4 => ?_) fun _ M4 H4 s4 L4 => ?_
  · refine s_par2 ⟨.ref x2, rfl, m2, rfl, _, _, rfl, ?_⟩
    refine told_for (tz := standsT K CL C 4 7) (D := D) ck L4 (pB2.mono s4 fun _ _ => rfl) (hf.imp fun vs h => Mon.mono s4 h) (hu.mono s4 (fun _ _ h => h) fun z hz => List.mem_append_right _ hz) fun a9 M5 W5 H5 s5 L5 pw5 => ?_
    exact lw_if (b := false) L5 (gt_is (gt_not (gt_stands L5 ck pw5 rfl rfl)) rfl) (fun h => nomatch h) fun _ H6 L6 => fin _ _ _ _ _ _ _ _ _ _ _ _ M5 W5 H6 (s4.trans s5) L6 pw5
  · refine told_for (tz := standsT K CL C 4 7) (D := D) ck L4 (pB.mono s4 fun _ _ => rfl) (hf.imp fun vs h => Mon.mono s4 h) (hu.mono s4 (fun _ _ h => h) fun z hz => List.mem_append_left _ hz) fun a9 M5 W5 H5 s5 L5 pw5 => ?_
    exact lw_if (b := false) L5 (gt_is (gt_not (gt_stands L5 ck pw5 rfl rfl)) rfl) (fun h => nomatch h) fun _ H6 L6 => fin _ _ _ _ _ _ _ _ _ _ _ _ M5 W5 H6 (s4.trans s5) L6 pw5
end
end My

set_option Elab.async false
set_option linter.all false
set_option maxRecDepth 100000
set_option maxHeartbeats 8000000
set_option pp.maxSteps 900
namespace My
open PySem PySem.Spec PyProof.Rows L2 L3
open L3.Strm
/-! deeds beside lists of ours -/
/-- a locked display whose second and third thing are new lists of ours -/
theorem gd_dispL {σ : Sl} {M : Hp} {t1 t2 t3 : TE} {a b c : Str} {cv : V} {us ws : List V} (h1 : Gv t1 σ M (EqV cv)) (h2 : ∀ M1, Same M M1 → GvL t2 σ M1 fun _ vs => vs = us) (h3 : ∀ M1, Same M M1 → GvL t3 σ M1 fun _ vs => vs = ws) (n1 : a ≠ b) (n2 : a ≠ c) (n3 : b ≠ c) {H : Hp} (mh : Same M H) {Q : VK}
    (q : ∀ p ob pl sl M' H', Gr M H M' H' → M' p = some (.frz ob (.dK [(Sum.inr a, cv), (Sum.inr b, .ref pl), (Sum.inr c, .ref sl)])) → pl ≠ sl → Own H M' H' pl us → Own H M' H' sl ws → Q (.ref p) H') : tFrz (tDisp [(tC (.str a), t1), (tC (.str b), t2), (tC (.str c), t3)]) σ H Q := fun p np => by
  have g0 := Gr.own (o := .dK []) mh np
  have m0 : M p = none := mh.free np
  have p0 : (upd H p (.dK [])) p = some (.dK []) := upd_same
  refine h1 _ g0.mh _ fun u1 M1 H1 g1 r1 => ?_
  have r1 : u1 = cv := r1
  subst r1
  refine h2 M1 g1.mm H1 g1.mh _ fun pl vs M2 H2 g2 h02 m02 hp2 ev => ?_
  subst ev
  refine h3 M2 (g1.mm.trans g2.mm) H2 g2.mh _ fun sl vs' M3 H3 g3 h03 m03 hs3 ev => ?_
  subst ev
  have g123 := (g1.trans g2).trans g3
  have G3 := g0.trans g123
  have hp3 := g123.hh _ _ p0
  have m3 : M3 p = none := g123.keep m0 p0
  have npp : pl ≠ p := fun e => by rw [e, g1.hh _ _ p0] at h02; cases h02
  have nsp : sl ≠ p := fun e => by rw [e, (g1.trans g2).hh _ _ p0] at h03; cases h03
  have hpl3 := g3.hh _ _ hp2
  have npl : pl ≠ sl := fun e => by rw [← e, hp2] at h03; cases h03
  have hpl0 : H pl = none := by
    have h := g1.hh.free h02
    rw [upd_ne npp] at h
    exact h
  have hsl0 : H sl = none := by
    have h := (g1.trans g2).hh.free h03
    rw [upd_ne nsp] at h
    exact h
  refine ⟨hp3, [(Sum.inr a, u1), (Sum.inr b, .ref pl), (Sum.inr c, .ref sl)], rfl, by show 3 ≤ 15; decide, ?_⟩
  rw [merge3 n1 n2 n3]
  refine ⟨p, _, rfl, upd_same, trivial, fun ob => ?_⟩
  have G5 := (G3.mut (o := .dK [(Sum.inr a, u1), (Sum.inr b, .ref pl), (Sum.inr c, .ref sl)]) np m3).mut (o := .frz ob (.dK [(Sum.inr a, u1), (Sum.inr b, .ref pl), (Sum.inr c, .ref sl)])) np m3
  have G6 := G5.freeze np m3 upd_same
  exact q p ob pl sl _ _ G6 upd_same npl ⟨hpl0, by rw [upd_ne npp]; exact g3.keep m02 hp2, by rw [upd_ne npp, upd_ne npp]; exact hpl3⟩ ⟨hsl0, by rw [upd_ne nsp]; exact m03, by rw [upd_ne nsp, upd_ne nsp]; exact hs3⟩
section
variable {CL C : Addr} {c : CodeD} {x p q pl sl : Addr} {m cv : V} {ls : List Str} {ss ss2 : List (Option (List Str))} {o o2 : Option (List Str)} {S : Strm} {M0 M W M' W' H H' : Hp} {k j : Nat} {σ : Sl} {K : PySem.W.Frag} {to : TE} {w : V} {ws : List V} {t : PyData}
theorem w_pop {Q : VK} (L : LW S M W H k) (h : Gv to σ M fun _ v => v = .ref p) (hp : W p = some (.lst (ws ++ [w]))) (go : ∀ M' H', Same M M' → LW S M' (upd W p (.lst ws)) H' k → Q w H') : tBM0 K "list" rPop to σ H Q :=
  t_popAt L.m h (L.here hp).1 fun M' H' g => go M' _ g.mm ((L.plain g).put hp)
/-- he is copied -/
theorem w_copy {i : Nat} {Q : VK} (L : LW S M W H k) (s0 : Same M0 M) (LD : LedW CL C c x p q ls ss o M0 W) (X : LedOk ⟨c, ls, ss, o⟩) (hi : σ[i]? = some (some (.ref x)))
    (go : ∀ x2 p2 q2 dx2 vc ms M' H', Same M M' → LW S M' (upd (upd W p2 (.lst (ls.map V.str))) q2 (.lst ms)) H' k → M' x2 = some (.ins CL dx2 (ledF vc p2 q2)) → CodeR C c M0 vc → Pd (OpR' DcF) M0 (ss ++ [o]) ms → p2 ≠ q2 → W p2 = none → W q2 = none → Q (.ref x2) H') : tMeth CL "copy" (sp_Led_copy K CL C) [] E0 (tVar i) tNil σ H Q := by
  have LM := LD.mono s0 (W' := W) rfl rfl
  obtain ⟨dx, vc, h1, h2⟩ := LD.i
  obtain ⟨ms, h3, h4⟩ := LD.hq
  have ll : ls.length ≤ c.names.length := lits_len X.l X.nm
  have lc := LD.c.len
  have nn : c.names.length ≤ 500 := X.nm.n
  have lm := h4.length
  rw [List.length_append, List.length_singleton] at lm
  have LH : LedH CL C ⟨c, ls, ss, o⟩ x dx p q vc ms M H := ⟨s0 _ _ h1, Mon.mono s0 h2, LD.ne, (L.here LD.hp).1, (L.here h3).1, Pd.mono (R := OpR' DcF) s0 h4, L.cutS fun b hb => by
    simp only [List.mem_cons, List.not_mem_nil, or_false] at hb
    rcases hb with rfl | rfl
    · exact ⟨_, LD.hp⟩
    · exact ⟨_, h3⟩⟩
  refine ⟨.ref x, hi, x, dx, ledF vc p q, rfl, L.m _ _ LH.x, rfl, ⟨c, ls, ss, o⟩, x, dx, p, q, vc, ms, M, rfl, LH, X, ⟨by show ls.length ≤ 1000; omega, by omega⟩, fun x2 dx2 p2 q2 M' H' tw hx0 hx2 npq hp0 mp0 hp2 hq0 mq0 hq2 => ?_⟩
  have L1 := L.two0 tw LD.hp h3
  have L2 := (L1.add mp0 (by rw [cut_on (L.at_.fresh hp0)]; exact hp2)).add mq0 (by rw [cut_on (L.at_.fresh hq0)]; exact hq2)
  exact go x2 p2 q2 dx2 vc ms M' H' tw.g.mm L2 hx2 h2 h4 npq (L.fresh hp0) (L.fresh hq0)
/-- so is the law's own -/
theorem w_ahead {Q : VK} (L : LW S M W H k) (s0 : Same M0 M) (LD : LawW c m pl sl ls ss o M0 W) (h3 : σ[3]? = some (some cv)) (h7 : σ[7]? = some (some m))
    (go : ∀ y ob pl2 sl2 ms M' H', Same M M' → LW S M' (upd (upd W pl2 (.lst (ls.map V.str))) sl2 (.lst ms)) H' k → M' y = some (.frz ob (.dK [(Sum.inr "code", cv), (Sum.inr "put", .ref pl2), (Sum.inr "so", .ref sl2)])) → Pd (OpR' (LiR Tx)) M0 (ss ++ [o]) ms → pl2 ≠ sl2 → W pl2 = none → W sl2 = none → Q (.ref y) H') :
    tFrz (tDisp [(tC (.str "code"), tVar 3), (tC (.str "put"), tCB (rLstOf K) (tCons (tDGet (tVar 7) (tC (.str "put"))) tNil)), (tC (.str "so"), tCB (rLstOf K) (tCons (tDGet (tVar 7) (tC (.str "so"))) tNil))]) σ H Q := by
  obtain ⟨ms, hs, hms⟩ := LD.hq
  have rm : MR c pl sl M m := Mono.mono s0 LD.i
  have sW : Same M (wth M W) := wth_m
  have kp := L.w_w LD.hp
  have ks := L.w_w hs
  refine gd_dispL (a := "code") (b := "put") (c := "so") (cv := cv) (us := ls.map V.str) (ws := ms) (M := wth M W) (gv_var h3 rfl)
    (fun M1 s1 H1 mh1 Q1 q1 => gl_lstOf (K := K) (R1 := EqV) (xs := ls.map V.str) (gv_dgetF (P := fun M v => MR c pl sl M v ∧ M pl = some (.lst (ls.map V.str))) (gv_var h7 ⟨Mono.mono (sW.trans s1) rm, s1 _ _ kp⟩) fun M v ⟨⟨m, o, cv, h1, h2, h3⟩, hl⟩ => ⟨m, o, _, .ref pl, h1, h2, rfl, .inl ⟨pl, _, rfl, .inl (.inl hl), pd_eqv _⟩⟩) H1 mh1 Q1 fun r vs M' H' g a b d pd => q1 r vs M' H' g a b d (pd_eq pd))
    (fun M1 s1 H1 mh1 Q1 q1 => gl_lstOf (K := K) (R1 := EqV) (xs := ms) (gv_dgetF (P := fun M v => MR c pl sl M v ∧ M sl = some (.lst ms)) (gv_var h7 ⟨Mono.mono (sW.trans s1) rm, s1 _ _ ks⟩) fun M v ⟨⟨m, o, cv, h1, h2, h3⟩, hl⟩ => ⟨m, o, _, .ref sl, h1, h2, rfl, .inl ⟨sl, _, rfl, .inl (.inl hl), pd_eqv _⟩⟩) H1 mh1 Q1 fun r vs M' H' g a b d pd => q1 r vs M' H' g a b d (pd_eq pd))
    (by decide +kernel) (by decide +kernel) (by decide +kernel) (L.all.trans cut_same) fun y ob pl2 sl2 M' H' g hy npl o1 o3 => ?_
  have L1 := L.read g
  have ny : S.cut H' y = some (.frz ob (.dK [(Sum.inr "code", cv), (Sum.inr "put", .ref pl2), (Sum.inr "so", .ref sl2)])) := by
    have h := (lift L.all L.at_ g).mh _ _ hy
    exact h
  obtain ⟨L2, s2⟩ := L1.know ny fun vs e => by cases e
  have n1 : pl2 ≠ y := fun e => by have h := o1.m; rw [e, hy] at h; cases h
  have n2 : sl2 ≠ y := fun e => by have h := o3.m; rw [e, hy] at h; cases h
  have L3 := (L2.add (p := pl2) (us := ls.map V.str) (by rw [upd_ne n1]; exact L.m.free o1.h0) (by rw [cut_on (L.at_.fresh o1.h0)]; exact o1.h)).add (p := sl2) (us := ms) (by rw [upd_ne n2]; exact L.m.free o3.h0) (by rw [cut_on (L.at_.fresh o3.h0)]; exact o3.h)
  exact go y ob pl2 sl2 ms _ H' s2 L3 upd_same hms npl (L.fresh o1.h0) (L.fresh o3.h0)
/-- how it ends, by him -/
theorem w_did {w : V} {way : Nat} {Q : VK} (L : LW S M W H k) (LD : LedW CL C c x p q ls ss o M W) (X : LedOk ⟨c, ls, ss, o⟩) (ck : CodeK c) (rt : DdF K t M w) (sh : shortD t) (hw : way ≤ 10) (h4 : σ[4]? = some (some (.ref x))) (h10 : σ[10]? = some (some (.int (way : Nat)))) (h11 : σ[11]? = some (some w))
    (q1 : way = 0 → ls = [] → ∀ z M' H', Same M M' → LW S M' W H' k → LastR K (.tuple [.str "nothing"]) (.str "nothing") M' z → Q z H')
    (q2 : way = 0 → ∀ ls1 l, ls = ls1 ++ [l] → ∀ z ms0 ss1 o1 M' H', Same M M' → LW S M' (upd (upd W p (.lst (ls1.map V.str))) q (.lst ms0)) H' k → LedW CL C c x p q ls1 ss1 o1 M' (upd (upd W p (.lst (ls1.map V.str))) q (.lst ms0)) → LastR K (.tuple [.str "told", .str l]) (.str l) M' z → Q z H')
    (q3 : way ≠ 0 → ∀ e, failD c.signs o t = some e → ∀ u z M' H', Same M M' → LW S M' W H' k → (u = w ∨ ∃ s, u = .str s) → LastR K e u M' z → Q z H')
    (q4 : way ≠ 0 → ∀ so l, o = some so → t = .str l → isLit c.signs t = true → l ∉ so → opp l ∉ so → ∀ o' ms' M' H', Same M M' → LW S M' (upd (upd W p (.lst ((ls ++ [l]).map V.str))) q (.lst ms')) H' k → LedW CL C c x p q (ls ++ [l]) (ss ++ [some so]) o' M' (upd (upd W p (.lst ((ls ++ [l]).map V.str))) q (.lst ms')) →
      (4 ≤ way → ∀ z, LastR K (.tuple [.str "same", .bool true]) (.bl true) M' z → Q z H') ∧
      (way < 4 → o' = none → ∀ z, LastR K (.tuple [.str "told", .none]) .non M' z → Q z H') ∧
      (way < 4 → ∀ s', o' = some s' → ∀ a r, H r = none → M' r = none → H' r = some (.lst ((putL c.names so s' l).map V.str)) → M' a = some (.tup [.str "told", .ref r]) → Q (.ref a) H')) :
    tCall (sp__law_did K CL C) [] E0 (tCons (tVar 4) (tCons (tVar 10) (tCons (tVar 11) tNil))) σ H Q := by
  obtain ⟨dx, vc, ms, LH, hq⟩ := LD.led L
  have ll : ls.length ≤ c.names.length := lits_len X.l X.nm
  have lc := LD.c.len
  have nn : c.names.length ≤ 500 := X.nm.n
  have lm := LH.pd.length
  have lm : (ss ++ [o]).length = ms.length := lm
  rw [List.length_append, List.length_singleton] at lm
  have sg : NmL c.signs := ck.sg
  have chg : ∀ {M' H' : Hp} {us vs : List V}, TwoAt M H M' H' p q us vs → ∀ {ls' ss' o'}, us = ls'.map V.str → Pd (OpR' DcF) M' (ss' ++ [o']) vs → Cz c ls' ss' o' → LedW CL C c x p q ls' ss' o' M' (upd (upd W p (.lst us)) q (.lst vs)) := fun {M' H' us vs} t {ls' ss' o'} e pd cz => ⟨⟨dx, vc, t.g.mm _ _ LH.x, Mon.mono t.g.mm LH.c⟩, LD.ne, by rw [upd_ne LD.ne, upd_same, e], ⟨_, upd_same, pd⟩, cz⟩
  refine ⟨.ref x, h4, _, h10, w, h11, ⟨c, ls, ss, o⟩, way, t, w, x, dx, p, q, vc, ms, M, rfl, LH, rt, X, ⟨good_p ck.good, ck.good.nf⟩, sh, ⟨by show ls.length ≤ 1000; omega, by omega⟩, hw, fun e0 e1 z M' H' tw r => ?_, fun e0 ls1 l ms0 mv e1 e2 z M' H' tw r => ?_, fun n0 e he u z M' H' tw hu r => ?_, fun n0 so l eo et hl n1 n2 o' u' M' H' tw ru en => ?_⟩
  · exact q1 e0 e1 z M' H' tw.g.mm (L.two0 tw LD.hp hq) r
  · have e1 : ls = ls1 ++ [l] := e1
    obtain ⟨ss1, o1, es, cz⟩ := (e1 ▸ LD.c : Cz c (ls1 ++ [l]) ss o).pop
    obtain ⟨as, u, ea, _, pd⟩ := pd_last LH.pd
    have ea : ms = as ++ [u] := ea
    rw [e2] at ea
    obtain ⟨rfl, _⟩ := List.append_inj' ea rfl
    have pd : Pd (OpR' DcF) M ss ms0 := pd
    rw [es] at pd
    exact q2 e0 ls1 l e1 z ms0 ss1 o1 M' H' tw.g.mm (L.two tw LD.hp hq) (chg tw rfl (Pd.mono (R := OpR' DcF) tw.g.mm pd) cz) r
  · exact q3 n0 e he u z M' H' tw.g.mm (L.two0 tw LD.hp hq) hu r
  · have eo : o = some so := eo
    have lsd : l ∈ litsOf c.signs := lit_side sg (et ▸ hl)
    exact q4 n0 so l eo et hl n1 n2 o' _ M' H' tw.g.mm (L.two tw LD.hp hq) (chg tw rfl (by
      have h := pd_app (Pd.mono (R := OpR' DcF) tw.g.mm LH.pd) (.cons ru .nil)
      rw [← eo]
      exact h) (.put (eo ▸ LD.c) lsd n1 n2 en))
/-- how it must end -/
theorem w_due {w : V} {Q : VK} (L : LW S M W H k) (LD : LawW c m pl sl ls ss o M W) (X : LawOk c ls o) (rt : DdF K t M w) (sh : shortD t) (h7 : σ[7]? = some (some m)) (h11 : σ[11]? = some (some w))
    (q1 : ∀ e, failD c.signs o t = some e → ∀ z M' H', Same M M' → LW S M' W H' k → DxT K e M' z → Q z H')
    (q2 : ∀ so l, o = some so → t = .str l → isLit c.signs t = true → l ∉ so → opp l ∉ so → ∀ o' ms' z M' H', Same M M' → LW S M' (upd (upd W pl (.lst ((ls ++ [l]).map V.str))) sl (.lst ms')) H' k → LawW c m pl sl (ls ++ [l]) (ss ++ [some so]) o' M' (upd (upd W pl (.lst ((ls ++ [l]).map V.str))) sl (.lst ms')) → Dd K (.tuple [.str "told", optStr (o'.map fun s' => putLw c.names so s' l)]) M' z → Q z H') :
    tCall (sp__law_due K) [] E0 (tCons (tVar 7) (tCons (tVar 11) tNil)) σ H Q := by
  obtain ⟨ms0, hs, pd0⟩ := LD.hq
  obtain ⟨ms, u, rfl, hu, pd⟩ := pd_last pd0
  have ll : ls.length ≤ c.names.length := lits_len X.l X.nm
  have lc := LD.c.len
  have nn : c.names.length ≤ 500 := X.nm.n
  have lm := pd.length
  have lm : ss.length = ms.length := lm
  refine ⟨m, h7, w, h11, c, pl, sl, ls, ms, u, o, t, w, M, m, rfl, LD.i, L.cutS fun b hb => ?_, LD.ne, (L.here LD.hp).1, (L.here hs).1, hu, X, rt, sh, ⟨by omega, by omega⟩, fun e he z M' H' tw r => ?_, fun so l eo et hl n1 n2 o' u' z M' H' tw ru en r => ?_⟩
  · simp only [List.mem_cons, List.not_mem_nil, or_false] at hb
    rcases hb with rfl | rfl
    · exact ⟨_, LD.hp⟩
    · exact ⟨_, hs⟩
  · exact q1 e he z M' H' tw.g.mm (L.two0 tw LD.hp hs) r
  · have lsd : l ∈ litsOf c.signs := lit_side X.sg (et ▸ hl)
    exact q2 so l eo et hl n1 n2 o' _ z M' H' tw.g.mm (L.two tw LD.hp hs) ⟨Mono.mono tw.g.mm LD.i, LD.ne, by rw [upd_ne LD.ne, upd_same], ⟨_, upd_same, by
      have h := pd_app (Pd.mono (R := OpR' (LiR Tx)) tw.g.mm pd0) (.cons ru .nil)
      rw [← eo]
      exact h⟩, .put (eo ▸ LD.c) lsd n1 n2 en⟩ r
end
end My

set_option Elab.async false
set_option linter.all false
set_option maxRecDepth 100000
set_option maxHeartbeats 8000000
set_option pp.maxSteps 900
namespace My
open PySem PySem.Spec PyProof.Rows L2 L3
open L3.Strm
/-! a deed -/
def undoT (K : PySem.W.Frag) : TS := tSeq (tAsg (tTup (tCons (tC (.str "nothing")) tNil)) (gName 14)) (tIfS (tTest (tOp (rEqP K true) (tDGet (tVar 7) (tC (.str "put"))) (tLst tNil))) (tSeq (tAsg (tTup (tCons (tC (.str "told")) (tCons (tBM0 K "list" rPop (tDGet (tVar 7) (tC (.str "put")))) tNil))) (gName 14)) (tDrop (tBM0 K "list" rPop (tDGet (tVar 7) (tC (.str "so")))))) tNext)
def dueIfT (K : PySem.W.Frag) : TE := tIf (tAnd (tTest (tOp (rI0 fun i j => .bl (decide (j < i))) (tVar 10) (tC (.int 3)))) (tTest (tOp (rEqP K false) (tOp (rIxX K) (tVar 14) (tC (.int 0))) (tC (.str "told"))))) (tTup (tCons (tC (.str "same")) (tCons (tC (.bl true)) tNil))) (tVar 14)
def putT (K : PySem.W.Frag) : TS := tSeq (tAsg (tCall (sp__law_due K) [] E0 (tCons (tVar 7) (tCons (tVar 11) tNil))) (gName 14)) (tAsg (dueIfT K) (gName 14))
def didT (K : PySem.W.Frag) (CL C : Addr) : TS := tAsg (tCall (sp__law_did K CL C) [] E0 (tCons (tVar 4) (tCons (tVar 10) (tCons (tVar 11) tNil)))) (gName 8)
def actT (K : PySem.W.Frag) (CL C : Addr) : TS := tSeq (tIfS (tTest (tOp (rEqP K false) (tVar 10) (tC (.int 0)))) (undoT K) (putT K)) (tSeq (didT K CL C) (restT K CL C))
section
variable {CL C : Addr} {c : CodeD} {x p q pl sl x2 p2 q2 y2 pl2 sl2 : Addr} {m w : V} {ls : List Str} {ss ss2 : List (Option (List Str))} {o o2 : Option (List Str)} {S : Strm} {M0 M W H : Hp} {k way : Nat} {K : PySem.W.Frag} {D : Ends} {tx ty tz : TS} {tt : L2.TT} {σ : Sl} {b : Bool} {t : PyData} {obx oby : HO}
theorem lw_ifQ (L : LW S M W H k) (h : GvT tt σ (wth M W) b) (h1 : b = true → ∀ H', LW S M W H' k → tx { D with nx := tz D } σ H') (h2 : b = false → ∀ H', LW S M W H' k → ty { D with nx := tz D } σ H') : tSeq (tIfS tt tx ty) tz D σ H := lw_if (D := { D with nx := tz D }) L h h1 h2
/-- the last of what is told, where it is a tuple -/
theorem last_sq {e : PyData} {u f : V} {M : Hp} (h : LastR K e u M f) : DxT K e M f ∧ ∃ vs, SqR K EqV (vs ++ [u]) M f := by
  obtain ⟨h1, a, vs, rfl, h2⟩ := h
  exact ⟨h1, vs, .inr ⟨a, _, rfl, .inl (.inl h2), pd_eqv _⟩⟩
theorem fail_not {sg so : List Str} {l : Str} (hl : isLit sg (.str l) = true) (n1 : l ∉ so) (n2 : opp l ∉ so) : failD sg (some so) (.str l) = none := by
  show (if isLit sg (.str l) = true then (if l ∈ so ∨ opp l ∈ so then some (PyData.tuple [.str "set", .str (nameOf l)]) else none) else some (txD ("bad", .str l))) = none
  rw [if_pos hl, if_neg (not_or.mpr ⟨n1, n2⟩)]
theorem lits_front {ns ls1 : List Str} {l : Str} (h : Lits ns (ls1 ++ [l])) : Lits ns ls1 := ⟨by
  have := h.nd
  rw [List.map_append, List.nodup_append] at this
  exact this.1, fun x hx => h.of x (List.mem_append_left _ hx)⟩
theorem deed_act {a0 a2 a3 a5 a6 a8 a9 a14 : Option V} (ck : CodeK c) (L : LW S M W H (k + 1)) (s0 : Same M0 M) (pA : PairW CL C c x p q m pl sl ls ss ss2 o o2 M0 W)
    (mk2 : ∀ B W', Same M0 B → B x2 = some obx → B y2 = some oby → (∀ z ∈ [p2, q2, pl2, sl2], W' z = W z) → PairW CL C c x2 p2 q2 (.ref y2) pl2 sl2 ls ss ss2 o o2 B W') (hx2 : M x2 = some obx) (hy : M y2 = some oby) (nx : ∀ vs, obx ≠ .lst vs) (ny : ∀ vs, oby ≠ .lst vs)
    (dis : ∀ z ∈ [p2, q2, pl2, sl2], ∀ z' ∈ [p, q, pl, sl], z ≠ z') (own2 : ∀ z ∈ [p2, q2, pl2, sl2], ∃ vs, W z = some (.lst vs)) (tk : ThingOk t) (rt : OddR K M0 t M w) (hw : way ≤ 5)
    (fin : ∀ x p q m pl sl ls ss ss2 o o2 a8 a9 a12 a13 a14 M' W' H', Same M0 M' → LW S M' W' H' k → PairW CL C c x p q m pl sl ls ss ss2 o o2 M' W' → D.nx [a0, some (.ref S.a), a2, a3, some (.ref x), a5, a6, some m, a8, a9, some (.int (way : Nat)), some w, a12, a13, a14] H') :
    actT K CL C D [a0, some (.ref S.a), a2, a3, some (.ref x), a5, a6, some m, a8, a9, some (.int (way : Nat)), some w, some (.ref x2), some (.ref y2), a14] H := by
  have X := pA.ledOk ck
  have Y := pA.lawOk ck
  have same := ends_same X.e Y.e
  have ownA := pA.own
  obtain ⟨d1, d2, d3, d4⟩ := pA.nd
  -- what stands behind the deed, nothing odd
  have done : ∀ {M' W' H' : Hp} {ls' : List Str} {ss' ss2' : List (Option (List Str))} {o' o2' : Option (List Str)} {f dv u : V} {e : PyData} {s : Str} {ds : List PyData}, Same M M' → LW S M' W' H' (k + 1) → PairW CL C c x p q m pl sl ls' ss' ss2' o' o2' M' W' → (∀ z ∈ [p2, q2, pl2, sl2], W' z = W z) → DxT K e (wth M' W') f → DxT K e (wth M' W') dv → e = .tuple (.str s :: ds) → FitD e → decide (ls = ls') = !decide (s ∈ (["told", "same"] : List Str)) → (∃ vs, SqR K EqV (vs ++ [u]) M' f) → St K M' W' ([p, q, pl, sl] ++ [p2, q2, pl2, sl2]) 0 u →
      restT K CL C D [a0, some (.ref S.a), a2, a3, some (.ref x), a5, a6, some m, some f, a9, some (.int (way : Nat)), some w, some (.ref x2), some (.ref y2), some dv] H' := fun {M' W' H' ls' ss' ss2' o' o2' f dv u e s ds} sM L' pw ag rf rd he fit hE hf hu =>
    deed_rest ck L' (Same.refl _) (fun _ _ h => h) (fun _ _ => rfl) pw (mk2 M' W' (s0.trans sM) (sM _ _ hx2) (sM _ _ hy) ag) rf rd he fit hE hf hu fun x p q m pl sl ls ss ss2 o o2 a9 M5 W5 H5 s5 L5 pw5 => fin x p q m pl sl ls ss ss2 o o2 _ a9 _ _ _ M5 W5 H5 ((s0.trans sM).trans s5) L5 pw5
  have agp : ∀ {us vs : List V} {z : Addr}, z ∈ [p2, q2, pl2, sl2] → (upd (upd W p (.lst us)) q (.lst vs)) z = W z := fun {us vs z} hz => by rw [upd_ne (dis z hz q (by simp)), upd_ne (dis z hz p (by simp))]
  have agl : ∀ {W1 : Hp} {us vs : List V} {z : Addr}, z ∈ [p2, q2, pl2, sl2] → (upd (upd W1 pl (.lst us)) sl (.lst vs)) z = W1 z := fun {W1 us vs z} hz => by rw [upd_ne (dis z hz sl (by simp)), upd_ne (dis z hz pl (by simp))]
  have no8 : ∀ z ∈ [p, q, pl, sl] ++ [p2, q2, pl2, sl2], ∃ vs, W z = some (.lst vs) := fun z hz => (List.mem_append.mp hz).elim (ownA z) (own2 z)
  refine lw_ifQ (b := decide (way = 0)) L (gt_is (gt_test (gv_eqT (K := K) (neg := false) py_int inj_int (x := ((way : Nat) : Int)) (y := 0) (gv_var rfl rfl) (gv_c rfl) (by simp [PyData.depth]))) (by simp)) (fun hb H1 L1 => ?_) fun hb H1 L1 => ?_
  · -- an undo
    have e0 : way = 0 := of_decide_eq_true hb
    refine q_asg (P := Dd K (.tuple [.str "nothing"])) L1.m (gv_tup1s (K := K)) fun v2 M2 H2 g2 r2 => ?_
    have L2 := L1.plain g2
    have s2 := g2.mm
    have kp : (wth M2 W) pl = some (.lst (ls.map V.str)) := L2.w_w pA.law.hp
    have rm2 : MR c pl sl M2 m := Mono.mono (s0.trans s2) pA.law.i
    refine lw_if (b := decide (ls ≠ [])) L2 (gt_test (gv_is (gv_eq (K := K) (neg := true) (d := .list (ls.map .str)) (e := .list []) (gv_dgetF (P := fun M v => MR c pl sl M v ∧ M pl = some (.lst (ls.map V.str))) (gv_var (i := 7) rfl ⟨Mono.mono wth_m rm2, kp⟩) fun M v ⟨⟨m, o, cv, h1, h2, h3⟩, hl⟩ => ⟨m, o, _, .ref pl, h1, h2, rfl, py_lst py_str _ _ _ ⟨pl, _, rfl, .inl (.inl hl), pd_of_tx _⟩⟩) gv_nilD (by simp [PyData.depth, depthS])) fun M v h => by
      rw [show v = _ from h]
      have := optD_eq (some ls) []
      simp only [optD, List.map_nil] at this
      rw [this]; simp)) (fun hb H3 L3 => ?_) fun hb H3 L3 => ?_
    · -- one is there
      obtain ⟨ls1, l, els⟩ := (List.eq_nil_or_concat ls).resolve_left (of_decide_eq_true hb)
      have els : ls = ls1 ++ [l] := by rw [els, List.concat_eq_append]
      obtain ⟨ns, hs, pd0⟩ := pA.law.hq
      obtain ⟨ns0, nu, rfl, _, pds⟩ := pd_last pd0
      obtain ⟨ss1, o1, es, cz⟩ := (els ▸ pA.law.c : Cz c (ls1 ++ [l]) ss2 o2).pop
      refine q_asgS (w_pop (p := pl) (ws := ls1.map V.str) (w := .str l) L3 (gv_mP (gv_var (i := 7) rfl rm2)) (by rw [pA.law.hp, els, List.map_append]; rfl) fun M4 H4 s4 L4 => ⟨by show 2 ≤ sizeLine; decide, fun td ntd => ?_⟩)
      have g5 := Gr.new (o := .tup [.str "told", .str l]) L4.m ntd
      have L5 := L4.plain g5
      have r5 : Dd K (.tuple [.str "told", .str l]) (upd M4 td (.tup [.str "told", .str l])) (.ref td) := dd_tup upd_same (.cons (.str _) (.cons (.str _) .nil))
      have s5 := g5.mm
      revert L5 r5 s5
      generalize upd M4 td (.tup [.str "told", .str l]) = M5
      generalize upd H4 td (.tup [.str "told", .str l]) = H5
      intro L5 r5 s5
      have nsl : (upd W pl (.lst (ls1.map V.str))) sl = some (.lst (ns0 ++ [nu])) := by rw [upd_ne (Ne.symm pA.law.ne)]; exact hs
      refine w_pop (p := sl) (ws := ns0) (w := nu) L5 (gv_mS (gv_var (i := 7) rfl (Mono.mono (s4.trans s5) rm2))) nsl fun M6 H6 s6 L6 => ?_
      have s26 := (s2.trans s4).trans (s5.trans s6)
      have LD6 : LedW CL C c x p q ls ss o M6 (upd (upd W pl (.lst (ls1.map V.str))) sl (.lst ns0)) := pA.led.mono (s0.trans s26) (by rw [upd_ne d2, upd_ne d1]) (by rw [upd_ne d4, upd_ne d3])
      have LW6 : LawW c m pl sl ls1 ss1 o1 M6 (upd (upd W pl (.lst (ls1.map V.str))) sl (.lst ns0)) := ⟨Mono.mono (s0.trans s26) pA.law.i, pA.law.ne, by rw [upd_ne pA.law.ne, upd_same], ⟨ns0, upd_same, Pd.mono (R := OpR' (LiR Tx)) (s0.trans s26) (es ▸ pds)⟩, cz⟩
      have agW : ∀ z ∈ [p2, q2, pl2, sl2], (upd (upd W pl (.lst (ls1.map V.str))) sl (.lst ns0)) z = W z := fun z hz => agl hz
      revert L6 LD6 LW6 agW
      generalize upd (upd W pl (.lst (ls1.map V.str))) sl (.lst ns0) = W6
      intro L6 LD6 LW6 agW
      refine q_asgS (w_did (way := way) (t := t) L6 LD6 X ck (Mon.mono s26 rt.1) tk.sh (by omega) rfl rfl rfl (fun _ e1 => absurd e1 (of_decide_eq_true hb)) (fun _ ls2 l2 e2 z ms0 ss3 o3 M7 H7 s7 L7 LD7 r7 => ?_) (fun n => absurd e0 n) fun n => absurd e0 n)
      obtain ⟨e3, e4⟩ := List.append_inj' (els.symm.trans e2) rfl
      cases e3
      cases e4
      have LW7 : LawW c m pl sl ls1 ss1 o1 M7 (upd (upd W6 p (.lst (ls1.map V.str))) q (.lst ms0)) := LW6.mono s7 (by rw [upd_ne (Ne.symm d3), upd_ne (Ne.symm d1)]) (by rw [upd_ne (Ne.symm d4), upd_ne (Ne.symm d2)])
      obtain ⟨r8, r9⟩ := last_sq r7
      have lit0 : Lits c.names (ls1 ++ [l]) := els ▸ pA.lit
      have lit1 : Lits c.names ls1 := lits_front lit0
      refine done (s26.trans s7) L7 ⟨LD7, LW7, pA.nd, lit1⟩ (fun z hz => by rw [upd_ne (dis z hz q (by simp)), upd_ne (dis z hz p (by simp))]; exact agW z hz) (Mon.mono wth_m r8) (.inl (Mon.mono (R := Dd K) ((s6.trans s7).trans wth_m) r5)) rfl (fit_toldL ck.good.nm (lit0.of l (by simp) : LitN c.names l)) ?_ r9 (.inr ⟨.str l, .inl (.str l), kit_not (by show "str" ≠ "list"; decide)⟩)
      rw [els, decide_eq_false (fun e => by have := congrArg List.length e; simp at this)]
      decide +kernel
    · have e1 : ls = [] := by simpa using hb
      have LD3 := pA.led.mono (s0.trans s2) (W' := W) rfl rfl
      refine q_asgS (w_did (way := way) (t := t) L3 LD3 X ck (Mon.mono s2 rt.1) tk.sh (by omega) rfl rfl rfl (fun _ _ z M7 H7 s7 L7 r7 => ?_) (fun _ ls2 l2 e2 => by rw [e1] at e2; simp at e2) (fun n => absurd e0 n) fun n => absurd e0 n)
      obtain ⟨r8, r9⟩ := last_sq r7
      exact done (s2.trans s7) L7 (pA.mono ((s0.trans s2).trans s7) fun _ _ => rfl) (fun _ _ => rfl) (Mon.mono wth_m r8) (.inl (Mon.mono (R := Dd K) (s7.trans wth_m) r2)) rfl fit_nothing (by rw [decide_eq_true rfl]; decide +kernel) r9 (.inr ⟨.str "nothing", .inl (.str _), kit_not (by show "str" ≠ "list"; decide)⟩)
  · -- a put
    have n0 : way ≠ 0 := of_decide_eq_false hb
    refine q_asgS (w_due (t := t) L1 (pA.law.mono s0 rfl rfl) Y rt.1 tk.sh rfl rfl (fun e he z M2 H2 s2 L2 r2 => ?_) fun so2 l eo et hl n1 n2 o3 ms' z M2 H2 s2 L2 LW2 r2 => ?_)
    · -- it does not go
      obtain ⟨fit, s, ds, rfl, hs⟩ := fail_fit ck.sg he tk
      have he1 : failD c.signs o t = some (.tuple (.str s :: ds)) := by rw [fail_same same.1 same.2]; exact he
      obtain ⟨us, hsq⟩ := head_of r2
      have nt : s ≠ "told" := fun e => hs (by rw [e]; simp)
      refine s_asg (P := DxT K (.tuple (.str s :: ds))) L2.m (gv_if (b := false) (gt_is (gt_and (b := decide ((3 : Int) < ((way : Nat) : Int))) (c := false) (gt_test (gv_gt (i := ((way : Nat) : Int)) (j := 3) (gv_var rfl rfl) (gv_c rfl))) fun _ => gt_test (gv_is (gv_eqT (K := K) (neg := false) py_str inj_str (x := s) (y := "told") (gv_is (gv_ix (K := K) (R := EqV) (xs := .str s :: us) (i := ((0 : Nat) : Int)) (x := .str s) (gv_var (i := 14) rfl hsq) (gv_c rfl) (atI_nat (xs := .str s :: us) (j := 0) rfl)) fun _ _ h => h) (gv_c rfl) (by simp [PyData.depth])) fun M v h => by rw [show v = _ from h, decide_eq_false nt]; rfl)) (Bool.and_false _)) (fun h => nomatch h) fun _ => gv_var (i := 14) rfl r2) fun dv M3 H3 g3 r3 => ?_
      have L3 := L2.plain g3
      have s3 := s2.trans g3.mm
      refine q_asgS (w_did (way := way) (t := t) L3 (pA.led.mono (s0.trans s3) rfl rfl) X ck (Mon.mono s3 rt.1) tk.sh (by omega) rfl rfl rfl (fun e0 => absurd e0 n0) (fun e0 => absurd e0 n0) (fun _ e' he' u f M4 H4 s4 L4 hu r4 => ?_) fun _ so l eo et hl n1 n2 => ?_)
      · have ee : e' = .tuple (.str s :: ds) := Option.some.inj (he'.symm.trans he1)
        subst ee
        have s34 := s3.trans s4
        have sM := s0.trans s34
        have rd4 : DxT K (.tuple (.str s :: ds)) M4 dv := Mon.mono s4 r3
        have rw4 : OddR K M0 t M4 w := Mon.mono s34 rt
        have hE : decide (ls = ls) = !decide (s ∈ (["told", "same"] : List Str)) := by rw [decide_eq_true rfl, decide_eq_false hs]; rfl
        by_cases lt : tyN t = "list"
        · obtain ⟨r, vs, ew, hr, hvl, hr0⟩ := rw4.2 lt
          have sB0 : Same M0 (delS M4 [r]) := same_del sM fun b hb => by rw [List.mem_singleton.mp hb]; exact hr0
          have sBM : Same (delS M4 [r]) M4 := fun a ob e => by
            by_cases z : a ∈ [r]
            · rw [delS_off z] at e; cases e
            · rw [delS_on z] at e; exact e
          have offr : ∀ a ob, M4 a = some ob → (∀ vs, ob ≠ .lst vs) → (delS M4 [r]) a = some ob := fun a ob e n => by
            rw [delS_on (fun z => by rw [List.mem_singleton.mp z, hr] at e; exact n _ (Option.some.inj e).symm)]
            exact e
          have nW : ∀ z ∈ [p, q, pl, sl] ++ [p2, q2, pl2, sl2], z ≠ r := fun z hz e => by
            obtain ⟨vs', hv⟩ := no8 z hz
            have := (L4.w z _ hv).1
            rw [e, hr] at this
            cases this
          obtain ⟨r5, a, vs5, ef, ha⟩ := r4
          refine deed_rest ck L4 sBM (fun H9 j L9 => L9.lose hr) (fun z hz => upd_ne (nW z hz)) (pA.mono sB0 fun _ _ => rfl) (mk2 _ W sB0 (offr _ _ (s34 _ _ hx2) nx) (offr _ _ (s34 _ _ hy) ny) fun _ _ => rfl) (Mon.mono wth_m r5) (Mon.mono wth_m rd4) rfl fit hE (u := u) ⟨vs5, .inr ⟨a, _, ef, .inl (.inl (offr _ _ ha fun _ e => by cases e)), pd_eqv _⟩⟩ ?_ fun x p q m pl sl ls ss ss2 o o2 a9 M5 W5 H5 s5 L5 pw5 => fin x p q m pl sl ls ss ss2 o o2 _ a9 _ _ _ M5 W5 H5 (sB0.trans s5) L5 pw5
          rcases hu with rfl | ⟨y, rfl⟩
          · exact .inl ⟨r, vs, ew, upd_same, by omega, fun z => nW r z rfl⟩
          · exact .inr ⟨.str y, .inl (.str y), kit_not (by show "str" ≠ "list"; decide)⟩
        · obtain ⟨r5, r6⟩ := last_sq r4
          refine done s34 L4 (pA.mono sM fun _ _ => rfl) (fun _ _ => rfl) (Mon.mono wth_m r5) (Mon.mono wth_m rd4) rfl fit hE r6 ?_
          rcases hu with rfl | ⟨y, rfl⟩
          · exact .inr ⟨t, rw4.1, kit_not lt⟩
          · exact .inr ⟨.str y, .inl (.str y), kit_not (by show "str" ≠ "list"; decide)⟩
      · exfalso
        rw [eo, et, fail_not (et ▸ hl) n1 n2] at he1
        cases he1
    · -- it goes
      have hl2 : isLit c.signs (.str l) = true := et ▸ hl
      obtain ⟨so, eo1⟩ : ∃ so, o = some so := by
        cases e : o with
        | none => rw [same.1.mp e] at eo; cases eo
        | some so => exact ⟨so, rfl⟩
      have iff := same.2 so so2 eo1 eo
      have m1 : l ∉ so := fun z => n1 ((iff l).mp z)
      have m2 : opp l ∉ so := fun z => n2 ((iff _).mp z)
      have he0 : failD c.signs o t = none := by rw [eo1, et]; exact fail_not hl2 m1 m2
      have lit1 : Lits c.names (ls ++ [l]) := ((eo ▸ Y : LawOk c ls (some so2)).open_ hl2 n1 n2).2
      obtain ⟨us, hsq⟩ := head_of (.inl r2 : DxT K _ M2 z)
      refine s_asg (P := Dd K (if (3 : Int) < ((way : Nat) : Int) then .tuple [.str "same", .bool true] else .tuple [.str "told", optStr (o3.map fun s' => putLw c.names so2 s' l)])) L2.m (gv_if (b := decide ((3 : Int) < ((way : Nat) : Int))) (gt_is (gt_and (b := decide ((3 : Int) < ((way : Nat) : Int))) (c := true) (gt_test (gv_gt (i := ((way : Nat) : Int)) (j := 3) (gv_var rfl rfl) (gv_c rfl))) fun _ => gt_test (gv_is (gv_eqT (K := K) (neg := false) py_str inj_str (α := Str) (R := Tx) (x := ("told" : Str)) (y := ("told" : Str)) (gv_is (gv_ix (K := K) (R := EqV) (xs := .str "told" :: us) (i := ((0 : Nat) : Int)) (x := .str "told") (gv_var (i := 14) rfl hsq) (gv_c rfl) (atI_nat (xs := .str "told" :: us) (j := 0) rfl)) fun _ _ h => h) (gv_c rfl) (by simp [PyData.depth])) fun M v h => by rw [show v = _ from h, decide_eq_true rfl]; rfl)) (Bool.and_true _)) (fun hb => gv_is (gv_tup2s (K := K) (s := "same") (d := .bool true) (gv_c (.bl true))) fun M v h => by rw [if_pos (of_decide_eq_true hb)]; exact h) fun hb => gv_var (i := 14) rfl (by rw [if_neg (of_decide_eq_false hb)]; exact r2)) fun dv M3 H3 g3 r3 => ?_
      have L3 := L2.plain g3
      have s3 := s2.trans g3.mm
      have LW3 := LW2.mono g3.mm (W' := upd (upd W pl (.lst ((ls ++ [l]).map V.str))) sl (.lst ms')) rfl rfl
      have LD3 : LedW CL C c x p q ls ss o M3 (upd (upd W pl (.lst ((ls ++ [l]).map V.str))) sl (.lst ms')) := pA.led.mono (s0.trans s3) (by rw [upd_ne d2, upd_ne d1]) (by rw [upd_ne d4, upd_ne d3])
      have agW : ∀ z ∈ [p2, q2, pl2, sl2], (upd (upd W pl (.lst ((ls ++ [l]).map V.str))) sl (.lst ms')) z = W z := fun z hz => agl hz
      revert L3 LW3 LD3 agW
      generalize upd (upd W pl (.lst ((ls ++ [l]).map V.str))) sl (.lst ms') = W3
      intro L3 LW3 LD3 agW
      refine q_asgS (w_did (way := way) (t := t) L3 LD3 X ck (Mon.mono s3 rt.1) tk.sh (by omega) rfl rfl rfl (fun e0 => absurd e0 n0) (fun e0 => absurd e0 n0) (fun _ e' he' => by rw [he0] at he'; cases he') fun _ so' l' eo' et' hl' n1' n2' o' ms4 M4 H4 s4 L4 LD4 => ?_)
      have es : so' = so := Option.some.inj (eo'.symm.trans eo1)
      have el : l' = l := by
        have := et'.symm.trans et
        injection this
      subst es el
      have LW4 := LW3.mono s4 (W' := upd (upd W3 p (.lst ((ls ++ [l']).map V.str))) q (.lst ms4)) (by rw [upd_ne (Ne.symm d3), upd_ne (Ne.symm d1)]) (by rw [upd_ne (Ne.symm d4), upd_ne (Ne.symm d2)])
      have ag4 : ∀ z ∈ [p2, q2, pl2, sl2], (upd (upd W3 p (.lst ((ls ++ [l']).map V.str))) q (.lst ms4)) z = W z := fun z hz => by rw [upd_ne (dis z hz q (by simp)), upd_ne (dis z hz p (by simp))]; exact agW z hz
      have fr4 : ∀ r, H3 r = none → (upd (upd W3 p (.lst ((ls ++ [l']).map V.str))) q (.lst ms4)) r = none := fun r h0 => by
        have h := L3.fresh h0
        obtain ⟨ms9, hq9, _⟩ := LD3.hq
        rw [upd_ne (fun e => by rw [e, hq9] at h; cases h), upd_ne (fun e => by rw [e, LD3.hp] at h; cases h)]
        exact h
      have pw4 : PairW CL C c x p q m pl sl (ls ++ [l']) (ss ++ [some so']) (ss2 ++ [some so2]) o' o3 M4 (upd (upd W3 p (.lst ((ls ++ [l']).map V.str))) q (.lst ms4)) := ⟨LD4, LW4, pA.nd, lit1⟩
      have ends := ends_same LD4.c.ends LW4.c.ends
      have nls : decide (ls = ls ++ [l']) = false := decide_eq_false fun e => by have := congrArg List.length e; simp at this
      have s34 := s3.trans s4
      revert L4 pw4 ag4 fr4
      generalize upd (upd W3 p (.lst ((ls ++ [l']).map V.str))) q (.lst ms4) = W4
      intro L4 ag4 fr4 pw4
      refine ⟨fun w4 f r4 => ?_, fun w4 en f r4 => ?_, fun w4 s' es' a r h0 m0 hr ha => ?_⟩
      · obtain ⟨r5, r6⟩ := last_sq r4
        rw [if_pos (by omega)] at r3
        exact done s34 L4 pw4 ag4 (Mon.mono wth_m r5) (.inl (Mon.mono (R := Dd K) (s4.trans wth_m) r3)) rfl fit_sameT (by rw [nls]; decide +kernel) r6 (.inr ⟨.bool true, .inl (.bl true), kit_not (by show "bool" ≠ "list"; decide)⟩)
      · obtain ⟨r5, r6⟩ := last_sq r4
        rw [if_neg (by omega), ends.1.mp en] at r3
        exact done s34 L4 pw4 ag4 (Mon.mono wth_m r5) (.inl (Mon.mono (R := Dd K) (s4.trans wth_m) r3)) rfl fit_toldN (by rw [nls]; decide +kernel) r6 (.inr ⟨.none, .inl .non, kit_not (by show "NoneType" ≠ "list"; decide)⟩)
      · obtain ⟨s3', e3⟩ : ∃ s3', o3 = some s3' := by
          cases e : o3 with
          | none => rw [ends.1.mpr e] at es'; cases es'
          | some s3' => exact ⟨s3', rfl⟩
        have i3 := ends.2 s' s3' es' e3
        rw [if_neg (by omega), e3] at r3
        have r3 : Dd K (.tuple [.str "told", .list ((putLw c.names so2 s3' l').map .str)]) M3 dv := r3
        rw [putLw_eq (so := so') (s' := s') iff i3] at r3
        have wr := fr4 r h0
        have nr : ∀ z ∈ [p, q, pl, sl] ++ [p2, q2, pl2, sl2], z ≠ r := fun z hz e => by
          rcases List.mem_append.mp hz with hz | hz
          · obtain ⟨vs, hv⟩ := pw4.own z hz
            rw [e, wr] at hv
            cases hv
          · obtain ⟨vs, hv⟩ := own2 z hz
            rw [← ag4 z hz, e, wr] at hv
            cases hv
        have L5 := L4.add m0 (by rw [cut_on (L3.at_.fresh h0)]; exact hr)
        have nn : c.names.length ≤ 500 := ck.good.nm.n
        have hn : (putL c.names so' s' l').length ≤ 2 * c.names.length := flat_le fun x _ => List.length_filter_le _ _
        exact done s34 L5 (pw4.mono (Same.refl _) fun z hz => upd_ne (nr z (List.mem_append_left _ hz))) (fun z hz => by rw [upd_ne (nr z (List.mem_append_right _ hz))]; exact ag4 z hz)
          (.inl (dd_tup (wth_m _ _ ha) (.cons (.str _) (.cons (dd_strs ⟨r, _, rfl, L5.w_w upd_same, pd_of_tx _⟩) .nil)))) (.inl (Mon.mono (R := Dd K) (s4.trans wth_m) r3)) rfl (fit_toldX ck.good.nm) (by rw [nls]; decide +kernel) ⟨[.str "told"], .inr ⟨a, _, rfl, .inl (.inl ha), pd_eqv _⟩⟩ (.inl ⟨r, _, rfl, upd_same, by rw [List.length_map]; omega, fun z => nr r z rfl⟩)
end
end My

set_option Elab.async false
set_option linter.all false
set_option maxRecDepth 100000
set_option maxHeartbeats 8000000
set_option pp.maxSteps 900
namespace My
open PySem PySem.Spec PyProof.Rows L2 L3
open L3.Strm
def pickT (K : PySem.W.Frag) : TS := tIfS (tTest (tOp (rEqP K false) (tCall (sp__law_draw K) [] E0 (tCons (tVar 1) (tCons (tC (.int 8)) tNil))) (tC (.int 0)))) (tAsg (tCall (sp_pickG K EqV) [] E0 (tCons (tVar 1) (tCons (tOp (rAddA K) (tDGet (tVar 3) (tC (.str "helpers"))) (tLst (tCons (tCall (sp__law_oddV K) [] E0 (tCons (tVar 1) (tCons (tDGet (tVar 3) (tC (.str "signs"))) tNil))) tNil))) tNil))) (gName 11)) tNext
def copyT (K : PySem.W.Frag) (CL C : Addr) : TS := tPar 12 13 (tCons (tMeth CL "copy" (sp_Led_copy K CL C) [] E0 (tVar 4) tNil) (tCons (tFrz (tDisp [(tC (.str "code"), tVar 3), (tC (.str "put"), tCB (rLstOf K) (tCons (tDGet (tVar 7) (tC (.str "put"))) tNil)), (tC (.str "so"), tCB (rLstOf K) (tCons (tDGet (tVar 7) (tC (.str "so"))) tNil))])) tNil))
def deedT (K : PySem.W.Frag) (CL C : Addr) : TS := tSeq (tPar 10 11 (tCons (tCall (sp__law_draw K) [] E0 (tCons (tVar 1) (tCons (tC (.int 6)) tNil))) (tCons (tCall (sp__law_some_sign K) [] E0 (tCons (tVar 1) (tCons (tVar 7) tNil))) tNil))) (tSeq (pickT K) (tSeq (copyT K CL C) (actT K CL C)))
section
variable {CL C : Addr} {c : CodeD} {x p q pl sl : Addr} {m cv : V} {ls : List Str} {ss ss2 : List (Option (List Str))} {o o2 : Option (List Str)} {S : Strm} {M W H : Hp} {k : Nat} {K : PySem.W.Frag} {D : Ends}
theorem deed {a0 a2 a5 a6 a8 a9 a10 a11 a12 a13 a14 : Option V} (ck : CodeK c) (L : LW S M W H (k + 7)) (pw : PairW CL C c x p q m pl sl ls ss ss2 o o2 M W) (rc : LawR c M cv)
    (fin : ∀ x p q m pl sl ls ss ss2 o o2 a8 a9 a10 a11 a12 a13 a14 M' W' H', Same M M' → LW S M' W' H' k → PairW CL C c x p q m pl sl ls ss ss2 o o2 M' W' → D.nx [a0, some (.ref S.a), a2, some cv, some (.ref x), a5, a6, some m, a8, a9, a10, a11, a12, a13, a14] H') :
    deedT K CL C D [a0, some (.ref S.a), a2, some cv, some (.ref x), a5, a6, some m, a8, a9, a10, a11, a12, a13, a14] H := by
  -- the way, a sign
  refine q_par2 (z_V (S := S) (k := k + 6) (c := 1) (P := Ex (fun n : Nat => It' (n : Nat)) fun n => n < 6) L.mh L.at_ ((gs_draw (K := K) (n := 6) rfl (gv_c rfl) (by decide) (by decide)).is fun M v ⟨z, hz, r⟩ => ⟨z.toNat, by omega, by show v = .int _; rw [show v = _ from r]; congr 1; omega⟩) fun v1 M1 H1 g1 a1 ⟨way, hway, r1⟩ =>
    z_V (S := S) (k := k + 4) (c := 2) (P := Ex Tx fun l => l ∈ litsOf c.signs) g1.mh a1 (gs_call1 (S := S) (R1 := MRl) (pre := fun a => NmL a.1.signs ∧ 0 < a.1.signs.length) (cs := fun _ => 2) (R := fun a => Ex Tx fun l => l ∈ litsOf a.1.signs) (x := (c, pl, sl)) rfl (gv_var (i := 7) rfl (Mono.mono g1.mm pw.law.i)) ⟨ck.sg, ck.s1⟩) fun v2 M2 H2 g2 a2 ⟨l, hl, r2⟩ => ⟨_, _, rfl, ?_⟩)
  cases (show v1 = _ from r1)
  cases (show v2 = _ from r2)
  have s02 := g1.mm.trans g2.mm
  have L2 : LW S M2 W H2 (k + 4) := (L.step g1 a1).step g2 a2
  have pw2 := pw.mono s02 (W' := W) fun _ _ => rfl
  have rc2 : LawR c M2 cv := Mono.mono s02 rc
  clear g1 g2 a1 a2
  have X := pw2.ledOk ck
  have nn : c.names.length ≤ 500 := ck.good.nm.n
  have nms : c.names.length = c.signs.length + c.helpers.length := List.length_append
  -- copied, done
  have cont : ∀ w t M3 H3, Same M2 M3 → ThingOk t → OddR K M2 t M3 w → LW S M3 W H3 (k + 1) → tSeq (copyT K CL C) (actT K CL C) D [a0, some (.ref S.a), a2, some cv, some (.ref x), a5, a6, some m, a8, a9, some (.int (way : Nat)), some w, a12, a13, a14] H3 := fun w t M3 H3 s23 tk rt L3 => by
    refine q_par2 (w_copy L3 s23 pw2.led X rfl fun x2 p2 q2 dx2 vc ms M4 H4 s4 L4 hx2 rvc pdm npq wp2 wq2 => ?_)
    have n1 : ∀ z ∈ [p, q, pl, sl], z ≠ p2 ∧ z ≠ q2 := fun z hz => by
      obtain ⟨vs, hv⟩ := pw2.own z hz
      exact ⟨fun e => (by rw [e, wp2] at hv; cases hv), fun e => (by rw [e, wq2] at hv; cases hv)⟩
    have a4 : ∀ z ∈ [p, q, pl, sl], (upd (upd W p2 (.lst (ls.map V.str))) q2 (.lst ms)) z = W z := fun z hz => by rw [upd_ne (n1 z hz).2, upd_ne (n1 z hz).1]
    have pw4 := pw2.mono (Same.refl _) a4
    have hp4 : (upd (upd W p2 (.lst (ls.map V.str))) q2 (.lst ms)) p2 = some (.lst (ls.map V.str)) := by rw [upd_ne npq, upd_same]
    have hq4 : (upd (upd W p2 (.lst (ls.map V.str))) q2 (.lst ms)) q2 = some (.lst ms) := upd_same
    revert L4 pw4 hp4 hq4
    clear a4
    generalize upd (upd W p2 (.lst (ls.map V.str))) q2 (.lst ms) = W4
    intro L4 pw4 hp4 hq4
    refine w_ahead (cv := cv) L4 (s23.trans s4) pw4.law rfl rfl fun y ob pl2 sl2 ns M5 H5 s5 L5 hy pdn npl wpl wsl => ⟨_, _, rfl, ?_⟩
    have n3 : ∀ z, (∃ vs, W4 z = some (.lst vs)) → z ≠ pl2 ∧ z ≠ sl2 := fun z ⟨vs, hv⟩ => ⟨fun e => (by rw [e, wpl] at hv; cases hv), fun e => (by rw [e, wsl] at hv; cases hv)⟩
    have n2 : ∀ z ∈ [p, q, pl, sl], z ≠ pl2 ∧ z ≠ sl2 := fun z hz => n3 z (pw4.own z hz)
    have np2 := n3 p2 ⟨_, hp4⟩
    have nq2 := n3 q2 ⟨_, hq4⟩
    have pw5 := pw4.mono (Same.refl _) (W' := upd (upd W4 pl2 (.lst (ls.map V.str))) sl2 (.lst ns)) fun z hz => by rw [upd_ne (n2 z hz).2, upd_ne (n2 z hz).1]
    have hp5 : (upd (upd W4 pl2 (.lst (ls.map V.str))) sl2 (.lst ns)) p2 = some (.lst (ls.map V.str)) := by rw [upd_ne np2.2, upd_ne np2.1]; exact hp4
    have hq5 : (upd (upd W4 pl2 (.lst (ls.map V.str))) sl2 (.lst ns)) q2 = some (.lst ms) := by rw [upd_ne nq2.2, upd_ne nq2.1]; exact hq4
    have hpl5 : (upd (upd W4 pl2 (.lst (ls.map V.str))) sl2 (.lst ns)) pl2 = some (.lst (ls.map V.str)) := by rw [upd_ne npl, upd_same]
    have hsl5 : (upd (upd W4 pl2 (.lst (ls.map V.str))) sl2 (.lst ns)) sl2 = some (.lst ns) := upd_same
    revert L5 pw5 hp5 hq5 hpl5 hsl5
    generalize upd (upd W4 pl2 (.lst (ls.map V.str))) sl2 (.lst ns) = W5
    intro L5 pw5 hp5 hq5 hpl5 hsl5
    have s25 := (s23.trans s4).trans s5
    refine deed_act (way := way) (t := t) (x2 := x2) (p2 := p2) (q2 := q2) (y2 := y) (pl2 := pl2) (sl2 := sl2) ck L5 s25 pw5 (fun B W' sB hbx hby ag => ?_) (s5 _ _ hx2) hy (fun _ e => by cases e) (fun _ e => by cases e) (fun z hz z' hz' e => ?_) (fun z hz => ?_) tk (Mon.mono (s4.trans s5) rt) (by omega) fun x p q m pl sl ls ss ss2 o o2 a8 a9 a12 a13 a14 M' W' H' s' L' pw' => fin x p q m pl sl ls ss ss2 o o2 a8 a9 _ _ a12 a13 a14 M' W' H' (s02.trans s') L' pw'
    · refine ⟨⟨⟨dx2, vc, hbx, Mon.mono sB rvc⟩, npq, by rw [ag p2 (by simp)]; exact hp5, ⟨ms, by rw [ag q2 (by simp)]; exact hq5, Pd.mono (R := OpR' DcF) sB pdm⟩, pw5.led.c⟩, ⟨⟨y, ob, cv, rfl, hby, Mono.mono sB rc2⟩, npl, by rw [ag pl2 (by simp)]; exact hpl5, ⟨ns, by rw [ag sl2 (by simp)]; exact hsl5, Pd.mono (R := OpR' (LiR Tx)) sB pdn⟩, pw5.law.c⟩, ⟨np2.1, np2.2, nq2.1, nq2.2⟩, pw5.lit⟩
    · have h1 := n1 z' hz'
      have h2 := n2 z' hz'
      simp only [List.mem_cons, List.not_mem_nil, or_false] at hz
      rcases hz with rfl | rfl | rfl | rfl
      · exact h1.1 e.symm
      · exact h1.2 e.symm
      · exact h2.1 e.symm
      · exact h2.2 e.symm
    · simp only [List.mem_cons, List.not_mem_nil, or_false] at hz
      rcases hz with rfl | rfl | rfl | rfl
      · exact ⟨_, hp5⟩
      · exact ⟨_, hq5⟩
      · exact ⟨_, hpl5⟩
      · exact ⟨_, hsl5⟩
  -- at times another thing
  refine lw_ifS (D := { D with nx := (tSeq (copyT K CL C) (actT K CL C)) D }) (k := k + 3) (c := 1) L2 (gts_zero (K := K) rfl (gv_c rfl) (by decide) (by decide)) (fun _ M3 H3 s3 L3 => ?_) fun _ M3 H3 s3 L3 => ?_
  · refine s_asgS (gs_pickP (K := K) (R := OddR K M2) (good := fun zs => ∃ ys, (∃ d, d ∈ oddA c.signs ∧ ys = [d]) ∧ zs = c.helpers.map PyData.str ++ ys) (c := 1) rfl (gs_addP (xs := c.helpers.map PyData.str) (gv_is (gv_cH (gv_var (i := 3) rfl (Mono.mono s3 rc2))) fun M v ⟨a, vs, e, ha, pd⟩ => ⟨a, vs, e, ha, pd_to (fun x v hv => ⟨by rw [show v = _ from hv]; exact .inl (.str x), fun z => absurd z (by show "str" ≠ "list"; decide)⟩) pd⟩) (gs_lst1 (gs_odd s3 rfl (gv_cS (gv_var (i := 3) rfl (Mono.mono s3 rc2))) ck.sg)) fun ys ⟨d, _, e⟩ => by
        rw [e, List.length_map]
        exact szM (by show c.helpers.length + 1 ≤ _; omega)) (fun xs ⟨ys, ⟨d, _, e⟩, e2⟩ => by
        rw [e2, e, List.length_append, List.length_map, List.length_singleton]
        omega) H3 (k + 1) L3.mh L3.at_ _ fun w M4 H4 g4 a4 ⟨t, ⟨xs, ⟨ys, ⟨d, hd, e⟩, e2⟩, ht⟩, rt⟩ => ?_)
    subst e2 e
    refine cont w t M4 H4 (s3.trans g4.mm) ?_ rt (L3.step g4 a4)
    rcases List.mem_append.mp ht with ht | ht
    · obtain ⟨n, hn, rfl⟩ := List.mem_map.mp ht
      exact thing_lit ck.good.nm ⟨n, List.mem_append_right _ hn, .inl rfl⟩
    · rw [List.mem_singleton.mp ht]
      exact thing_odd ck.sg d hd
  · exact cont (.str l) (.str l) M3 H3 s3 (thing_lit ck.sg (mem_litsOf.mp hl)) ⟨.inl (.str l), fun z => absurd z (by show "str" ≠ "list"; decide)⟩ (L3.le (by omega))
end
end My

set_option Elab.async false
set_option linter.all false
set_option maxRecDepth 100000
set_option maxHeartbeats 8000000
set_option pp.maxSteps 900
namespace My
open PySem PySem.Spec PyProof.Rows L2 L3
open L3.Strm
section
variable {K : PySem.W.Frag} {S : Strm} {M W H : Hp} {σ : Sl} {D : Ends} {tb tz : TS} {CL C : Addr} {te : TE}
/-- a loop beside lists of ours -/
theorem lw_for {α : Type} {R : Rl α} {wi : TI} {g : TG} {U : α → Hp → Sl → Sl → Prop} {xs : List α} (cost : Nat → Nat) (J : Hp → Hp → Sl → Prop) (hJ : ∀ M M' W σ, Same M M' → J M W σ → J M' W σ) (L : LW S M W H (cost 0)) (hsrc : GvI wi σ M xs R) (htg : TgOk g R U) (h0 : J M W σ)
    (hs : ∀ i x σ' M' W' H' σ2 (nx : Sl → Hp → Prop), (∀ M2 W2 H2 σ3, Same M' M2 → J M2 W2 σ3 → LW S M2 W2 H2 (cost (i + 1)) → nx σ3 H2) → xs[i]? = some x → Same M M' → J M' W' σ' → LW S M' W' H' (cost i) → U x M' σ' σ2 → tb { D with nx := nx, ct := nx, bk := tz D } σ2 H')
    (hd : ∀ σ' M' W' H', Same M M' → J M' W' σ' → LW S M' W' H' (cost xs.length) → tz D σ' H') : tSeq (tFor wi g tb) tz D σ H := by
  refine z_for (S := S) (k := cost 0) (c := 0) (G := (· = xs)) L.mh L.at_ hsrc.s htg (fun ys M1 i σ' M' H' => Same M1 M' ∧ ∃ W', J M' W' σ' ∧ LW S M' W' H' (cost i)) (fun ys M1 H1 e g a => ?_) (fun ys M1 i σ' M' H' ⟨s, _, _, l⟩ => ⟨s, l.mh, l.at_.le (Nat.zero_le _)⟩) ?_ ?_
  · exact ⟨Same.refl _, W, hJ _ _ _ _ g.mm h0, L.step g a⟩
  · rintro ys M1 i x σ' M' H' M2 H2 σ2 rfl sM hx ⟨s1, W', j1, l1⟩ g hU
    exact hs i x σ' M2 W' H2 σ2 _ (fun M3 W3 H3 σ3 s3 j3 l3 => ⟨M3, (s1.trans g.mm).trans s3, W3, j3, l3⟩) hx ((sM.trans s1).trans g.mm) (hJ _ _ _ _ g.mm j1) (l1.plain g) hU
  · rintro ys M1 σ' M' H' rfl sM ⟨s1, W', j1, l1⟩
    exact hd σ' M' W' H' (sM.trans s1) j1 l1
/-- somebody new, all of him known -/
theorem gv_mkLedK {c : CodeD} (h : Gv te σ M (CodeR C c)) (X0 : Ctx c.names c.clauses []) (hw : ChW c.clauses) : Gv (tMake CL (sp_Led_init K CL C) [] E0 (tCons te tNil)) σ M (fun M v => ∃ o, EndsOk c.names c.clauses [] o ∧ LedR CL C ⟨c, [], [], o⟩ M v) := fun H mh Q q =>
  h H mh _ fun vc M1 H1 g1 rc x dx nx ndx ne => ⟨c, M1, H1, x, dx, vc, rfl, (Gr.own g1.mh ndx).trans (.own (Gr.own g1.mh ndx).mh (by rw [upd_ne (Ne.symm ne)]; exact nx)), nx, g1.mh.free nx, upd_same, rc, X0, hw, fun o u p q2 M2 H2 g2 hx2 pq op oq e ru => ⟨rfl, by
    have G := g1.trans g2
    have g3 := G.freeze (g1.hh.free op.h0) op.m op.h
    have g4 := g3.freeze (g1.hh.free oq.h0) (by rw [upd_ne (Ne.symm pq)]; exact oq.m) oq.h
    have s : Same M2 (upd (upd M2 p (.lst [])) q2 (.lst [u])) := (same_new op.m).trans (same_new (by rw [upd_ne (Ne.symm pq)]; exact oq.m))
    exact q (.ref x) _ H2 g4 ⟨o, e, x, dx, vc, p, q2, [u], rfl, s _ _ hx2, Mon.mono (g2.mm.trans s) rc, by rw [upd_ne pq, upd_same]; rfl, upd_same, .cons (Mon.mono s ru) .nil⟩⟩⟩
end
theorem fit_codeG {c : CodeD} (g : Good c) (h1 : c.names.length ≤ 60) : FitD (codeD c) := by
  have nms : c.names.length = c.signs.length + c.helpers.length := List.length_append
  have a1 : SmW 2 (10 * c.signs.length + 10) (.list (c.signs.map .str)) := (sm_strs g.nm fun n hn => ⟨n, List.mem_append_left _ hn, .inl rfl⟩).lst
  have a2 : SmW 2 (10 * c.helpers.length + 10) (.list (c.helpers.map .str)) := (sm_strs g.nm fun n hn => ⟨n, List.mem_append_right _ hn, .inl rfl⟩).lst
  have a3 : SmW 3 (602 * c.clauses.length + 10) (.list (c.clauses.map fun d => .tuple (d.map .str))) := (sm_tupsA g.nm fun x hx => ⟨Nat.le_trans (lits_len (g.lits x hx) g.nm) h1, fun l hl => (g.lits x hx).of l hl⟩).lst
  have := g.few
  have h := (SmA.lst (.cons (a1.up (k' := 3) (by decide) (Nat.le_refl _)) (.cons (a2.up (k' := 3) (by decide) (Nat.le_refl _)) (.cons a3 .nil)))).fit (by decide) (by omega)
  exact h
/-- nothing, and a clause without literals -/
theorem code00 : Ctx (mkCode [] [] []).names (mkCode [] [] []).clauses [] ∧ ChW (mkCode [] [] []).clauses ∧ CodeOk [] [] [] :=
  ⟨⟨⟨List.nodup_nil, (fun _ h => by cases h), by decide⟩, (fun _ h => by cases h), ⟨.nil, fun _ h => by cases h⟩⟩, ⟨(fun _ h => by cases h), by decide, by decide⟩, ⟨⟨List.nodup_nil, (fun _ h => by cases h), by decide⟩, ⟨List.nodup_nil, (fun _ h => by cases h), by decide⟩, by decide, (fun _ h => by cases h), by decide⟩⟩
theorem code01 : Ctx (mkCode [] [] [[]]).names (mkCode [] [] [[]]).clauses [] ∧ ChW (mkCode [] [] [[]]).clauses ∧ CodeOk [] [] [[]] ∧ Dead (mkCode [] [] [[]]).clauses [] := by
  have e : (mkCode [] [] [[]]).clauses = [[]] := by decide +kernel
  rw [e]
  exact ⟨⟨⟨List.nodup_nil, (fun _ h => by cases h), by decide⟩, (fun x h => by rw [List.mem_singleton.mp h]; exact ⟨.nil, fun _ h => by cases h⟩), ⟨.nil, fun _ h => by cases h⟩⟩, ⟨(fun x h => by rw [List.mem_singleton.mp h]; exact ⟨by decide, fun _ h => by cases h⟩), by decide, by decide⟩, ⟨⟨List.nodup_nil, (fun _ h => by cases h), by decide⟩, ⟨List.nodup_nil, (fun _ h => by cases h), by decide⟩, by decide, (fun x h => by rw [List.mem_singleton.mp h]; exact ⟨rfl, by decide, fun _ h => by cases h⟩), by decide⟩, ⟨[], by simp, fun _ h => by cases h⟩⟩
section
variable {P : Program} {w : World} {K : PySem.W.Frag} {mg : Str → Option Value} {base : Heap}
abbrev s_law : Stmt := topS 55
theorem sc_law : FnScope ["_law_script", "_law_stream", "_law_turn", "_law_c", "_law_led", "_law_k", "_law_code_here", "_law_m", "_law_found", "_law_told", "_law_way", "_law_thing", "_law_copied", "_law_ahead", "_law_due_here"] ["_law_script"] (defScope s_law) := ⟨rfl, rfl, rfl, by decide +kernel, rfl, by decide +kernel, by decide +kernel⟩
def sp_law (K : PySem.W.Frag) : Sp := fun vs H Q _ => ∃ (ns : List Int) (M : Hp) (v : V), vs = [v] ∧ Same M H ∧ SqR K It' ns M v ∧ ∀ H', Q (.bl true) H'
theorem ok_law {f CL C : Addr} {fd : FuncData} {dv : V} (F : Fun K "law" "law" s_law f fd) (T : Gc mg) (hdv : ∀ M, SqR K Tx [] M dv) (NEL : NeObj K CL)
    (c__law_code : Cal P w K mg base 5 "_law_code" ["_law_stream", "_law_signs", "_law_helpers", "_law_many"] (sp__law_code K)) (c__law_begin : Cal P w K mg base 3 "_law_begin" ["_law_c"] (sp__law_begin K)) (c__law_made : Cal P w K mg base 7 "_law_made" ["_law_c"] (sp__law_made K C)) (k_Led : Mak P w K mg base 4 "Led" CL ["self", "code"] (sp_Led_init K CL C)) (d_Code : MakD P w K mg base 5 "Code" C ["self", "signs", "clauses", "helpers"] [dv] (sp_Code_init K C))
    (c__law_some_sign : Cal P w K mg base 3 "_law_some_sign" ["_law_stream", "_law_m"] (sp__law_some_sign K)) (c__law_draw : Cal P w K mg base 1 "_law_draw" ["_law_stream", "_law_many"] (sp__law_draw K)) (c__law_pick : Cal P w K mg base 2 "_law_pick" ["_law_stream", "_law_things"] (sp_pickG K EqV)) (c__law_odd : Cal P w K mg base 3 "_law_odd" ["_law_stream", "_law_names_here"] (sp__law_oddV K))
    (m_copy : Met P w K mg base 6 CL "copy" ["self"] (sp_Led_copy K CL C)) (c__law_due : Cal P w K mg base 4 "_law_due" ["_law_m", "_law_thing"] (sp__law_due K)) (c__law_did : Cal P w K mg base 7 "_law_did" ["_law_led", "_law_way", "_law_thing"] (sp__law_did K CL C)) (c__law_same : CalG P w K mg base 1 "_law_same" ["_law_found", "_law_due_here"] (sp__law_sameT K)) (c__law_stands : CalG P w K mg base 4 "_law_stands" ["_law_led", "_law_m"] (sp__law_stands K CL C))
    (oL_eq : OwnSp P w K mg base 6 CL "__eq__" ["self", "other"] (sp_Led_eq K CL C)) (m_choices : Met P w K mg base 1 CL "choices" ["self"] (sp_Led_choices K CL C)) (m_drawn : Met P w K mg base 3 CL "drawn" ["self"] (sp_Led_drawn K CL C)) (m_is_dead : Met P w K mg base 1 CL "is_dead" ["self"] (sp_Led_is_dead K CL C)) (c__law_is_twin : CalG P w K mg base 9 "_law_is_twin" ["_law_stream", "_law_led", "_law_code_here", "_law_m"] (sp__law_is_twin K CL C)) : FnG P w K mg base CX0 10 f fd ["_law_script"] (sp_law K) := by
  refine fun_okG F sc_law (fun vs H Q E h => ?_) (fun cdv A outer s H vs Q E hgu hr h => ?_)
  · obtain ⟨ns, M, v, rfl, _⟩ := h
    rfl
  · obtain ⟨cells, M, v, rfl, mh, r1, q⟩ := h
    have hu := hr.units
    have hgu : (A.deeper (envOfC "law" (defScope s_law) s.heap.objs.size f cdv)).guards = some [] := hgu
    refine ⟨_, (pss_cons (ps_set (i := 1) sc_law.nd rfl (by first | exact .inl rfl | exact .inr rfl) (pe_lst (pa_cons (pe_callTy call_lstA (by rfl) T.list boot_list (pa_cons (pv 0) pa_nil)) (pa_cons pe_int (pa_cons pe_int (pa_cons pe_int pa_nil))))))
      (pss_cons (ps_for PassesOwn.never (by rfl) (pi_range1 (by rfl) T.range (pa_cons pe_int pa_nil)) (pg_name (i := 2) sc_law.nd rfl (by first | exact .inl rfl | exact .inr rfl)) (pss_cons (ps_set (i := 3) sc_law.nd rfl (by first | exact .inl rfl | exact .inr rfl) (pe_f c__law_code (hr.mono (by decide)) (pa_cons (pv 1) (pa_cons pe_int (pa_cons pe_int (pa_cons pe_int pa_nil))))))
      (pss_cons (ps_par (i := 6) (j := 7) (by rfl) sc_law.nd rfl rfl (by decide) rfl rfl (pa_cons (pe_f c__law_made (hr.mono (by decide)) (pa_cons (pv 3) pa_nil)) (pa_cons (pe_f c__law_begin (hr.mono (by decide)) (pa_cons (pv 3) pa_nil)) pa_nil)) (by rfl))
      (pss_cons (ps_set (i := 4) sc_law.nd rfl (by first | exact .inl rfl | exact .inr rfl) (pe_mk k_Led (hr.mono (by decide)) (pa_cons (pv 6) pa_nil)))
      (pss_cons (ps_for PassesOwn.never (by rfl) (pi_range1 (by rfl) T.range (pa_cons pe_int pa_nil)) (pg_name (i := 5) sc_law.nd rfl (by first | exact .inl rfl | exact .inr rfl)) (pss_cons (ps_par (i := 10) (j := 11) (by rfl) sc_law.nd rfl rfl (by decide) rfl rfl (pa_cons (pe_f c__law_draw (hr.mono (by decide)) (pa_cons (pv 1) (pa_cons pe_int pa_nil))) (pa_cons (pe_f c__law_some_sign (hr.mono (by decide)) (pa_cons (pv 1) (pa_cons (pv 7) pa_nil))) pa_nil)) (by rfl))
      (pss_cons (ps_if (pt_cmpR (op_eqP hu) (pe_f c__law_draw (hr.mono (by decide)) (pa_cons (pv 1) (pa_cons pe_int pa_nil))) pe_int (nomark _)) (pss_one (ps_set (i := 11) sc_law.nd rfl (by first | exact .inl rfl | exact .inr rfl) (pe_f c__law_pick (hr.mono (by decide)) (pa_cons (pv 1) (pa_cons (pe_op op_addA (pe_dget (Nat.lt_of_le_of_lt (Nat.add_le_add_left (by decide) _) hu) (pv 3) pe_str (fun _ _ => rfl)) (pe_lst (pa_cons (pe_f c__law_odd (hr.mono (by decide)) (pa_cons (pv 1) (pa_cons (pe_dget (Nat.lt_of_le_of_lt (Nat.add_le_add_left (by decide) _) hu) (pv 3) pe_str (fun _ _ => rfl)) pa_nil))) pa_nil))) pa_nil))))) pss_nil)
      (pss_cons (ps_par (i := 12) (j := 13) (by rfl) sc_law.nd rfl rfl (by decide) rfl rfl (pa_cons (pe_m0 m_copy (hr.mono (by decide)) (pv 4)) (pa_cons (pe_frz (pe_disp (pps_cons pe_str (pv 3) (pps_cons pe_str (pe_callTy call_lstA (by rfl) T.list boot_list (pa_cons (pe_dget (Nat.lt_of_le_of_lt (Nat.add_le_add_left (by decide) _) hu) (pv 7) pe_str (fun _ _ => rfl)) pa_nil)) (pps_cons pe_str (pe_callTy call_lstA (by rfl) T.list boot_list (pa_cons (pe_dget (Nat.lt_of_le_of_lt (Nat.add_le_add_left (by decide) _) hu) (pv 7) pe_str (fun _ _ => rfl)) pa_nil)) pps_nil))) (by rfl) (by rfl) (by intro z; cases z) (by decide))) pa_nil)) (by rfl))
      (pss_cons (ps_if (pt_cmpR (op_eqP hu) (pv 10) pe_int (nomark _)) (pss_cons (ps_set (i := 14) sc_law.nd rfl (by first | exact .inl rfl | exact .inr rfl) (pe_tup (pa_cons pe_str pa_nil)))
      (pss_one (ps_if (pt_cmpR (op_neP hu) (pe_dget (Nat.lt_of_le_of_lt (Nat.add_le_add_left (by decide) _) hu) (pv 7) pe_str (fun _ _ => rfl)) (pe_lst pa_nil) (nomark _)) (pss_cons (ps_set (i := 14) sc_law.nd rfl (by first | exact .inl rfl | exact .inr rfl) (pe_tup (pa_cons pe_str (pa_cons (pe_bm0 PySem.F.plainAttrs_list PySem.F.slot_list_pop PySem.F.type_list_pop mt_pop (pe_dget (Nat.lt_of_le_of_lt (Nat.add_le_add_left (by decide) _) hu) (pv 7) pe_str (fun _ _ => rfl))) pa_nil))))
      (pss_one (ps_expr (pe_bm0 PySem.F.plainAttrs_list PySem.F.slot_list_pop PySem.F.type_list_pop mt_pop (pe_dget (Nat.lt_of_le_of_lt (Nat.add_le_add_left (by decide) _) hu) (pv 7) pe_str (fun _ _ => rfl)))))) pss_nil))) (pss_cons (ps_set (i := 14) sc_law.nd rfl (by first | exact .inl rfl | exact .inr rfl) (pe_f c__law_due (hr.mono (by decide)) (pa_cons (pv 7) (pa_cons (pv 11) pa_nil))))
      (pss_one (ps_set (i := 14) sc_law.nd rfl (by first | exact .inl rfl | exact .inr rfl) (pe_ifExp (PW.pt (pw_and (pt_cmpR op_gt (pv 10) pe_int (nomark _)) (pw_and1 (pt_cmpR (op_eqP hu) (pe_ix ix_X (pv 14) pe_int (fun _ _ => rfl)) pe_str (nomark _))))) (pe_tup (pa_cons pe_str (pa_cons pe_bl pa_nil))) (pv 14))))))
      (pss_cons (ps_set (i := 8) sc_law.nd rfl (by first | exact .inl rfl | exact .inr rfl) (pe_f c__law_did (hr.mono (by decide)) (pa_cons (pv 4) (pa_cons (pv 10) (pa_cons (pv 11) pa_nil)))))
      (pss_cons (ps_if (PW.pt (pw_or (pt_not (pt_val (pe_fG c__law_same hgu (hr.mono (by decide)) (pa_cons (pv 8) (pa_cons (pv 14) pa_nil))))) (pw_or1 (pt_not (pt_val (pe_fG c__law_stands hgu (hr.mono (by decide)) (pa_cons (pv 4) (pa_cons (pv 7) pa_nil)))))))) (pss_one (ps_ret pe_bl)) pss_nil)
      (pss_cons (ps_if (PW.pt (pw_or (pt_cmpR (op_neP hu) (pe_cmpR (op_eqO oL_eq (hr.mono (by decide))) (pv 12) (pv 4) (nomark _)) (pe_cmpR (op_niA hu) (pe_ix ix_X (pv 14) pe_int (fun _ _ => rfl)) (pe_tup (pa_cons pe_str (pa_cons pe_str pa_nil))) (by rfl)) (nomark _)) (pw_or1 (pt_cmpR (op_neP hu) (pe_cmpR (op_neO oL_eq NEL (hr.mono (by decide))) (pv 12) (pv 4) (nomark _)) (pe_cmpR (op_inA hu) (pe_ix ix_X (pv 14) pe_int (fun _ _ => rfl)) (pe_tup (pa_cons pe_str (pa_cons pe_str pa_nil))) (by rfl)) (nomark _))))) (pss_one (ps_ret pe_bl)) pss_nil)
      (pss_cons (ps_if (pt_not (pt_val (pe_fG c__law_stands hgu (hr.mono (by decide)) (pa_cons (pv 12) (pa_cons (pv 13) pa_nil))))) (pss_one (ps_ret pe_bl)) pss_nil)
      (pss_cons (ps_if (pt_cmpR (op_eqP hu) (pe_f c__law_draw (hr.mono (by decide)) (pa_cons (pv 1) (pa_cons pe_int pa_nil))) pe_int (nomark _)) (pss_one (ps_par (i := 4) (j := 7) (by rfl) sc_law.nd rfl rfl (by decide) rfl rfl (pa_cons (pv 12) (pa_cons (pv 13) pa_nil)) (by rfl))) pss_nil)
      (pss_cons (ps_for PassesOwn.never (by rfl) (pi_sq (pe_tup (pa_cons (pe_m0 m_choices (hr.mono (by decide)) (pv 4)) (pa_cons (pe_m0 m_drawn (hr.mono (by decide)) (pv 4)) (pa_cons (pe_ix ix_X (pv 8) (pe_un un_neg pe_int) (fun _ _ => rfl)) pa_nil))))) (pg_name (i := 9) sc_law.nd rfl (by first | exact .inl rfl | exact .inr rfl)) (pss_one (ps_if (pt_val (pe_callB call_isi (by rfl) T.isinstance boot_isinstance (pa_cons (pv 9) (pa_cons (pe_bltn (v := .ty "list") (u := .type "list") (by rfl) T.list (by decide +kernel) rfl) pa_nil)))) (pss_one (ps_expr (pe_bm PySem.F.plainAttrs_list PySem.F.slot_list_append PySem.F.type_list_append mt_append (pv 9) (pa_cons pe_str pa_nil)))) pss_nil)))
      (pss_one (ps_if (pt_not (pt_val (pe_fG c__law_stands hgu (hr.mono (by decide)) (pa_cons (pv 4) (pa_cons (pv 7) pa_nil))))) (pss_one (ps_ret pe_bl)) pss_nil)))))))))))))
      (pss_one (ps_if (pt_not (pt_val (pe_fG c__law_is_twin hgu (hr.mono (by decide)) (pa_cons (pv 1) (pa_cons (pv 4) (pa_cons (pv 6) (pa_cons (pv 7) pa_nil))))))) (pss_one (ps_ret pe_bl)) pss_nil)))))))
      (pss_one (ps_ret (pe_and (pe_cmpR (op_eqP hu) (pe_m0 m_drawn (hr.mono (by decide)) (pe_mk k_Led (hr.mono (by decide)) (pa_cons (pe_mkD d_Code (hr.mono (by decide)) (pa_cons (pe_lst pa_nil) (pa_cons (pe_lst pa_nil) pa_nil))) pa_nil))) (pe_lst pa_nil) (nomark _)) (pe_one (pe_m0 m_is_dead (hr.mono (by decide)) (pe_mk k_Led (hr.mono (by decide)) (pa_cons (pe_mkD d_Code (hr.mono (by decide)) (pa_cons (pe_lst pa_nil) (pa_cons (pe_lst (pa_cons (pe_lst pa_nil) pa_nil)) pa_nil))) pa_nil))))))))), ?_⟩
    -- the stream
    refine q_asgS (lst_in (a_L mh (gl_lstOf (K := K) (R1 := It') (gv_var rfl r1)) fun b vs M1 H1 g1 hb0 hbm hbw hpd => ⟨by show 4 ≤ sizeLine; decide, fun a na => ?_⟩))
    obtain ⟨S, rfl, rfl⟩ : ∃ S : Strm, S.a = a ∧ S.b = b := ⟨⟨a, b⟩, rfl, rfl⟩
    have hne : S.a ≠ S.b := fun e => by rw [e] at na; rw [hbw] at na; cases na
    have evs := pd_itv hpd
    have a0 : S.At 10000000 (upd H1 S.a (.lst [.ref S.b, .int 0, .int 0, .int 0])) := ⟨hne, cells, 0, 0, 0, upd_same, by rw [upd_ne (Ne.symm hne), hbw, evs], by decide, by decide, by decide, by decide, by decide⟩
    have m0 : Same M (S.cut (upd H1 S.a (.lst [.ref S.b, .int 0, .int 0, .int 0]))) := fun x o e => by
      have h1 := g1.hh _ _ (mh x o e)
      have n1 : x ≠ S.a := ne_of_none h1 na
      have n2 : x ≠ S.b := ne_of_none (mh x o e) hb0
      rw [cut_on (fun z => z.elim n1 n2), upd_ne n1]
      exact h1
    have L0 : LW S M (fun _ => none) (upd H1 S.a (.lst [.ref S.b, .int 0, .int 0, .int 0])) 10000000 := ⟨m0, a0, fun x o e => by cases e⟩
    clear a0 m0
    have L0 := L0.le (show (4 - 0) * 600 ≤ 10000000 by decide)
    revert L0
    generalize upd H1 S.a (.lst [.ref S.b, .int 0, .int 0, .int 0]) = H2
    intro L0
    -- four codes
    refine lw_for (S := S) (xs := List.range 4) (R := fun i : Nat => It' (i : Nat)) (fun i => (4 - i) * 600) (fun _ _ σ' => ∃ y2 y3 y4 y5 y6 y7 y8 y9 y10 y11 y12 y13 y14, σ' = [some v, some (.ref S.a), y2, y3, y4, y5, y6, y7, y8, y9, y10, y11, y12, y13, y14]) (fun _ _ _ _ _ h => h) L0 (gi_rng1 (n := 4) (gv_c rfl) (by decide)) tg_1 ⟨_, _, _, _, _, _, _, _, _, _, _, _, _, rfl⟩ ?_ ?_
    rotate_left
    · rintro σ' M2 W2 H2 _ _ L2
      have d0 : Gv (tMeth CL "drawn" (sp_Led_drawn K CL C) [] E0 (tMake CL (sp_Led_init K CL C) [] E0 (tCons (tMake C (sp_Code_init K C) [dv] E0 (tCons (tLst tNil) (tCons (tLst tNil) tNil))) tNil)) tNil) σ' M2 (LiR Tx []) := gv_is (gv_drawn (d := ⟨mkCode [] [] [], [], [], some []⟩) (gv_is (gv_mkLedK (gv_mkCodeD (K := K) (ss := []) (cs := []) hdv (gv_is (gv_nilL (R := Tx)) fun _ _ h => h.sq) (gv_is (gv_nilL (R := SqR K Tx)) fun _ _ h => h.sq) code00.2.2) code00.1 code00.2.1) fun M v ⟨o, e, r⟩ => by
        obtain ⟨so, rfl, hso⟩ := free_so (ns := (mkCode [] [] []).names) e
        have : so = [] := List.eq_nil_iff_forall_not_mem.mpr fun x hx => by cases (hso x).mp hx
        rw [this] at r
        exact r) ⟨code00.1.nm, (fun _ h => by cases h), code00.2.1, ⟨.nil, fun _ h => by cases h⟩, ends_some code00.1 (.init code00.1) (fun _ h => by cases h)⟩) fun M v h => h
      have d1 : Gv (tMeth CL "is_dead" (sp_Led_is_dead K CL C) [] E0 (tMake CL (sp_Led_init K CL C) [] E0 (tCons (tMake C (sp_Code_init K C) [dv] E0 (tCons (tLst tNil) (tCons (tLst (tCons (tLst tNil) tNil)) tNil))) tNil)) tNil) σ' M2 (Bl true) := gv_met1 (R1 := LedR CL C) (pre := fun _ => True) (R := fun d => Bl d.o.isNone) (x := (⟨mkCode [] [] [[]], [], [], none⟩ : LedD)) (insR_led (by decide +kernel) (by decide +kernel) (by decide +kernel)) (gv_is (gv_mkLedK (gv_mkCodeD (K := K) (ss := []) (cs := [[]]) hdv (gv_is (gv_nilL (R := Tx)) fun _ _ h => h.sq) (gv_is (gv_lstG (R := SqR K Tx) (xs := [[]]) (ga_rl (gv_is (gv_nilL (R := Tx)) fun _ _ h => h.sq) fun _ _ => ga_rl0) (by decide)) fun _ _ h => h.sq) code01.2.2.1) code01.1 code01.2.1) fun M v ⟨o, e, r⟩ => by
        cases o with
        | none => exact r
        | some so => exact absurd code01.2.2.2 e.1) trivial
      exact s_ret (P := Bl true) L2.m (gv_is (gv_andV (b := true) (c := true) (gv_is (gv_eq (K := K) (neg := false) (d := .list (([] : List Str).map .str)) (e := .list []) (gv_is d0 fun M v h => py_lst py_str _ _ _ h.lst) gv_nilD (by simp [PyData.depth, PyData.depthAll])) fun M v h => by
        rw [show v = _ from h]
        have := optD_eq (some []) []
        simp only [optD, List.map_nil] at this
        rw [List.map_nil, this]; rfl) fun _ => d1) fun M v h => h) fun z M' H' _ r => by
        rw [show z = _ from r]
        exact q _
    rintro i xi σ' M3 W3 H3 σ2 nx hnx hxi s3 ⟨y2, y3, y4, y5, y6, y7, y8, y9, y10, y11, y12, y13, y14, rfl⟩ L3 ⟨v2, r2, rfl⟩
    have hi : i < 4 := by have := (List.getElem?_eq_some_iff.mp hxi).1; rwa [List.length_range] at this
    have e3 : (4 - i) * 600 = (4 - (i + 1)) * 600 + 600 := by omega
    rw [e3] at L3
    revert L3 hnx
    generalize (4 - (i + 1)) * 600 = kb
    intro hnx L3
    -- the code
    refine ⟨.ref S.a, rfl, S, 5, 3, 9, M3, kb + 339, rfl, L3.mh, L3.at_.le (by show kb + 339 + (3 + 12 * (5 + 3) + 9 * (2 + 2 * (5 + 3))) ≤ _; omega), ⟨by decide, by decide, by decide⟩, fun c vlc M5 H5 g5 a5 ⟨good, n8, k10, s6, s1, h2⟩ rlc => ?_⟩
    have n8 : c.names.length ≤ 8 := n8
    have L5 : LW S M5 W3 H5 (kb + 339) := L3.step g5 a5
    have ck : CodeK c := ⟨good, by omega, s1⟩
    have X0 : Ctx c.names c.clauses [] := ⟨good.nm, good.lits, ⟨.nil, fun _ h => by cases h⟩⟩
    dsimp only
    refine q_par2 (gv_call1 (R1 := LawR) (pre := Good) (R := fun c => CodeR C c) (x := c) (gv_var (i := 3) rfl rlc) good H5 L5.m _ fun vc M6 H6 g6 rvc => ⟨vlc, rfl, c, M6, vlc, rfl, g6.mh, Mono.mono g6.mm rlc, X0, ck.w, fun m pl sl o0 u0 M7 H7 g7 rm plsl opl osl e7 ru7 => ⟨_, _, rfl, ?_⟩⟩)
    have L6 := L5.plain g6
    have L7 := ((L6.plain g7).add (p := pl) (us := []) opl.m (by rw [cut_on (L6.at_.fresh opl.h0)]; exact opl.h)).add (p := sl) (us := [u0]) osl.m (by rw [cut_on (L6.at_.fresh osl.h0)]; exact osl.h)
    have LA : LawW c m pl sl [] [] o0 M7 (upd (upd W3 pl (.lst [])) sl (.lst [u0])) := ⟨rm, plsl, by rw [upd_ne plsl, upd_same]; rfl, ⟨[u0], upd_same, .cons ru7 .nil⟩, .nil e7⟩
    have rvc7 : CodeR C c M7 vc := Mon.mono g7.mm rvc
    have rlc7 : LawR c M7 vlc := Mono.mono (g6.mm.trans g7.mm) rlc
    have s7 : Same M3 M7 := g5.mm.trans (g6.mm.trans g7.mm)
    clear L5 L6 g5 g6 g7 a5
    revert L7 LA
    generalize upd (upd W3 pl (.lst [])) sl (.lst [u0]) = W7
    intro L7 LA
    -- somebody led
    refine q_asgS (w_mkLed (good := (· = c)) (k := kb + 339) (cst := 0) L7 ((gv_is (gv_var (i := 6) rfl rvc7) fun M v h => ⟨c, rfl, h⟩).s) (fun c' e => e ▸ ⟨X0, ck.w⟩) fun c' x p q' o1 u1 M8 H8 ec s8 L8 LD wp wq => ?_)
    subst ec
    have n1 : ∀ z, (∃ vs, W7 z = some (.lst vs)) → z ≠ p ∧ z ≠ q' := fun z ⟨vs, hv⟩ => ⟨fun e => (by rw [e, wp] at hv; cases hv), fun e => (by rw [e, wq] at hv; cases hv)⟩
    have npl := n1 pl ⟨_, LA.hp⟩
    have nsl : sl ≠ p ∧ sl ≠ q' := by
      obtain ⟨ms, h, _⟩ := LA.hq
      exact n1 sl ⟨_, h⟩
    have PW : PairW CL C c' x p q' m pl sl [] [] [] o1 o0 M8 (upd (upd W7 p (.lst [])) q' (.lst [u1])) := ⟨LD, LA.mono s8 (by rw [upd_ne npl.2, upd_ne npl.1]) (by rw [upd_ne nsl.2, upd_ne nsl.1]), ⟨Ne.symm npl.1, Ne.symm nsl.1, Ne.symm npl.2, Ne.symm nsl.2⟩, X0.h⟩
    have rlc8 : LawR c' M8 vlc := Mono.mono s8 rlc7
    have rvc8 : CodeR C c' M8 vc := Mon.mono s8 rvc7
    have s78 := s7.trans s8
    clear LD LA L7 npl nsl n1 wp wq
    revert L8 PW
    generalize upd (upd W7 p (.lst [])) q' (.lst [u1]) = W8
    intro L8 PW
    -- forty deeds
    refine lw_for (S := S) (xs := List.range 40) (R := fun i : Nat => It' (i : Nat)) (fun i => (40 - i) * 7 + (kb + 12)) (fun M' W' σ' => ∃ x p q m pl sl ls ss ss2 o o2 y5 y8 y9 y10 y11 y12 y13 y14, PairW CL C c' x p q m pl sl ls ss ss2 o o2 M' W' ∧ σ' = [some v, some (.ref S.a), some v2, some vlc, some (.ref x), y5, some vc, some m, y8, y9, y10, y11, y12, y13, y14]) (fun M M' W' σ' s ⟨x, p, q, m, pl, sl, ls, ss, ss2, o, o2, y5, y8, y9, y10, y11, y12, y13, y14, h, e⟩ => ⟨x, p, q, m, pl, sl, ls, ss, ss2, o, o2, y5, y8, y9, y10, y11, y12, y13, y14, h.mono s fun _ _ => rfl, e⟩)
      (L8.le (by show (40 - 0) * 7 + (kb + 12) ≤ _; omega)) (gi_rng1 (n := 40) (gv_c rfl) (by decide)) tg_1 ⟨x, p, q', m, pl, sl, [], [], [], o1, o0, _, _, _, _, _, _, _, _, PW, rfl⟩ ?_ ?_
    · rintro j xj σ' M9 W9 H9 σ2 nx2 hnx2 hxj s9 ⟨x, p, q, m, pl, sl, ls, ss, ss2, o, o2, y5, y8, y9, y10, y11, y12, y13, y14, PW, rfl⟩ L9 ⟨v5, r5, rfl⟩
      have hj : j < 40 := by have := (List.getElem?_eq_some_iff.mp hxj).1; rwa [List.length_range] at this
      have e9 : (40 - j) * 7 + (kb + 12) = ((40 - (j + 1)) * 7 + (kb + 12)) + 7 := by omega
      rw [e9] at L9
      exact deed ck L9 PW (Mono.mono s9 rlc8) fun x p q m pl sl ls ss ss2 o o2 y8 y9 y10 y11 y12 y13 y14 M' W' H' s L PW => hnx2 M' W' H' _ s ⟨x, p, q, m, pl, sl, ls, ss, ss2, o, o2, _, _, _, _, _, _, _, _, PW, rfl⟩ L
    · rintro σ' M9 W9 H9 s9 ⟨x, p, q, m, pl, sl, ls, ss, ss2, o, o2, y5, y8, y9, y10, y11, y12, y13, y14, PW, rfl⟩ L9
      obtain ⟨ms, u, hms, hu, hpl⟩ := PW.law.all L9
      have L9 := L9.le (show kb + 12 ≤ (40 - (List.range 40).length) * 7 + (kb + 12) by omega)
      refine ⟨.ref S.a, rfl, .ref x, rfl, vc, rfl, m, rfl, ⟨S, ⟨c', ls, ss, o⟩, pl, sl, wth M9 W9, .ref x, vc, m, kb, rfl, L9.all, L9.at_, PW.led.all L9, Mon.mono (s9.trans wth_m) rvc8, hms.1, hpl, good, ck.n, PW.ledOk ck, PW.led.c.at_, fit_codeG good (show c'.names.length ≤ 60 by omega), fun H' sH aH => ⟨true, rfl, ?_⟩⟩⟩
      exact hnx M9 W9 H' _ (s78.trans s9) ⟨_, _, _, _, _, _, _, _, _, _, _, _, _, rfl⟩ (L9.back (Same.refl _) sH aH)
end
end My

set_option Elab.async false
set_option linter.all false
set_option maxRecDepth 100000
set_option maxHeartbeats 4000000
namespace My
open PySem PySem.Spec PyProof.Rows L2 L3
/-- a def of the text behind the top -/
structure At1 (K : PySem.W.Frag) (x : Str) (st : Stmt) (f : Addr) : Prop where
  ns : PySem.W.nsIn K mainGlobals x = some (some (.ref f))
  fn : ∃ fd, Fun K x x st f fd
/-- one that has a text for its default -/
structure AtD (K : PySem.W.Frag) (x : Str) (st : Stmt) (z : Str) (f : Addr) : Prop where
  ns : PySem.W.nsIn K mainGlobals x = some (some (.ref f))
  fn : ∃ fd, FunD K x x (defArgs st) (defBody st) (defScope st) [.str z] [] f fd
/-- a method of a class of the text -/
structure AtM (K : PySem.W.Frag) (C : Addr) (m q : Str) (st : Stmt) (f : Addr) : Prop where
  me : Meth K C m f
  fn : ∃ fd, Fun K m q st f fd
/-- a method with the default () -/
structure AtE (K : PySem.W.Frag) (C : Addr) (m q : Str) (st : Stmt) (e : Addr) (f : Addr) : Prop where
  me : Meth K C m f
  fn : ∃ fd, FunD K m q (defArgs st) (defBody st) (defScope st) [.ref e] [] f fd
/-- a class of the text -/
structure AtC (K : PySem.W.Frag) (x : Str) (C : Addr) : Prop where
  ns : PySem.W.nsIn K mainGlobals x = some (some (.ref C))
  cl : Cls K C
  mks : PySem.W.makesIn K C = true
  kc : PySem.W.keepIn K (.ref C) = true
abbrev s_BadLiteral_init : Stmt := inClass (topS 6) 0
theorem rai_BadLiteral {P : Program} {w : World} {K : PySem.W.Frag} {mg : Str → Option Value} {base : Heap} (gl : mg "BadLiteral" = some (.ref (He.ga K "BadLiteral"))) (F : SupF P K "BadLiteral" "BadLiteral.__init__" "literal" s_BadLiteral_init) : Rai P w K mg base 1 "BadLiteral" (He.ga K "BadLiteral") "literal" := by
  obtain ⟨fd, b, f⟩ := sup_ok (CX := CX0) (k := 0) (x := "literal") (sc := defScope s_BadLiteral_init) (args := defArgs s_BadLiteral_init) (w := w) (mg := mg) (base := base) F.S F.no (by decide) (by decide) (NdefX.nscope_by (by decide +kernel)) (by decide +kernel) ⟨_, rfl, rfl⟩ (fun env => ⟨_, rfl⟩) (fun kV doc pm an cdv ct cl us hl => match us, hl with | [_, _], _ => rfl)
  exact ⟨F.S.T, gl, _, fd, "literal", F.ini, F.ty, f, b⟩
abbrev s_IsSet_init : Stmt := inClass (topS 8) 0
theorem rai_IsSet {P : Program} {w : World} {K : PySem.W.Frag} {mg : Str → Option Value} {base : Heap} (gl : mg "IsSet" = some (.ref (He.ga K "IsSet"))) (F : SupF P K "IsSet" "IsSet.__init__" "name" s_IsSet_init) : Rai P w K mg base 1 "IsSet" (He.ga K "IsSet") "name" := by
  obtain ⟨fd, b, f⟩ := sup_ok (CX := CX0) (k := 0) (x := "name") (sc := defScope s_IsSet_init) (args := defArgs s_IsSet_init) (w := w) (mg := mg) (base := base) F.S F.no (by decide) (by decide) (NdefX.nscope_by (by decide +kernel)) (by decide +kernel) ⟨_, rfl, rfl⟩ (fun env => ⟨_, rfl⟩) (fun kV doc pm an cdv ct cl us hl => match us, hl with | [_, _], _ => rfl)
  exact ⟨F.S.T, gl, _, fd, "name", F.ini, F.ty, f, b⟩
theorem all_mk {l : PySem.W.OpenLaw} {w : World} {K : PySem.W.Frag} {h : Heap} {mg : Str → Option Value} {fa C CL f0 f1 f2 f3 f4 f5 f6 f7 f8 f9 f10 f11 f12 f13 f14 f15 f16 f17 f18 f19 f20 f21 f22 f23 f24 f25 f26 f27 f28 f29 f30 f31 f32 f33 f34 f35 f36 f37 g0 g1 g2 g3 g4 g5 g6 g7 g8 g9 g10 g11 g12 g13 g14 g15 g16 g17 e0 : Addr} {lt : Tok} {ed : Option Addr} {esl : Array (Option Value)} {en : Nat} (X : K.In h) (G : h.Ns mainGlobals mg) (hfa : mg "law" = some (.ref fa))
    (clCode : AtC K "Code" C)
    (clLed : AtC K "Led" CL)
    (d0 : At1 K "name_of" s_name_of f0)
    (d1 : At1 K "opposite" s_opposite f1)
    (d2 : At1 K "is_list" s_is_list f2)
    (d3 : At1 K "is_literal" s_is_literal f3)
    (d4 : At1 K "first_wrong" s_first_wrong f4)
    (d5 : At1 K "ascending" s_ascending f5)
    (d6 : At1 K "is_name" s_is_name f6)
    (d7 : At1 K "checked_names" s_checked_names f7)
    (d8 : At1 K "checked_clauses" s_checked_clauses f8)
    (d9 : At1 K "open_ones" s_open_ones f9)
    (d10 : At1 K "chase" s_chase f10)
    (d11 : At1 K "are_same" s_are_same f11)
    (d12 : At1 K "_law_draw" s__law_draw f12)
    (d13 : At1 K "_law_pick" s__law_pick f13)
    (d14 : At1 K "_law_mixed" s__law_mixed f14)
    (d15 : At1 K "_law_fresh" s__law_fresh f15)
    (d16 : At1 K "_law_names" s__law_names f16)
    (d17 : At1 K "_law_neg" s__law_neg f17)
    (d18 : At1 K "_law_bare" s__law_bare f18)
    (d19 : At1 K "_law_up" s__law_up f19)
    (d20 : At1 K "_law_literals" s__law_literals f20)
    (d21 : At1 K "_law_chase" s__law_chase f21)
    (d22 : At1 K "_law_sided" s__law_sided f22)
    (d23 : At1 K "_law_clause" s__law_clause f23)
    (d24 : At1 K "_law_once" s__law_once f24)
    (d25 : At1 K "_law_code" s__law_code f25)
    (d26 : At1 K "_law_made" s__law_made f26)
    (d27 : At1 K "_law_odd" s__law_odd f27)
    (d28 : At1 K "_law_begin" s__law_begin f28)
    (d29 : At1 K "_law_names_of" s__law_names_of f29)
    (d30 : At1 K "_law_put" s__law_put f30)
    (d31 : At1 K "_law_some_sign" s__law_some_sign f31)
    (d32 : At1 K "_law_same" s__law_same f32)
    (d33 : At1 K "_law_stands" s__law_stands f33)
    (d34 : At1 K "_law_is_twin" s__law_is_twin f34)
    (d35 : At1 K "_law_due" s__law_due f35)
    (d36 : At1 K "_law_did" s__law_did f36)
    (d37 : At1 K "law" s_law f37)
    (e1 : AtE K C "__init__" "Code.__init__" s_Code_init e0 g0)
    (e2 : AtM K C "signs" "Code.signs" s_Code_signs g1)
    (e3 : AtM K C "helpers" "Code.helpers" s_Code_helpers g2)
    (e4 : AtM K C "clauses" "Code.clauses" s_Code_clauses g3)
    (e5 : AtM K C "__len__" "Code.__len__" s_Code_len g4)
    (e6 : AtM K C "__contains__" "Code.__contains__" s_Code_contains g5)
    (e7 : AtM K C "__eq__" "Code.__eq__" s_Code_eq g6)
    (e8 : AtM K CL "__init__" "Led.__init__" s_Led_init g7)
    (e9 : AtM K CL "is_dead" "Led.is_dead" s_Led_is_dead g8)
    (e10 : AtM K CL "put" "Led.put" s_Led_put g9)
    (e11 : AtM K CL "__iadd__" "Led.__iadd__" s_Led_iadd g10)
    (e12 : AtM K CL "undo" "Led.undo" s_Led_undo g11)
    (e13 : AtM K CL "choices" "Led.choices" s_Led_choices g12)
    (e14 : AtM K CL "drawn" "Led.drawn" s_Led_drawn g13)
    (e15 : AtM K CL "copy" "Led.copy" s_Led_copy g14)
    (e16 : AtM K CL "__len__" "Led.__len__" s_Led_len g15)
    (e17 : AtM K CL "__contains__" "Led.__contains__" s_Led_contains g16)
    (e18 : AtM K CL "__eq__" "Led.__eq__" s_Led_eq g17)
    (qCode0 : PySem.W.findIn K (.ref C) "sign_row" = some none)
    (qCode1 : PySem.W.findIn K (.ref C) "helper_row" = some none)
    (qCode2 : PySem.W.findIn K (.ref C) "names" = some none)
    (qCode3 : PySem.W.findIn K (.ref C) "clause_row" = some none)
    (qLed0 : PySem.W.findIn K (.ref CL) "kept" = some none)
    (qLed1 : PySem.W.findIn K (.ref CL) "put_row" = some none)
    (qLed2 : PySem.W.findIn K (.ref CL) "moments" = some none)
    (neCode : PySem.W.findIn K (.ref C) "__ne__" = some (some (.builtin "object.__ne__")))
    (obCode : PySem.W.subIn K (.ref C) (.type "object") = some true)
    (gcCode : PySem.W.findIn K (.ref C) "__class__" = some (some (.builtin "object.__class__")))
    (spCode : PySem.W.specialIn K (.builtin "object.__class__") "__get__" = some (some (.builtin "getset_descriptor.__get__")))
    (tkCode : PySem.W.takesIn K (.builtin "object.__class__") = some true)
    (mrCode : PySem.W.mroIn K C (.type "object") = some true)
    (neLed : PySem.W.findIn K (.ref CL) "__ne__" = some (some (.builtin "object.__ne__")))
    (obLed : PySem.W.subIn K (.ref CL) (.type "object") = some true)
    (gcLed : PySem.W.findIn K (.ref CL) "__class__" = some (some (.builtin "object.__class__")))
    (spLed : PySem.W.specialIn K (.builtin "object.__class__") "__get__" = some (some (.builtin "getset_descriptor.__get__")))
    (tkLed : PySem.W.takesIn K (.builtin "object.__class__") = some true)
    (mrLed : PySem.W.mroIn K CL (.type "object") = some true)
    (sfLed : PySem.W.selfFirst K CL = true)
    (oflLed : PySem.W.subIn K (.ref CL) (.type "list") = some false)
    (oftLed : PySem.W.subIn K (.ref CL) (.type "tuple") = some false)
    (ofdLed : PySem.W.subIn K (.ref CL) (.type "dict") = some false)
    (ofsLed : PySem.W.subIn K (.ref CL) (.type "str") = some false)
    (ofiLed : PySem.W.subIn K (.ref CL) (.type "int") = some false)
    (ofbLed : PySem.W.subIn K (.ref CL) (.type "bool") = some false)
    (ofnLed : PySem.W.subIn K (.ref CL) (.type "NoneType") = some false)
    (ofcLed : (PySem.W.clsIn K CL).isSome = true)
    (ofyLed : PySem.W.typeIn K (.ref CL) = some (.type "type"))
    (lE : K.lookup e0 = some ⟨.type "tuple", ed, .seq #[] en, esl⟩)
    (gL : PySem.W.nsIn K mainGlobals "LETTERS" = some (some (.str g_LETTERS lt)))
    (nfL : PySem.W.notFirst K CL (.ref C) = true)
    (kcL : PySem.W.kitOne K (.ref C) (.ref CL) = some false)
    (gxD : (He.Fa.glo "Dead").ok K = true)
    (kcD : PySem.W.keepIn K (.ref (He.ga K "Dead")) = true)
    (qxD : PySem.W.excIn K (He.ga K "Dead") PySem.HandSPX.veTail "ValueError.__new__" = true)
    (sbD : PySem.W.subIn K (.ref (He.ga K "Dead")) (.type "BaseException") = some true)
    (tyD : PySem.W.typeIn K (.ref (He.ga K "Dead")) = some (.type "type"))
    (gxN : (He.Fa.glo "NothingToUndo").ok K = true)
    (kcN : PySem.W.keepIn K (.ref (He.ga K "NothingToUndo")) = true)
    (qxN : PySem.W.excIn K (He.ga K "NothingToUndo") PySem.HandSPX.veTail "ValueError.__new__" = true)
    (sbN : PySem.W.subIn K (.ref (He.ga K "NothingToUndo")) (.type "BaseException") = some true)
    (tyN : PySem.W.typeIn K (.ref (He.ga K "NothingToUndo")) = some (.type "type"))
    (gx_BadLiteral : (He.Fa.glo "BadLiteral").ok K = true)
    (sx_BadLiteral : SupF l.prog K "BadLiteral" "BadLiteral.__init__" "literal" s_BadLiteral_init)
    (gx_IsSet : (He.Fa.glo "IsSet").ok K = true)
    (sx_IsSet : SupF l.prog K "IsSet" "IsSet.__init__" "name" s_IsSet_init)
    (ex_Dead_Dead : PySem.W.exmOne K (.ref (He.ga K "Dead")) (.ref (He.ga K "Dead")) = some true)
    (ex_BadLiteral_Dead : PySem.W.exmOne K (.ref (He.ga K "BadLiteral")) (.ref (He.ga K "Dead")) = some false)
    (ex_BadLiteral_BadLiteral : PySem.W.exmOne K (.ref (He.ga K "BadLiteral")) (.ref (He.ga K "BadLiteral")) = some true)
    (ex_IsSet_Dead : PySem.W.exmOne K (.ref (He.ga K "IsSet")) (.ref (He.ga K "Dead")) = some false)
    (ex_IsSet_BadLiteral : PySem.W.exmOne K (.ref (He.ga K "IsSet")) (.ref (He.ga K "BadLiteral")) = some false)
    (ex_IsSet_IsSet : PySem.W.exmOne K (.ref (He.ga K "IsSet")) (.ref (He.ga K "IsSet")) = some true)
    (ex_NothingToUndo_Dead : PySem.W.exmOne K (.ref (He.ga K "NothingToUndo")) (.ref (He.ga K "Dead")) = some false)
    (ex_NothingToUndo_BadLiteral : PySem.W.exmOne K (.ref (He.ga K "NothingToUndo")) (.ref (He.ga K "BadLiteral")) = some false)
    (ex_NothingToUndo_IsSet : PySem.W.exmOne K (.ref (He.ga K "NothingToUndo")) (.ref (He.ga K "IsSet")) = some false)
    (ex_NothingToUndo_NothingToUndo : PySem.W.exmOne K (.ref (He.ga K "NothingToUndo")) (.ref (He.ga K "NothingToUndo")) = some true)
    (z_len : PySem.W.nsIn K mainGlobals "len" = some none)
    (z_tuple : PySem.W.nsIn K mainGlobals "tuple" = some none)
    (z_list : PySem.W.nsIn K mainGlobals "list" = some none)
    (z_str : PySem.W.nsIn K mainGlobals "str" = some none)
    (z_int : PySem.W.nsIn K mainGlobals "int" = some none)
    (z_all : PySem.W.nsIn K mainGlobals "all" = some none)
    (z_any : PySem.W.nsIn K mainGlobals "any" = some none)
    (z_isinstance : PySem.W.nsIn K mainGlobals "isinstance" = some none)
    (z_enumerate : PySem.W.nsIn K mainGlobals "enumerate" = some none)
    (z_range : PySem.W.nsIn K mainGlobals "range" = some none)
    (z_repr : PySem.W.nsIn K mainGlobals "repr" = some none)
    (z_bool : PySem.W.nsIn K mainGlobals "bool" = some none)
    (z_dict : PySem.W.nsIn K mainGlobals "dict" = some none)
    : ∃ fd : FuncData, (∀ (s : Shared) (v : Value), BindsTo s fd ⟨[v], []⟩ [("_law_script", v)]) ∧ ∀ base : Heap, K.In base → base.Ns mainGlobals mg → FnG l.prog w K mg base CX0 10 fa fd ["_law_script"] (sp_law K) := by
  have T0 : Gd mg := { len := PySem.W.mg_none_of X G z_len, tuple := PySem.W.mg_none_of X G z_tuple, list := PySem.W.mg_none_of X G z_list, str := PySem.W.mg_none_of X G z_str, int := PySem.W.mg_none_of X G z_int, all := PySem.W.mg_none_of X G z_all, any := PySem.W.mg_none_of X G z_any, isinstance := PySem.W.mg_none_of X G z_isinstance, enumerate := PySem.W.mg_none_of X G z_enumerate, range := PySem.W.mg_none_of X G z_range, repr := PySem.W.mg_none_of X G z_repr, bool := PySem.W.mg_none_of X G z_bool, dict := PySem.W.mg_none_of X G z_dict, g_LETTERS := ⟨_, PySem.W.mg_of X G gL⟩ }
  have TC : CodeT K mg C := ⟨clCode.cl, qCode0, qCode1, qCode2, qCode3⟩
  have TL : LedT K CL := ⟨clLed.cl, qLed0, qLed1, qLed2⟩
  have NECode : NeObj K C := ⟨neCode, obCode⟩
  have ISCode : InsF K C := ⟨clCode.cl, gcCode, spCode, tkCode, mrCode⟩
  have g_Code : mg "Code" = some (.ref C) := PySem.W.mg_of X G clCode.ns
  have NELed : NeObj K CL := ⟨neLed, obLed⟩
  have ISLed : InsF K CL := ⟨clLed.cl, gcLed, spLed, tkLed, mrLed⟩
  have g_Led : mg "Led" = some (.ref CL) := PySem.W.mg_of X G clLed.ns
  have SFLed := sfLed
  have OFLed : OffC K CL := ⟨oflLed, oftLed, ofdLed, ofsLed, ofiLed, ofbLed, ofnLed, ofcLed, ofyLed⟩
  have g_BadLiteral : mg "BadLiteral" = some (.ref (He.ga K "BadLiteral")) := He.glo_ok X G gx_BadLiteral
  have g_IsSet : mg "IsSet" = some (.ref (He.ga K "IsSet")) := He.glo_ok X G gx_IsSet
  obtain ⟨n0, fd0, F0⟩ := d0
  have b0 := F0.binds (ps := ["literal"]) fun _ _ _ _ _ _ us hl => match us, hl with | [_], _ => rfl
  obtain ⟨n1, fd1, F1⟩ := d1
  have b1 := F1.binds (ps := ["literal"]) fun _ _ _ _ _ _ us hl => match us, hl with | [_], _ => rfl
  obtain ⟨n2, fd2, F2⟩ := d2
  have b2 := F2.binds (ps := ["thing"]) fun _ _ _ _ _ _ us hl => match us, hl with | [_], _ => rfl
  obtain ⟨n3, fd3, F3⟩ := d3
  have b3 := F3.binds (ps := ["thing", "names"]) fun _ _ _ _ _ _ us hl => match us, hl with | [_, _], _ => rfl
  obtain ⟨n4, fd4, F4⟩ := d4
  have b4 := F4.binds (ps := ["things", "names"]) fun _ _ _ _ _ _ us hl => match us, hl with | [_, _], _ => rfl
  obtain ⟨n5, fd5, F5⟩ := d5
  have b5 := F5.binds (ps := ["literals", "names"]) fun _ _ _ _ _ _ us hl => match us, hl with | [_, _], _ => rfl
  obtain ⟨n6, fd6, F6⟩ := d6
  have b6 := F6.binds (ps := ["thing"]) fun _ _ _ _ _ _ us hl => match us, hl with | [_], _ => rfl
  obtain ⟨n7, fd7, F7⟩ := d7
  have b7 := F7.binds (ps := ["things", "known"]) fun _ _ _ _ _ _ us hl => match us, hl with | [_, _], _ => rfl
  obtain ⟨n8, fd8, F8⟩ := d8
  have b8 := F8.binds (ps := ["clauses", "names"]) fun _ _ _ _ _ _ us hl => match us, hl with | [_, _], _ => rfl
  obtain ⟨n9, fd9, F9⟩ := d9
  have b9 := F9.binds (ps := ["clause", "so"]) fun _ _ _ _ _ _ us hl => match us, hl with | [_, _], _ => rfl
  obtain ⟨n10, fd10, F10⟩ := d10
  have b10 := F10.binds (ps := ["clauses", "setting"]) fun _ _ _ _ _ _ us hl => match us, hl with | [_, _], _ => rfl
  obtain ⟨n11, fd11, F11⟩ := d11
  have b11 := F11.binds (ps := ["names", "others"]) fun _ _ _ _ _ _ us hl => match us, hl with | [_, _], _ => rfl
  obtain ⟨n12, fd12, F12⟩ := d12
  have b12 := F12.binds (ps := ["_law_stream", "_law_many"]) fun _ _ _ _ _ _ us hl => match us, hl with | [_, _], _ => rfl
  obtain ⟨n13, fd13, F13⟩ := d13
  have b13 := F13.binds (ps := ["_law_stream", "_law_things"]) fun _ _ _ _ _ _ us hl => match us, hl with | [_, _], _ => rfl
  obtain ⟨n14, fd14, F14⟩ := d14
  have b14 := F14.binds (ps := ["_law_stream", "_law_things"]) fun _ _ _ _ _ _ us hl => match us, hl with | [_, _], _ => rfl
  obtain ⟨n15, fd15, F15⟩ := d15
  have b15 := F15.binds (ps := ["_law_stream", "_law_taken"]) fun _ _ _ _ _ _ us hl => match us, hl with | [_, _], _ => rfl
  obtain ⟨n16, fd16, F16⟩ := d16
  have b16 := F16.binds (ps := ["_law_stream", "_law_many"]) fun _ _ _ _ _ _ us hl => match us, hl with | [_, _], _ => rfl
  obtain ⟨n17, fd17, F17⟩ := d17
  have b17 := F17.binds (ps := ["_law_one"]) fun _ _ _ _ _ _ us hl => match us, hl with | [_], _ => rfl
  obtain ⟨n18, fd18, F18⟩ := d18
  have b18 := F18.binds (ps := ["_law_one"]) fun _ _ _ _ _ _ us hl => match us, hl with | [_], _ => rfl
  obtain ⟨n19, fd19, F19⟩ := d19
  have b19 := F19.binds (ps := ["_law_some", "_law_names_here"]) fun _ _ _ _ _ _ us hl => match us, hl with | [_, _], _ => rfl
  obtain ⟨n20, fd20, F20⟩ := d20
  have b20 := F20.binds (ps := ["_law_names_here"]) fun _ _ _ _ _ _ us hl => match us, hl with | [_], _ => rfl
  obtain ⟨n21, fd21, F21⟩ := d21
  have b21 := F21.binds (ps := ["_law_clauses", "_law_half"]) fun _ _ _ _ _ _ us hl => match us, hl with | [_, _], _ => rfl
  obtain ⟨n22, fd22, F22⟩ := d22
  have b22 := F22.binds (ps := ["_law_stream", "_law_names_here"]) fun _ _ _ _ _ _ us hl => match us, hl with | [_, _], _ => rfl
  obtain ⟨n23, fd23, F23⟩ := d23
  have b23 := F23.binds (ps := ["_law_stream", "_law_names_here", "_law_most"]) fun _ _ _ _ _ _ us hl => match us, hl with | [_, _, _], _ => rfl
  obtain ⟨n24, fd24, F24⟩ := d24
  have b24 := F24.binds (ps := ["_law_clauses", "_law_names_here"]) fun _ _ _ _ _ _ us hl => match us, hl with | [_, _], _ => rfl
  obtain ⟨n25, fd25, F25⟩ := d25
  have b25 := F25.binds (ps := ["_law_stream", "_law_signs", "_law_helpers", "_law_many"]) fun _ _ _ _ _ _ us hl => match us, hl with | [_, _, _, _], _ => rfl
  obtain ⟨n26, fd26, F26⟩ := d26
  have b26 := F26.binds (ps := ["_law_c"]) fun _ _ _ _ _ _ us hl => match us, hl with | [_], _ => rfl
  obtain ⟨n27, fd27, F27⟩ := d27
  have b27 := F27.binds (ps := ["_law_stream", "_law_names_here"]) fun _ _ _ _ _ _ us hl => match us, hl with | [_, _], _ => rfl
  obtain ⟨n28, fd28, F28⟩ := d28
  have b28 := F28.binds (ps := ["_law_c"]) fun _ _ _ _ _ _ us hl => match us, hl with | [_], _ => rfl
  obtain ⟨n29, fd29, F29⟩ := d29
  have b29 := F29.binds (ps := ["_law_m"]) fun _ _ _ _ _ _ us hl => match us, hl with | [_], _ => rfl
  obtain ⟨n30, fd30, F30⟩ := d30
  have b30 := F30.binds (ps := ["_law_m", "_law_literal"]) fun _ _ _ _ _ _ us hl => match us, hl with | [_, _], _ => rfl
  obtain ⟨n31, fd31, F31⟩ := d31
  have b31 := F31.binds (ps := ["_law_stream", "_law_m"]) fun _ _ _ _ _ _ us hl => match us, hl with | [_, _], _ => rfl
  obtain ⟨n32, fd32, F32⟩ := d32
  have b32 := F32.binds (ps := ["_law_found", "_law_due_here"]) fun _ _ _ _ _ _ us hl => match us, hl with | [_, _], _ => rfl
  obtain ⟨n33, fd33, F33⟩ := d33
  have b33 := F33.binds (ps := ["_law_led", "_law_m"]) fun _ _ _ _ _ _ us hl => match us, hl with | [_, _], _ => rfl
  obtain ⟨n34, fd34, F34⟩ := d34
  have b34 := F34.binds (ps := ["_law_stream", "_law_led", "_law_code_here", "_law_m"]) fun _ _ _ _ _ _ us hl => match us, hl with | [_, _, _, _], _ => rfl
  obtain ⟨n35, fd35, F35⟩ := d35
  have b35 := F35.binds (ps := ["_law_m", "_law_thing"]) fun _ _ _ _ _ _ us hl => match us, hl with | [_, _], _ => rfl
  obtain ⟨n36, fd36, F36⟩ := d36
  have b36 := F36.binds (ps := ["_law_led", "_law_way", "_law_thing"]) fun _ _ _ _ _ _ us hl => match us, hl with | [_, _, _], _ => rfl
  obtain ⟨n37, fd37, F37⟩ := d37
  have b37 := F37.binds (ps := ["_law_script"]) fun _ _ _ _ _ _ us hl => match us, hl with | [_], _ => rfl
  obtain ⟨me0, gd0, E0⟩ := e1
  obtain ⟨es0, ev0, u0⟩ := E0.binds1 (ps := ["self", "signs", "clauses", "helpers"]) 4 1 (by simp) rfl fun _ _ _ _ _ _ _ us its hl hi => match us, its, hl, hi with | [_, _, _, _], [_], _, _ => ⟨_, rfl, rfl⟩
  cases ev0
  obtain ⟨et0, ew0, uu0⟩ := E0.binds1 (ps := ["self", "signs", "clauses", "helpers"]) 3 0 (by simp) rfl fun _ _ _ _ _ _ _ us its hl hi => match us, its, hl, hi with | [_, _, _], [_], _, _ => ⟨_, rfl, rfl⟩
  have hdv : ∀ M, SqR K Tx [] M (.ref e0) := fun M => .inr ⟨e0, [], rfl, .inr ⟨_, _, en, lE, rfl, rfl, Nat.zero_le _, .nil⟩, .nil⟩
  obtain ⟨me1, gd1, E1⟩ := e2
  have u1 := E1.binds (ps := ["self"]) fun _ _ _ _ _ _ us hl => match us, hl with | [_], _ => rfl
  obtain ⟨me2, gd2, E2⟩ := e3
  have u2 := E2.binds (ps := ["self"]) fun _ _ _ _ _ _ us hl => match us, hl with | [_], _ => rfl
  obtain ⟨me3, gd3, E3⟩ := e4
  have u3 := E3.binds (ps := ["self"]) fun _ _ _ _ _ _ us hl => match us, hl with | [_], _ => rfl
  obtain ⟨me4, gd4, E4⟩ := e5
  have u4 := E4.binds (ps := ["self"]) fun _ _ _ _ _ _ us hl => match us, hl with | [_], _ => rfl
  obtain ⟨me5, gd5, E5⟩ := e6
  have u5 := E5.binds (ps := ["self", "thing"]) fun _ _ _ _ _ _ us hl => match us, hl with | [_, _], _ => rfl
  obtain ⟨me6, gd6, E6⟩ := e7
  have u6 := E6.binds (ps := ["self", "other"]) fun _ _ _ _ _ _ us hl => match us, hl with | [_, _], _ => rfl
  obtain ⟨me7, gd7, E7⟩ := e8
  have u7 := E7.binds (ps := ["self", "code"]) fun _ _ _ _ _ _ us hl => match us, hl with | [_, _], _ => rfl
  obtain ⟨me8, gd8, E8⟩ := e9
  have u8 := E8.binds (ps := ["self"]) fun _ _ _ _ _ _ us hl => match us, hl with | [_], _ => rfl
  obtain ⟨me9, gd9, E9⟩ := e10
  have u9 := E9.binds (ps := ["self", "literal"]) fun _ _ _ _ _ _ us hl => match us, hl with | [_, _], _ => rfl
  obtain ⟨me10, gd10, E10⟩ := e11
  have u10 := E10.binds (ps := ["self", "literal"]) fun _ _ _ _ _ _ us hl => match us, hl with | [_, _], _ => rfl
  obtain ⟨me11, gd11, E11⟩ := e12
  have u11 := E11.binds (ps := ["self"]) fun _ _ _ _ _ _ us hl => match us, hl with | [_], _ => rfl
  obtain ⟨me12, gd12, E12⟩ := e13
  have u12 := E12.binds (ps := ["self"]) fun _ _ _ _ _ _ us hl => match us, hl with | [_], _ => rfl
  obtain ⟨me13, gd13, E13⟩ := e14
  have u13 := E13.binds (ps := ["self"]) fun _ _ _ _ _ _ us hl => match us, hl with | [_], _ => rfl
  obtain ⟨me14, gd14, E14⟩ := e15
  have u14 := E14.binds (ps := ["self"]) fun _ _ _ _ _ _ us hl => match us, hl with | [_], _ => rfl
  obtain ⟨me15, gd15, E15⟩ := e16
  have u15 := E15.binds (ps := ["self"]) fun _ _ _ _ _ _ us hl => match us, hl with | [_], _ => rfl
  obtain ⟨me16, gd16, E16⟩ := e17
  have u16 := E16.binds (ps := ["self", "thing"]) fun _ _ _ _ _ _ us hl => match us, hl with | [_, _], _ => rfl
  obtain ⟨me17, gd17, E17⟩ := e18
  have u17 := E17.binds (ps := ["self", "other"]) fun _ _ _ _ _ _ us hl => match us, hl with | [_, _], _ => rfl
  have e := hfa.symm.trans (PySem.W.mg_of X G n37)
  cases e
  refine ⟨fd37, fun s v => ?_, fun base _ _ => ?_⟩
  · obtain ⟨oc, od, kV, doc, pm, an, cdv, ct, osl, rfl, _⟩ := F37.ex
    exact .of_eq rfl
  have R_BadLiteral : Rai l.prog w K mg base 1 "BadLiteral" (He.ga K "BadLiteral") "literal" := rai_BadLiteral g_BadLiteral sx_BadLiteral
  have R_IsSet : Rai l.prog w K mg base 1 "IsSet" (He.ga K "IsSet") "name" := rai_IsSet g_IsSet sx_IsSet
  have c_name_of : Cal l.prog w K mg base 1 "name_of" ["literal"] (sp_name_of K) := ⟨f0, fd0, ok_name_of F0, PySem.W.mg_of X G n0, F0.kp, b0⟩
  have c_opposite : Cal l.prog w K mg base 1 "opposite" ["literal"] (sp_opposite K) := ⟨f1, fd1, ok_opposite F1, PySem.W.mg_of X G n1, F1.kp, b1⟩
  have c_is_list : Cal l.prog w K mg base 1 "is_list" ["thing"] (sp_is_list K) := ⟨f2, fd2, ok_is_list F2 T0.toBi, PySem.W.mg_of X G n2, F2.kp, b2⟩
  have c_is_literal : Cal l.prog w K mg base 2 "is_literal" ["thing", "names"] (sp_is_literal K) := ⟨f3, fd3, ok_is_literal F3 T0.toBi c_name_of, PySem.W.mg_of X G n3, F3.kp, b3⟩
  have c_first_wrong : Cal l.prog w K mg base 3 "first_wrong" ["things", "names"] (sp_first_wrong K) := ⟨f4, fd4, ok_first_wrong F4 T0.toBi c_is_list c_name_of c_is_literal, PySem.W.mg_of X G n4, F4.kp, b4⟩
  have c_ascending : Cal l.prog w K mg base 1 "ascending" ["literals", "names"] (sp_ascending K) := ⟨f5, fd5, ok_ascending F5 T0.toBi, PySem.W.mg_of X G n5, F5.kp, b5⟩
  have c_is_name : Cal l.prog w K mg base 1 "is_name" ["thing"] (sp_is_name K) := ⟨f6, fd6, ok_is_name F6 T0.toGb, PySem.W.mg_of X G n6, F6.kp, b6⟩
  have c_checked_names : Cal l.prog w K mg base 2 "checked_names" ["things", "known"] (sp_checked_names K) := ⟨f7, fd7, ok_checked_names F7 T0.toGb c_is_name, PySem.W.mg_of X G n7, F7.kp, b7⟩
  have cE_is_list : Cal l.prog w K mg base 1 "is_list" ["thing"] (sp_is_listE K) := ⟨f2, fd2, ok_is_listE F2 T0.toBi, PySem.W.mg_of X G n2, F2.kp, b2⟩
  have cE_is_literal : Cal l.prog w K mg base 2 "is_literal" ["thing", "names"] (sp_is_literalE K) := ⟨f3, fd3, ok_is_literalE F3 T0.toBi c_name_of, PySem.W.mg_of X G n3, F3.kp, b3⟩
  have cE_first_wrong : Cal l.prog w K mg base 3 "first_wrong" ["things", "names"] (sp_first_wrongE K) := ⟨f4, fd4, ok_first_wrongE F4 T0.toBi cE_is_list c_name_of cE_is_literal, PySem.W.mg_of X G n4, F4.kp, b4⟩
  have c_checked_clauses : Cal l.prog w K mg base 4 "checked_clauses" ["clauses", "names"] (sp_checked_clauses K) := ⟨f8, fd8, ok_checked_clauses F8 T0.toGb c_first_wrong c_ascending, PySem.W.mg_of X G n8, F8.kp, b8⟩
  have c_open_ones : Cal l.prog w K mg base 2 "open_ones" ["clause", "so"] (sp_open_ones K) := ⟨f9, fd9, ok_open_ones F9 c_opposite, PySem.W.mg_of X G n9, F9.kp, b9⟩
  have c_chase : Cal l.prog w K mg base 3 "chase" ["clauses", "setting"] (sp_chase K) := ⟨f10, fd10, ok_chase F10 T0.toGb c_open_ones, PySem.W.mg_of X G n10, F10.kp, b10⟩
  have c_are_same : Cal l.prog w K mg base 1 "are_same" ["names", "others"] (sp_are_same K) := ⟨f11, fd11, ok_are_same F11 T0.toGc, PySem.W.mg_of X G n11, F11.kp, b11⟩
  have k_Code : Mak l.prog w K mg base 5 "Code" C ["self", "signs", "clauses", "helpers"] (sp_Code_init K C) := ⟨g0, gd0, ⟨clCode.mks, me0.at_, me0.fn, clCode.kc⟩, ok_Code_init E0 T0.toGb TC c_checked_names c_checked_clauses, PySem.W.mg_of X G clCode.ns, u0⟩
  have d_Code : MakD l.prog w K mg base 5 "Code" C ["self", "signs", "clauses", "helpers"] [.ref e0] (sp_Code_init K C) := ⟨g0, gd0, et0, ⟨clCode.mks, me0.at_, me0.fn, clCode.kc⟩, ok_Code_init E0 T0.toGb TC c_checked_names c_checked_clauses, PySem.W.mg_of X G clCode.ns, uu0, ew0⟩
  have m_signs : Met l.prog w K mg base 1 C "signs" ["self"] (sp_Code_signs K C) := ⟨g1, gd1, clCode.cl, me1, ok_Code_signs E1 T0.toGc TC, u1⟩
  have m_helpers : Met l.prog w K mg base 1 C "helpers" ["self"] (sp_Code_helpers K C) := ⟨g2, gd2, clCode.cl, me2, ok_Code_helpers E2 T0.toGc TC, u2⟩
  have m_clauses : Met l.prog w K mg base 1 C "clauses" ["self"] (sp_Code_clauses K C) := ⟨g3, gd3, clCode.cl, me3, ok_Code_clauses E3 T0.toGc TC, u3⟩
  have o_len : OwnLen l.prog w K mg base 1 C (sp_Code_len K C) := ⟨g4, gd4, ok_Code_len E4 T0.toGb TC, me4.at_, me4.fn, u4⟩
  have o_in : OwnSp l.prog w K mg base 4 C "__contains__" ["self", "thing"] (sp_Code_containsE K C) := ⟨g5, gd5, ok_Code_containsE E5 TC cE_first_wrong c_ascending, me5.at_, me5.fn, u5⟩
  have o_eq : OwnSp l.prog w K mg base 5 C "__eq__" ["self", "other"] (sp_Code_eq K C) := ⟨g6, gd6, ok_Code_eq E6 T0.toGc TC ISCode g_Code o_len o_in c_are_same, me6.at_, me6.fn, u6⟩
  have g_Dead : mg "Dead" = some (.ref (He.ga K "Dead")) := He.glo_ok X G gxD
  have RD : RawC K mg "Dead" (He.ga K "Dead") := ⟨g_Dead, kcD, qxD, sbD, tyD⟩
  have g_NothingToUndo : mg "NothingToUndo" = some (.ref (He.ga K "NothingToUndo")) := He.glo_ok X G gxN
  have RN : RawC K mg "NothingToUndo" (He.ga K "NothingToUndo") := ⟨g_NothingToUndo, kcN, qxN, sbN, tyN⟩
  have m_is_dead : Met l.prog w K mg base 1 CL "is_dead" ["self"] (sp_Led_is_dead K CL C) := ⟨g8, gd8, clLed.cl, me8, ok_Led_is_dead E8 TL, u8⟩
  have m_put : Met l.prog w K mg base 4 CL "put" ["self", "literal"] (sp_Led_put K CL C) := ⟨g9, gd9, clLed.cl, me9, ok_Led_put E9 T0.toGc TL TC m_is_dead c_is_literal c_opposite c_chase c_ascending, u9⟩
  have mX_put : MetX l.prog w K mg base 5 CL "put" ["self", "literal"] (sp_putX K CL C (He.ga K "Dead") (He.ga K "BadLiteral") (He.ga K "IsSet") false) := ⟨g9, gd9, clLed.cl, me9, ok_putX E9 T0.toGc TL TC RD R_BadLiteral R_IsSet m_is_dead cE_is_literal c_opposite c_name_of c_chase c_ascending, u9⟩
  have oX_iadd : OwnX l.prog w K mg base 6 CL "__iadd__" ["self", "literal"] (sp_putX K CL C (He.ga K "Dead") (He.ga K "BadLiteral") (He.ga K "IsSet") true) := ⟨g10, gd10, ok_iaddX E10 mX_put, me10.at_, me10.fn, u10⟩
  have mX_undo : MetX l.prog w K mg base 1 CL "undo" ["self"] (sp_undoX K CL C (He.ga K "NothingToUndo")) := ⟨g11, gd11, clLed.cl, me11, ok_undoX E11 TL RN, u11⟩
  have m_choices : Met l.prog w K mg base 1 CL "choices" ["self"] (sp_Led_choices K CL C) := ⟨g12, gd12, clLed.cl, me12, ok_Led_choices E12 T0.toGc TL, u12⟩
  have m_drawn : Met l.prog w K mg base 3 CL "drawn" ["self"] (sp_Led_drawn K CL C) := ⟨g13, gd13, clLed.cl, me13, ok_Led_drawn E13 T0.toGc TL TC m_is_dead c_ascending, u13⟩
  have k_Led : Mak l.prog w K mg base 4 "Led" CL ["self", "code"] (sp_Led_init K CL C) := ⟨g7, gd7, ⟨clLed.mks, me7.at_, me7.fn, clLed.kc⟩, ok_Led_init E7 T0.toGc TL TC c_chase, PySem.W.mg_of X G clLed.ns, u7⟩
  have m_copy : Met l.prog w K mg base 6 CL "copy" ["self"] (sp_Led_copy K CL C) := ⟨g14, gd14, clLed.cl, me14, ok_Led_copy E14 T0.toGc TL k_Led, u14⟩
  have oL_len : OwnLen l.prog w K mg base 1 CL (sp_Led_len K CL C) := ⟨g15, gd15, ok_Led_len E15 T0.toGc TL, me15.at_, me15.fn, u15⟩
  have oL_in : OwnSp l.prog w K mg base 2 CL "__contains__" ["self", "thing"] (sp_Led_contains K CL C) := ⟨g16, gd16, ok_Led_contains E16 T0.toGc TL m_is_dead, me16.at_, me16.fn, u16⟩
  have oL_eq : OwnSp l.prog w K mg base 6 CL "__eq__" ["self", "other"] (sp_Led_eq K CL C) := ⟨g17, gd17, ok_Led_eq E17 T0.toGc TL ISLed g_Led o_eq, me17.at_, me17.fn, u17⟩
  have oL_eqD : OwnSp l.prog w K mg base 6 CL "__eq__" ["self", "other"] (sp_Led_eqD K CL C) := ⟨g17, gd17, ok_Led_eqD E17 T0.toGc OFLed g_Led, me17.at_, me17.fn, u17⟩
  have oL_eqI : OwnSp l.prog w K mg base 6 CL "__eq__" ["self", "other"] (sp_Led_eqI K CL C) := ⟨g17, gd17, ok_Led_eqI E17 T0.toGc ISCode kcL g_Led, me17.at_, me17.fn, u17⟩
  have c__law_draw : Cal l.prog w K mg base 1 "_law_draw" ["_law_stream", "_law_many"] (sp__law_draw K) := ⟨f12, fd12, ok__law_draw F12 T0.toGc, PySem.W.mg_of X G n12, F12.kp, b12⟩
  have c__law_pick : Cal l.prog w K mg base 2 "_law_pick" ["_law_stream", "_law_things"] (sp__law_pick K) := ⟨f13, fd13, ok__law_pick F13 T0.toGc c__law_draw, PySem.W.mg_of X G n13, F13.kp, b13⟩
  have cV__law_pick : Cal l.prog w K mg base 2 "_law_pick" ["_law_stream", "_law_things"] (sp_pickG K EqV) := ⟨f13, fd13, ok_pickG (R := EqV) F13 T0.toGc c__law_draw, PySem.W.mg_of X G n13, F13.kp, b13⟩
  have c__law_mixed : Cal l.prog w K mg base 2 "_law_mixed" ["_law_stream", "_law_things"] (sp__law_mixed K) := ⟨f14, fd14, ok__law_mixed F14 T0.toGc c__law_draw, PySem.W.mg_of X G n14, F14.kp, b14⟩
  have c__law_fresh : Cal l.prog w K mg base 3 "_law_fresh" ["_law_stream", "_law_taken"] (sp__law_fresh K) := ⟨f15, fd15, ok__law_fresh F15 T0.toGc c__law_draw c__law_pick, PySem.W.mg_of X G n15, F15.kp, b15⟩
  have c__law_names : Cal l.prog w K mg base 4 "_law_names" ["_law_stream", "_law_many"] (sp__law_names K) := ⟨f16, fd16, ok__law_names F16 T0.toGc c__law_fresh, PySem.W.mg_of X G n16, F16.kp, b16⟩
  have c__law_neg : Cal l.prog w K mg base 1 "_law_neg" ["_law_one"] (sp__law_neg K) := ⟨f17, fd17, ok__law_neg F17, PySem.W.mg_of X G n17, F17.kp, b17⟩
  have c__law_bare : Cal l.prog w K mg base 1 "_law_bare" ["_law_one"] (sp__law_bare K) := ⟨f18, fd18, ok__law_bare F18, PySem.W.mg_of X G n18, F18.kp, b18⟩
  have c__law_up : Cal l.prog w K mg base 1 "_law_up" ["_law_some", "_law_names_here"] (sp__law_up K) := ⟨f19, fd19, ok__law_up F19 T0.toBi, PySem.W.mg_of X G n19, F19.kp, b19⟩
  have c__law_literals : Cal l.prog w K mg base 1 "_law_literals" ["_law_names_here"] (sp__law_literals K) := ⟨f20, fd20, ok__law_literals F20, PySem.W.mg_of X G n20, F20.kp, b20⟩
  have c__law_chase : Cal l.prog w K mg base 2 "_law_chase" ["_law_clauses", "_law_half"] (sp__law_chase K) := ⟨f21, fd21, ok__law_chase F21 T0 c__law_neg, PySem.W.mg_of X G n21, F21.kp, b21⟩
  have c__law_sided : Cal l.prog w K mg base 3 "_law_sided" ["_law_stream", "_law_names_here"] (sp__law_sided K) := ⟨f22, fd22, ok__law_sided F22 T0.toGc c__law_draw c__law_mixed, PySem.W.mg_of X G n22, F22.kp, b22⟩
  have c__law_clause : Cal l.prog w K mg base 4 "_law_clause" ["_law_stream", "_law_names_here", "_law_most"] (sp__law_clause K) := ⟨f23, fd23, ok__law_clause F23 T0.toGc c__law_draw c__law_sided, PySem.W.mg_of X G n23, F23.kp, b23⟩
  have c__law_once : Cal l.prog w K mg base 2 "_law_once" ["_law_clauses", "_law_names_here"] (sp__law_once K) := ⟨f24, fd24, ok__law_once F24 T0.toGc c__law_up, PySem.W.mg_of X G n24, F24.kp, b24⟩
  have c__law_code : Cal l.prog w K mg base 5 "_law_code" ["_law_stream", "_law_signs", "_law_helpers", "_law_many"] (sp__law_code K) := ⟨f25, fd25, ok__law_code F25 T0.toGc c__law_draw c__law_names c__law_clause c__law_once, PySem.W.mg_of X G n25, F25.kp, b25⟩
  have c__law_made : Cal l.prog w K mg base 7 "_law_made" ["_law_c"] (sp__law_made K C) := ⟨f26, fd26, ok__law_made F26 k_Code, PySem.W.mg_of X G n26, F26.kp, b26⟩
  have c__law_odd : Cal l.prog w K mg base 3 "_law_odd" ["_law_stream", "_law_names_here"] (sp__law_oddV K) := ⟨f27, fd27, ok__law_oddV F27 T0.toGc cV__law_pick, PySem.W.mg_of X G n27, F27.kp, b27⟩
  have c__law_begin : Cal l.prog w K mg base 3 "_law_begin" ["_law_c"] (sp__law_begin K) := ⟨f28, fd28, ok__law_begin F28 c__law_chase, PySem.W.mg_of X G n28, F28.kp, b28⟩
  have c__law_names_of : Cal l.prog w K mg base 1 "_law_names_of" ["_law_m"] (sp__law_names_of K) := ⟨f29, fd29, ok__law_names_of F29, PySem.W.mg_of X G n29, F29.kp, b29⟩
  have c__law_put : Cal l.prog w K mg base 3 "_law_put" ["_law_m", "_law_literal"] (sp__law_putZ K) := ⟨f30, fd30, ok__law_putZ F30 T0.toGc c__law_chase c__law_up c__law_names_of, PySem.W.mg_of X G n30, F30.kp, b30⟩
  have c__law_some_sign : Cal l.prog w K mg base 3 "_law_some_sign" ["_law_stream", "_law_m"] (sp__law_some_sign K) := ⟨f31, fd31, ok__law_some_sign F31 c__law_pick c__law_draw, PySem.W.mg_of X G n31, F31.kp, b31⟩
  have c__law_same : CalG l.prog w K mg base 1 "_law_same" ["_law_found", "_law_due_here"] (sp__law_same K) := ⟨f32, fd32, ok__law_same F32 T0.toGc, PySem.W.mg_of X G n32, F32.kp, b32⟩
  have cT__law_same : CalG l.prog w K mg base 1 "_law_same" ["_law_found", "_law_due_here"] (sp__law_sameT K) := ⟨f32, fd32, ok__law_sameT F32 T0.toGc, PySem.W.mg_of X G n32, F32.kp, b32⟩
  have c__law_stands : CalG l.prog w K mg base 4 "_law_stands" ["_law_led", "_law_m"] (sp__law_stands K CL C) := ⟨f33, fd33, ok__law_stands F33 T0.toGc c__law_up c__law_names_of m_is_dead m_drawn m_choices c__law_literals c__law_same oL_len oL_in, PySem.W.mg_of X G n33, F33.kp, b33⟩
  have c__law_is_twin : CalG l.prog w K mg base 9 "_law_is_twin" ["_law_stream", "_law_led", "_law_code_here", "_law_m"] (sp__law_is_twin K CL C) := ⟨f34, fd34, ok__law_is_twin F34 T0.toGc hdv NELed nfL c__law_made k_Led k_Code d_Code c__law_fresh c__law_names_of m_put m_clauses m_helpers m_signs oL_eq oL_eqI oL_eqD c__law_same, PySem.W.mg_of X G n34, F34.kp, b34⟩
  have c__law_due : Cal l.prog w K mg base 4 "_law_due" ["_law_m", "_law_thing"] (sp__law_due K) := ⟨f35, fd35, ok__law_due F35 T0.toGc c__law_bare c__law_neg c__law_put, PySem.W.mg_of X G n35, F35.kp, b35⟩
  have RX : RefD K mg (He.ga K "Dead") (He.ga K "BadLiteral") (He.ga K "IsSet") (He.ga K "NothingToUndo") := ⟨g_Dead, g_BadLiteral, g_IsSet, g_NothingToUndo, sx_BadLiteral.xf, sx_BadLiteral.no, sx_IsSet.xf, sx_IsSet.no, ex_Dead_Dead, ex_BadLiteral_Dead, ex_BadLiteral_BadLiteral, ex_IsSet_Dead, ex_IsSet_BadLiteral, ex_IsSet_IsSet, ex_NothingToUndo_Dead, ex_NothingToUndo_BadLiteral, ex_NothingToUndo_IsSet, ex_NothingToUndo_NothingToUndo⟩
  have c__law_did : Cal l.prog w K mg base 7 "_law_did" ["_law_led", "_law_way", "_law_thing"] (sp__law_did K CL C) := ⟨f36, fd36, ok__law_did F36 RX mX_undo mX_put oX_iadd SFLed oL_eq, PySem.W.mg_of X G n36, F36.kp, b36⟩
  exact ok_law F37 T0.toGc hdv NELed c__law_code c__law_begin c__law_made k_Led d_Code c__law_some_sign c__law_draw cV__law_pick c__law_odd m_copy c__law_due c__law_did cT__law_same c__law_stands oL_eq m_choices m_drawn m_is_dead c__law_is_twin
end My

set_option Elab.async false
set_option linter.all false
set_option maxRecDepth 100000
set_option maxHeartbeats 0
namespace Hq
open PySem PySem.Spec PyProof.Rows L2 L3
section
variable {K : PySem.W.Frag}
theorem ns_of {x : Str} (c : (He.Fa.glo x).ok K = true) : PySem.W.nsIn K mainGlobals x = some (some (.ref (He.ga K x))) := He.eqO_ok c
theorem ns_none {x : Str} (c : (He.Fa.free x).ok K = true) : PySem.W.nsIn K mainGlobals x = some none := He.eqO_ok c
theorem ns_str {x z : Str} (c : (He.Fa.str x z).ok K = true) : ∃ t, PySem.W.nsIn K mainGlobals x = some (some (.str z t)) := by
  have c2 : (match PySem.W.nsIn K mainGlobals x with
    | some (some (.str y _)) => decide (y = z)
    | _ => false) = true := c
  cases e : PySem.W.nsIn K mainGlobals x with
  | none => rw [e] at c2; cases c2
  | some o =>
    rw [e] at c2
    cases o with
    | none => cases c2
    | some v =>
      cases v with
      | str y t =>
        have ej : y = z := of_decide_eq_true c2
        rw [ej]
        exact ⟨t, rfl⟩
      | _ => cases c2
theorem fun_of {x qn : Str} {st : Stmt} {f : Addr} (h : ∃ fd, FunD K x qn (defArgs st) (defBody st) (defScope st) [] [] f fd) : ∃ fd, Fun K x qn st f fd := by
  obtain ⟨fd, ⟨oc, od, dV, kV, doc, pm, an, cdv, ct, osl, e, l, c, d, _⟩, kp⟩ := h
  rcases d with ⟨_, rfl⟩ | ⟨h, _⟩
  · exact ⟨fd, ⟨oc, od, kV, doc, pm, an, cdv, ct, osl, e, l, c⟩, kp⟩
  · exact absurd rfl h
theorem at1_of {x : Str} {st : Stmt} (g : (He.Fa.glo x).ok K = true) (h : ∃ fd, FunD K x x (defArgs st) (defBody st) (defScope st) [] [] (He.ga K x) fd) : My.At1 K x st (He.ga K x) := ⟨ns_of g, fun_of h⟩
theorem atm_of {x m qn : Str} {st : Stmt} (g : (He.Fa.meth x m).ok K = true) (h : ∃ fd, FunD K m qn (defArgs st) (defBody st) (defScope st) [] [] (He.ma K (He.ga K x) m) fd) : My.AtM K (He.ga K x) m qn st (He.ma K (He.ga K x) m) := ⟨He.meth_ok g, fun_of h⟩
theorem ate_of {x m qn : Str} {st : Stmt} {e : Addr} (g : (He.Fa.meth x m).ok K = true) (h : ∃ fd, FunD K m qn (defArgs st) (defBody st) (defScope st) [.ref e] [] (He.ma K (He.ga K x) m) fd) : My.AtE K (He.ga K x) m qn st e (He.ma K (He.ga K x) m) := ⟨He.meth_ok g, h⟩
theorem atc_of {x : Str} (g : (He.Fa.glo x).ok K = true) (c : (He.Fa.cls x).ok K = true) (m : (He.Fa.mkr x).ok K = true) : My.AtC K x (He.ga K x) := by
  obtain ⟨c1, m2⟩ := He.ba m
  obtain ⟨c2, m3⟩ := He.ba m2
  obtain ⟨c3, c4⟩ := He.ba m3
  exact ⟨ns_of g, He.cls_ok c, c1, c4⟩
/-- the default of Code -/
def e0 (K : PySem.W.Frag) : Addr := He.dflAt ("Code", some "__init__") 0 K
/-- an empty tuple -/
def emB (K : PySem.W.Frag) (a : Addr) : Bool := match K.lookup a with
  | some ⟨.type c, _, .seq its _, _⟩ => decide (c = "tuple") && decide (its.size = 0)
  | _ => false
theorem emB_ok {a : Addr} (h : emB K a = true) : ∃ (ed : Option Addr) (en : Nat) (esl : Array (Option Value)), K.lookup a = some ⟨.type "tuple", ed, .seq #[] en, esl⟩ := by
  unfold emB at h
  cases q : K.lookup a with
  | none => rw [q] at h; cases h
  | some o =>
    obtain ⟨oc, od, dt, osl⟩ := o
    rw [q] at h
    cases oc with
    | type c =>
      cases dt with
      | seq its n =>
        obtain ⟨h1, h2⟩ := He.ba (show (decide (c = "tuple") && decide (its.size = 0)) = true from h)
        cases of_decide_eq_true h1
        cases Array.eq_empty_of_size_eq_zero (of_decide_eq_true h2)
        exact ⟨od, n, osl, rfl⟩
      | _ => cases h
    | _ => cases dt <;> cases h
/-- a law's end over facts -/
theorem walk_GE {l : PySem.W.OpenLaw} {n k : Nat} {q : Program} {loose : List Str} {XP : (Str → Option Value) → Heap → Prop} {YP : World → Heap → Prop} {d : DefRec} {sp : PySem.W.Frag → Sp} {x : Str} (hn : l.most = some n) (hn2 : n ≤ sizeLine) (hdf : d.params.defaults = [])
    (hr : Room k callerA) (F : ∀ (w : World) (mg : Str → Option Value) (fa : Addr) (h : Heap), YP w h → h.Ns mainGlobals mg → mg d.name = some (.ref fa) → ∃ (K : PySem.W.Frag) (fd : FuncData), K.In h ∧
      (∀ (s : Shared) (u : Value), BindsTo s fd ⟨[u], []⟩ [(x, u)]) ∧ ∀ base : Heap, K.In base → base.Ns mainGlobals mg → FnG l.prog w K mg base CX0 k fa fd [x] (sp K))
    (hsp : ∀ (K : PySem.W.Frag) (H : Hp) (a : Addr) (ns : List Int), ns.length ≤ n → (∀ z ∈ ns, Builtin.Int.intBits z ≤ 1048576) → SqL K H a (ns.map V.int) → sp K [.ref a] H (fun v _ => v = .bl true) fun _ _ _ => False) : PySem.W.WalkO q loose XP YP l.row.toRowW d [] (fun f vs => PySem.call f vs) := by
  apply Att.attach_callB hn hdf
  intro w s0 s mg mb fa o pm cd doc a vs ns G Y ho hd hcd hmg hobj hints hlen hbits hgens
  have ⟨K, fd, KX, bind, hF⟩ := F w mg fa _ Y G.T.g hmg
  have rv := vals_ints hints
  have hz : (ns.map V.int).length ≤ sizeLine := by rw [List.length_map]; exact Nat.le_trans hlen hn2
  have KB := scrH_in (K := K) (a := a) (vs := vs) (xs := ns.map V.int) KX
  have NS := fun b m (z : s.heap.Ns b m) => scrH_ns (K := K) (xs := ns.map V.int) hobj z
  have hok := scrH_ok (P := l.prog) (w := w) (K := K) hobj rv hz
  have ⟨mc, l1, l2⟩ := G.T.nolimit
  have env : Env0 l.prog w K mg (hidT s.heap (scrH K a vs (ns.map V.int))) callerA [] s (scrH K a vs (ns.map V.int)) :=
    ⟨rfl, ⟨KB, NS _ _ G.T.g, ⟨mb, NS _ _ G.T.b, G.T.builtins⟩, ⟨mc, NS _ _ l1, l2⟩⟩, fun b o e => of_hidT e, Nat.le_of_eq (hidT_size _ _), trivial, nofun, hok, .of_eq hgens⟩
  refine codeAny_mono ((hF _ KB (NS _ _ G.T.g)).run callerA [] s _ ⟨[.ref a], []⟩ [.ref a] [.ref a] _ _ rfl hr env (bind _ _) (.cons rfl .nil) (hsp _ _ a ns hlen hbits (scrH_sq KX hobj rv hz))) ?_
  intro r s1 h
  match r, h with
  | .ok (.ret u), h =>
    have ⟨v, H1, os, bare, un, hok1, ru, ev⟩ := h
    have e1 : v = .bl true := ev
    subst e1
    cases (show u = Value.bool true from ru)
    refine ⟨rfl, .of_keep fun b ob e => ?_, os, bare⟩
    cases z : scrH K a vs (ns.map V.int) b with
    | none => exact un.keep b ob e z nofun nofun
    | some y =>
      have hy := scrH_some z
      rw [hy.2.2] at z
      have now := (hok1 b _ (un.frzs b _ _ z)).1
      rw [hy.1, hobj] at e
      cases e
      exact now
end
/-! ### facts -/
def ns0 : List PySem.Str := ["_wall", "__name__", "OpenError", "BadNames", "BadClause", "Clash", "BadLiteral", "Dead", "IsSet", "NothingToUndo", "LETTERS", "is_list", "is_name", "checked_names", "name_of", "opposite", "is_literal", "first_wrong", "ascending", "open_ones"]
def ns1 : List PySem.Str := ["chase", "Led", "checked_clauses", "Code", "are_same", "_law_draw", "_law_pick", "_law_mixed", "_law_same", "_law_fresh", "_law_names", "_law_neg", "_law_bare", "_law_up", "_law_literals", "_law_chase", "_law_sided", "_law_clause", "_law_code", "_law_once"]
def ns2 : List PySem.Str := ["_law_made", "_law_odd", "_law_begin", "_law_names_of", "_law_put", "_law_stands", "_law_some_sign", "_law_is_twin", "_law_due", "_law_did"]
def ns : List PySem.Str := ns0 ++ ns1 ++ ns2
def fa0 : List He.Fa := [.glo "Code", .cls "Code", .mkr "Code", .glo "Led", .cls "Led", .mkr "Led", .glo "name_of", .glo "opposite", .glo "is_list", .glo "is_literal", .glo "first_wrong", .glo "ascending", .glo "is_name", .glo "checked_names", .glo "checked_clauses", .glo "open_ones", .glo "chase", .glo "are_same", .glo "_law_draw", .glo "_law_pick"]
def fa1 : List He.Fa := [.glo "_law_mixed", .glo "_law_fresh", .glo "_law_names", .glo "_law_neg", .glo "_law_bare", .glo "_law_up", .glo "_law_literals", .glo "_law_chase", .glo "_law_sided", .glo "_law_clause", .glo "_law_once", .glo "_law_code", .glo "_law_made", .glo "_law_odd", .glo "_law_begin", .glo "_law_names_of", .glo "_law_put", .glo "_law_some_sign", .glo "_law_same", .glo "_law_stands"]
def fa2 : List He.Fa := [.glo "_law_is_twin", .glo "_law_due", .glo "_law_did", .glo "law", .meth "Code" "__init__", .meth "Code" "signs", .meth "Code" "helpers", .meth "Code" "clauses", .meth "Code" "__len__", .meth "Code" "__contains__", .meth "Code" "__eq__", .meth "Led" "__init__", .meth "Led" "is_dead", .meth "Led" "put", .meth "Led" "__iadd__", .meth "Led" "undo", .meth "Led" "choices", .meth "Led" "drawn", .meth "Led" "copy", .meth "Led" "__len__"]
def fa3 : List He.Fa := [.meth "Led" "__contains__", .meth "Led" "__eq__", .noat "Code" "sign_row", .noat "Code" "helper_row", .noat "Code" "names", .noat "Code" "clause_row", .noat "Led" "kept", .noat "Led" "put_row", .noat "Led" "moments", .glo "BadLiteral", .glo "IsSet", .exm "Dead" "Dead" true, .exm "BadLiteral" "Dead" false, .exm "BadLiteral" "BadLiteral" true, .exm "IsSet" "Dead" false, .exm "IsSet" "BadLiteral" false, .exm "IsSet" "IsSet" true, .exm "NothingToUndo" "Dead" false, .exm "NothingToUndo" "BadLiteral" false, .exm "NothingToUndo" "IsSet" false]
def fa4 : List He.Fa := [.exm "NothingToUndo" "NothingToUndo" true, .free "len", .free "tuple", .free "list", .free "str", .free "int", .free "all", .free "any", .free "isinstance", .free "enumerate", .free "range", .free "repr", .free "bool", .free "dict", .str "LETTERS" My.g_LETTERS]
def fa : List He.Fa := fa0 ++ fa1 ++ fa2 ++ fa3 ++ fa4
def fn0 : List He.DefD := [⟨("name_of", none), "name_of", "name_of", L2.defArgs My.s_name_of, L2.defBody My.s_name_of, L2.defScope My.s_name_of, [], []⟩, ⟨("opposite", none), "opposite", "opposite", L2.defArgs My.s_opposite, L2.defBody My.s_opposite, L2.defScope My.s_opposite, [], []⟩, ⟨("is_list", none), "is_list", "is_list", L2.defArgs My.s_is_list, L2.defBody My.s_is_list, L2.defScope My.s_is_list, [], []⟩, ⟨("is_literal", none), "is_literal", "is_literal", L2.defArgs My.s_is_literal, L2.defBody My.s_is_literal, L2.defScope My.s_is_literal, [], []⟩, ⟨("first_wrong", none), "first_wrong", "first_wrong", L2.defArgs My.s_first_wrong, L2.defBody My.s_first_wrong, L2.defScope My.s_first_wrong, [], []⟩, ⟨("ascending", none), "ascending", "ascending", L2.defArgs My.s_ascending, L2.defBody My.s_ascending, L2.defScope My.s_ascending, [], []⟩, ⟨("is_name", none), "is_name", "is_name", L2.defArgs My.s_is_name, L2.defBody My.s_is_name, L2.defScope My.s_is_name, [], []⟩, ⟨("checked_names", none), "checked_names", "checked_names", L2.defArgs My.s_checked_names, L2.defBody My.s_checked_names, L2.defScope My.s_checked_names, [], []⟩, ⟨("checked_clauses", none), "checked_clauses", "checked_clauses", L2.defArgs My.s_checked_clauses, L2.defBody My.s_checked_clauses, L2.defScope My.s_checked_clauses, [], []⟩, ⟨("open_ones", none), "open_ones", "open_ones", L2.defArgs My.s_open_ones, L2.defBody My.s_open_ones, L2.defScope My.s_open_ones, [], []⟩]
def fn1 : List He.DefD := [⟨("chase", none), "chase", "chase", L2.defArgs My.s_chase, L2.defBody My.s_chase, L2.defScope My.s_chase, [], []⟩, ⟨("are_same", none), "are_same", "are_same", L2.defArgs My.s_are_same, L2.defBody My.s_are_same, L2.defScope My.s_are_same, [], []⟩, ⟨("_law_draw", none), "_law_draw", "_law_draw", L2.defArgs My.s__law_draw, L2.defBody My.s__law_draw, L2.defScope My.s__law_draw, [], []⟩, ⟨("_law_pick", none), "_law_pick", "_law_pick", L2.defArgs My.s__law_pick, L2.defBody My.s__law_pick, L2.defScope My.s__law_pick, [], []⟩, ⟨("_law_mixed", none), "_law_mixed", "_law_mixed", L2.defArgs My.s__law_mixed, L2.defBody My.s__law_mixed, L2.defScope My.s__law_mixed, [], []⟩, ⟨("_law_fresh", none), "_law_fresh", "_law_fresh", L2.defArgs My.s__law_fresh, L2.defBody My.s__law_fresh, L2.defScope My.s__law_fresh, [], []⟩, ⟨("_law_names", none), "_law_names", "_law_names", L2.defArgs My.s__law_names, L2.defBody My.s__law_names, L2.defScope My.s__law_names, [], []⟩, ⟨("_law_neg", none), "_law_neg", "_law_neg", L2.defArgs My.s__law_neg, L2.defBody My.s__law_neg, L2.defScope My.s__law_neg, [], []⟩, ⟨("_law_bare", none), "_law_bare", "_law_bare", L2.defArgs My.s__law_bare, L2.defBody My.s__law_bare, L2.defScope My.s__law_bare, [], []⟩, ⟨("_law_up", none), "_law_up", "_law_up", L2.defArgs My.s__law_up, L2.defBody My.s__law_up, L2.defScope My.s__law_up, [], []⟩]
def fn2 : List He.DefD := [⟨("_law_literals", none), "_law_literals", "_law_literals", L2.defArgs My.s__law_literals, L2.defBody My.s__law_literals, L2.defScope My.s__law_literals, [], []⟩, ⟨("_law_chase", none), "_law_chase", "_law_chase", L2.defArgs My.s__law_chase, L2.defBody My.s__law_chase, L2.defScope My.s__law_chase, [], []⟩, ⟨("_law_sided", none), "_law_sided", "_law_sided", L2.defArgs My.s__law_sided, L2.defBody My.s__law_sided, L2.defScope My.s__law_sided, [], []⟩, ⟨("_law_clause", none), "_law_clause", "_law_clause", L2.defArgs My.s__law_clause, L2.defBody My.s__law_clause, L2.defScope My.s__law_clause, [], []⟩, ⟨("_law_once", none), "_law_once", "_law_once", L2.defArgs My.s__law_once, L2.defBody My.s__law_once, L2.defScope My.s__law_once, [], []⟩, ⟨("_law_code", none), "_law_code", "_law_code", L2.defArgs My.s__law_code, L2.defBody My.s__law_code, L2.defScope My.s__law_code, [], []⟩, ⟨("_law_made", none), "_law_made", "_law_made", L2.defArgs My.s__law_made, L2.defBody My.s__law_made, L2.defScope My.s__law_made, [], []⟩, ⟨("_law_odd", none), "_law_odd", "_law_odd", L2.defArgs My.s__law_odd, L2.defBody My.s__law_odd, L2.defScope My.s__law_odd, [], []⟩, ⟨("_law_begin", none), "_law_begin", "_law_begin", L2.defArgs My.s__law_begin, L2.defBody My.s__law_begin, L2.defScope My.s__law_begin, [], []⟩, ⟨("_law_names_of", none), "_law_names_of", "_law_names_of", L2.defArgs My.s__law_names_of, L2.defBody My.s__law_names_of, L2.defScope My.s__law_names_of, [], []⟩]
def fn3 : List He.DefD := [⟨("_law_put", none), "_law_put", "_law_put", L2.defArgs My.s__law_put, L2.defBody My.s__law_put, L2.defScope My.s__law_put, [], []⟩, ⟨("_law_some_sign", none), "_law_some_sign", "_law_some_sign", L2.defArgs My.s__law_some_sign, L2.defBody My.s__law_some_sign, L2.defScope My.s__law_some_sign, [], []⟩, ⟨("_law_same", none), "_law_same", "_law_same", L2.defArgs My.s__law_same, L2.defBody My.s__law_same, L2.defScope My.s__law_same, [], []⟩, ⟨("_law_stands", none), "_law_stands", "_law_stands", L2.defArgs My.s__law_stands, L2.defBody My.s__law_stands, L2.defScope My.s__law_stands, [], []⟩, ⟨("_law_is_twin", none), "_law_is_twin", "_law_is_twin", L2.defArgs My.s__law_is_twin, L2.defBody My.s__law_is_twin, L2.defScope My.s__law_is_twin, [], []⟩, ⟨("_law_due", none), "_law_due", "_law_due", L2.defArgs My.s__law_due, L2.defBody My.s__law_due, L2.defScope My.s__law_due, [], []⟩, ⟨("_law_did", none), "_law_did", "_law_did", L2.defArgs My.s__law_did, L2.defBody My.s__law_did, L2.defScope My.s__law_did, [], []⟩, ⟨("law", none), "law", "law", L2.defArgs My.s_law, L2.defBody My.s_law, L2.defScope My.s_law, [], []⟩, ⟨("Code", some "__init__"), "__init__", "Code.__init__", L2.defArgs My.s_Code_init, L2.defBody My.s_Code_init, L2.defScope My.s_Code_init, [.adr Hq.e0], []⟩, ⟨("Code", some "signs"), "signs", "Code.signs", L2.defArgs My.s_Code_signs, L2.defBody My.s_Code_signs, L2.defScope My.s_Code_signs, [], []⟩]
def fn4 : List He.DefD := [⟨("Code", some "helpers"), "helpers", "Code.helpers", L2.defArgs My.s_Code_helpers, L2.defBody My.s_Code_helpers, L2.defScope My.s_Code_helpers, [], []⟩, ⟨("Code", some "clauses"), "clauses", "Code.clauses", L2.defArgs My.s_Code_clauses, L2.defBody My.s_Code_clauses, L2.defScope My.s_Code_clauses, [], []⟩, ⟨("Code", some "__len__"), "__len__", "Code.__len__", L2.defArgs My.s_Code_len, L2.defBody My.s_Code_len, L2.defScope My.s_Code_len, [], []⟩, ⟨("Code", some "__contains__"), "__contains__", "Code.__contains__", L2.defArgs My.s_Code_contains, L2.defBody My.s_Code_contains, L2.defScope My.s_Code_contains, [], []⟩, ⟨("Code", some "__eq__"), "__eq__", "Code.__eq__", L2.defArgs My.s_Code_eq, L2.defBody My.s_Code_eq, L2.defScope My.s_Code_eq, [], []⟩, ⟨("Led", some "__init__"), "__init__", "Led.__init__", L2.defArgs My.s_Led_init, L2.defBody My.s_Led_init, L2.defScope My.s_Led_init, [], []⟩, ⟨("Led", some "is_dead"), "is_dead", "Led.is_dead", L2.defArgs My.s_Led_is_dead, L2.defBody My.s_Led_is_dead, L2.defScope My.s_Led_is_dead, [], []⟩, ⟨("Led", some "put"), "put", "Led.put", L2.defArgs My.s_Led_put, L2.defBody My.s_Led_put, L2.defScope My.s_Led_put, [], []⟩, ⟨("Led", some "__iadd__"), "__iadd__", "Led.__iadd__", L2.defArgs My.s_Led_iadd, L2.defBody My.s_Led_iadd, L2.defScope My.s_Led_iadd, [], []⟩, ⟨("Led", some "undo"), "undo", "Led.undo", L2.defArgs My.s_Led_undo, L2.defBody My.s_Led_undo, L2.defScope My.s_Led_undo, [], []⟩]
def fn5 : List He.DefD := [⟨("Led", some "choices"), "choices", "Led.choices", L2.defArgs My.s_Led_choices, L2.defBody My.s_Led_choices, L2.defScope My.s_Led_choices, [], []⟩, ⟨("Led", some "drawn"), "drawn", "Led.drawn", L2.defArgs My.s_Led_drawn, L2.defBody My.s_Led_drawn, L2.defScope My.s_Led_drawn, [], []⟩, ⟨("Led", some "copy"), "copy", "Led.copy", L2.defArgs My.s_Led_copy, L2.defBody My.s_Led_copy, L2.defScope My.s_Led_copy, [], []⟩, ⟨("Led", some "__len__"), "__len__", "Led.__len__", L2.defArgs My.s_Led_len, L2.defBody My.s_Led_len, L2.defScope My.s_Led_len, [], []⟩, ⟨("Led", some "__contains__"), "__contains__", "Led.__contains__", L2.defArgs My.s_Led_contains, L2.defBody My.s_Led_contains, L2.defScope My.s_Led_contains, [], []⟩, ⟨("Led", some "__eq__"), "__eq__", "Led.__eq__", L2.defArgs My.s_Led_eq, L2.defBody My.s_Led_eq, L2.defScope My.s_Led_eq, [], []⟩]
def fn : List He.DefD := fn0 ++ fn1 ++ fn2 ++ fn3 ++ fn4 ++ fn5
abbrev R : PySem.W.OpenRow := PySem.W.OpenLaw.row PySem.Challenge.rw_lastopen_k20_led_along
def fx (K : PySem.W.Frag) : Bool := (decide (PySem.W.findIn K (.ref (He.ga K "Code")) "__ne__" = some (some (.builtin "object.__ne__")))) && ((decide (PySem.W.subIn K (.ref (He.ga K "Code")) (.type "object") = some true)) && ((decide (PySem.W.findIn K (.ref (He.ga K "Code")) "__class__" = some (some (.builtin "object.__class__")))) && ((decide (PySem.W.specialIn K (.builtin "object.__class__") "__get__" = some (some (.builtin "getset_descriptor.__get__")))) && ((decide (PySem.W.takesIn K (.builtin "object.__class__") = some true)) && ((decide (PySem.W.mroIn K (He.ga K "Code") (.type "object") = some true)) && ((decide (PySem.W.findIn K (.ref (He.ga K "Led")) "__ne__" = some (some (.builtin "object.__ne__")))) && ((decide (PySem.W.subIn K (.ref (He.ga K "Led")) (.type "object") = some true)) && ((decide (PySem.W.findIn K (.ref (He.ga K "Led")) "__class__" = some (some (.builtin "object.__class__")))) && ((decide (PySem.W.specialIn K (.builtin "object.__class__") "__get__" = some (some (.builtin "getset_descriptor.__get__")))) && ((decide (PySem.W.takesIn K (.builtin "object.__class__") = some true)) && ((decide (PySem.W.mroIn K (He.ga K "Led") (.type "object") = some true)) && ((PySem.W.selfFirst K (He.ga K "Led")) && ((decide (PySem.W.subIn K (.ref (He.ga K "Led")) (.type "list") = some false)) && ((decide (PySem.W.subIn K (.ref (He.ga K "Led")) (.type "tuple") = some false)) && ((decide (PySem.W.subIn K (.ref (He.ga K "Led")) (.type "dict") = some false)) && ((decide (PySem.W.subIn K (.ref (He.ga K "Led")) (.type "str") = some false)) && ((decide (PySem.W.subIn K (.ref (He.ga K "Led")) (.type "int") = some false)) && ((decide (PySem.W.subIn K (.ref (He.ga K "Led")) (.type "bool") = some false)) && ((decide (PySem.W.subIn K (.ref (He.ga K "Led")) (.type "NoneType") = some false)) && (((PySem.W.clsIn K (He.ga K "Led")).isSome) && ((decide (PySem.W.typeIn K (.ref (He.ga K "Led")) = some (.type "type"))) && ((Hq.emB K (Hq.e0 K)) && ((PySem.W.notFirst K (He.ga K "Led") (.ref (He.ga K "Code"))) && ((decide (PySem.W.kitOne K (.ref (He.ga K "Code")) (.ref (He.ga K "Led")) = some false)) && (((He.Fa.glo "Dead").ok K) && ((PySem.W.keepIn K (.ref (He.ga K "Dead"))) && ((PySem.W.excIn K (He.ga K "Dead") PySem.HandSPX.veTail "ValueError.__new__") && ((decide (PySem.W.subIn K (.ref (He.ga K "Dead")) (.type "BaseException") = some true)) && ((decide (PySem.W.typeIn K (.ref (He.ga K "Dead")) = some (.type "type"))) && (((He.Fa.glo "NothingToUndo").ok K) && ((PySem.W.keepIn K (.ref (He.ga K "NothingToUndo"))) && ((PySem.W.excIn K (He.ga K "NothingToUndo") PySem.HandSPX.veTail "ValueError.__new__") && ((decide (PySem.W.subIn K (.ref (He.ga K "NothingToUndo")) (.type "BaseException") = some true)) && ((decide (PySem.W.typeIn K (.ref (He.ga K "NothingToUndo")) = some (.type "type"))) && ((L3.supB R.prog K "BadLiteral" "BadLiteral.__init__" "literal") && ((L3.supB R.prog K "IsSet" "IsSet.__init__" "name") && (true)))))))))))))))))))))))))))))))))))))
/-- what an object names, once each -/
def refs (o : Obj) : List Addr := match o.data with
  | .seq its _ => its.toList.flatMap He.refV
  | .dict es _ => es.toList.flatMap fun e => He.refV e.val
  | .func fd => He.refV fd.code ++ He.refV fd.defaults ++ fd.closure.map (·.2)
  | .cls cd => [cd.ns]
  | _ => []
def lay (g : Addr → Option Obj) : Nat → List Addr → List Addr
  | 0, l => l
  | n + 1, l => l ++ lay g n (l.flatMap fun a => match g a with
    | some o => refs o
    | none => [])
def xw (K : PySem.W.Frag) : List L3.FnC := [L3.fnC K "BadLiteral", L3.fnC K "IsSet"]
def xv : List L3.FnC := [L3.fnCv "BadLiteral.__init__" My.s_BadLiteral_init, L3.fnCv "IsSet.__init__" My.s_IsSet_init]
def obK (K : PySem.W.Frag) : (Bool × List L3.FnC) × He.AlD := ((fx K, xw K), He.obsD fa fn K)
def obX (g : Addr → Option Obj) : (Bool × List L3.FnC) × He.AlD := obK (He.frG g (lay g 5 [mainGlobals, cStatics]))
def hk : PySem.W.Hook where
  α := (Bool × List L3.FnC) × He.AlD
  obs := fun s => obX s.heap.get?
  val := fun _ => ((true, xv), He.valD fn)
  says := fun _ h => ∃ K : PySem.W.Frag, K.In h ∧ He.SaysD fa fn K ∧ fx K = true ∧ xw K = xv
  of := fun _ _ e => ⟨_, He.frG_in, congrArg Prod.snd e, congrArg (fun z => z.1.1) e, congrArg (fun z => z.1.2) e⟩
  keeps := fun _ _ _ ⟨K, hK, c⟩ k => ⟨K, PySem.W.Frag.In.keeps hK k, c⟩
theorem top : (R.prog.main.scope.names.lookup ("super" : Str)).isSome = false := by kernel_rfl
def ob (s : PySem.W.SharedT) : (Bool × List L3.FnC) × He.AlD := obX (HandSHeadRun.getT s)
theorem ob_eq (s : PySem.W.SharedT) : ob s = hk.obs s.abs := by
  have e : HandSHeadRun.getT s = s.abs.heap.get? := funext (HandSHeadRun.getT_eq s)
  unfold ob
  rw [e] <;> rfl
theorem run (w : World) : HandSHeadRun.RunEq R (PySem.W.view R.prog [55]) hk ob 40000 ns w := by
  intro os
  kernel_rfl
theorem facts {w : World} {K : PySem.W.Frag} {h : Heap} {mg : Str → Option Value} {f : Addr} (X : K.In h) (G : h.Ns mainGlobals mg) (hfa : mg ("law" : Str) = some (.ref f)) (c : He.SaysD fa fn K) (cx : fx K = true) (cw : xw K = xv) :
    ∃ fd : FuncData, (∀ (s : Shared) (v : Value), BindsTo s fd ⟨[v], []⟩ [("_law_script", v)]) ∧ ∀ base : Heap, K.In base → base.Ns mainGlobals mg → FnG (PySem.Challenge.rw_lastopen_k20_led_along).prog w K mg base CX0 10 f fd ["_law_script"] (My.sp_law K) := by
  obtain ⟨x0, cx⟩ := He.ba cx
  obtain ⟨x1, cx⟩ := He.ba cx
  obtain ⟨x2, cx⟩ := He.ba cx
  obtain ⟨x3, cx⟩ := He.ba cx
  obtain ⟨x4, cx⟩ := He.ba cx
  obtain ⟨x5, cx⟩ := He.ba cx
  obtain ⟨x6, cx⟩ := He.ba cx
  obtain ⟨x7, cx⟩ := He.ba cx
  obtain ⟨x8, cx⟩ := He.ba cx
  obtain ⟨x9, cx⟩ := He.ba cx
  obtain ⟨x10, cx⟩ := He.ba cx
  obtain ⟨x11, cx⟩ := He.ba cx
  obtain ⟨x12, cx⟩ := He.ba cx
  obtain ⟨x13, cx⟩ := He.ba cx
  obtain ⟨x14, cx⟩ := He.ba cx
  obtain ⟨x15, cx⟩ := He.ba cx
  obtain ⟨x16, cx⟩ := He.ba cx
  obtain ⟨x17, cx⟩ := He.ba cx
  obtain ⟨x18, cx⟩ := He.ba cx
  obtain ⟨x19, cx⟩ := He.ba cx
  obtain ⟨x20, cx⟩ := He.ba cx
  obtain ⟨x21, cx⟩ := He.ba cx
  obtain ⟨x22, cx⟩ := He.ba cx
  obtain ⟨x23, cx⟩ := He.ba cx
  obtain ⟨x24, cx⟩ := He.ba cx
  obtain ⟨x25, cx⟩ := He.ba cx
  obtain ⟨x26, cx⟩ := He.ba cx
  obtain ⟨x27, cx⟩ := He.ba cx
  obtain ⟨x28, cx⟩ := He.ba cx
  obtain ⟨x29, cx⟩ := He.ba cx
  obtain ⟨x30, cx⟩ := He.ba cx
  obtain ⟨x31, cx⟩ := He.ba cx
  obtain ⟨x32, cx⟩ := He.ba cx
  obtain ⟨x33, cx⟩ := He.ba cx
  obtain ⟨x34, cx⟩ := He.ba cx
  obtain ⟨x35, cx⟩ := He.ba cx
  obtain ⟨x36, cx⟩ := He.ba cx
  obtain ⟨ed, en, esl, lE⟩ := Hq.emB_ok x22
  obtain ⟨lt, lL⟩ := Hq.ns_str (c.fact 94)
  exact My.all_mk (l := PySem.Challenge.rw_lastopen_k20_led_along) X G hfa (Hq.atc_of (c.fact 0) (c.fact 1) (c.fact 2)) (Hq.atc_of (c.fact 3) (c.fact 4) (c.fact 5)) (Hq.at1_of (c.fact 6) (c.def_ 0)) (Hq.at1_of (c.fact 7) (c.def_ 1)) (Hq.at1_of (c.fact 8) (c.def_ 2)) (Hq.at1_of (c.fact 9) (c.def_ 3)) (Hq.at1_of (c.fact 10) (c.def_ 4)) (Hq.at1_of (c.fact 11) (c.def_ 5)) (Hq.at1_of (c.fact 12) (c.def_ 6)) (Hq.at1_of (c.fact 13) (c.def_ 7)) (Hq.at1_of (c.fact 14) (c.def_ 8)) (Hq.at1_of (c.fact 15) (c.def_ 9)) (Hq.at1_of (c.fact 16) (c.def_ 10)) (Hq.at1_of (c.fact 17) (c.def_ 11)) (Hq.at1_of (c.fact 18) (c.def_ 12)) (Hq.at1_of (c.fact 19) (c.def_ 13)) (Hq.at1_of (c.fact 20) (c.def_ 14)) (Hq.at1_of (c.fact 21) (c.def_ 15)) (Hq.at1_of (c.fact 22) (c.def_ 16)) (Hq.at1_of (c.fact 23) (c.def_ 17)) (Hq.at1_of (c.fact 24) (c.def_ 18)) (Hq.at1_of (c.fact 25) (c.def_ 19)) (Hq.at1_of (c.fact 26) (c.def_ 20)) (Hq.at1_of (c.fact 27) (c.def_ 21)) (Hq.at1_of (c.fact 28) (c.def_ 22)) (Hq.at1_of (c.fact 29) (c.def_ 23)) (Hq.at1_of (c.fact 30) (c.def_ 24)) (Hq.at1_of (c.fact 31) (c.def_ 25)) (Hq.at1_of (c.fact 32) (c.def_ 26)) (Hq.at1_of (c.fact 33) (c.def_ 27)) (Hq.at1_of (c.fact 34) (c.def_ 28)) (Hq.at1_of (c.fact 35) (c.def_ 29)) (Hq.at1_of (c.fact 36) (c.def_ 30)) (Hq.at1_of (c.fact 37) (c.def_ 31)) (Hq.at1_of (c.fact 38) (c.def_ 32)) (Hq.at1_of (c.fact 39) (c.def_ 33)) (Hq.at1_of (c.fact 40) (c.def_ 34)) (Hq.at1_of (c.fact 41) (c.def_ 35)) (Hq.at1_of (c.fact 42) (c.def_ 36)) (Hq.at1_of (c.fact 43) (c.def_ 37)) (Hq.ate_of (c.fact 44) (c.def_ 38)) (Hq.atm_of (c.fact 45) (c.def_ 39)) (Hq.atm_of (c.fact 46) (c.def_ 40)) (Hq.atm_of (c.fact 47) (c.def_ 41)) (Hq.atm_of (c.fact 48) (c.def_ 42)) (Hq.atm_of (c.fact 49) (c.def_ 43)) (Hq.atm_of (c.fact 50) (c.def_ 44)) (Hq.atm_of (c.fact 51) (c.def_ 45)) (Hq.atm_of (c.fact 52) (c.def_ 46)) (Hq.atm_of (c.fact 53) (c.def_ 47)) (Hq.atm_of (c.fact 54) (c.def_ 48)) (Hq.atm_of (c.fact 55) (c.def_ 49)) (Hq.atm_of (c.fact 56) (c.def_ 50)) (Hq.atm_of (c.fact 57) (c.def_ 51)) (Hq.atm_of (c.fact 58) (c.def_ 52)) (Hq.atm_of (c.fact 59) (c.def_ 53)) (Hq.atm_of (c.fact 60) (c.def_ 54)) (Hq.atm_of (c.fact 61) (c.def_ 55)) (He.noat_ok (c.fact 62)) (He.noat_ok (c.fact 63)) (He.noat_ok (c.fact 64)) (He.noat_ok (c.fact 65)) (He.noat_ok (c.fact 66)) (He.noat_ok (c.fact 67)) (He.noat_ok (c.fact 68)) (of_decide_eq_true x0) (of_decide_eq_true x1) (of_decide_eq_true x2) (of_decide_eq_true x3) (of_decide_eq_true x4) (of_decide_eq_true x5) (of_decide_eq_true x6) (of_decide_eq_true x7) (of_decide_eq_true x8) (of_decide_eq_true x9) (of_decide_eq_true x10) (of_decide_eq_true x11) x12 (of_decide_eq_true x13) (of_decide_eq_true x14) (of_decide_eq_true x15) (of_decide_eq_true x16) (of_decide_eq_true x17) (of_decide_eq_true x18) (of_decide_eq_true x19) x20 (of_decide_eq_true x21) lE lL x23 (of_decide_eq_true x24) x25 x26 x27 (of_decide_eq_true x28) (of_decide_eq_true x29) x30 x31 x32 (of_decide_eq_true x33) (of_decide_eq_true x34) (c.fact 69) (supB_ok x35 (congrArg (fun l : List L3.FnC => l.getD 0 none) cw) top) (c.fact 70) (supB_ok x36 (congrArg (fun l : List L3.FnC => l.getD 1 none) cw) top) (He.exm_ok (c.fact 71)) (He.exm_ok (c.fact 72)) (He.exm_ok (c.fact 73)) (He.exm_ok (c.fact 74)) (He.exm_ok (c.fact 75)) (He.exm_ok (c.fact 76)) (He.exm_ok (c.fact 77)) (He.exm_ok (c.fact 78)) (He.exm_ok (c.fact 79)) (He.exm_ok (c.fact 80)) (Hq.ns_none (c.fact 81)) (Hq.ns_none (c.fact 82)) (Hq.ns_none (c.fact 83)) (Hq.ns_none (c.fact 84)) (Hq.ns_none (c.fact 85)) (Hq.ns_none (c.fact 86)) (Hq.ns_none (c.fact 87)) (Hq.ns_none (c.fact 88)) (Hq.ns_none (c.fact 89)) (Hq.ns_none (c.fact 90)) (Hq.ns_none (c.fact 91)) (Hq.ns_none (c.fact 92)) (Hq.ns_none (c.fact 93))
end Hq
open PySem PySem.W PySem.Calls PyProof.Rows
theorem PySem.Challenge.cw_lastopen_k20_led_along_holds : PySem.Challenge.rw_lastopen_k20_led_along.Holds := by
  w_on; o_law
  refine HandSHeadRun.head_any (r := OpenLaw.row PySem.Challenge.rw_lastopen_k20_led_along) (q := view (OpenLaw.row PySem.Challenge.rw_lastopen_k20_led_along).prog [55]) (H := Hq.hk) (ob := Hq.ob) (M := 40000) (loose := Hq.ns) (d := HandSHeadRun.topDef (OpenLaw.row PySem.Challenge.rw_lastopen_k20_led_along).prog 55) (kwd := []) Hq.ob_eq
    (by kernel_rfl) (fun s => by kernel_rfl) Hq.run (by kernel_rfl) (by kernel_rfl) (by kernel_rfl) (by rfl) (by first | assumption | decide +kernel) (by decide +kernel) ⟨rfl, rfl, rfl, rfl, rfl, by decide +kernel⟩ ?hw ?hc
  case hw => w_witness2
  case hc =>
    refine Hq.walk_GE (n := 63) (k := 10) (x := "_law_script") (sp := My.sp_law) (l := PySem.Challenge.rw_lastopen_k20_led_along) rfl (by decide) (by kernel_rfl) ⟨rfl, by decide, by decide⟩ ?F ?S
    case S => exact fun K H a ns hl hb hs => ⟨ns, H, .ref a, rfl, L2.Same.refl H, .inl ⟨a, _, rfl, hs, L3.pd_of_it ns⟩, fun _ => rfl⟩
    case F =>
      intro w mg fa h Y G hmg0
      obtain ⟨K, KX, c, cx, cw⟩ := Y
      have hmg : mg ("law" : PySem.Str) = some (.ref fa) := by
        have e : (HandSHeadRun.topDef (OpenLaw.row PySem.Challenge.rw_lastopen_k20_led_along).prog 55).name = ("law" : PySem.Str) := by kernel_rfl
        rw [← e]
        exact hmg0
      obtain ⟨fd, hb, hF⟩ := Hq.facts (w := w) KX G hmg c cx cw
      exact ⟨K, fd, KX, hb, hF⟩

