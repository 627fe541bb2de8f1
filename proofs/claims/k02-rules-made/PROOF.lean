import PyProof.Rows.All
import Wide.All
import OpenK.AllK
import Wide.FinOn
import HandS.ForMost
import HandS.Deep
import HandS.IsInst
import HandS.Conv
import HandS.DictComp
import HandS.EndBits
import HandS.Wide
import HandS.Flow
import KE.DataEq
import HandS.TupAny
import HandS.Walk
import KE.GoesEnum
import KE.KDictSum
import HandS.Defaults
import HandS.Style
import HandS.SlotsOwn
import HandS.Star
import HandS.OwnEq
import KE.DataFind
import HandS.More
import HandS.Text
import HandS.Strs
import KE.KSuper
import KE.KExcSuper
import KE.KExcMake
import HandS.Base
import HandS.Call
import HandS.Exc
import HandS.ExcInit
import HandS.Nested
import HandS.WordsExc
import HandS.ExcField
import HandS.TryMany
import HandS.TryOnly
import HandS.Words
import HandS.HeadHook1
import HandS.HeadHook2
import HandS.Lambda
import KE.KNestM
import HandS.HotCalls
import PySem.Challenge.RW_lastopen_k02_rules_made
import HandS.Codes
import PyProof.EqKinds
import PyProof.FactsAll.dict_1
import PyProof.FactsAll.subtypes_3
import PyProof.FactsAll.subtypes_4
import OpenK.KMeth
import PyProof.SliceList
import KE.KRevSl
import KE.KOpsOwn
import HandS.TupLen
import HandS.Head0
import HandS.Head1
import HandS.Head2
set_option Elab.async false
set_option linter.all false
set_option maxRecDepth 100000
set_option maxHeartbeats 1000000
namespace L3
open PySem L2

/-! the ghost part M of the heap: what never changes from here on -/
structure Gr (M H M' H' : Hp) : Prop where
  mm : Same M M'
  hh : Same H H'
  mh : Same M' H'
  nw : ∀ a o, M' a = some o → M a = some o ∨ H a = none ∨ ∃ xs, o = HO.tup xs
  nt : ∀ a ps, M' a = some (.tbl ps) → M a = some (.tbl ps)
theorem same_new {H : Hp} {p : Addr} {o : HO} (h : H p = none) : Same H (upd H p o) := fun b u e => by
  rw [upd_ne (ne_of_none e h)]; exact e
theorem same_mut {M H : Hp} {p : Addr} {o : HO} (e : Same M H) (h : M p = none) : Same M (upd H p o) := fun b u q => by
  rw [upd_ne (ne_of_none q h)]; exact e b u q
theorem Gr.refl {M H : Hp} (mh : Same M H) : Gr M H M H := ⟨Same.refl M, Same.refl H, mh, fun _ _ e => .inl e, fun _ _ e => e⟩
theorem Gr.trans {M H M1 H1 M2 H2 : Hp} (a : Gr M H M1 H1) (b : Gr M1 H1 M2 H2) : Gr M H M2 H2 :=
  ⟨a.mm.trans b.mm, a.hh.trans b.hh, b.mh, fun x o e => by
    rcases b.nw x o e with h | h | h
    · exact a.nw x o h
    · exact .inr (.inl (a.hh.free h))
    · exact .inr (.inr h), fun x ps e => a.nt x ps (b.nt x ps e)⟩
theorem upd_nt {M : Hp} {p : Addr} {o : HO} (hn : ∀ ps, o ≠ HO.tbl ps) (a : Addr) (ps : Array Value) (e : upd M p o a = some (.tbl ps)) : M a = some (.tbl ps) := by
  by_cases h : a = p
  · subst h; rw [upd_same] at e; exact absurd (Option.some.inj e) (hn ps)
  · rw [upd_ne h] at e; exact e
/-- a new object that is known from now on; one that may still change -/
theorem Gr.new {M H : Hp} {p : Addr} {o : HO} (mh : Same M H) (hp : H p = none) (hn : ∀ ps, o ≠ HO.tbl ps := by intro _ z; cases z) : Gr M H (upd M p o) (upd H p o) := by
  refine ⟨same_new (mh.free hp), same_new hp, fun b u e => ?_, fun b u e => ?_, upd_nt hn⟩
  · by_cases hb : b = p
    · subst hb; rw [upd_same] at e ⊢; exact e
    · rw [upd_ne hb] at e ⊢; exact mh b u e
  · by_cases hb : b = p
    · subst hb; exact .inr (.inl hp)
    · rw [upd_ne hb] at e; exact .inl e
theorem Gr.own {M H : Hp} {p : Addr} {o : HO} (mh : Same M H) (hp : H p = none) : Gr M H M (upd H p o) :=
  ⟨Same.refl M, same_new hp, same_mut mh (mh.free hp), fun _ _ e => .inl e, fun _ _ e => e⟩
/-- an object of ours changes -/
theorem Gr.mut {M0 H0 M H : Hp} {p : Addr} {o : HO} (g : Gr M0 H0 M H) (h0 : H0 p = none) (hm : M p = none) : Gr M0 H0 M (upd H p o) :=
  ⟨g.mm, same_mut g.hh h0, same_mut g.mh hm, g.nw, g.nt⟩
/-- an object of ours is known from now on -/
theorem Gr.freeze {M0 H0 M H : Hp} {p : Addr} {o : HO} (g : Gr M0 H0 M H) (h0 : H0 p = none) (hm : M p = none) (hp : H p = some o) (hn : ∀ ps, o ≠ HO.tbl ps := by intro _ z; cases z) : Gr M0 H0 (upd M p o) H := by
  refine ⟨g.mm.trans (same_new hm), g.hh, fun b u e => ?_, fun b u e => ?_, fun b ps e => g.nt b ps (upd_nt hn b ps e)⟩
  · by_cases hb : b = p
    · subst hb; rw [upd_same] at e; rw [hp]; exact e
    · rw [upd_ne hb] at e; exact g.mh b u e
  · by_cases hb : b = p
    · subst hb; exact .inr (.inl h0)
    · rw [upd_ne hb] at e; exact g.nw b u e
theorem Gr.keep {M H M' H' : Hp} {p : Addr} {o : HO} (g : Gr M H M' H') (hm : M p = none) (hp : H p = some o) (hn : ∀ xs, o ≠ HO.tup xs := by intro _ z; cases z) : M' p = none := by
  cases e : M' p with
  | none => rfl
  | some u =>
    rcases g.nw p u e with h | h | ⟨xs, h⟩
    · rw [hm] at h; cases h
    · rw [hp] at h; cases h
    · subst h
      have h1 := g.mh p _ e
      rw [g.hh p _ hp] at h1
      exact absurd (Option.some.inj h1) (hn xs)
/-- tuples that stand may be known at any time -/
def withT (M H : Hp) (bs : List Addr) : Hp := fun a => (M a).or (if a ∈ bs then H a else none)
theorem withT_in {M H : Hp} {bs : List Addr} {a : Addr} {o : HO} (mh : Same M H) (ha : a ∈ bs) (h : H a = some o) : withT M H bs a = some o := by
  unfold withT
  cases e : M a with
  | none => rw [if_pos ha]; exact h
  | some u => have := mh a u e; rw [h] at this; cases this; rfl
theorem Gr.tups {M H : Hp} {bs : List Addr} (mh : Same M H) (hb : ∀ b ∈ bs, ∃ xs, H b = some (.tup xs)) : Gr M H (withT M H bs) H := by
  refine ⟨fun a o e => by unfold withT; rw [e]; rfl, Same.refl H, fun a o e => ?_, fun a o e => ?_, fun a ps e => ?_⟩
  · unfold withT at e
    cases q : M a with
    | some u => rw [q] at e; cases e; exact mh a _ q
    | none =>
      rw [q] at e
      by_cases ha : a ∈ bs
      · rw [if_pos ha] at e; exact e
      · rw [if_neg ha] at e; cases e
  · unfold withT at e
    cases q : M a with
    | some u => rw [q] at e; exact .inl e
    | none =>
      rw [q] at e
      by_cases ha : a ∈ bs
      · rw [if_pos ha] at e
        obtain ⟨xs, h⟩ := hb a ha
        have e' : H a = some o := e
        rw [h] at e'
        cases e'
        exact .inr (.inr ⟨xs, rfl⟩)
      · rw [if_neg ha] at e; cases e
  · unfold withT at e
    cases q : M a with
    | some u => rw [q] at e; exact e
    | none =>
      rw [q] at e
      by_cases ha : a ∈ bs
      · rw [if_pos ha] at e
        obtain ⟨xs, h⟩ := hb a ha
        have e' : H a = some (.tbl ps) := e
        rw [h] at e'
        cases e'
      · rw [if_neg ha] at e; cases e
theorem rd_mono {H H' : Hp} {a : Addr} {u : HO} (e : Same H H') (h : Rd H a u) : Rd H' a u := by
  rcases h with h | ⟨o, h⟩
  · exact Or.inl (e a _ h)
  · exact Or.inr ⟨o, e a _ h⟩
theorem sl_mono {K : PySem.W.Frag} {H H' : Hp} {a : Addr} {xs : List V} (e : Same H H') (h : SqL K H a xs) : SqL K H' a xs := by
  rcases h with h | h
  · exact Or.inl (rd_mono e h)
  · exact Or.inr h
theorem st_mono {K : PySem.W.Frag} {H H' : Hp} {a : Addr} {xs : List V} (e : Same H H') (h : SqT K H a xs) : SqT K H' a xs := by
  rcases h with h | h
  · exact Or.inl (rd_mono e h)
  · exact Or.inr h
mutual
theorem dp_mono {K : PySem.W.Frag} {H H' : Hp} (e : Same H H') : ∀ {v : V} {d : PyData}, Dp K H v d → Dp K H' v d
  | _, _, .non => .non
  | _, _, .bl b => .bl b
  | _, _, .int i => .int i
  | _, _, .str x => .str x
  | _, _, .lst hs ha => .lst (sl_mono e hs) (dpa_mono e ha)
  | _, _, .tup hs ha => .tup (st_mono e hs) (dpa_mono e ha)
theorem dpa_mono {K : PySem.W.Frag} {H H' : Hp} (e : Same H H') : ∀ {vs : List V} {ds : List PyData}, DpAll K H vs ds → DpAll K H' vs ds
  | _, _, .nil => .nil
  | _, _, .cons h t => .cons (dp_mono e h) (dpa_mono e t)
end
theorem dpa_len {K : PySem.W.Frag} {H : Hp} : ∀ {vs : List V} {ds : List PyData}, DpAll K H vs ds → vs.length = ds.length
  | _, _, .nil => rfl
  | _, _, .cons _ t => by rw [List.length_cons, List.length_cons, dpa_len t]
theorem dpa_get {K : PySem.W.Frag} {H : Hp} : ∀ {vs : List V} {ds : List PyData} {i : Nat} {v : V}, DpAll K H vs ds → vs[i]? = some v → ∃ d, ds[i]? = some d ∧ Dp K H v d
  | _, _, _, _, .nil, e => by simp at e
  | _, _, 0, _, .cons h _, e => by
    have e' := Option.some.inj (show some _ = some _ from e)
    subst e'
    exact ⟨_, rfl, h⟩
  | _, _, i + 1, _, .cons _ t, e => dpa_get (i := i) t (by simpa using e)
theorem dpa_get' {K : PySem.W.Frag} {H : Hp} : ∀ {vs : List V} {ds : List PyData} {i : Nat} {d : PyData}, DpAll K H vs ds → ds[i]? = some d → ∃ v, vs[i]? = some v ∧ Dp K H v d
  | _, _, _, _, .nil, e => by simp at e
  | _, _, 0, _, .cons h _, e => by
    have e' := Option.some.inj (show some _ = some _ from e)
    subst e'
    exact ⟨_, rfl, h⟩
  | _, _, i + 1, _, .cons _ t, e => dpa_get' (i := i) t (by simpa using e)
theorem dpa_app {K : PySem.W.Frag} {H : Hp} : ∀ {vs ws : List V} {ds es : List PyData}, DpAll K H vs ds → DpAll K H ws es → DpAll K H (vs ++ ws) (ds ++ es)
  | _, _, _, _, .nil, s => s
  | _, _, _, _, .cons r t, s => .cons r (dpa_app t s)
theorem dpa_one {K : PySem.W.Frag} {H : Hp} {v : V} {d : PyData} (h : Dp K H v d) : DpAll K H [v] [d] := .cons h .nil
theorem dpa_take {K : PySem.W.Frag} {H : Hp} : ∀ {vs : List V} {ds : List PyData} (n : Nat), DpAll K H vs ds → DpAll K H (vs.take n) (ds.take n)
  | _, _, 0, _ => .nil
  | _, _, _ + 1, .nil => .nil
  | _, _, n + 1, .cons r t => .cons r (dpa_take n t)
theorem dpa_drop {K : PySem.W.Frag} {H : Hp} : ∀ {vs : List V} {ds : List PyData} (n : Nat), DpAll K H vs ds → DpAll K H (vs.drop n) (ds.drop n)
  | _, _, 0, h => h
  | _, _, _ + 1, .nil => .nil
  | _, _, n + 1, .cons _ t => dpa_drop n t
/-- texts -/
theorem dpa_strs {K : PySem.W.Frag} {H : Hp} : ∀ {vs : List V} {xs : List Str}, DpAll K H vs (xs.map PyData.str) → vs = xs.map V.str
  | _, [], .nil => rfl
  | _, _ :: _, .cons (.str _) t => by rw [dpa_strs t]; rfl
theorem dpa_of_strs {K : PySem.W.Frag} {H : Hp} : ∀ (xs : List Str), DpAll K H (xs.map V.str) (xs.map PyData.str)
  | [] => .nil
  | x :: r => .cons (.str x) (dpa_of_strs r)
end L3

set_option Elab.async false
set_option linter.all false
set_option maxRecDepth 100000
set_option maxHeartbeats 1000000
namespace L3
open PySem PySem.Spec PyProof.Rows L2

/-! defs whose text asks repr: no repr is under way around them -/
structure FnG (P : Program) (w : World) (K : PySem.W.Frag) (mg : Str → Option Value) (base : Heap) (CX : CXT) (k : Nat) (f : Addr) (fd : FuncData) (ps : List Str) (sp : Sp) : Prop where
  len (vs : List V) (H : Hp) (Q : VK) (E : XK) : sp vs H Q E → vs.length = ps.length
  run : ∀ (A : Around) (outer : List Env) (s : Shared) (H : Hp) (args : Args) (us : List Value) (vs : List V) (Q : VK) (E : XK), A.guards = some [] → Room k A →
    Env0 P w K mg base A outer s H → BindsTo s fd args (ps.zip us) → Vals vs us → sp vs H Q E → codeAny (model P w) A (.call (.ref f) args) (CR CX outer P w H s Q E) s
section
variable {P : Program} {w : World} {K : PySem.W.Frag} {mg : Str → Option Value} {base : Heap} {CX : CXT} {k : Nat} {f : Addr} {fd : FuncData} {ps : List Str} {sp : Sp}
theorem FnG.of (F : FnOk P w K mg base CX k f fd ps sp) : FnG P w K mg base CX k f fd ps sp :=
  ⟨F.len, fun A outer s H args us vs Q E _ hr he hb hv h => F.run A outer s H args us vs Q E hr he hb hv h⟩
theorem FnG.mono {j : Nat} (F : FnG P w K mg base CX j f fd ps sp) (h : j ≤ k) : FnG P w K mg base CX k f fd ps sp :=
  ⟨F.len, fun A outer s H args us vs Q E hg hr he hb hv hs => F.run A outer s H args us vs Q E hg (hr.mono h) he hb hv hs⟩
end
/-- a def of the text keeps its promise where no repr is under way: its body is walked in the new frame, and each way out of the body is a way out of the call -/
theorem fun_okG {P : Program} {w : World} {K : PySem.W.Frag} {mg : Str → Option Value} {base : Heap} {x qual : Str} {st : Stmt} {f : Addr} {fd : FuncData} {N ps : List Str} {k : Nat} {sp : Sp} (F : Fun K x qual st f fd) (S : FnScope N ps (defScope st))
    (ar : ∀ vs H Q E, sp vs H Q E → vs.length = ps.length) (hb : ∀ (cdv : Value) (A : Around) (outer : List Env) (s : Shared) (H : Hp) (vs : List V) (Q : VK) (E : XK), A.guards = some [] → Room k (A.deeper (envOfC qual (defScope st) s.heap.objs.size f cdv)) → sp vs H Q E →
      ∃ t, PSs (cxOf CX0 P w K mg base N qual (defScope st) f cdv A outer s H E).nox (defBody st) t ∧ t { nx := fun _ H' => Q .non H', rt := Q } (start N vs) H) :
    FnG P w K mg base CX0 (k + 1) f fd ps sp where
  len := ar
  run A outer s H args us vs Q E hgu hr e0 hbi rv hsp := by
    have ⟨c1, c2, c3, c4, c5, c6, cdv, c7, c8, efd, lk, hcd⟩ := F.ex
    subst efd
    have grown : ∀ b o, base.get? b = some o → s.heap.get? b = some o := fun b o e => (e0.bs b o e).1
    have inK := e0.mod.kin.keeps grown
    apply codeAny_call_function hr.depth (inK _ _ lk) rfl S.co S.gen rfl (PySem.W.codeRec_of inK hcd)
    apply hbi
    refine wpAny_newFunctionEnv_cells S.kind (fun ⟨n, v⟩ hy => ?_) fun env he s1 new => ?_
    · rcases S.par n (List.of_mem_zip hy).1 with q | q
      · exact .inl q
      · exact .inr ⟨q, PySem.W.cellsFrom_some _ _ _ (.inl q)⟩
    subst he
    have ⟨t, pt, q⟩ := hb cdv A outer s H vs Q E hgu (hr.deeper _) hsp
    have I0 := inv_start (CX := CX0) (E := E) S hr.hd e0 (ar _ _ _ _ hsp) rv new
    refine ⟨(e0.mod.nolimit.keeps grown).keeps new.toInCall.keep, codeAny_func (wpAny_mono (pt.nox.run [] s1 _ H _ I0 q) ?_ fun _ _ z => z)⟩
    rintro (_ | _ | _ | u) s2 h2
    · have ⟨_, _, J, z⟩ := h2
      exact ⟨V.non, _, J.os, J.bare, J.base, J.hok, rfl, z⟩
    · exact h2.elim fun _ h => h.elim fun _ h => h.2.elim
    · exact h2.elim fun _ h => h.elim fun _ h => h.2.elim
    · have ⟨v, _, _, J, ru, z⟩ := h2
      exact ⟨v, _, J.os, J.bare, J.base, J.hok, ru, z⟩
section
variable {X : Cx} {CX : CXT} {k : Nat} {f C : Addr} {fd : FuncData} {ps : List Str} {sp : Sp} {dvs : List V} {ds : List Value} {E : XK} {x : Str} {p pos : Pos} {e : Expr} {es : List Expr} {t : TA}
theorem run_fnG {pins : List (Addr × Obj)} {σ : L2.St} {H : Hp} {s : Shared} {Q : VK} {us : List Value} {vs : List V} (F : FnG X.prog X.w X.K X.mg X.base CX k f fd ps sp) (hgu : X.A.guards = some []) (hr : Room k X.A) (hb : Binds X.K fd ps ds) (hd : Vals dvs ds) (hx : Passes CX X E) (I : Inv X pins σ H s) (rv : Vals vs us)
    (h : sp (vs ++ dvs) H Q E) : wpAny (model X.prog X.w) X.A (call (.ref f) us) (EP X pins σ Q) X.xe s := by
  have rr := rv.append hd
  have bind := hb s us I.kIn (rr.length ▸ F.len _ _ _ _ h)
  apply wpAny_call
  apply codeAny_mono (F.run X.A X.stack s H ⟨us, []⟩ _ _ Q E hgu hr I.env0 bind rr h)
  rintro (e | fl) s' hq
  · exact hx pins σ H s e s' I hq
  · cases fl with
    | ret u => exact I.after hq
    | _ => exact hq.elim
theorem pe_callG (F : FnG X.prog X.w X.K X.mg X.base CX k f fd ps sp) (hgu : X.A.guards = some []) (hr : Room k X.A) (hg : Gl X x) (hm : X.mg x = some (.ref f)) (hk : PySem.W.keepIn X.K (.ref f) = true) (hb : Binds X.K fd ps ds) (hd : Vals dvs ds) (hx : Passes CX X E)
    (ha : PA X (e :: es) t) (hdb : (x == ("__debug__" : Str)) = false := by decide) (he : starEach (e :: es) X.env = (false, eval e X.env) :: starEach es X.env := by rfl) (hpl : (backTo pos (starEach es X.env)).any (·.1) = false := by rfl) :
    PE X (.Call (.Name x p) (e :: es) [] pos) (tCall sp dvs E t) :=
  ⟨fun pins s σ H Q I h => wpAny_Call_Name_kw (ld_glob I hg hm (PySem.W.callWith_K (h₀ := X.base) I.ok.mod.kin hk
    (thn (ha.run pos pins s σ H _ I h) fun us s1 ⟨vs, H1, I1, r, q⟩ => ⟨I1.kIn, run_fnG F hgu hr hb hd hx I1 r q⟩) he hpl) hdb)⟩

/-! repr of data -/
def rRepr (K : PySem.W.Frag) : List V → Hp → VK → Prop := fun xs H Q => ∃ v d, xs = [v] ∧ Dp K H v d ∧ d.showable = true ∧ d.depth ≤ 64 ∧ d.shown.length ≤ sizeLine ∧ Q (.str d.shown) H
mutual
theorem dp_nodict {K : PySem.W.Frag} {H : Hp} : ∀ {v : V} {d : PyData}, Dp K H v d → d.hasDict = false
  | _, _, .non => by simp only [PyData.hasDict]
  | _, _, .bl b => by simp only [PyData.hasDict]
  | _, _, .int i => by simp only [PyData.hasDict]
  | _, _, .str x => by simp only [PyData.hasDict]
  | _, _, .lst _ ha => by simp only [PyData.hasDict]; exact dpa_nodict ha
  | _, _, .tup _ ha => by simp only [PyData.hasDict]; exact dpa_nodict ha
theorem dpa_nodict {K : PySem.W.Frag} {H : Hp} : ∀ {vs : List V} {ds : List PyData}, DpAll K H vs ds → PyData.hasDictAll ds = false
  | _, _, .nil => by simp only [PyData.hasDictAll]
  | _, _, .cons h t => by simp only [PyData.hasDictAll]; rw [dp_nodict h, dpa_nodict t]; rfl
end
theorem call_repr (hgu : X.A.guards = some []) (hu : X.A.units + 70 < cLine) : CallR X (.builtin "repr") (rRepr X.K) := by
  rintro pins s σ H _ us Q I r ⟨v, d, rfl, hd, hs, hdp, hz, q⟩
  have ⟨u, eu, ru⟩ := vals1 r
  subst eu
  obtain ⟨as, rd⟩ := Dp.reads I d v u hd ru
  have hsm := PyData.noDict_hsm (as := as) (dp_nodict hd)
  have fin : ∀ h' u' tk, (∀ b o, s.heap.get? b = some o → h'.get? b = some o) → EP X pins σ Q (.str d.shown u') { s with heap := h', toks := tk } :=
    fun h' u' tk k => ⟨.str d.shown, H, I.kept k, ⟨_, rfl⟩, q⟩
  cases hd with
  | non =>
    cases ru
    simp only [PyData.shown] at fin
    exact PySem.P.repr_of_none (fin s.heap _ _ fun _ _ e => e)
  | bl b =>
    cases ru
    simp only [PyData.shown] at fin
    exact PySem.P.repr_of_bool (fin s.heap _ _ fun _ _ e => e)
  | int i =>
    obtain ⟨t, rfl⟩ := ru
    simp only [PyData.shown] at fin
    exact PySem.P.repr_of_int (by simpa [PyData.showable] using hs) (fin s.heap _ _ fun _ _ e => e)
  | str x =>
    obtain ⟨t, rfl⟩ := ru
    simp only [PyData.shown] at fin hz
    exact PySem.P.repr_of_str (fin s.heap _ _ fun _ _ e => e) hz
  | lst hl ha =>
    cases ru
    exact repr_of_reads' rd hs hsm hgu (by omega) (fun _ _ e => e) fin hz
  | tup hl ha =>
    cases ru
    exact repr_of_reads' rd hs hsm hgu (by omega) (fun _ _ e => e) fin hz
end
end L3

set_option Elab.async false
set_option linter.all false
set_option maxRecDepth 100000
set_option maxHeartbeats 1000000
namespace L3
open PySem PySem.Spec PyProof.Rows L2

/-! the law's own end, over a promise that knows the guards. The script stands in the written part, or it is the one object that is known at the start -/
def scrO (vs : List Value) : Obj := { cls := .type "list", data := .seq vs.toArray }
def scrH (K : PySem.W.Frag) (a : Addr) (vs : List Value) (xs : List V) : Hp := fun b => if b = a ∧ K.lookup a = none then some (.frz (scrO vs) (.lst xs)) else none
section
variable {K : PySem.W.Frag} {a : Addr} {vs : List Value} {xs : List V} {h : Heap} {P : Program} {w : World}
theorem scrH_some {b : Addr} {u : HO} (e : scrH K a vs xs b = some u) : b = a ∧ K.lookup a = none ∧ u = .frz (scrO vs) (.lst xs) := by
  unfold scrH at e
  split at e
  next c => exact ⟨c.1, c.2, (Option.some.inj e).symm⟩
  next => cases e
theorem scrH_sq (KX : K.In h) (ho : h.get? a = some (scrO vs)) (rv : Vals xs vs) (hz : xs.length ≤ sizeLine) : SqL K (scrH K a vs xs) a xs := by
  cases e : K.lookup a with
  | none => exact .inl (.inr ⟨_, if_pos ⟨rfl, e⟩⟩)
  | some o =>
    cases ho.symm.trans (KX a o e)
    exact .inr ⟨_, vs.toArray, _, e, rfl, rfl, rfl, (by rw [List.size_toArray, ← rv.length]; exact hz), rv⟩
theorem scrH_ok (ho : h.get? a = some (scrO vs)) (rv : Vals xs vs) (hz : xs.length ≤ sizeLine) : HOk P w (scrH K a vs xs) h := fun b u e => by
  have ⟨h1, _, h3⟩ := scrH_some e
  subst h1 h3
  exact ⟨ho, hz, vs, _, rv, ho⟩
/-- what is hidden of the heap is the script alone: no dict, nothing of the written part -/
theorem scrH_in (KX : K.In h) : K.In (hidT h (scrH K a vs xs)) := fun b o e => hidT_get (KX b o e) (by
  cases q : scrH K a vs xs b with
  | none => rfl
  | some u =>
    have z := scrH_some q
    rw [z.1, z.2.1] at e
    cases e)
theorem scrH_ns (ho : h.get? a = some (scrO vs)) {b : Addr} {m : Str → Option Value} (n : h.Ns b m) : (hidT h (scrH K a vs xs)).Ns b m := by
  obtain ⟨o, es, ep, e, d, r⟩ := n
  refine ⟨o, es, ep, hidT_get e ?_, d, r⟩
  cases q : scrH K a vs xs b with
  | none => rfl
  | some u =>
    rw [(scrH_some q).1, ho] at e
    cases e
    cases (show Data.seq vs.toArray _ = Data.dict es ep from d)
end
theorem walk_G {l : PySem.W.OpenLaw} {n k : Nat} {q : Program} {loose : List Str} {XP : (Str → Option Value) → Heap → Prop} {YP : World → Heap → Prop} {d : DefRec} {K : Params → PySem.W.Frag} {sp : PySem.W.Frag → Sp} {x : Str} (hn : l.most = some n) (hn2 : n ≤ sizeLine) (hdf : d.params.defaults = [])
    (hr : Room k callerA) (hY : ∀ (w : World) (h : Heap), YP w h → (K w.params).In h) (F : ∀ (w : World) (mg : Str → Option Value) (fa : Addr) (h : Heap), (K w.params).In h → h.Ns mainGlobals mg → mg d.name = some (.ref fa) → ∃ fd : FuncData,
      (∀ (s : Shared) (u : Value), BindsTo s fd ⟨[u], []⟩ [(x, u)]) ∧ ∀ base : Heap, (K w.params).In base → base.Ns mainGlobals mg → FnG l.prog w (K w.params) mg base CX0 k fa fd [x] (sp (K w.params)))
    (hsp : ∀ (K : PySem.W.Frag) (H : Hp) (a : Addr) (ns : List Int), ns.length ≤ n → (∀ z ∈ ns, Builtin.Int.intBits z ≤ 1048576) → SqL K H a (ns.map V.int) → sp K [.ref a] H (fun v _ => v = .bl true) fun _ _ _ => False) : PySem.W.WalkO q loose XP YP l.row.toRowW d [] (fun f vs => PySem.call f vs) := by
  apply Att.attach_callB hn hdf
  intro w s0 s mg mb fa o pm cd doc a vs ns G Y ho hd hcd hmg hobj hints hlen hbits hgens
  have KX := hY w _ Y
  have ⟨fd, bind, hF⟩ := F w mg fa _ KX G.T.g hmg
  have rv := vals_ints hints
  have hz : (ns.map V.int).length ≤ sizeLine := by rw [List.length_map]; exact Nat.le_trans hlen hn2
  have KB := scrH_in (K := K w.params) (a := a) (vs := vs) (xs := ns.map V.int) KX
  have NS := fun b m (z : s.heap.Ns b m) => scrH_ns (K := K w.params) (xs := ns.map V.int) hobj z
  have hok := scrH_ok (P := l.prog) (w := w) (K := K w.params) hobj rv hz
  have ⟨mc, l1, l2⟩ := G.T.nolimit
  have env : Env0 l.prog w (K w.params) mg (hidT s.heap (scrH (K w.params) a vs (ns.map V.int))) callerA [] s (scrH (K w.params) a vs (ns.map V.int)) :=
    ⟨rfl, ⟨KB, NS _ _ G.T.g, ⟨mb, NS _ _ G.T.b, G.T.builtins⟩, ⟨mc, NS _ _ l1, l2⟩⟩, fun b o e => of_hidT e, Nat.le_of_eq (hidT_size _ _), trivial, nofun, hok, .of_eq hgens⟩
  refine codeAny_mono ((hF _ KB (NS _ _ G.T.g)).run callerA [] s _ ⟨[.ref a], []⟩ [.ref a] [.ref a] _ _ rfl hr env (bind _ _) (.cons rfl .nil) (hsp _ _ a ns hlen hbits (scrH_sq KX hobj rv hz))) ?_
  intro r s1 h
  match r, h with
  | .ok (.ret u), h =>
    have ⟨v, H1, os, bare, un, hok1, ru, ev⟩ := h
    have e1 : v = .bl true := ev
    subst e1
    cases (show u = Value.bool true from ru)
    refine ⟨rfl, .of_keep fun b ob e => ?_, os, bare⟩
    cases z : scrH (K w.params) a vs (ns.map V.int) b with
    | none => exact un.keep b ob e z nofun nofun
    | some y =>
      have hy := scrH_some z
      rw [hy.2.2] at z
      have now := (hok1 b _ (un.frzs b _ _ z)).1
      rw [hy.1, hobj] at e
      cases e
      exact now
end L3

set_option Elab.async false
set_option linter.all false
set_option maxRecDepth 100000
set_option maxHeartbeats 1000000
namespace L3
open PySem PySem.Spec PyProof.Rows L2
abbrev Sl := L2.St

/-! operators by data -/
mutual
theorem dp_plain {K : PySem.W.Frag} {H : Hp} : ∀ {v : V} {d : PyData}, Dp K H v d → d.plain = true
  | _, _, .non => by simp only [PyData.plain]
  | _, _, .bl b => by simp only [PyData.plain]
  | _, _, .int i => by simp only [PyData.plain]
  | _, _, .str x => by simp only [PyData.plain]
  | _, _, .lst _ ha => by simp only [PyData.plain]; exact dpa_plain ha
  | _, _, .tup _ ha => by simp only [PyData.plain]; exact dpa_plain ha
theorem dpa_plain {K : PySem.W.Frag} {H : Hp} : ∀ {vs : List V} {ds : List PyData}, DpAll K H vs ds → PyData.plainAll ds = true
  | _, _, .nil => by simp only [PyData.plainAll]
  | _, _, .cons h t => by simp only [PyData.plainAll]; rw [dp_plain h, dpa_plain t]; rfl
end
/-- a list or a tuple of ds -/
def Sq (K : PySem.W.Frag) (ds : List PyData) (H : Hp) (v : V) : Prop := Dp K H v (.list ds) ∨ Dp K H v (.tuple ds)
theorem Sq.mono {K : PySem.W.Frag} {ds : List PyData} {H H' : Hp} {v : V} (e : Same H H') (h : Sq K ds H v) : Sq K ds H' v := h.imp (dp_mono e) (dp_mono e)
theorem Sq.at {K : PySem.W.Frag} {ds : List PyData} {H : Hp} {v : V} (h : Sq K ds H v) : ∃ a xs, v = .ref a ∧ (SqL K H a xs ∨ SqT K H a xs) ∧ DpAll K H xs ds := by
  rcases h with h | h
  · cases h with
    | lst hs ha => exact ⟨_, _, rfl, .inl hs, ha⟩
  · cases h with
    | tup hs ha => exact ⟨_, _, rfl, .inr hs, ha⟩
def rEqP (K : PySem.W.Frag) (neg : Bool) : R2 := fun x y H Q => ∃ d e, Dp K H x d ∧ Dp K H y e ∧ d.depth ≤ 60 ∧ Q (.bl (xor neg (PyData.eqv d e))) H
def rInP (K : PySem.W.Frag) (neg : Bool) : R2 := fun x y H Q => ∃ d ds, Dp K H x d ∧ Sq K ds H y ∧ d.depth ≤ 60 ∧ Q (.bl (xor neg (ds.any fun z => PyData.eqv z d))) H
section
variable {X : Cx}
theorem op_eqP (hu : X.A.units + 64 < cLine) : OpR X (compareOp .Eq) (rEqP X.K false) := by
  intro pins s σ H x y v u Q I rx ry ⟨d, e, hd, he, hz, q⟩
  obtain ⟨as, r1⟩ := Dp.reads I d x v hd rx
  obtain ⟨bs, r2⟩ := Dp.reads I e y u he ry
  exact SeqAt.eq_plain r1 r2 (dp_plain hd) (dp_plain he) (by omega) ⟨.bl _, H, I, rfl, by simpa using q⟩
theorem op_neP (hu : X.A.units + 64 < cLine) : OpR X (compareOp .NotEq) (rEqP X.K true) := by
  intro pins s σ H x y v u Q I rx ry ⟨d, e, hd, he, hz, q⟩
  obtain ⟨as, r1⟩ := Dp.reads I d x v hd rx
  obtain ⟨bs, r2⟩ := Dp.reads I e y u he ry
  exact SeqAt.ne_plain r1 r2 (dp_plain hd) (dp_plain he) (by omega) ⟨.bl _, H, I, rfl, by simpa using q⟩
theorem op_inP (hu : X.A.units + 64 < cLine) : OpR X (compareOp .In) (rInP X.K false) := by
  intro pins s σ H x y v u Q I rx ry ⟨d, ds, hd, hs, hz, q⟩
  obtain ⟨as, r1⟩ := Dp.reads I d x v hd rx
  rcases hs with hs | hs
  · obtain ⟨bs, r2⟩ := Dp.reads I _ y u hs ry
    exact SeqAt.in_list_data r2 r1 (by simpa only [PyData.plain] using dp_plain hs) (dp_plain hd) (by omega) ⟨.bl _, H, I, rfl, by simpa using q⟩
  · obtain ⟨bs, r2⟩ := Dp.reads I _ y u hs ry
    exact SeqAt.in_tuple_data r2 r1 (by simpa only [PyData.plain] using dp_plain hs) (dp_plain hd) (by omega) ⟨.bl _, H, I, rfl, by simpa using q⟩
theorem op_notInP (hu : X.A.units + 64 < cLine) : OpR X (compareOp .NotIn) (rInP X.K true) := by
  intro pins s σ H x y v u Q I rx ry ⟨d, ds, hd, hs, hz, q⟩
  obtain ⟨as, r1⟩ := Dp.reads I d x v hd rx
  rcases hs with hs | hs
  · obtain ⟨bs, r2⟩ := Dp.reads I _ y u hs ry
    exact SeqAt.notIn_list_data r2 r1 (by simpa only [PyData.plain] using dp_plain hs) (dp_plain hd) (by omega) ⟨.bl _, H, I, rfl, by simpa using q⟩
  · obtain ⟨bs, r2⟩ := Dp.reads I _ y u hs ry
    exact SeqAt.notIn_tuple_data r2 r1 (by simpa only [PyData.plain] using dp_plain hs) (dp_plain hd) (by omega) ⟨.bl _, H, I, rfl, by simpa using q⟩
/-- two readings of one expression, of one thing walked -/
theorem PE.or {e : Expr} {t u : TE} (h : PE X e t) (h' : PE X e u) : PE X e (fun σ H Q => t σ H Q ∨ u σ H Q) :=
  ⟨fun pins s σ H Q I q => q.elim (h.run pins s σ H Q I) (h'.run pins s σ H Q I)⟩
theorem PI.or {tg e : Expr} {t u : TI} (h : PI X tg e t) (h' : PI X tg e u) : PI X tg e (fun σ H R => t σ H R ∨ u σ H R) :=
  ⟨fun pins s σ H Q I q => q.elim (h.run pins s σ H Q I) (h'.run pins s σ H Q I)⟩
end

/-! what an expression is worth, over the known part M -/
abbrev Pr := Hp → V → Prop
abbrev Dd (K : PySem.W.Frag) (d : PyData) : Pr := fun M v => Dp K M v d
def Gv (te : TE) (σ : Sl) (M : Hp) (P : Pr) : Prop := ∀ H, Same M H → ∀ Q : VK, (∀ v M' H', Gr M H M' H' → P M' v → Q v H') → te σ H Q
def GvT (tt : TT) (σ : Sl) (M : Hp) (b : Bool) : Prop := ∀ H, Same M H → ∀ Q : Bool → Hp → Prop, (∀ M' H', Gr M H M' H' → Q b H') → tt σ H Q
/-- a new list, ours -/
def GvL (te : TE) (σ : Sl) (M : Hp) (P : Hp → List V → Prop) : Prop := ∀ H, Same M H → ∀ Q : VK, (∀ p vs M' H', Gr M H M' H' → H p = none → M' p = none → H' p = some (.lst vs) → P M' vs → Q (.ref p) H') → te σ H Q
def GvA (ta : TA) (σ : Sl) (M : Hp) (P : Hp → List V → Prop) : Prop := ∀ H, Same M H → ∀ Q : List V → Hp → Prop, (∀ vs M' H', Gr M H M' H' → P M' vs → Q vs H') → ta σ H Q
class Mono (P : Pr) : Prop where
  mono : ∀ {M M' : Hp} {v : V}, Same M M' → P M v → P M' v
instance {K : PySem.W.Frag} {d : PyData} : Mono (Dd K d) := ⟨fun e h => dp_mono e h⟩
instance {K : PySem.W.Frag} {ds : List PyData} : Mono (Sq K ds) := ⟨fun e h => h.mono e⟩
section
variable {K : PySem.W.Frag} {σ : Sl} {M M1 : Hp} {ta tb te : TE} {tt tu : TT} {P P1 : Pr} {b c : Bool} {v : V}
def jn (M1 M' : Hp) : Hp := fun a => (M1 a).or (M' a)
theorem jn_some {M1 M' : Hp} {a : Addr} {o : HO} (q : M1 a = some o) : jn M1 M' a = some o := by unfold jn; rw [q]; rfl
theorem jn_none {M1 M' : Hp} {a : Addr} (q : M1 a = none) : jn M1 M' a = M' a := by unfold jn; rw [q]; rfl
theorem Gr.join {M H M' H' M1 : Hp} (g : Gr M H M' H') (e : Same M M1) (h1 : Same M1 H) : Gr M1 H (jn M1 M') H' ∧ Same M' (jn M1 M') := by
  have k1 := h1.trans g.hh
  refine ⟨⟨fun a o q => jn_some q, g.hh, fun a o q => ?_, fun a o q => ?_, fun a ps q => ?_⟩, fun a o q => ?_⟩
  · cases z : M1 a with
    | some u => rw [jn_some z] at q; cases q; exact k1 a _ z
    | none => rw [jn_none z] at q; exact g.mh a o q
  · cases z : M1 a with
    | some u => rw [jn_some z] at q; exact .inl q
    | none =>
      rw [jn_none z] at q
      rcases g.nw a o q with y | y
      · rw [e a o y] at z; cases z
      · exact .inr y
  · cases z : M1 a with
    | some u => rw [jn_some z] at q; exact q
    | none =>
      rw [jn_none z] at q
      have y := e a _ (g.nt a ps q)
      rw [z] at y
      cases y
  · cases z : M1 a with
    | some u =>
      have y := k1 a _ z
      rw [g.mh a o q] at y
      cases y
      exact jn_some z
    | none => rw [jn_none z]; exact q
theorem Gv.le [Mono P] (h : Gv te σ M P) (e : Same M M1) : Gv te σ M1 P := fun H mh Q q =>
  h H (e.trans mh) Q fun v M' H' g p => q v _ H' (g.join e mh).1 (Mono.mono (g.join e mh).2 p)
theorem GvT.le (h : GvT tt σ M b) (e : Same M M1) : GvT tt σ M1 b := fun H mh Q q =>
  h H (e.trans mh) Q fun M' H' g => q _ H' (g.join e mh).1
/-- a reading over values -/
def RV (r : Hp → VK → Prop) (M : Hp) (P : Pr) : Prop := ∀ H, Same M H → ∀ Q : VK, (∀ v M' H', Gr M H M' H' → P M' v → Q v H') → r H Q
theorem gv_var {i : Nat} (h : σ[i]? = some (some v)) (p : P M v) : Gv (tVar i) σ M P := fun H mh Q q => ⟨v, h, q v M H (.refl mh) p⟩
theorem gv_c (p : P M v) : Gv (tC v) σ M P := fun H mh Q q => q v M H (.refl mh) p
theorem gv_op {r : R2} {R : Pr} [Mono P] [Mono P1] (ha : Gv ta σ M P) (hb : Gv tb σ M P1) (hr : ∀ M' x y, P M' x → P1 M' y → RV (r x y) M' R) : Gv (tOp r ta tb) σ M R := fun H mh Q q =>
  ha H mh _ fun x M1 H1 g1 p1 => (hb.le g1.mm) H1 g1.mh _ fun y M2 H2 g2 p2 => hr M2 x y (Mono.mono g2.mm p1) p2 H2 g2.mh Q fun v M' H' g p => q v M' H' ((g1.trans g2).trans g) p
theorem gv_is {P' : Pr} (h : Gv te σ M P) (e : ∀ M v, P M v → P' M v) : Gv te σ M P' := fun H mh Q q => h H mh Q fun v M' H' g p => q v M' H' g (e M' v p)
/-- tests -/
theorem gt_test {te : TE} (h : Gv te σ M (fun _ v => v = .bl b)) : GvT (tTest te) σ M b := fun H mh Q q => h H mh _ fun v M' H' g p => ⟨b, p, q M' H' g⟩
theorem gt_B {te : TE} (h : Gv te σ M (fun _ v => v = .bl b)) : GvT (tB te) σ M b := fun H mh Q q => h H mh _ fun v M' H' g p => ⟨b, p, q M' H' g⟩
theorem gt_and (h : GvT tt σ M b) (h2 : b = true → GvT tu σ M c) : GvT (tAnd tt tu) σ M (b && c) := fun H mh Q q => h H mh _ fun M1 H1 g1 => by
  cases b with
  | true => exact (h2 rfl).le g1.mm H1 g1.mh Q fun M' H' g => q M' H' (g1.trans g)
  | false => exact q M1 H1 g1
theorem gt_or (h : GvT tt σ M b) (h2 : b = false → GvT tu σ M c) : GvT (tOr tt tu) σ M (b || c) := fun H mh Q q => h H mh _ fun M1 H1 g1 => by
  cases b with
  | true => exact q M1 H1 g1
  | false => exact (h2 rfl).le g1.mm H1 g1.mh Q fun M' H' g => q M' H' (g1.trans g)
theorem gt_not (h : GvT tt σ M b) : GvT (tNot tt) σ M (!b) := fun H mh Q q => h H mh _ q
theorem gt_is (h : GvT tt σ M b) (e : b = c) : GvT tt σ M c := e ▸ h
abbrev Bl (b : Bool) : Pr := fun _ v => v = .bl b
abbrev It' (i : Int) : Pr := fun _ v => v = .int i
abbrev Tx (x : Str) : Pr := fun _ v => v = .str x
instance {b : Bool} : Mono (Bl b) := ⟨fun _ h => h⟩
instance {i : Int} : Mono (It' i) := ⟨fun _ h => h⟩
instance {x : Str} : Mono (Tx x) := ⟨fun _ h => h⟩
theorem gv_andV {ta tb : TE} (h : Gv ta σ M (Bl b)) (h2 : b = true → Gv tb σ M (Bl c)) : Gv (tAndV ta tb) σ M (Bl (b && c)) := fun H mh Q q => h H mh _ fun v M1 H1 g1 p => ⟨b, p, by
  cases b with
  | true => exact (h2 rfl).le g1.mm H1 g1.mh Q fun v M' H' g p => q v M' H' (g1.trans g) p
  | false => exact q _ M1 H1 g1 rfl⟩
theorem gv_orV {ta tb : TE} (h : Gv ta σ M (Bl b)) (h2 : b = false → Gv tb σ M (Bl c)) : Gv (tOrV ta tb) σ M (Bl (b || c)) := fun H mh Q q => h H mh _ fun v M1 H1 g1 p => ⟨b, p, by
  cases b with
  | true => exact q _ M1 H1 g1 rfl
  | false => exact (h2 rfl).le g1.mm H1 g1.mh Q fun v M' H' g p => q v M' H' (g1.trans g) p⟩
theorem gv_notV {ta : TE} (h : Gv ta σ M (Bl b)) : Gv (tNotV ta) σ M (Bl (!b)) := fun H mh Q q => h H mh _ fun v M1 H1 g1 p => ⟨b, p, q _ M1 H1 g1 rfl⟩
theorem gv_if [Mono P] (h : GvT tt σ M b) (h1 : b = true → Gv ta σ M P) (h2 : b = false → Gv tb σ M P) : Gv (tIf tt ta tb) σ M P := fun H mh Q q => h H mh _ fun M1 H1 g1 => by
  cases b with
  | true => exact (h1 rfl).le g1.mm H1 g1.mh Q fun v M' H' g p => q v M' H' (g1.trans g) p
  | false => exact (h2 rfl).le g1.mm H1 g1.mh Q fun v M' H' g p => q v M' H' (g1.trans g) p
/-- operators -/
theorem rv_pure {r : Hp → VK → Prop} (h : ∀ H, Same M H → ∀ Q : VK, Q v H → r H Q) (p : P M v) : RV r M P := fun H mh Q q => h H mh Q (q v M H (.refl mh) p)
theorem gv_eq {neg : Bool} {d e : PyData} (ha : Gv ta σ M (Dd K d)) (hb : Gv tb σ M (Dd K e)) (hz : d.depth ≤ 60) : Gv (tOp (rEqP K neg) ta tb) σ M (Bl (xor neg (PyData.eqv d e))) :=
  gv_op ha hb fun M' x y px py => rv_pure (fun H mh Q q => ⟨d, e, dp_mono mh px, dp_mono mh py, hz, q⟩) rfl
theorem gv_in {neg : Bool} {d : PyData} {ds : List PyData} (ha : Gv ta σ M (Dd K d)) (hb : Gv tb σ M (Sq K ds)) (hz : d.depth ≤ 60) : Gv (tOp (rInP K neg) ta tb) σ M (Bl (xor neg (ds.any fun z => PyData.eqv z d))) :=
  gv_op ha hb fun M' x y px py => rv_pure (fun H mh Q q => ⟨d, ds, dp_mono mh px, py.mono mh, hz, q⟩) rfl
theorem gv_isN {ta : TE} [Mono P] (h : Gv ta σ M P) (e : ∀ M v, P M v → decide (v = .non) = b) : Gv (tIsN ta) σ M (Bl b) := fun H mh Q q => h H mh _ fun v M1 H1 g1 p => q _ M1 H1 g1 (by rw [e M1 v p])
theorem gv_notN {ta : TE} [Mono P] (h : Gv ta σ M P) (e : ∀ M v, P M v → decide (v = .non) = b) : Gv (tNotN ta) σ M (Bl (!b)) := fun H mh Q q => h H mh _ fun v M1 H1 g1 p => q _ M1 H1 g1 (by rw [e M1 v p])
theorem gv_addS {x y : Str} {r : R2} (ha : Gv ta σ M (Tx x)) (hb : Gv tb σ M (Tx y)) (hz : x.length + y.length ≤ sizeLine)
    (hr : r = fun x y H Q => ∃ i j, x = .str i ∧ y = .str j ∧ i.length + j.length ≤ sizeLine ∧ Q (.str (i ++ j)) H := by rfl) : Gv (tOp r ta tb) σ M (Tx (x ++ y)) := by
  subst hr
  exact gv_op ha hb fun M' u w px py => rv_pure (fun H mh Q q => ⟨x, y, px, py, hz, q⟩) rfl
/-- arguments -/
theorem ga_nil : GvA tNil σ M (fun _ vs => vs = []) := fun H mh Q q => q [] M H (.refl mh) rfl
theorem ga_cons {tr : TA} {R : Hp → List V → Prop} [Mono P] (h : Gv te σ M P) (hr : ∀ M1, Same M M1 → GvA tr σ M1 R) : GvA (tCons te tr) σ M (fun M vs => ∃ v r, vs = v :: r ∧ P M v ∧ R M r) := fun H mh Q q =>
  h H mh _ fun x M1 H1 g1 p1 => hr M1 g1.mm H1 g1.mh _ fun vs M2 H2 g2 p2 => q _ M2 H2 (g1.trans g2) ⟨x, vs, rfl, Mono.mono g2.mm p1, p2⟩
/-- displays -/
theorem gv_tup {ta : TA} {R : Hp → List V → Prop} {P : Pr} (h : GvA ta σ M R) (hz : ∀ M vs, R M vs → vs.length ≤ sizeLine) (hp : ∀ M vs p, R M vs → M p = none → P (upd M p (.tup vs)) (.ref p)) : Gv (tTup ta) σ M P := fun H mh Q q =>
  h H mh _ fun vs M1 H1 g1 p1 => ⟨hz M1 vs p1, fun p np => q _ _ _ (g1.trans (.new g1.mh np)) (hp M1 vs p p1 (g1.mh.free np))⟩
theorem gl_lst {ta : TA} {R : Hp → List V → Prop} (h : GvA ta σ M R) (hz : ∀ M vs, R M vs → vs.length ≤ sizeLine) : GvL (tLst ta) σ M R := fun H mh Q q =>
  h H mh _ fun vs M1 H1 g1 p1 => ⟨hz M1 vs p1, fun p np => q p vs M1 _ (g1.trans (.own g1.mh np)) (g1.hh.free np) (g1.mh.free np) upd_same p1⟩
/-- our new list, known from now on -/
theorem GvL.gv {R : Hp → List V → Prop} (h : GvL te σ M R) (hp : ∀ M vs p, R M vs → M p = none → P (upd M p (.lst vs)) (.ref p)) : Gv te σ M P := fun H mh Q q =>
  h H mh Q fun p vs M' H' g h0 m0 hv r => q _ _ H' (g.freeze h0 m0 hv) (hp M' vs p r m0)
theorem GvL.le {R : Hp → List V → Prop} (hR : ∀ M M' vs, Same M M' → R M vs → R M' vs) (h : GvL te σ M R) (e : Same M M1) : GvL te σ M1 R := fun H mh Q q =>
  h H (e.trans mh) Q fun p vs M' H' g h0 m0 hv r => q p vs _ H' (g.join e mh).1 h0 (by rw [jn_none (mh.free h0)]; exact m0) hv (hR _ _ _ (g.join e mh).2 r)
end
end L3

set_option Elab.async false
set_option linter.all false
set_option maxRecDepth 100000
set_option maxHeartbeats 1000000
namespace L3
open PySem PySem.Spec PyProof.Rows L2
/-! walking a value: one rule for each kind of value, joined by «or» -/
abbrev RI := V → Hp → (It → Hp → Prop) → Prop
def PIv (X : Cx) (tg : Expr) (r : RI) : Prop :=
  ∀ {pins : List (Addr × Obj)} {s : Shared} {σ : Sl} {H : Hp} {R : It → Hp → Prop} {x : V} {u : Value}, Inv X pins σ H s → RelV x u → r x H R → wpAny (model X.prog X.w) X.A (pyIter u) (PIE X pins σ tg R) X.xe s
section
variable {X : Cx} {tg : Expr} {r r' : RI}
theorem PIv.or (h : PIv X tg r) (h' : PIv X tg r') : PIv X tg fun x H R => r x H R ∨ r' x H R := fun I rx q => q.elim (h I rx) (h' I rx)
theorem PIv.pi {l : Expr} {te : TE} (h : PIv X tg r) (hl : PE X l te) : PI X tg l fun σ H R => te σ H fun x H1 => r x H1 R where
  run pins s σ H R I q := thn (hl.run pins s σ H _ I q) fun u s1 ⟨_, _, I1, rx, q1⟩ => h I1 rx q1
theorem fps_new {pins : List (Addr × Obj)} {s : Shared} {σ : Sl} {H : Hp} {fp : List Addr} (I : Inv X pins σ H s) (h : ∀ b ∈ fp, s.heap.objs.size ≤ b) : ∀ b ∈ fp, FpOk X pins H b :=
  fun b hb => I.fpOk (h b hb) (I.hok.fresh (h b hb))
/-- a value whose iterator is one new object -/
theorem walk_new {pins : List (Addr × Obj)} {s : Shared} {σ : Sl} {H : Hp} {R : It → Hp → Prop} {u : Value} {o : Obj} {G : Heap → Prop} {J : It} {tn : Addr → Nat → Heap → Prop} (B : Begins u o G) (I : Inv X pins σ H s) (g : G s.heap)
    (T : ∀ it, Turn X.prog X.w X.K tg J [it] it (tn it)) (h0 : ∀ it h, h.get? it = some o → tn it 0 h) (q : R J H) : wpAny (model X.prog X.w) X.A (pyIter u) (PIE X pins σ tg R) X.xe s :=
  B.iter _ _ _ _ s _ g ⟨s.heap.objs.size, _, _, J, H, rfl, I.kept (t' := s.toks) (fun _ _ z => Heap.get?_push_of_some _ z), T _, h0 _ _ (Heap.get?_push_size _ B.free), fps_new I (by intro b hb; rw [List.mem_singleton.mp hb]; exact Nat.le_refl _), q⟩
def wLst (K : PySem.W.Frag) : RI := fun x H R => ∃ a xs, x = .ref a ∧ SqL K H a xs ∧ R (Itl K a) H
def wTup (K : PySem.W.Frag) : RI := fun x H R => ∃ a xs, x = .ref a ∧ SqT K H a xs ∧ R (Itt K a) H
theorem pv_lst : PIv X tg (wLst X.K) := fun I rx ⟨a, xs, ea, hs, q⟩ => by
  subst ea; cases rx
  let ⟨its, _, pl, _⟩ := I.list hs
  exact walk_new (begins_list a its.toArray) I pl.isList (turn_list a) (fun it h e => ⟨_, e, rfl, rfl⟩) q
theorem pv_tup : PIv X tg (wTup X.K) := fun I rx ⟨a, xs, ea, hs, q⟩ => by
  subst ea; cases rx
  let ⟨its, _, pl, _⟩ := I.tuple hs
  exact walk_new (begins_tuple a its.toArray) I pl (turn_tuple a) (fun it h e => ⟨_, e, rfl, rfl⟩) q
/-- a list or a tuple walked -/
def iSq (K : PySem.W.Frag) (te : TE) : TI := fun σ H R => te σ H fun x H1 => ∃ a, x = .ref a ∧ ((∃ xs, SqL K H1 a xs ∧ R (Itl K a) H1) ∨ ∃ xs, SqT K H1 a xs ∧ R (Itt K a) H1)
theorem pi_sq {l : Expr} {te : TE} (hl : PE X l te) : PI X tg l (iSq X.K te) :=
  PIv.pi (r := fun x H1 R => ∃ a, x = .ref a ∧ ((∃ xs, SqL X.K H1 a xs ∧ R (Itl X.K a) H1) ∨ ∃ xs, SqT X.K H1 a xs ∧ R (Itt X.K a) H1))
    (fun I rx ⟨a, ea, q⟩ => (pv_lst.or pv_tup) I rx (q.imp (fun ⟨xs, z⟩ => ⟨a, xs, ea, z⟩) fun ⟨xs, z⟩ => ⟨a, xs, ea, z⟩)) hl
end

/-! enumerate over anything whose items stand still -/
structure Still (P : Program) (w : World) (K : PySem.W.Frag) (a : Addr) (o : Obj) (rd : Hp → List V → Prop) (pt : Addr → Nat → Heap → Prop) (fx : List Value → Heap → Prop) : Prop where
  got : ∀ {X : Cx} {pins : List (Addr × Obj)} {σ : Sl} {H : Hp} {s : Shared} {xs : List V}, X.K = K → Inv X pins σ H s → rd H xs → ∃ its, Vals xs its ∧ fx its s.heap
  one : ∀ {X : Cx} {pins : List (Addr × Obj)} {σ : Sl} {H : Hp} {s : Shared} {xs ys : List V}, X.K = K → Inv X pins σ H s → rd H xs → rd H ys → xs = ys
  dr : ∀ {A : Around} {it : Addr} (its : List Value), A.handled = none → a ≠ it → Draws P w A it [it, a] its.toArray.size (fun i v => its.toArray[i]? = some v) (fun i h => pt it i h ∧ fx its h)
  live : ∀ {it : Addr} {i : Nat} {h : Heap}, pt it i h → ∃ ob, h.get? it = some ob ∧ ∀ v, ob.data ≠ .cell v
  mv : ∀ {it : Addr} {i : Nat} {h h' : Heap}, pt it i h → (∀ ob, h.get? it = some ob → h'.get? it = some ob) → pt it i h'
  lt : ∀ {its : List Value} {h : Heap}, fx its h → a < h.objs.size
  bg : ∀ its : List Value, Begins (.ref a) o (fx its)
  st : ∀ {it : Addr} {h : Heap}, h.get? it = some o → pt it 0 h
theorem still_lst {P : Program} {w : World} {K : PySem.W.Frag} (a : Addr) : Still P w K a { cls := .type "list_iterator", data := .fields #[.ref a, .int 0 0] } (fun H xs => SqL K H a xs) (fun it i h => h.IsListIter it a i) (fun its h => h.IsList a its.toArray) where
  got hk I h := by subst hk; let ⟨its, r, p, _⟩ := I.list h; exact ⟨its, r, p.isList⟩
  one hk I h h' := by subst hk; exact I.list_inj h h'
  dr its hh hn := Draws.list hh _ _ hn _
  live h := let ⟨ob, e, _, d⟩ := h; ⟨ob, e, fun v z => by rw [d] at z; exact nomatch z⟩
  mv h k := let ⟨ob, e, z⟩ := h; ⟨ob, k ob e, z⟩
  lt h := let ⟨_, e, _⟩ := h; Heap.lt_size e
  bg its := begins_list a its.toArray
  st h := ⟨_, h, rfl, rfl⟩
theorem still_tup {P : Program} {w : World} {K : PySem.W.Frag} (a : Addr) : Still P w K a { cls := .type "tuple_iterator", data := .fields #[.ref a, .int 0 0] } (fun H xs => SqT K H a xs) (fun it i h => h.IsTupleIter it a i) (fun its h => h.IsTuple a its.toArray) where
  got hk I h := by subst hk; let ⟨its, r, p, _⟩ := I.tuple h; exact ⟨its, r, p⟩
  one hk I h h' := by subst hk; exact I.tuple_inj h h'
  dr its hh hn := Draws.tuple hh _ _ hn _
  live h := let ⟨ob, e, _, d⟩ := h; ⟨ob, e, fun v z => by rw [d] at z; exact nomatch z⟩
  mv h k := let ⟨ob, e, z⟩ := h; ⟨ob, k ob e, z⟩
  lt h := let ⟨_, e, _⟩ := h; Heap.lt_size e
  bg its := begins_tuple a its.toArray
  st h := ⟨_, h, rfl, rfl⟩
/-- the walk: number and item as a new pair -/
def IeS (rd : Hp → List V → Prop) : It :=
  ⟨fun i H => ∃ xs, rd H xs ∧ i < xs.length, fun i H v H' => ∃ p x, v = .ref p ∧ H p = none ∧ H' = upd H p (.tup [.int (i : Nat), x]) ∧ ∀ xs, rd H xs → xs[i]? = some x, fun i H => ∃ xs, rd H xs ∧ xs.length = i⟩
theorem walk_eS {rd : Hp → List V → Prop} {xs : List V} : Walk (IeS rd) xs.length (fun H => rd H xs) (YPair (fun i => some (.int (i : Nat))) (fun i => xs[i]?)) :=
  ⟨fun _ _ hi q => ⟨xs, q, hi⟩, fun _ q => ⟨xs, q, rfl⟩, fun i _ _ _ _ q ⟨p, x, h1, h2, h3, h4⟩ => ⟨p, _, x, h1, h2, h3, rfl, h4 xs q⟩⟩
section
variable {P : Program} {w : World} {K : PySem.W.Frag} {a : Addr} {o : Obj} {rd : Hp → List V → Prop} {pt : Addr → Nat → Heap → Prop} {fx : List Value → Heap → Prop} {elts : List Expr} {kk : Nat} {tpos : Pos}
/-- where the two objects of the walk stand -/
def EnAt (pt : Addr → Nat → Heap → Prop) (e it : Addr) (i : Nat) (h : Heap) : Prop := ∃ old, IsEnum h e it (i : Nat) old ∧ pt it i h
theorem turn_eS (S : Still P w K a o rd pt fx) {e it : Addr} (n1 : e ≠ it) (n2 : e ≠ a) (n3 : a ≠ it) : Turn P w K (.Tuple elts kk tpos) (IeS rd) [e, it] e (EnAt pt e it) where
  mem := .head _
  obj := fun i h ⟨old, he, hp⟩ b hb => by
    cases hb with
    | head => exact ⟨_, he, fun v z => nomatch z⟩
    | tail _ hb => rw [List.mem_singleton.mp hb]; exact S.live hp
  keep := fun i h h' ⟨old, he, hp⟩ k => ⟨old, k e (.head _) _ he, S.mv hp (k it (.tail _ (.head _)))⟩
  self := fun A i s Q E ⟨old, he, _⟩ q => wpAny_pyIter_enum he q
  done := fun X e1 e2 e3 hc i pins s σ H E I hf ⟨old, he, hp⟩ ⟨xs, hx, hl⟩ => by
    subst e1 e2
    obtain ⟨its, rv, fx0⟩ := S.got e3 I hx
    have hi : i = its.toArray.size := by rw [List.size_toArray, ← rv.length, hl]
    subst hi
    have f := hf it (.tail _ (.head _))
    exact wpAny_pyNext_enum_endD (S.dr (A := X.A.in1) its (I.ok.hd hc) n3) he ⟨hp, fx0⟩ fun h' k => ⟨rfl, I.turned (t' := s.toks) k f.1 f.2.1 f.2.2.2.1 f.2.2.2.2.1 f.2.2.2.2.2⟩
  item := fun X e1 e2 e3 hc i pins s σ H E I hf ⟨old, he, hp⟩ ⟨xs, hx, hl⟩ => by
    subst e1 e2
    obtain ⟨its, rv, fx0⟩ := S.got e3 I hx
    have hlt : i < its.toArray.size := by rw [List.size_toArray, ← rv.length]; exact hl
    have be := Heap.lt_size he
    have bi : it < s.heap.objs.size := let ⟨_, z, _⟩ := S.live hp; Heap.lt_size z
    have out : e ∉ [it, a] := fun z => by
      cases z with
      | head => exact n1 rfl
      | tail _ z => exact n2 (List.mem_singleton.mp z)
    refine wpAny_pyNext_enum_itemD (S.dr (A := X.A.in1) its (I.ok.hd hc) n3) he ⟨hp, fx0⟩ hlt n1 out fun y h1 tk hy eo pt1 new _ kp => ⟨_, rfl, ?_⟩
    refine wpAny_letOwnedTupleGo_enum (s := { s with heap := h1, toks := tk + 1 }) eo fun h2 en sb => ?_
    obtain ⟨x, gx, rx⟩ : ∃ x, xs[i]? = some x ∧ RelV x y := by
      have z := rv.get (x := xs[i]) (List.getElem?_eq_getElem hl)
      obtain ⟨y', g, rr⟩ := z
      rw [List.getElem?_toArray, g] at hy
      exact ⟨_, List.getElem?_eq_getElem hl, Option.some.inj hy ▸ rr⟩
    have stands : h2.get? s.heap.objs.size = some { cls := .type "tuple", data := .seq #[.int i tk, y] } := (sb.2 _ (Nat.ne_of_gt be)).trans new
    have kept : ∀ b ob, b ∉ [e, it] → s.heap.get? b = some ob → h2.get? b = some ob := fun b ob hb z =>
      have m1 : b ≠ e := fun q => hb (q ▸ .head _)
      (sb.2 b m1).trans (kp b ob m1 (fun q => hb (q ▸ .tail _ (.head _))) z)
    have J := I.turnedNew (t' := tk + 1) (ob := .tup [.int (i : Nat), x]) kept hf (Nat.le_refl _) ⟨(by show 2 ≤ sizeLine; decide), [.int i tk, y], .cons ⟨_, rfl⟩ (.cons rx .nil), ⟨_, stands, rfl, _, rfl⟩⟩
    refine ⟨.ref s.heap.objs.size, _, J, rfl, ⟨_, x, rfl, I.hok.fresh (Nat.le_refl _), rfl, fun ys hy' => S.one e3 I hx hy' ▸ gx⟩, ⟨y, en, S.mv pt1.1 fun ob z => (sb.2 it (Ne.symm n1)).trans z⟩, fun b hb => ?_⟩
    have bb : b ≠ s.heap.objs.size := by
      cases hb with
      | head => exact Nat.ne_of_lt be
      | tail _ hb => rw [List.mem_singleton.mp hb]; exact Nat.ne_of_lt bi
    rw [upd_ne bb]
    exact (hf b hb).1
/-- enumerate(v): two new objects -/
theorem en_new {v : Value} {o : Obj} {G : Heap → Prop} (B : Begins v o G) : Meets (Builtin.«enumerate.__new__» ⟨[.type "enumerate", v], []⟩) fun _ R s => G s.heap ∧
    R (.ok (.ret (.ref (s.heap.push o).objs.size))) { s with heap := (s.heap.push o).push { cls := .type "enumerate", data := .fields #[.none, .bool false, .ref s.heap.objs.size, rawInt 0, .none, .none] } } := by
  refine Meets.of_wp fun prog w A R ⟨hp, gs, dn, tk, os⟩ q => ?_
  have isub := sub_enumerate
  have first {A' : Around} {E Q : Value → Shared → Prop} (z : Q (.ref hp.objs.size) ⟨hp.push o, gs, dn, tk, os⟩) : wpAny (model prog w) A' (pyIter v) Q E ⟨hp, gs, dn, tk, os⟩ := B.iter prog w A' E ⟨hp, gs, dn, tk, os⟩ Q q.1 z
  wp_walk using first
  refine wpAny_stack_any fun st => wpAny_pure ?_
  split
  next c _ _ _ _ _ => by_cases hcl : (c == Value.type "enumerate") = true <;> simp only [hcl] <;> wp_walk using first <;> exact ⟨_, rfl, q.2⟩
  next => wp_walk using first; exact ⟨_, rfl, q.2⟩
theorem en_walk {X : Cx} {pins : List (Addr × Obj)} {s : Shared} {σ : Sl} {H : Hp} {R : It → Hp → Prop} {xs : List V} (S : Still X.prog X.w X.K a o rd pt fx) (I : Inv X pins σ H s) (hx : rd H xs) (q : R (IeS rd) H) :
    wpAny (model X.prog X.w) X.A (call (.type "enumerate") [.ref a]) (fun v s1 => wpAny (model X.prog X.w) X.A (pyIter v) (PIE X pins σ (.Tuple elts kk tpos) R) X.xe s1) X.xe s := by
  obtain ⟨its, _, f0⟩ := S.got rfl I hx
  have la := S.lt f0
  have B := S.bg its
  have hN : (s.heap.push o).objs.size = s.heap.objs.size + 1 := Heap.size_push ..
  apply callType_new F.called_enumerate (by decide) (F.typeCall_enumerate_1 _) (F.newCall_enumerate_1 _) (fun ob => F.args_object_init_2 ob _) F.entry_enumerate_new (en_new B)
  refine ⟨f0, ?_⟩
  have top := Heap.get?_push_size (s.heap.push o) (o := ({ cls := .type "enumerate", data := .fields #[.none, .bool false, .ref s.heap.objs.size, rawInt 0, .none, .none] } : Obj)) rfl
  have below : ∀ b ob, (s.heap.push o).get? b = some ob → ((s.heap.push o).push { cls := .type "enumerate", data := .fields #[.none, .bool false, .ref s.heap.objs.size, rawInt 0, .none, .none] }).get? b = some ob := fun b ob z => Heap.get?_push_of_some _ z
  refine ⟨⟨_, top, rfl⟩, ?_⟩
  rw [hN] at top ⊢
  refine wpAny_pyIter_enum top ⟨_, [s.heap.objs.size + 1, s.heap.objs.size], _, IeS rd, H, rfl, I.kept (t' := s.toks) (fun b ob z => below b ob (Heap.get?_push_of_some _ z)), turn_eS S (Nat.succ_ne_self _) (Nat.ne_of_gt (Nat.lt_succ_of_lt la)) (Nat.ne_of_lt la), ⟨.none, top, S.st (below _ _ (Heap.get?_push_size _ B.free))⟩, fps_new I fun b hb => ?_, q⟩
  cases hb with
  | head => exact Nat.le_succ _
  | tail _ hb => rw [List.mem_singleton.mp hb]; exact Nat.le_refl _
end
def iEn (K : PySem.W.Frag) (ta : TA) : TI := fun σ H R => ta σ H fun vs H1 => ∃ a, vs = [.ref a] ∧ ((∃ xs, SqL K H1 a xs ∧ R (IeS fun H xs => SqL K H a xs) H1) ∨ ∃ xs, SqT K H1 a xs ∧ R (IeS fun H xs => SqT K H a xs) H1)
theorem pi_en {X : Cx} {e : Expr} {ta : TA} {p pos tpos : Pos} {elts : List Expr} {kk : Nat} (hg : Gl X "enumerate") (hm : X.mg "enumerate" = none) (ha : PA X [e] ta) (hs : starEach [e] X.env = [(false, eval e X.env)] := by rfl) :
    PI X (.Tuple elts kk tpos) (.Call (.Name "enumerate" p) [e] [] pos) (iEn X.K ta) where
  run pins s σ H R I h := by
    refine Call_ (ld_blt I hg hm boot_enumerate (PyProof.Rows.callWith_type1 (thn (ha.run pos pins s σ H _ I h) fun us s1 z => ?_) hs rfl))
    obtain ⟨vs, H1, I1, rvs, a, rfl, q⟩ := z
    obtain ⟨_, rfl, rfl⟩ := vals1 rvs
    rcases q with ⟨xs, hx, q⟩ | ⟨xs, hx, q⟩
    · exact en_walk (still_lst a) I1 hx q
    · exact en_walk (still_tup a) I1 hx q
end L3

set_option Elab.async false
set_option linter.all false
set_option maxRecDepth 100000
set_option maxHeartbeats 1000000
namespace L3
open PySem PySem.Spec PyProof.Rows L2
/-! typed relations -/
abbrev Rl (α : Type) := α → Pr
class Mon {α : Type} (R : Rl α) : Prop where
  mono : ∀ {x : α} {M M' : Hp} {v : V}, Same M M' → R x M v → R x M' v
instance {α : Type} {R : Rl α} [h : Mon R] {x : α} : Mono (R x) := ⟨fun e p => h.mono e p⟩
instance : Mon Tx := ⟨fun _ h => h⟩
instance : Mon It' := ⟨fun _ h => h⟩
instance : Mon Bl := ⟨fun _ h => h⟩
instance {K : PySem.W.Frag} : Mon (Dd K) := ⟨fun e h => dp_mono e h⟩
abbrev Pd {α : Type} (R : Rl α) (M : Hp) : List α → List V → Prop := Paired fun x v => R x M v
theorem Pd.mono {α : Type} {R : Rl α} [Mon R] {M M' : Hp} (e : Same M M') {xs : List α} {vs : List V} (h : Pd R M xs vs) : Pd R M' xs vs := Paired.mapP h fun _ _ q => Mon.mono e q
theorem pd_get {α β : Type} {F : α → β → Prop} : ∀ {xs : List α} {vs : List β} {i : Nat} {x : α}, Paired F xs vs → xs[i]? = some x → ∃ v, vs[i]? = some v ∧ F x v
  | _, _, _, _, .nil, e => by simp at e
  | _, _, 0, _, .cons h _, e => by
    have e' := Option.some.inj (show some _ = some _ from e)
    subst e'
    exact ⟨_, rfl, h⟩
  | _, _, i + 1, _, .cons _ t, e => pd_get (i := i) t (by simpa using e)
theorem pd_get' {α β : Type} {F : α → β → Prop} : ∀ {xs : List α} {vs : List β} {i : Nat} {v : β}, Paired F xs vs → vs[i]? = some v → ∃ x, xs[i]? = some x ∧ F x v
  | _, _, _, _, .nil, e => by simp at e
  | _, _, 0, _, .cons h _, e => by
    have e' := Option.some.inj (show some _ = some _ from e)
    subst e'
    exact ⟨_, rfl, h⟩
  | _, _, i + 1, _, .cons _ t, e => pd_get' (i := i) t (by simpa using e)
theorem pd_app {α β : Type} {F : α → β → Prop} : ∀ {xs ys : List α} {vs ws : List β}, Paired F xs vs → Paired F ys ws → Paired F (xs ++ ys) (vs ++ ws)
  | _, _, _, _, .nil, s => s
  | _, _, _, _, .cons r t, s => .cons r (pd_app t s)
theorem pd_take {α β : Type} {F : α → β → Prop} : ∀ {xs : List α} {vs : List β} (n : Nat), Paired F xs vs → Paired F (xs.take n) (vs.take n)
  | _, _, 0, _ => .nil
  | _, _, _ + 1, .nil => .nil
  | _, _, n + 1, .cons r t => .cons r (pd_take n t)
theorem pd_drop {α β : Type} {F : α → β → Prop} : ∀ {xs : List α} {vs : List β} (n : Nat), Paired F xs vs → Paired F (xs.drop n) (vs.drop n)
  | _, _, 0, h => h
  | _, _, _ + 1, .nil => .nil
  | _, _, n + 1, .cons _ t => pd_drop n t
def TupR (K : PySem.W.Frag) {α : Type} (R : Rl α) : Rl (List α) := fun xs M v => ∃ a vs, v = .ref a ∧ SqT K M a vs ∧ Pd R M xs vs
def LstR (K : PySem.W.Frag) {α : Type} (R : Rl α) : Rl (List α) := fun xs M v => ∃ a vs, v = .ref a ∧ SqL K M a vs ∧ Pd R M xs vs
def SqR (K : PySem.W.Frag) {α : Type} (R : Rl α) : Rl (List α) := fun xs M v => LstR K R xs M v ∨ TupR K R xs M v
section
variable {K : PySem.W.Frag} {α : Type} {R : Rl α}
instance [Mon R] : Mon (TupR K R) := ⟨fun e ⟨a, vs, h1, h2, h3⟩ => ⟨a, vs, h1, st_mono e h2, h3.mono e⟩⟩
instance [Mon R] : Mon (LstR K R) := ⟨fun e ⟨a, vs, h1, h2, h3⟩ => ⟨a, vs, h1, sl_mono e h2, h3.mono e⟩⟩
instance [Mon R] : Mon (SqR K R) := ⟨fun e h => h.imp (Mon.mono e) (Mon.mono e)⟩
theorem TupR.sq {xs : List α} {M : Hp} {v : V} (h : TupR K R xs M v) : SqR K R xs M v := .inr h
theorem LstR.sq {xs : List α} {M : Hp} {v : V} (h : LstR K R xs M v) : SqR K R xs M v := .inl h
/-- as data -/
def PyR (K : PySem.W.Frag) (R : Rl α) (e : α → PyData) : Prop := ∀ x M v, R x M v → Dp K M v (e x)
theorem py_str : PyR K Tx PyData.str := fun x M v h => by cases (show v = .str x from h); exact .str x
theorem py_int : PyR K It' PyData.int := fun x M v h => by cases (show v = .int x from h); exact .int x
theorem py_bl : PyR K Bl PyData.bool := fun x M v h => by cases (show v = .bl x from h); exact .bl x
theorem py_d : PyR K (Dd K) id := fun x M v h => h
theorem py_all {e : α → PyData} (h : PyR K R e) {M : Hp} : ∀ {xs : List α} {vs : List V}, Pd R M xs vs → DpAll K M vs (xs.map e)
  | _, _, .nil => .nil
  | _, _, .cons q t => .cons (h _ _ _ q) (py_all h t)
theorem py_tup {e : α → PyData} (h : PyR K R e) : PyR K (TupR K R) fun xs => .tuple (xs.map e) := fun xs M v ⟨a, vs, h1, h2, h3⟩ => by subst h1; exact .tup h2 (py_all h h3)
theorem py_lst {e : α → PyData} (h : PyR K R e) : PyR K (LstR K R) fun xs => .list (xs.map e) := fun xs M v ⟨a, vs, h1, h2, h3⟩ => by subst h1; exact .lst h2 (py_all h h3)
theorem py_sq {e : α → PyData} (h : PyR K R e) {xs : List α} {M : Hp} {v : V} (q : SqR K R xs M v) : Sq K (xs.map e) M v := q.imp (py_lst h _ _ _) (py_tup h _ _ _)
/-- e tells things apart as == does -/
def Inj (e : α → PyData) [DecidableEq α] : Prop := ∀ x y, PyData.eqv (e x) (e y) = decide (x = y)
theorem str_beq (x y : Str) : (x == y) = decide (x = y) := by
  by_cases h : x = y
  · subst h; simp
  · rw [decide_eq_false h]; exact beq_eq_false_iff_ne.mpr h
theorem inj_str : Inj PyData.str := fun x y => by simp only [PyData.eqv]; exact str_beq x y
theorem inj_int : Inj PyData.int := fun x y => by
  simp only [PyData.eqv]
  by_cases h : x = y
  · subst h; simp
  · rw [decide_eq_false h]; exact beq_eq_false_iff_ne.mpr h
theorem inj_all {e : α → PyData} [DecidableEq α] (h : Inj e) : ∀ xs ys : List α, PyData.eqvAll (xs.map e) (ys.map e) = decide (xs = ys)
  | [], [] => by simp [PyData.eqvAll]
  | [], _ :: _ => by simp [PyData.eqvAll]
  | _ :: _, [] => by simp [PyData.eqvAll]
  | x :: xs, y :: ys => by
    simp only [List.map_cons, PyData.eqvAll, h x y, inj_all h xs ys]
    by_cases h1 : x = y <;> by_cases h2 : xs = ys <;> simp [h1, h2]
theorem inj_tup {e : α → PyData} [DecidableEq α] (h : Inj e) : Inj fun xs : List α => PyData.tuple (xs.map e) := fun xs ys => by simp only [PyData.eqv]; exact inj_all h xs ys
theorem inj_lst {e : α → PyData} [DecidableEq α] (h : Inj e) : Inj fun xs : List α => PyData.list (xs.map e) := fun xs ys => by simp only [PyData.eqv]; exact inj_all h xs ys
theorem any_mem {e : α → PyData} [DecidableEq α] (h : Inj e) (x : α) : ∀ xs : List α, ((xs.map e).any fun z => PyData.eqv z (e x)) = decide (x ∈ xs)
  | [] => by simp
  | y :: ys => by
    rw [List.map_cons, List.any_cons, any_mem h x ys, h y x]
    by_cases h1 : x = y
    · subst h1; simp
    · have h2 : ¬ y = x := fun z => h1 z.symm
      simp [h1, h2]
end
section
variable {K : PySem.W.Frag} {σ : Sl} {M : Hp} {ta tb te ts : TE} {tt : TT} {α β : Type} {R : Rl α} {S : Rl β}
theorem gv_inT {e : α → PyData} [DecidableEq α] [Mon R] {neg : Bool} {x : α} {xs : List α} (pe : PyR K R e) (ie : Inj e) (ha : Gv ta σ M (R x)) (hb : Gv tb σ M (SqR K R xs)) (hz : (e x).depth ≤ 60) : Gv (tOp (rInP K neg) ta tb) σ M (Bl (xor neg (decide (x ∈ xs)))) := by
  rw [← any_mem ie]
  exact gv_in (gv_is ha fun M v h => pe _ _ _ h) (gv_is hb fun M v h => py_sq pe h) hz
theorem gv_eqT {e : α → PyData} [DecidableEq α] [Mon R] {neg : Bool} {x y : α} (pe : PyR K R e) (ie : Inj e) (ha : Gv ta σ M (R x)) (hb : Gv tb σ M (R y)) (hz : (e x).depth ≤ 60) : Gv (tOp (rEqP K neg) ta tb) σ M (Bl (xor neg (decide (x = y)))) := by
  rw [← ie]
  exact gv_eq (gv_is ha fun M v h => pe _ _ _ h) (gv_is hb fun M v h => pe _ _ _ h) hz
theorem wipe1 {j : Nat} {v : V} : wipe ((wipe σ [j]).set j (some v)) [j] = wipe σ [j] := by
  show ((σ.set j none).set j (some v)).set j none = σ.set j none
  rw [List.set_set, List.set_set]
/-- a comprehension over a list or tuple -/
theorem gl_lc [Mon R] [Mon S] {j : Nat} {xs : List α} (hsrc : Gv ts σ M (SqR K R xs)) (hz : xs.length ≤ sizeLine) (t : α → Bool) (f : α → β)
    (ht : ∀ x ∈ xs, ∀ M1 v, Same M M1 → R x M1 v → GvT tt ((wipe σ [j]).set j (some v)) M1 (t x))
    (he : ∀ x ∈ xs, t x = true → ∀ M1 v, Same M M1 → R x M1 v → Gv te ((wipe σ [j]).set j (some v)) M1 (S (f x))) :
    GvL (tLc (iSq K ts) (gName j) tt te [j]) σ M fun M vs => Pd S M ((xs.filter t).map f) vs := by
  intro H mh Q q
  refine hsrc H mh _ fun v M1 H1 g1 hv => ?_
  have core : ∀ (J : It) (G : Hp → Prop) (vs : List V), Walk J vs.length G (YAt vs) → (∀ M2 H2, Same M1 M2 → Same M2 H2 → G H2) → Pd R M1 xs vs →
      ∀ D, H1 D = none → ∃ W : Nat → Nat → Hp → Prop, (∃ m, W 0 m (upd H1 D (.lst []))) ∧ ∀ i m H, W i m H →
        (J.stop i H ∧ Q (.ref D) H) ∨ (J.go i H ∧ ∃ Nx : Hp → Prop, (∀ H', Nx H' → ∃ m', m' < m ∧ W (i + 1) m' H') ∧ ∀ x H', J.yld i H x H' → gName j x (wipe σ [j]) H' fun σ2 H2 => wipe σ2 [j] = wipe σ [j] ∧ tt σ2 H2 fun b H3 =>
          if b = true then te σ2 H3 fun y H4 => ∃ acc, H4 D = some (.lst acc) ∧ acc.length < sizeLine ∧ Nx (upd H4 D (.lst (acc ++ [y]))) else Nx H3) := by
    intro J G vs w hG hp D hD
    refine lc_it w (fun i H' => ∃ M' ws, Gr M1 H1 M' H' ∧ M' D = none ∧ H' D = some (.lst ws) ∧ ws.length ≤ i ∧ Pd S M' (((xs.take i).filter t).map f) ws) ⟨M1, [], .own g1.mh hD, g1.mh.free hD, upd_same, Nat.le_refl _, .nil⟩ (fun i H' _ ⟨M', ws, g, _⟩ => hG M' H' g.mm g.mh) ?_ ?_
    · rintro i y H' H'' hi ⟨M', ws, g, m0, hw, hl, hpd⟩ ⟨rfl, hy⟩
      obtain ⟨x, hx, rx⟩ := pd_get' hp hy
      have hxm : x ∈ xs := List.mem_of_getElem? hx
      have et : xs.take (i + 1) = xs.take i ++ [x] := by rw [List.take_add_one, hx]; rfl
      have hil : i < xs.length := (List.getElem?_eq_some_iff.mp hx).1
      refine ⟨wipe1, ht x hxm M' y (g1.mm.trans g.mm) (Mon.mono g.mm rx) H'' g.mh _ fun M2 H2 g2 => ?_⟩
      cases ex : t x with
      | true =>
        refine he x hxm ex M2 y ((g1.mm.trans g.mm).trans g2.mm) (Mon.mono (g.mm.trans g2.mm) rx) H2 g2.mh _ fun z M3 H3 g3 hz3 => ?_
        have g' := (g.trans g2).trans g3
        have k3 : H3 D = some (.lst ws) := g3.hh _ _ (g2.hh _ _ hw)
        have m3 : M3 D = none := (g2.trans g3).keep m0 hw
        refine ⟨ws, k3, Nat.lt_of_lt_of_le (Nat.lt_of_le_of_lt hl hil) hz, M3, ws ++ [z], g'.mut hD m3, m3, upd_same, by rw [List.length_append]; exact Nat.succ_le_succ hl, ?_⟩
        rw [et, List.filter_append, List.map_append, List.filter_cons, ex]
        exact pd_app (hpd.mono (g2.mm.trans g3.mm)) (.cons hz3 .nil)
      | false =>
        refine ⟨M2, ws, g.trans g2, g2.keep m0 hw, g2.hh _ _ hw, Nat.le_succ_of_le hl, ?_⟩
        rw [et, List.filter_append, List.map_append, List.filter_cons, ex]
        show Pd S M2 (_ ++ []) ws
        rw [List.append_nil]
        exact hpd.mono g2.mm
    · rintro H' ⟨M', ws, g, m0, hw, hl, hpd⟩
      rw [List.take_of_length_le (by rw [hp.length]; exact Nat.le_refl _)] at hpd
      exact q D ws M' H' (g1.trans g) (g1.hh.free hD) m0 hw hpd
  rcases hv with ⟨a, vs, rfl, hs, hp⟩ | ⟨a, vs, rfl, hs, hp⟩
  · exact ⟨a, rfl, .inl ⟨vs, sl_mono g1.mh hs, core (Itl K a) (fun H => SqL K H a vs) vs walk_list (fun M2 H2 s1 s2 => sl_mono (s1.trans s2) hs) hp⟩⟩
  · exact ⟨a, rfl, .inr ⟨vs, st_mono g1.mh hs, core (Itt K a) (fun H => SqT K H a vs) vs walk_tup (fun M2 H2 s1 s2 => st_mono (s1.trans s2) hs) hp⟩⟩
end
end L3

set_option Elab.async false
set_option linter.all false
set_option maxRecDepth 100000
set_option maxHeartbeats 1000000
namespace L3
open PySem PySem.Spec PyProof.Rows L2
/-! promises of pure defs -/
section
variable {α β γ : Type}
def sp1 (R1 : Rl α) (pre : α → Prop) (R : α → Pr) : Sp := fun vs H Q _ => ∃ x M v, vs = [v] ∧ Same M H ∧ R1 x M v ∧ pre x ∧ ∀ u M' H', Gr M H M' H' → R x M' u → Q u H'
def sp2 (R1 : Rl α) (R2 : Rl β) (pre : α → β → Prop) (R : α → β → Pr) : Sp := fun vs H Q _ => ∃ x y M v w, vs = [v, w] ∧ Same M H ∧ R1 x M v ∧ R2 y M w ∧ pre x y ∧ ∀ u M' H', Gr M H M' H' → R x y M' u → Q u H'
def sp3 (R1 : Rl α) (R2 : Rl β) (R3 : Rl γ) (pre : α → β → γ → Prop) (R : α → β → γ → Pr) : Sp := fun vs H Q _ => ∃ x y z M v w u, vs = [v, w, u] ∧ Same M H ∧ R1 x M v ∧ R2 y M w ∧ R3 z M u ∧ pre x y z ∧ ∀ u M' H', Gr M H M' H' → R x y z M' u → Q u H'
/-- a new list comes back -/
def sl1 (R1 : Rl α) (pre : α → Prop) (R : α → Hp → List V → Prop) : Sp := fun vs H Q _ => ∃ x M v, vs = [v] ∧ Same M H ∧ R1 x M v ∧ pre x ∧
  ∀ p ws M' H', Gr M H M' H' → H p = none → M' p = none → H' p = some (.lst ws) → R x M' ws → Q (.ref p) H'
def sl2 (R1 : Rl α) (R2 : Rl β) (pre : α → β → Prop) (R : α → β → Hp → List V → Prop) : Sp := fun vs H Q _ => ∃ x y M v w, vs = [v, w] ∧ Same M H ∧ R1 x M v ∧ R2 y M w ∧ pre x y ∧
  ∀ p ws M' H', Gr M H M' H' → H p = none → M' p = none → H' p = some (.lst ws) → R x y M' ws → Q (.ref p) H'
variable {K : PySem.W.Frag} {σ : Sl} {M : Hp} {t1 t2 t3 ta te ts : TE} {R1 : Rl α} {R2 : Rl β} {R3 : Rl γ} {E : XK}
theorem gv_call1 {pre : α → Prop} {R : α → Pr} {x : α} (h1 : Gv t1 σ M (R1 x)) (hp : pre x) : Gv (tCall (sp1 R1 pre R) [] E (tCons t1 tNil)) σ M (R x) := fun H mh Q q =>
  h1 H mh _ fun v M1 H1 g1 p1 => ⟨x, M1, v, rfl, g1.mh, p1, hp, fun u M' H' g r => q u M' H' (g1.trans g) r⟩
theorem gv_call2 [Mon R1] [Mon R2] {pre : α → β → Prop} {R : α → β → Pr} {x : α} {y : β} (h1 : Gv t1 σ M (R1 x)) (h2 : Gv t2 σ M (R2 y)) (hp : pre x y) : Gv (tCall (sp2 R1 R2 pre R) [] E (tCons t1 (tCons t2 tNil))) σ M (R x y) := fun H mh Q q =>
  h1 H mh _ fun v M1 H1 g1 p1 => h2.le g1.mm H1 g1.mh _ fun w M2 H2 g2 p2 => ⟨x, y, M2, v, w, rfl, g2.mh, Mon.mono g2.mm p1, p2, hp, fun u M' H' g r => q u M' H' ((g1.trans g2).trans g) r⟩
theorem gv_call3 [Mon R1] [Mon R2] [Mon R3] {pre : α → β → γ → Prop} {R : α → β → γ → Pr} {x : α} {y : β} {z : γ} (h1 : Gv t1 σ M (R1 x)) (h2 : Gv t2 σ M (R2 y)) (h3 : Gv t3 σ M (R3 z)) (hp : pre x y z) :
    Gv (tCall (sp3 R1 R2 R3 pre R) [] E (tCons t1 (tCons t2 (tCons t3 tNil)))) σ M (R x y z) := fun H mh Q q =>
  h1 H mh _ fun v M1 H1 g1 p1 => h2.le g1.mm H1 g1.mh _ fun w M2 H2 g2 p2 => h3.le (g1.mm.trans g2.mm) H2 g2.mh _ fun u M3 H3 g3 p3 =>
    ⟨x, y, z, M3, v, w, u, rfl, g3.mh, Mon.mono (g2.mm.trans g3.mm) p1, Mon.mono g3.mm p2, p3, hp, fun u M' H' g r => q u M' H' (((g1.trans g2).trans g3).trans g) r⟩
theorem gl_call1 {pre : α → Prop} {R : α → Hp → List V → Prop} {x : α} (h1 : Gv t1 σ M (R1 x)) (hp : pre x) : GvL (tCall (sl1 R1 pre R) [] E (tCons t1 tNil)) σ M (R x) := fun H mh Q q =>
  h1 H mh _ fun v M1 H1 g1 p1 => ⟨x, M1, v, rfl, g1.mh, p1, hp, fun p ws M' H' g h0 m0 hw r => q p ws M' H' (g1.trans g) (g1.hh.free h0) m0 hw r⟩
theorem gl_call2 [Mon R1] [Mon R2] {pre : α → β → Prop} {R : α → β → Hp → List V → Prop} {x : α} {y : β} (h1 : Gv t1 σ M (R1 x)) (h2 : Gv t2 σ M (R2 y)) (hp : pre x y) : GvL (tCall (sl2 R1 R2 pre R) [] E (tCons t1 (tCons t2 tNil))) σ M (R x y) := fun H mh Q q =>
  h1 H mh _ fun v M1 H1 g1 p1 => h2.le g1.mm H1 g1.mh _ fun w M2 H2 g2 p2 => ⟨x, y, M2, v, w, rfl, g2.mh, Mon.mono g2.mm p1, p2, hp, fun p ws M' H' g h0 m0 hw r => q p ws M' H' ((g1.trans g2).trans g) ((g1.trans g2).hh.free h0) m0 hw r⟩
/-! built-ins -/
theorem gv_cb1 {r : List V → Hp → VK → Prop} {P P' : Pr} [Mono P] (h : Gv te σ M P) (hr : ∀ M' v, P M' v → RV (r [v]) M' P') : Gv (tCB r (tCons te tNil)) σ M P' := fun H mh Q q =>
  h H mh _ fun v M1 H1 g1 p1 => hr M1 v p1 H1 g1.mh Q fun u M' H' g r => q u M' H' (g1.trans g) r
theorem pd_bl {bs : List Bool} {M : Hp} : ∀ {vs : List V}, Pd Bl M bs vs → vs = bs.map V.bl := by
  induction bs with
  | nil => intro vs h; cases h; rfl
  | cons b bs ih => intro vs h; cases h with | cons q t => rw [ih t, (show _ = V.bl b from q)]; rfl
theorem pd_tx {xs : List Str} {M : Hp} : ∀ {vs : List V}, Pd Tx M xs vs → vs = xs.map V.str := by
  induction xs with
  | nil => intro vs h; cases h; rfl
  | cons b bs ih => intro vs h; cases h with | cons q t => rw [ih t, (show _ = V.str b from q)]; rfl
theorem pd_of_tx {M : Hp} : ∀ (xs : List Str), Pd Tx M xs (xs.map V.str)
  | [] => .nil
  | _ :: r => .cons rfl (pd_of_tx r)
theorem gv_all {bs : List Bool} (h : GvL te σ M fun M vs => Pd Bl M bs vs) : Gv (tCB (rAll K) (tCons te tNil)) σ M (Bl (bs.all id)) := fun H mh Q q =>
  h H mh _ fun p vs M' H' g h0 m0 hw r => ⟨p, bs, rfl, by rw [pd_bl r] at hw; exact .inl (.inl hw), q _ M' H' g rfl⟩
theorem gv_any {bs : List Bool} (h : GvL te σ M fun M vs => Pd Bl M bs vs) : Gv (tCB (rAny K) (tCons te tNil)) σ M (Bl (bs.any id)) := fun H mh Q q =>
  h H mh _ fun p vs M' H' g h0 m0 hw r => ⟨p, bs, rfl, by rw [pd_bl r] at hw; exact .inl (.inl hw), q _ M' H' g rfl⟩
def rTupOf (K : PySem.W.Frag) : List V → Hp → VK → Prop := fun xs H Q => ∃ p ys, xs = [.ref p] ∧ ((SqL K H p ys ∧ ∀ l, H l = none → Q (.ref l) (upd H l (.tup ys))) ∨ (SqT K H p ys ∧ Q (.ref p) H))
def rLstOf (K : PySem.W.Frag) : List V → Hp → VK → Prop := fun xs H Q => ∃ p ys, xs = [.ref p] ∧ (SqL K H p ys ∨ SqT K H p ys) ∧ ∀ l, H l = none → Q (.ref l) (upd H l (.lst ys))
def rLenOf (K : PySem.W.Frag) : List V → Hp → VK → Prop := fun xs H Q => ∃ p ys, xs = [.ref p] ∧ (SqL K H p ys ∨ SqT K H p ys) ∧ Q (.int ys.length) H
theorem gv_tupOf [Mon R1] {xs : List α} (h : Gv te σ M (SqR K R1 xs)) : Gv (tCB (rTupOf K) (tCons te tNil)) σ M (TupR K R1 xs) := gv_cb1 h fun M' v hv H mh Q q => by
  rcases hv with ⟨a, vs, rfl, hs, hp⟩ | ⟨a, vs, rfl, hs, hp⟩
  · exact ⟨a, vs, rfl, .inl ⟨sl_mono mh hs, fun l nl => q _ _ _ (.new mh nl) ⟨l, vs, rfl, .inl (.inl upd_same), hp.mono (same_new (mh.free nl))⟩⟩⟩
  · exact ⟨a, vs, rfl, .inr ⟨st_mono mh hs, q _ M' H (.refl mh) ⟨a, vs, rfl, hs, hp⟩⟩⟩
theorem gl_lstOf [Mon R1] {xs : List α} (h : Gv te σ M (SqR K R1 xs)) : GvL (tCB (rLstOf K) (tCons te tNil)) σ M fun M vs => Pd R1 M xs vs := fun H mh Q q =>
  h H mh _ fun v M1 H1 g1 hv => by
    rcases hv with ⟨a, vs, rfl, hs, hp⟩ | ⟨a, vs, rfl, hs, hp⟩
    · exact ⟨a, vs, rfl, .inl (sl_mono g1.mh hs), fun l nl => q l vs M1 _ (g1.trans (.own g1.mh nl)) (g1.hh.free nl) (g1.mh.free nl) upd_same hp⟩
    · exact ⟨a, vs, rfl, .inr (st_mono g1.mh hs), fun l nl => q l vs M1 _ (g1.trans (.own g1.mh nl)) (g1.hh.free nl) (g1.mh.free nl) upd_same hp⟩
theorem gv_len [Mon R1] {xs : List α} (h : Gv te σ M (SqR K R1 xs)) : Gv (tCB (rLenOf K) (tCons te tNil)) σ M (It' xs.length) := gv_cb1 h fun M' v hv H mh Q q => by
  rcases hv with ⟨a, vs, rfl, hs, hp⟩ | ⟨a, vs, rfl, hs, hp⟩
  · exact ⟨a, vs, rfl, .inl (sl_mono mh hs), q _ M' H (.refl mh) (by rw [hp.length])⟩
  · exact ⟨a, vs, rfl, .inr (st_mono mh hs), q _ M' H (.refl mh) (by rw [hp.length])⟩
/-! texts cut -/
theorem gv_cut {tl th : TO} {x : Str} {lo hi : Option Int} (h : Gv te σ M (Tx x)) (hz : x.length ≤ sizeLine)
    (hl : ∀ (H : Hp) (Q : Option Int → Hp → Prop), Q lo H → tl σ H Q) (hh : ∀ (H : Hp) (Q : Option Int → Hp → Prop), Q hi H → th σ H Q) : Gv (tSl rSlS te tl th) σ M (Tx (cutS x lo hi)) := fun H mh Q q =>
  h H mh _ fun v M1 H1 g1 p => hl H1 _ (hh H1 _ ⟨x, p, hz, q _ M1 H1 g1 rfl⟩)
/-! loops -/
variable {D : Ends} {tb : TS}
theorem s_for [Mon R1] {j : Nat} {xs : List α} {H : Hp} (mh : Same M H) (hsrc : Gv ts σ M (SqR K R1 xs)) (Pv : Hp → Nat → Sl → Hp → Hp → Prop)
    (h0 : ∀ M1 H1, Gr M H M1 H1 → Pv M1 0 σ M1 H1) (hk : ∀ M1 i σ' M' H', Pv M1 i σ' M' H' → Same M1 M' ∧ Same M' H')
    (hs : ∀ M1 i x v σ' M' H', Same M M1 → xs[i]? = some x → Pv M1 i σ' M' H' → R1 x M' v → tb { D with nx := fun σ2 H2 => ∃ M2, Pv M1 (i + 1) σ2 M2 H2, ct := fun σ2 H2 => ∃ M2, Pv M1 (i + 1) σ2 M2 H2, bk := D.nx } (σ'.set j (some v)) H')
    (hd : ∀ M1 σ' M' H', Same M M1 → Pv M1 xs.length σ' M' H' → D.nx σ' H') : tFor (iSq K ts) (gName j) tb D σ H := by
  refine hsrc H mh _ fun v M1 H1 g1 hv => ?_
  have core : ∀ (J : It) (G : Hp → Prop) (vs : List V), Walk J vs.length G (YAt vs) → (∀ M2 H2, Same M1 M2 → Same M2 H2 → G H2) → Pd R1 M1 xs vs →
      ∃ W : Nat → Nat → L2.St → Hp → Prop, (∃ m, W 0 m σ H1) ∧ ∀ i m σ H, W i m σ H →
        (J.stop i H ∧ D.nx σ H) ∨ (J.go i H ∧ ∃ N : L2.St → Hp → Prop, (∀ σ' H', N σ' H' → ∃ m', m' < m ∧ W (i + 1) m' σ' H') ∧ ∀ x H', J.yld i H x H' → gName j x σ H' fun σ2 H2 => tb { D with nx := N, ct := N, bk := D.nx } σ2 H2) := by
    intro J G vs w hG hp
    refine for_it w (fun i σ' H' => ∃ M', Pv M1 i σ' M' H') ⟨M1, h0 M1 H1 g1⟩ (fun i σ' H' _ ⟨M', p⟩ => hG M' H' (hk _ _ _ _ _ p).1 (hk _ _ _ _ _ p).2) ?_ ?_
    · rintro i y σ' H' H'' hi ⟨M', p⟩ ⟨rfl, hy⟩
      obtain ⟨x, hx, rx⟩ := pd_get' hp hy
      exact hs M1 i x y σ' M' _ g1.mm hx p (Mon.mono (hk _ _ _ _ _ p).1 rx)
    · rintro σ' H' ⟨M', p⟩
      rw [← hp.length] at p
      exact hd M1 σ' M' H' g1.mm p
  rcases hv with ⟨a, vs, rfl, hs', hp⟩ | ⟨a, vs, rfl, hs', hp⟩
  · exact ⟨a, rfl, .inl ⟨vs, sl_mono g1.mh hs', core (Itl K a) (fun H => SqL K H a vs) vs walk_list (fun M2 H2 s1 s2 => sl_mono (s1.trans s2) hs') hp⟩⟩
  · exact ⟨a, rfl, .inr ⟨vs, st_mono g1.mh hs', core (Itt K a) (fun H => SqT K H a vs) vs walk_tup (fun M2 H2 s1 s2 => st_mono (s1.trans s2) hs') hp⟩⟩
/-- for i, x in enumerate(xs) -/
theorem s_forE [Mon R1] {j k : Nat} {xs : List α} {H : Hp} (mh : Same M H) (hsrc : Gv ts σ M (SqR K R1 xs)) (Pv : Hp → Nat → Sl → Hp → Hp → Prop)
    (h0 : ∀ M1 H1, Gr M H M1 H1 → Pv M1 0 σ M1 H1) (hk : ∀ M1 i σ' M' H', Pv M1 i σ' M' H' → Same M1 M' ∧ Same M' H')
    (hs : ∀ M1 i x v σ' M' H' H'', Same M M1 → xs[i]? = some x → Pv M1 i σ' M' H' → Gr M' H' M' H'' → R1 x M' v →
      tb { D with nx := fun σ2 H2 => ∃ M2, Pv M1 (i + 1) σ2 M2 H2, ct := fun σ2 H2 => ∃ M2, Pv M1 (i + 1) σ2 M2 H2, bk := D.nx } ((σ'.set j (some (.int (i : Nat)))).set k (some v)) H'')
    (hd : ∀ M1 σ' M' H', Same M M1 → Pv M1 xs.length σ' M' H' → D.nx σ' H') : tFor (iEn K (tCons ts tNil)) (gTup K 2 (gCons (gName j) (gCons (gName k) gNil))) tb D σ H := by
  refine hsrc H mh _ fun v M1 H1 g1 hv => ?_
  have core : ∀ (J : It) (G : Hp → Prop) (vs : List V), Walk J vs.length G (YPair (fun i => some (.int (i : Nat))) fun i => vs[i]?) → (∀ M2 H2, Same M1 M2 → Same M2 H2 → G H2) → Pd R1 M1 xs vs →
      ∃ W : Nat → Nat → L2.St → Hp → Prop, (∃ m, W 0 m σ H1) ∧ ∀ i m σ H, W i m σ H →
        (J.stop i H ∧ D.nx σ H) ∨ (J.go i H ∧ ∃ N : L2.St → Hp → Prop, (∀ σ' H', N σ' H' → ∃ m', m' < m ∧ W (i + 1) m' σ' H') ∧ ∀ x H', J.yld i H x H' → gTup K 2 (gCons (gName j) (gCons (gName k) gNil)) x σ H' fun σ2 H2 => tb { D with nx := N, ct := N, bk := D.nx } σ2 H2) := by
    intro J G vs w hG hp
    refine for_it w (fun i σ' H' => ∃ M', Pv M1 i σ' M' H') ⟨M1, h0 M1 H1 g1⟩ (fun i σ' H' _ ⟨M', p⟩ => hG M' H' (hk _ _ _ _ _ p).1 (hk _ _ _ _ _ p).2) ?_ ?_
    · rintro i y σ' H' H'' hi ⟨M', p⟩ ⟨T, x1, x2, rfl, nT, rfl, e1, hy⟩
      cases e1
      obtain ⟨x, hx, rx⟩ := pd_get' hp hy
      have km := hk _ _ _ _ _ p
      refine ⟨T, _, rfl, .inl (.inl upd_same), rfl, _, _, rfl, _, _, rfl, rfl, ?_⟩
      exact hs M1 i x x2 σ' M' H' _ g1.mm hx p (.own km.2 nT) (Mon.mono km.1 rx)
    · rintro σ' H' ⟨M', p⟩
      rw [← hp.length] at p
      exact hd M1 σ' M' H' g1.mm p
  rcases hv with ⟨a, vs, rfl, hs', hp⟩ | ⟨a, vs, rfl, hs', hp⟩
  · exact ⟨a, rfl, .inl ⟨vs, sl_mono g1.mh hs', core (IeS fun H xs => SqL K H a xs) (fun H => SqL K H a vs) vs walk_eS (fun M2 H2 s1 s2 => sl_mono (s1.trans s2) hs') hp⟩⟩
  · exact ⟨a, rfl, .inr ⟨vs, st_mono g1.mh hs', core (IeS fun H xs => SqT K H a xs) (fun H => SqT K H a vs) vs walk_eS (fun M2 H2 s1 s2 => st_mono (s1.trans s2) hs') hp⟩⟩
end
end L3

set_option Elab.async false
set_option linter.all false
set_option maxRecDepth 100000
set_option maxHeartbeats 1000000
namespace L3
open PySem PySem.Spec PyProof.Rows L2
/-! one rule for each operator, whatever the kinds -/
def rDIn (neg : Bool) : R2 := fun x y H Q => ∃ a o, y = .ref a ∧ DGet H a x o ∧ Q (.bl (xor neg o.isSome)) H
def rSgn (neg : Bool) : R2 := fun x y H Q => ∃ (c : Nat) (z : Str), x = .str ⟨#[c]⟩ ∧ y = .str z ∧ Q (.bl (xor neg (decide (c ∈ z.cps.toList)))) H
def rInA (K : PySem.W.Frag) (neg : Bool) : R2 := fun x y H Q => rInP K neg x y H Q ∨ rDIn neg x y H Q ∨ rSgn neg x y H Q
def rAddI : R2 := rI0 fun i j => .int (i + j)
def rAddS : R2 := fun x y H Q => ∃ i j, x = .str i ∧ y = .str j ∧ i.length + j.length ≤ sizeLine ∧ Q (.str (i ++ j)) H
def rAddA (K : PySem.W.Frag) : R2 := fun x y H Q => rAddI x y H Q ∨ rAddS x y H Q ∨ rCatA K x y H Q ∨ rCat x y H Q
def rLenS : List V → Hp → VK → Prop := fun xs H Q => ∃ z, xs = [.str z] ∧ z.length ≤ sizeLine ∧ Q (.int z.length) H
def rLenD : List V → Hp → VK → Prop := fun xs H Q => ∃ a kvs, xs = [V.ref a] ∧ H a = some (.dK kvs) ∧ Q (.int kvs.length) H
def rLenA (K : PySem.W.Frag) : List V → Hp → VK → Prop := fun xs H Q => rLenOf K xs H Q ∨ rLenS xs H Q ∨ rLenD xs H Q
def rSlX (K : PySem.W.Frag) : V → Option Int → Option Int → Hp → VK → Prop := fun x lo hi H Q => rSlS x lo hi H Q ∨ rSlL K x lo hi H Q ∨ rSlA K x lo hi H Q
def rIxX (K : PySem.W.Frag) : R2 := fun x y H Q => rIxL K x y H Q ∨ rIxT K x y H Q ∨ rIxS x y H Q
section
variable {X : Cx}
theorem CallR.or {f : Value} {r r' : List V → Hp → VK → Prop} (h : CallR X f r) (h' : CallR X f r') : CallR X f (fun xs H Q => r xs H Q ∨ r' xs H Q) := fun pins s σ H xs us Q I rx q => q.elim (h pins s σ H xs us Q I rx) (h' pins s σ H xs us Q I rx)
theorem op_dIn (hu : X.A.units + 64 < cLine) : OpR X (compareOp .In) (rDIn false) := by
  intro pins s σ H x y v u Q I rx ry ⟨a, o, ey, g, q⟩
  subst ey
  cases ry
  exact d_in (by omega) I g rx fun s' I' => ⟨.bl _, H, I', rfl, by simpa using q⟩
theorem op_dNotIn (hu : X.A.units + 64 < cLine) : OpR X (compareOp .NotIn) (rDIn true) := by
  intro pins s σ H x y v u Q I rx ry ⟨a, o, ey, g, q⟩
  subst ey
  cases ry
  exact d_notIn (by omega) I g rx fun s' I' => ⟨.bl _, H, I', rfl, by simpa using q⟩
theorem op_sgn : OpR X (compareOp .In) (rSgn false) := by
  intro pins s σ H x y v u Q I rx ry ⟨c, z, e1, e2, q⟩
  exact op_in_sign pins s σ H x y v u Q I rx ry ⟨c, z, e1, e2, by simpa using q⟩
theorem op_nsgn : OpR X (compareOp .NotIn) (rSgn true) := by
  intro pins s σ H x y v u Q I rx ry ⟨c, z, e1, e2, q⟩
  exact op_notIn_sign pins s σ H x y v u Q I rx ry ⟨c, z, e1, e2, by simpa using q⟩
theorem op_inA (hu : X.A.units + 64 < cLine) : OpR X (compareOp .In) (rInA X.K false) := (op_inP hu).or ((op_dIn hu).or op_sgn)
theorem op_niA (hu : X.A.units + 64 < cLine) : OpR X (compareOp .NotIn) (rInA X.K true) := (op_notInP hu).or ((op_dNotIn hu).or op_nsgn)
theorem op_addA : OpR X (binaryOp .Add) (rAddA X.K) := OpR.or op_add (OpR.or op_add_str (OpR.or op_catA op_cat))
theorem call_lenA : CallR X (.builtin "len") (rLenA X.K) := CallR.or call_len_seq (CallR.or call_len_str call_lenD)
theorem sl_X : SlR X (rSlX X.K) := SlR.or sl_str (SlR.or sl_list sl_tupA)
theorem ix_X : IxR X (rIxX X.K) := IxR.or ix_list (IxR.or ix_tup ix_str)
theorem call_tupA : CallR X (.type "tuple") (rTupOf X.K) := call_tuple_of
theorem call_lstA : CallR X (.type "list") (rLstOf X.K) := call_list_of
end
/-! dicts whose keys are texts, each with True -/
def kvT (ks : List Str) : List (Key × V) := ks.map fun k => (Sum.inr k, V.bl true)
def DcR : Rl (List Str) := fun ks M v => ∃ a, v = .ref a ∧ Rd M a (.dK (kvT ks))
instance : Mon DcR := ⟨fun e ⟨a, h, r⟩ => ⟨a, h, rd_mono e r⟩⟩
theorem val_kvT (x : Str) : ∀ ks : List Str, (valV (kvT ks) (Sum.inr x : Key)).isSome = decide (x ∈ ks)
  | [] => rfl
  | k :: ks => by
    have ih := val_kvT x ks
    unfold valV kvT at ih ⊢
    rw [List.map_cons, List.find?_cons]
    by_cases h : k = x
    · subst h; simp
    · have h1 : ¬ (Sum.inr k : Key) = Sum.inr x := fun z => h (Sum.inr.inj z)
      have h2 : ¬ x = k := fun z => h z.symm
      simp only [h1, decide_false, List.mem_cons, h2, false_or]
      exact ih
/-- anything with texts that «in» asks -/
def CtR (K : PySem.W.Frag) : Rl (List Str) := fun xs M v => SqR K Tx xs M v ∨ DcR xs M v
instance {K : PySem.W.Frag} : Mon (CtR K) := ⟨fun e h => h.imp (Mon.mono e) (Mon.mono e)⟩
section
variable {K : PySem.W.Frag} {σ : Sl} {M : Hp} {ta tb te ts : TE} {tt : TT} {α β : Type} {R : Rl α} {S : Rl β}
theorem gv_inA {neg : Bool} {x : Str} {xs : List Str} (ha : Gv ta σ M (Tx x)) (hb : Gv tb σ M (CtR K xs)) : Gv (tOp (rInA K neg) ta tb) σ M (Bl (xor neg (decide (x ∈ xs)))) :=
  gv_op ha hb fun M' u w px py => rv_pure (fun H mh Q q => by
    rcases py with py | ⟨a, e, r⟩
    · exact .inl ⟨.str x, _, (by cases px; exact .str x), (py_sq py_str py).mono mh, (by simp [PyData.depth]), (by rw [any_mem inj_str]; exact q)⟩
    · subst e
      cases px
      exact .inr (.inl ⟨a, _, rfl, .inl ⟨_, Sum.inr x, rd_mono mh r, rfl, rfl⟩, by rw [val_kvT]; exact q⟩)) rfl
/-- .. of data -/
theorem gv_inD {e : α → PyData} [DecidableEq α] [Mon R] {neg : Bool} {x : α} {xs : List α} (pe : PyR K R e) (ie : Inj e) (ha : Gv ta σ M (R x)) (hb : Gv tb σ M (SqR K R xs)) (hz : (e x).depth ≤ 60) : Gv (tOp (rInA K neg) ta tb) σ M (Bl (xor neg (decide (x ∈ xs)))) :=
  gv_op ha hb fun M' u w px py => rv_pure (fun H mh Q q => .inl ⟨e x, _, dp_mono mh (pe _ _ _ px), (py_sq pe py).mono mh, hz, by rw [any_mem ie]; exact q⟩) rfl
theorem gv_sgn {neg : Bool} {c : Nat} {z : Str} (ha : Gv ta σ M (Tx ⟨#[c]⟩)) (hb : Gv tb σ M (Tx z)) : Gv (tOp (rInA K neg) ta tb) σ M (Bl (xor neg (decide (c ∈ z.cps.toList)))) :=
  gv_op ha hb fun M' u w px py => rv_pure (fun H mh Q q => .inr (.inr ⟨c, z, px, py, q⟩)) rfl
theorem gv_addSt {x y : Str} (ha : Gv ta σ M (Tx x)) (hb : Gv tb σ M (Tx y)) (hz : x.length + y.length ≤ sizeLine) : Gv (tOp (rAddA K) ta tb) σ M (Tx (x ++ y)) :=
  gv_op ha hb fun M' u w px py => rv_pure (fun H mh Q q => .inr (.inl ⟨x, y, px, py, hz, q⟩)) rfl
theorem gv_addIn {x y : Int} (ha : Gv ta σ M (It' x)) (hb : Gv tb σ M (It' y)) : Gv (tOp (rAddA K) ta tb) σ M (It' (x + y)) :=
  gv_op ha hb fun M' u w px py => rv_pure (fun H mh Q q => .inl ⟨x, y, px, py, q⟩) rfl
theorem gv_lenA [Mon R] {xs : List α} (h : Gv te σ M (SqR K R xs)) : Gv (tCB (rLenA K) (tCons te tNil)) σ M (It' xs.length) := gv_cb1 h fun M' v hv H mh Q q => by
  rcases hv with ⟨a, vs, rfl, hs, hp⟩ | ⟨a, vs, rfl, hs, hp⟩
  · exact .inl ⟨a, vs, rfl, .inl (sl_mono mh hs), q _ M' H (.refl mh) (by rw [hp.length])⟩
  · exact .inl ⟨a, vs, rfl, .inr (st_mono mh hs), q _ M' H (.refl mh) (by rw [hp.length])⟩
theorem gv_lenS {x : Str} (h : Gv te σ M (Tx x)) (hz : x.length ≤ sizeLine) : Gv (tCB (rLenA K) (tCons te tNil)) σ M (It' x.length) := gv_cb1 h fun M' v hv H mh Q q => .inr (.inl ⟨x, by rw [hv], hz, q _ M' H (.refl mh) rfl⟩)
theorem gv_cutS {tl th : TO} {x : Str} {lo hi : Option Int} (h : Gv te σ M (Tx x)) (hz : x.length ≤ sizeLine)
    (hl : ∀ (H : Hp) (Q : Option Int → Hp → Prop), Q lo H → tl σ H Q) (hh : ∀ (H : Hp) (Q : Option Int → Hp → Prop), Q hi H → th σ H Q) : Gv (tSl (rSlX K) te tl th) σ M (Tx (cutS x lo hi)) := fun H mh Q q =>
  h H mh _ fun v M1 H1 g1 p => hl H1 _ (hh H1 _ (.inl ⟨x, p, hz, q _ M1 H1 g1 rfl⟩))
/-- an item -/
theorem gv_ix [Mon R] {xs : List α} {i : Int} {x : α} (ha : Gv ta σ M (SqR K R xs)) (hb : Gv tb σ M (It' i)) (hx : atI xs i = some x) : Gv (tOp (rIxX K) ta tb) σ M (R x) := by
  refine gv_op ha hb fun M' u w pu pw => ?_
  cases (show w = .int i from pw)
  unfold atI at hx
  obtain ⟨j, hj, hx⟩ := Option.bind_eq_some_iff.mp hx
  rcases pu with ⟨a, vs, rfl, hs, hp⟩ | ⟨a, vs, rfl, hs, hp⟩
  all_goals
    obtain ⟨v, hv, rv⟩ := pd_get hp hx
    have ha : atI vs i = some v := by unfold atI; rw [← hp.length, hj]; exact hv
  · exact rv_pure (v := v) (fun H mh Q q => .inl ⟨a, vs, i, v, rfl, rfl, sl_mono mh hs, ha, q⟩) rv
  · exact rv_pure (v := v) (fun H mh Q q => .inr (.inl ⟨a, vs, i, v, rfl, rfl, st_mono mh hs, ha, q⟩)) rv
theorem gv_ixS {x : Str} {i : Int} {c : Nat} (ha : Gv ta σ M (Tx x)) (hb : Gv tb σ M (It' i)) (hz : x.length ≤ sizeLine) (hx : atI x.cps.toList i = some c) : Gv (tOp (rIxX K) ta tb) σ M (Tx ⟨#[c]⟩) :=
  gv_op ha hb fun M' u w pu pw => rv_pure (fun H mh Q q => .inr (.inr ⟨x, i, c, pu, pw, hz, hx, q⟩)) rfl
/-- a written tuple of two texts -/
theorem gv_tup2 {x y : Str} (h1 : Gv ta σ M (Tx x)) (h2 : Gv tb σ M (Tx y)) : Gv (tTup (tCons ta (tCons tb tNil))) σ M (TupR K Tx [x, y]) := fun H mh Q q =>
  h1 H mh _ fun v M1 H1 g1 p1 => h2.le g1.mm H1 g1.mh _ fun w M2 H2 g2 p2 => ⟨by show 2 ≤ sizeLine; decide, fun p np => q _ _ _ ((g1.trans g2).trans (.new g2.mh np)) ⟨p, _, rfl, .inl (.inl upd_same), .cons p1 (.cons p2 .nil)⟩⟩
end
end L3

set_option Elab.async false
set_option linter.all false
set_option maxRecDepth 100000
set_option maxHeartbeats 1000000
namespace L3
open PySem PySem.Spec PyProof.Rows L2
/-! calls of defs by name -/
def Cal (P : Program) (w : World) (K : PySem.W.Frag) (mg : Str → Option Value) (base : Heap) (k : Nat) (x : Str) (ps : List Str) (sp : Sp) : Prop :=
  ∃ f fd, FnOk P w K mg base CX0 k f fd ps sp ∧ mg x = some (.ref f) ∧ PySem.W.keepIn K (.ref f) = true ∧ Binds K fd ps []
theorem pe_f {X : Cx} {k : Nat} {x : Str} {ps : List Str} {sp : Sp} {e : Expr} {es : List Expr} {t : TA} {p pos : Pos} (c : Cal X.prog X.w X.K X.mg X.base k x ps sp) (hr : Room k X.A) (ha : PA X (e :: es) t) (hg : Gl X x := by rfl)
    (hdb : (x == ("__debug__" : Str)) = false := by decide) (he : starEach (e :: es) X.env = (false, eval e X.env) :: starEach es X.env := by rfl) (hpl : (backTo pos (starEach es X.env)).any (·.1) = false := by rfl) :
    PE X (.Call (.Name x p) (e :: es) [] pos) (tCall sp [] E0 t) :=
  let ⟨_, _, G, m, kp, b⟩ := c
  pe_call G hr hg m kp b .nil pass0 ha hdb he hpl
/-! small statements -/
section
variable {K : PySem.W.Frag} {σ : Sl} {M H : Hp} {te : TE} {P : Pr} {D : Ends} {tu tw tz : TS} {tt : TT} {b : Bool}
theorem s_ret (mh : Same M H) (h : Gv te σ M P) (k : ∀ v M' H', Gr M H M' H' → P M' v → D.rt v H') : tRet te D σ H := h H mh _ k
theorem s_retL {P : Hp → List V → Prop} (mh : Same M H) (h : GvL te σ M P) (k : ∀ p vs M' H', Gr M H M' H' → H p = none → M' p = none → H' p = some (.lst vs) → P M' vs → D.rt (.ref p) H') : tRet te D σ H := h H mh _ k
theorem s_asg {i : Nat} (mh : Same M H) (h : Gv te σ M P) (k : ∀ v M' H', Gr M H M' H' → P M' v → D.nx (σ.set i (some v)) H') : tAsg te (gName i) D σ H := h H mh _ k
theorem q_asg {i : Nat} (mh : Same M H) (h : Gv te σ M P) (k : ∀ v M' H', Gr M H M' H' → P M' v → tz D (σ.set i (some v)) H') : tSeq (tAsg te (gName i)) tz D σ H := h H mh _ k
theorem q_asgL {i : Nat} {P : Hp → List V → Prop} (mh : Same M H) (h : GvL te σ M P) (k : ∀ p vs M' H', Gr M H M' H' → H p = none → M' p = none → H' p = some (.lst vs) → P M' vs → tz D (σ.set i (some (.ref p))) H') : tSeq (tAsg te (gName i)) tz D σ H := h H mh _ k
theorem q_if (mh : Same M H) (h : GvT tt σ M b) (h1 : b = true → ∀ H', Same H H' → tu { D with nx := tz D } σ H') (h2 : b = false → ∀ H', Same H H' → tw { D with nx := tz D } σ H') : tSeq (tIfS tt tu tw) tz D σ H := h H mh _ fun M' H' g => by
  cases b with
  | true => exact h1 rfl H' g.hh
  | false => exact h2 rfl H' g.hh
theorem s_if (mh : Same M H) (h : GvT tt σ M b) (h1 : b = true → ∀ H', Same H H' → tu D σ H') (h2 : b = false → ∀ H', Same H H' → tw D σ H') : tIfS tt tu tw D σ H := h H mh _ fun M' H' g => by
  cases b with
  | true => exact h1 rfl H' g.hh
  | false => exact h2 rfl H' g.hh
theorem Gr.idle {M H H' : Hp} (mh : Same M H) (hh : Same H H') : Gr M H M H' := ⟨Same.refl M, hh, mh.trans hh, fun _ _ e => .inl e, fun _ _ e => e⟩
/-- an empty list, ours -/
theorem gl_nil : GvL (tLst tNil) σ M fun _ vs => vs = [] := gl_lst ga_nil fun _ vs h => by rw [h]; exact Nat.zero_le _
/-- xs.append(e), xs in slot i at p -/
theorem s_app {i : Nat} {p : Addr} {vs : List V} (mh : Same M H) (hi : σ[i]? = some (some (.ref p))) (hp : H p = some (.lst vs)) (hz : vs.length < sizeLine) (h : Gv te σ M P)
    (k : ∀ v M' H', Gr M H M' H' → P M' v → D.nx σ (upd H' p (.lst (vs ++ [v])))) : tDrop (tBM K "list" rAppend (tVar i) (tCons te tNil)) D σ H :=
  ⟨.ref p, hi, .inl ⟨rfl, _, .inl (.inl hp)⟩, h H mh _ fun v M' H' g r => ⟨p, vs, v, rfl, rfl, g.hh _ _ hp, hz, k v M' H' g r⟩⟩
/-- xs.extend(e), e a new list -/
theorem s_ext {i : Nat} {p : Addr} {vs : List V} {P : Hp → List V → Prop} (mh : Same M H) (hi : σ[i]? = some (some (.ref p))) (hp : H p = some (.lst vs)) (h : GvL te σ M P) (hz : ∀ M' ws, P M' ws → vs.length + ws.length ≤ sizeLine)
    (k : ∀ ws M' H', Gr M H M' H' → P M' ws → D.nx σ (upd H' p (.lst (vs ++ ws)))) : tDrop (tBM K "list" rExtend (tVar i) (tCons te tNil)) D σ H :=
  ⟨.ref p, hi, .inl ⟨rfl, _, .inl (.inl hp)⟩, h H mh _ fun b ws M' H' g h0 m0 hb r => ⟨p, b, vs, ws, rfl, rfl, g.hh _ _ hp, hb, hz M' ws r, k ws M' H' g r⟩⟩
end
/-- what we own: new since H0, not known to M -/
structure Own (H0 M H : Hp) (p : Addr) (vs : List V) : Prop where
  h0 : H0 p = none
  m : M p = none
  h : H p = some (.lst vs)
theorem Own.fr {H0 M H : Hp} {p : Addr} {vs : List V} (o : Own H0 M H p vs) (mh : Same M H) : Same (upd M p (.lst vs)) H := fun b u e => by
  by_cases hb : b = p
  · subst hb; rw [upd_same] at e; rw [o.h]; exact e
  · rw [upd_ne hb] at e; exact mh b u e
theorem Own.up {H0 M H : Hp} {p : Addr} {vs : List V} (o : Own H0 M H p vs) : Same M (upd M p (.lst vs)) := same_new o.m
theorem Own.idle {H0 M H H' : Hp} {p : Addr} {vs : List V} (o : Own H0 M H p vs) (hh : Same H H') : Own H0 M H' p vs := ⟨o.h0, o.m, hh _ _ o.h⟩
theorem Own.put {H0 M H : Hp} {p : Addr} {vs ws : List V} (o : Own H0 M H p vs) : Own H0 M (upd H p (.lst ws)) p ws := ⟨o.h0, o.m, upd_same⟩
theorem Own.lst {K : PySem.W.Frag} {α : Type} {R : Rl α} {H0 M H : Hp} {p : Addr} {vs : List V} {xs : List α} [Mon R] (o : Own H0 M H p vs) (h : Pd R M xs vs) : LstR K R xs (upd M p (.lst vs)) (.ref p) := ⟨p, vs, rfl, .inl (.inl upd_same), h.mono o.up⟩
theorem Own.step {H0 M H M' H' : Hp} {p : Addr} {vs : List V} (o : Own H0 M H p vs) (g : Gr M H M' H') : Own H0 M' H' p vs := ⟨o.h0, g.keep o.m o.h, g.hh _ _ o.h⟩
section
variable {K : PySem.W.Frag} {σ : Sl} {M : Hp} {ts : TE} {α : Type} {R1 : Rl α} {D : Ends} {tb tz : TS}
theorem q_for [Mon R1] {j : Nat} {xs : List α} {H : Hp} (mh : Same M H) (hsrc : Gv ts σ M (SqR K R1 xs)) (Pv : Hp → Nat → Sl → Hp → Hp → Prop)
    (h0 : ∀ M1 H1, Gr M H M1 H1 → Pv M1 0 σ M1 H1) (hk : ∀ M1 i σ' M' H', Pv M1 i σ' M' H' → Same M1 M' ∧ Same M' H')
    (hs : ∀ M1 i x v σ' M' H', Same M M1 → xs[i]? = some x → Pv M1 i σ' M' H' → R1 x M' v → tb { D with nx := fun σ2 H2 => ∃ M2, Pv M1 (i + 1) σ2 M2 H2, ct := fun σ2 H2 => ∃ M2, Pv M1 (i + 1) σ2 M2 H2, bk := tz D } (σ'.set j (some v)) H')
    (hd : ∀ M1 σ' M' H', Same M M1 → Pv M1 xs.length σ' M' H' → tz D σ' H') : tSeq (tFor (iSq K ts) (gName j) tb) tz D σ H := s_for (D := { D with nx := tz D }) mh hsrc Pv h0 hk hs hd
theorem q_forE [Mon R1] {j k : Nat} {xs : List α} {H : Hp} (mh : Same M H) (hsrc : Gv ts σ M (SqR K R1 xs)) (Pv : Hp → Nat → Sl → Hp → Hp → Prop)
    (h0 : ∀ M1 H1, Gr M H M1 H1 → Pv M1 0 σ M1 H1) (hk : ∀ M1 i σ' M' H', Pv M1 i σ' M' H' → Same M1 M' ∧ Same M' H')
    (hs : ∀ M1 i x v σ' M' H' H'', Same M M1 → xs[i]? = some x → Pv M1 i σ' M' H' → Gr M' H' M' H'' → R1 x M' v →
      tb { D with nx := fun σ2 H2 => ∃ M2, Pv M1 (i + 1) σ2 M2 H2, ct := fun σ2 H2 => ∃ M2, Pv M1 (i + 1) σ2 M2 H2, bk := tz D } ((σ'.set j (some (.int (i : Nat)))).set k (some v)) H'')
    (hd : ∀ M1 σ' M' H', Same M M1 → Pv M1 xs.length σ' M' H' → tz D σ' H') : tSeq (tFor (iEn K (tCons ts tNil)) (gTup K 2 (gCons (gName j) (gCons (gName k) gNil))) tb) tz D σ H := s_forE (D := { D with nx := tz D }) mh hsrc Pv h0 hk hs hd
/-- the whole of a tuple of ours: tuple(xs) -/
theorem s_retTup {i : Nat} {p : Addr} {vs : List V} {H : Hp} (mh : Same M H) (hi : σ[i]? = some (some (.ref p))) (hp : H p = some (.lst vs))
    (k : ∀ l, H l = none → D.rt (.ref l) (upd H l (.tup vs))) : tRet (tCB (rTupOf K) (tCons (tVar i) tNil)) D σ H := ⟨.ref p, hi, p, vs, rfl, .inl ⟨.inl (.inl hp), k⟩⟩
end
end L3

set_option Elab.async false
set_option linter.all false
set_option maxRecDepth 100000
set_option maxHeartbeats 1000000
namespace L3
open PySem PySem.Spec PyProof.Rows L2
/-! isinstance of data -/
def tyN : PyData → String
  | .none => "NoneType" | .bool _ => "bool" | .int _ => "int" | .str _ => "str" | .list _ => "list" | .tuple _ => "tuple" | .dict _ => "dict"
theorem ty_of {K : PySem.W.Frag} {H : Hp} {v : V} {d : PyData} (h : Dp K H v d) : TyX K H v (.type (tyN d)) := by
  cases h with
  | non => exact .base .non
  | bl b => exact .base (.bl b)
  | int i => exact .base (.int i)
  | str x => exact .base (.str x)
  | lst hs ha =>
    rcases hs with (h | ⟨o, h⟩) | ⟨o, its, n, hk, hc, _⟩
    · exact .base (.lst h)
    · exact .base (.frz h)
    · exact .kList hk hc
  | tup hs ha =>
    rcases hs with (h | ⟨o, h⟩) | ⟨o, its, n, hk, hc, _⟩
    · exact .base (.tup h)
    · exact .fTuple h
    · exact .kTuple hk hc
section
variable {K : PySem.W.Frag} {σ : Sl} {M : Hp} {ta tb te ts : TE} {α : Type} {R : Rl α}
theorem gv_isi {d : PyData} {n : String} {b : Bool} (h : Gv ta σ M (Dd K d)) (hk : kitB (tyN d) n = some b) : Gv (tCB (rIsi K) (tCons ta (tCons (tC (.ty n)) tNil))) σ M (Bl b) := fun H mh Q q =>
  h H mh _ fun v M1 H1 g1 p => ⟨v, .ty n, _, _, b, rfl, .ty n, ty_of (dp_mono g1.mh p), kit_ty hk, q _ M1 H1 g1 rfl⟩
theorem gv_isi2 {d : PyData} {n m : String} {b c : Bool} (h : Gv ta σ M (Dd K d)) (hk : kitB (tyN d) n = some b) (hm : kitB (tyN d) m = some c) : Gv (tCB (rIsiT K) (tCons ta (tCons (tTup (tCons (tC (.ty n)) (tCons (tC (.ty m)) tNil))) tNil))) σ M (Bl (b || c)) := fun H mh Q q =>
  h H mh _ fun v M1 H1 g1 p => ⟨by show 2 ≤ sizeLine; decide, fun tp ntp => by
    refine ⟨v, tp, _, _, _, b || c, rfl, upd_same, .cons (.ty n) (.cons (.ty m) .nil), ty_of (dp_mono ((g1.mh).trans (same_new ntp)) p), ?_, q _ M1 _ (g1.trans (.own g1.mh ntp)) rfl⟩
    refine kitAny_cons (kit_ty hk) (fun hb => kitAny_cons (kit_ty hm) (fun hc => ?_) fun hc => ?_) fun h => ?_
    · rw [hb, hc]; exact kitAny_nil
    · rw [hb, hc]; rfl
    · rw [h]; rfl⟩
/-- None or a number -/
def OpN : Rl (Option Nat) := fun o _ v => v = match o with | none => .non | some i => .int (i : Nat)
instance : Mon OpN := ⟨fun _ h => h⟩
/-- None or something -/
def OpR' (R : Rl α) : Rl (Option α) := fun o M v => match o with | none => v = .non | some x => R x M v
instance [Mon R] : Mon (OpR' R) := ⟨fun {o M M' v} e h => by
  cases o with
  | none => exact h
  | some x => exact Mon.mono (R := R) e h⟩
theorem sq_d {e : α → PyData} {xs : List α} {M : Hp} {v : V} (pe : PyR K R e) (h : SqR K R xs M v) : SqR K (Dd K) (xs.map e) M v := by
  have go : ∀ {vs : List V} {xs : List α}, Pd R M xs vs → Pd (Dd K) M (xs.map e) vs := by
    intro vs xs h
    induction h with
    | nil => exact .nil
    | cons q _ ih => exact .cons (pe _ _ _ q) ih
  rcases h with ⟨a, vs, h1, h2, h3⟩ | ⟨a, vs, h1, h2, h3⟩
  · exact .inl ⟨a, vs, h1, h2, go h3⟩
  · exact .inr ⟨a, vs, h1, h2, go h3⟩
theorem pd_d {M : Hp} : ∀ {vs : List V} {ds : List PyData}, DpAll K M vs ds → Pd (Dd K) M ds vs
  | _, _, .nil => .nil
  | _, _, .cons q t => .cons q (pd_d t)
theorem dp_sqL {ds : List PyData} {M : Hp} {v : V} (h : Dp K M v (.list ds)) : SqR K (Dd K) ds M v := by
  cases h with
  | lst hs ha => exact .inl ⟨_, _, rfl, hs, pd_d ha⟩
theorem dp_sqT {ds : List PyData} {M : Hp} {v : V} (h : Dp K M v (.tuple ds)) : SqR K (Dd K) ds M v := by
  cases h with
  | tup hs ha => exact .inr ⟨_, _, rfl, hs, pd_d ha⟩
end
end L3

set_option Elab.async false
set_option linter.all false
set_option maxRecDepth 100000
set_option maxHeartbeats 1000000
namespace L3
open PySem PySem.Spec PyProof.Rows L2
/-! anything walked: the items xs, each told by R -/
def GW {α : Type} (M1 : Hp) (J : It) (xs : List α) (R : Rl α) : Prop := ∃ (G : Hp → Prop) (Y : Nat → Hp → V → Hp → Prop), Walk J xs.length G Y ∧ (∀ M2 H2, Same M1 M2 → Same M2 H2 → G H2) ∧
  ∀ i M2 H2 v H3, Same M1 M2 → Same M2 H2 → i < xs.length → Y i H2 v H3 → ∃ x M3, xs[i]? = some x ∧ Gr M2 H2 M3 H3 ∧ R x M3 v
def GvI {α : Type} (wi : TI) (σ : Sl) (M : Hp) (xs : List α) (R : Rl α) : Prop := ∀ H, Same M H → ∀ Q : It → Hp → Prop, (∀ J M1 H1, Gr M H M1 H1 → GW M1 J xs R → Q J H1) → wi σ H Q
/-- a target: how the slots change -/
def TgOk {α : Type} (g : TG) (R : Rl α) (U : α → Hp → Sl → Sl → Prop) : Prop := ∀ x M v H σ (Q : L2.St → Hp → Prop), R x M v → Same M H → (∀ σ', U x M σ σ' → Q σ' H) → g v σ H Q
abbrev U1 {α : Type} (R : Rl α) (j : Nat) : α → Hp → Sl → Sl → Prop := fun x M σ σ' => ∃ v, R x M v ∧ σ' = σ.set j (some v)
/-- a pair in a tuple -/
def PrR (K : PySem.W.Frag) {α β : Type} (R : Rl α) (S : Rl β) : Rl (α × β) := fun x M v => ∃ a u w, v = .ref a ∧ SqT K M a [u, w] ∧ R x.1 M u ∧ S x.2 M w
instance {K : PySem.W.Frag} {α β : Type} {R : Rl α} {S : Rl β} [Mon R] [Mon S] : Mon (PrR K R S) := ⟨fun e ⟨a, u, w, h1, h2, h3, h4⟩ => ⟨a, u, w, h1, st_mono e h2, Mon.mono e h3, Mon.mono e h4⟩⟩
abbrev U2 {α β : Type} (R : Rl α) (S : Rl β) (j k : Nat) : α × β → Hp → Sl → Sl → Prop := fun x M σ σ' => ∃ v w, R x.1 M v ∧ S x.2 M w ∧ σ' = (σ.set j (some v)).set k (some w)
section
variable {K : PySem.W.Frag} {σ : Sl} {M : Hp} {ta tb te ts : TE} {tt : TT} {α β : Type} {R : Rl α} {S : Rl β} {wi : TI} {g : TG}
theorem tg_1 {j : Nat} : TgOk (gName j) R (U1 R j) := fun x M v H σ Q r mh q => q _ ⟨v, r, rfl⟩
theorem tg_2 {j k : Nat} : TgOk (gTup K 2 (gCons (gName j) (gCons (gName k) gNil))) (PrR K R S) (U2 R S j k) := by
  rintro x M v H σ Q ⟨a, u, w, rfl, h2, h3, h4⟩ mh q
  exact ⟨a, _, rfl, st_mono mh h2, rfl, u, _, rfl, w, _, rfl, rfl, q _ ⟨u, w, h3, h4, rfl⟩⟩
theorem gi_sq [Mon R] {xs : List α} (h : Gv ts σ M (SqR K R xs)) : GvI (iSq K ts) σ M xs R := fun H mh Q q => h H mh _ fun v M1 H1 g1 hv => by
  rcases hv with ⟨a, vs, rfl, hs, hp⟩ | ⟨a, vs, rfl, hs, hp⟩
  · refine ⟨a, rfl, .inl ⟨vs, sl_mono g1.mh hs, q _ M1 H1 g1 ⟨_, _, (by rw [hp.length]; exact walk_list (xs := vs)), fun M2 H2 s1 s2 => sl_mono (s1.trans s2) hs, ?_⟩⟩⟩
    rintro i M2 H2 v H3 s1 s2 hi ⟨rfl, hy⟩
    obtain ⟨x, hx, rx⟩ := pd_get' hp hy
    exact ⟨x, M2, hx, .refl s2, Mon.mono s1 rx⟩
  · refine ⟨a, rfl, .inr ⟨vs, st_mono g1.mh hs, q _ M1 H1 g1 ⟨_, _, (by rw [hp.length]; exact walk_tup (xs := vs)), fun M2 H2 s1 s2 => st_mono (s1.trans s2) hs, ?_⟩⟩⟩
    rintro i M2 H2 v H3 s1 s2 hi ⟨rfl, hy⟩
    obtain ⟨x, hx, rx⟩ := pd_get' hp hy
    exact ⟨x, M2, hx, .refl s2, Mon.mono s1 rx⟩
theorem gi_str {x : Str} (h : Gv ts σ M (Tx x)) : GvI (iStr ts) σ M x.cps.toList (fun c => Tx ⟨#[c]⟩) := fun H mh Q q => h H mh _ fun v M1 H1 g1 hv => by
  refine ⟨x, hv, q _ M1 H1 g1 ⟨_, _, (by rw [Array.length_toList]; exact walk_str (z := x)), fun _ _ _ _ => trivial, ?_⟩⟩
  rintro i M2 H2 v H3 s1 s2 hi ⟨rfl, c, hc, rfl⟩
  exact ⟨c, M2, by simpa using hc, .refl s2, rfl⟩
theorem gi_rng1 {n : Nat} (h : Gv te σ M (It' (n : Int))) (hn : n ≤ 1000000000) : GvI (iRng1 (tCons te tNil)) σ M (List.range n) (fun i => It' (i : Nat)) := fun H mh Q q => h H mh _ fun v M1 H1 g1 hv => by
  cases (show v = _ from hv)
  refine ⟨(n : Int), rfl, by omega, by omega, q _ M1 H1 g1 ⟨_, _, (by rw [List.length_range, Int.toNat_natCast]; exact walk_range), fun _ _ _ _ => trivial, ?_⟩⟩
  rintro i M2 H2 v H3 s1 s2 hi ⟨rfl, rfl⟩
  rw [List.length_range] at hi
  exact ⟨i, M2, by simp [hi], .refl s2, by show V.int _ = V.int _; rw [Int.zero_add]⟩
/-- enumerate -/
def enum (xs : List α) : List (Nat × α) := (List.range xs.length).zip xs
theorem enum_len (xs : List α) : (enum xs).length = xs.length := by unfold enum; rw [List.length_zip, List.length_range, Nat.min_self]
theorem enum_get {xs : List α} {i : Nat} {x : α} (h : xs[i]? = some x) : (enum xs)[i]? = some (i, x) := by
  have hi : i < xs.length := (List.getElem?_eq_some_iff.mp h).1
  unfold enum
  rw [List.getElem?_zip_eq_some]
  exact ⟨by simp [hi], h⟩
theorem gi_en [Mon R] {xs : List α} (h : Gv ts σ M (SqR K R xs)) : GvI (iEn K (tCons ts tNil)) σ M (enum xs) (PrR K (fun i => It' (i : Nat)) R) := fun H mh Q q => h H mh _ fun v M1 H1 g1 hv => by
  have fin : ∀ {vs : List V}, Pd R M1 xs vs → ∀ i M2 H2 v H3, Same M1 M2 → Same M2 H2 → i < (enum xs).length → YPair (fun i => some (V.int (i : Nat))) (fun i => vs[i]?) i H2 v H3 → ∃ x M3, (enum xs)[i]? = some x ∧ Gr M2 H2 M3 H3 ∧ PrR K (fun i => It' (i : Nat)) R x M3 v := by
    rintro vs hp i M2 H2 v H3 s1 s2 hi ⟨T, x1, x2, rfl, nT, rfl, e1, hy⟩
    cases e1
    obtain ⟨x, hx, rx⟩ := pd_get' hp hy
    exact ⟨(i, x), upd M2 T (.tup [.int (i : Nat), x2]), enum_get hx, .new s2 nT, T, _, _, rfl, .inl (.inl upd_same), rfl, Mon.mono (s1.trans (same_new (s2.free nT))) rx⟩
  rcases hv with ⟨a, vs, rfl, hs, hp⟩ | ⟨a, vs, rfl, hs, hp⟩
  · exact ⟨a, rfl, .inl ⟨vs, sl_mono g1.mh hs, q _ M1 H1 g1 ⟨_, _, (by rw [enum_len, hp.length]; exact walk_eS (xs := vs)), fun M2 H2 s1 s2 => sl_mono (s1.trans s2) hs, fin hp⟩⟩⟩
  · exact ⟨a, rfl, .inr ⟨vs, st_mono g1.mh hs, q _ M1 H1 g1 ⟨_, _, (by rw [enum_len, hp.length]; exact walk_eS (xs := vs)), fun M2 H2 s1 s2 => st_mono (s1.trans s2) hs, fin hp⟩⟩⟩
/-- the keys of a dict that is locked -/
def DcF : Rl (List Str) := fun ks M v => ∃ a o, v = .ref a ∧ M a = some (.frz o (.dK (kvT ks)))
instance : Mon DcF := ⟨fun e ⟨a, o, h, r⟩ => ⟨a, o, h, e _ _ r⟩⟩
theorem DcF.dc {ks : List Str} {M : Hp} {v : V} (h : DcF ks M v) : DcR ks M v := let ⟨a, o, e, r⟩ := h; ⟨a, e, .inr ⟨o, r⟩⟩
theorem gi_keys {ks : List Str} (h : Gv ts σ M (DcF ks)) : GvI (iKeys ts) σ M ks Tx := fun H mh Q q => h H mh _ fun v M1 H1 g1 ⟨a, o, e, r⟩ => by
  subst e
  have hl : (kvT ks).length = ks.length := by unfold kvT; rw [List.length_map]
  refine ⟨a, o, rfl, .inl ⟨_, g1.mh _ _ r, q _ M1 H1 g1 ⟨_, _, (by rw [← hl]; exact walk_keys (kvs := kvT ks)), fun M2 H2 s1 s2 => s2 _ _ (s1 _ _ r), ?_⟩⟩⟩
  rintro i M2 H2 v H3 s1 s2 hi ⟨rfl, k, w, hk, rfl⟩
  unfold kvT at hk
  rw [List.getElem?_map] at hk
  obtain ⟨x, hx, ex⟩ := Option.map_eq_some_iff.mp hk
  cases ex
  exact ⟨x, M2, hx, .refl s2, rfl⟩
theorem gl_comp [Mon S] {U : α → Hp → Sl → Sl → Prop} {vs : List Nat} {xs : List α} (hsrc : GvI wi σ M xs R) (htg : TgOk g R U) (hw : ∀ x M' σ', U x M' (wipe σ vs) σ' → wipe σ' vs = wipe σ vs) (hz : xs.length ≤ sizeLine) (t : α → Bool) (f : α → β)
    (ht : ∀ x ∈ xs, ∀ M1 σ', Same M M1 → U x M1 (wipe σ vs) σ' → GvT tt σ' M1 (t x))
    (he : ∀ x ∈ xs, t x = true → ∀ M1 σ', Same M M1 → U x M1 (wipe σ vs) σ' → Gv te σ' M1 (S (f x))) :
    GvL (tLc wi g tt te vs) σ M fun M ws => Pd S M ((xs.filter t).map f) ws := by
  intro H mh Q q
  refine hsrc H mh _ fun J M1 H1 g1 ⟨G, Y, w, hG, hY⟩ D hD => ?_
  refine lc_it w (fun i H' => ∃ M' ws, Gr M1 H1 M' H' ∧ M' D = none ∧ H' D = some (.lst ws) ∧ ws.length ≤ i ∧ Pd S M' (((xs.take i).filter t).map f) ws) ⟨M1, [], .own g1.mh hD, g1.mh.free hD, upd_same, Nat.le_refl _, .nil⟩ (fun i H' _ ⟨M', ws, g, _⟩ => hG M' H' g.mm g.mh) ?_ ?_
  · rintro i y H' H'' hi ⟨M', ws, g, m0, hw', hl, hpd⟩ hy
    obtain ⟨x, M0, hx, g0, rx⟩ := hY i M' H' y H'' g.mm g.mh hi hy
    have hxm : x ∈ xs := List.mem_of_getElem? hx
    have et : xs.take (i + 1) = xs.take i ++ [x] := by rw [List.take_add_one, hx]; rfl
    have gg := g.trans g0
    have sm := g1.mm.trans gg.mm
    have k0 : H'' D = some (.lst ws) := g0.hh _ _ hw'
    have m0' : M0 D = none := g0.keep m0 hw'
    refine htg x M0 y H'' _ _ rx gg.mh fun σ2 hU => ⟨hw x M0 σ2 hU, ht x hxm M0 σ2 sm hU H'' gg.mh _ fun M2 H2 g2 => ?_⟩
    cases ex : t x with
    | true =>
      refine (he x hxm ex M0 σ2 sm hU).le g2.mm H2 g2.mh _ fun z M3 H3 g3 hz3 => ?_
      have m3 : M3 D = none := (g2.trans g3).keep m0' k0
      refine ⟨ws, g3.hh _ _ (g2.hh _ _ k0), Nat.lt_of_lt_of_le (Nat.lt_of_le_of_lt hl hi) hz, M3, ws ++ [z], ((gg.trans g2).trans g3).mut hD m3, m3, upd_same, by rw [List.length_append]; exact Nat.succ_le_succ hl, ?_⟩
      rw [et, List.filter_append, List.map_append, List.filter_cons, ex]
      exact pd_app (hpd.mono ((g0.mm.trans g2.mm).trans g3.mm)) (.cons hz3 .nil)
    | false =>
      refine ⟨M2, ws, gg.trans g2, g2.keep m0' k0, g2.hh _ _ k0, Nat.le_succ_of_le hl, ?_⟩
      rw [et, List.filter_append, List.map_append, List.filter_cons, ex]
      show Pd S M2 (_ ++ []) ws
      rw [List.append_nil]
      exact hpd.mono (g0.mm.trans g2.mm)
  · rintro H' ⟨M', ws, g, m0, hw', hl, hpd⟩
    rw [List.take_length] at hpd
    exact q D ws M' H' (g1.trans g) (g1.hh.free hD) m0 hw' hpd
theorem wipe2 {j k : Nat} {u w : V} : wipe (((wipe σ [j, k]).set j (some u)).set k (some w)) [j, k] = wipe σ [j, k] := by
  show (((((σ.set k none).set j none).set j (some u)).set k (some w)).set k none).set j none = (σ.set k none).set j none
  rw [List.set_set, List.set_set]
  by_cases h : j = k
  · subst h; simp
  · rw [List.set_comm _ _ h, List.set_set, List.set_set]
/-- the plain form: a name for the target -/
theorem gl_c1 [Mon S] {j : Nat} {xs : List α} (hsrc : GvI wi σ M xs R) (hz : xs.length ≤ sizeLine) (t : α → Bool) (f : α → β)
    (ht : ∀ x ∈ xs, ∀ M1 v, Same M M1 → R x M1 v → GvT tt ((wipe σ [j]).set j (some v)) M1 (t x))
    (he : ∀ x ∈ xs, t x = true → ∀ M1 v, Same M M1 → R x M1 v → Gv te ((wipe σ [j]).set j (some v)) M1 (S (f x))) : GvL (tLc wi (gName j) tt te [j]) σ M fun M ws => Pd S M ((xs.filter t).map f) ws :=
  gl_comp hsrc tg_1 (fun x M' σ' ⟨v, _, e⟩ => by subst e; exact wipe1) hz t f (fun x hx M1 σ' sm ⟨v, r, e⟩ => by subst e; exact ht x hx M1 v sm r) (fun x hx e M1 σ' sm ⟨v, r, e'⟩ => by subst e'; exact he x hx e M1 v sm r)
theorem gt_yes : GvT tYes σ M true := fun H mh Q q => q M H (.refl mh)
/-- without a test -/
theorem gl_m1 [Mon S] {j : Nat} {xs : List α} (hsrc : GvI wi σ M xs R) (hz : xs.length ≤ sizeLine) (f : α → β)
    (he : ∀ x ∈ xs, ∀ M1 v, Same M M1 → R x M1 v → Gv te ((wipe σ [j]).set j (some v)) M1 (S (f x))) : GvL (tLc wi (gName j) tYes te [j]) σ M fun M ws => Pd S M (xs.map f) ws := by
  have h := gl_c1 (tt := tYes) (te := te) (S := S) (j := j) hsrc hz (fun _ => true) f (fun _ _ _ _ _ _ => gt_yes) (fun x hx _ M1 v sm r => he x hx M1 v sm r)
  rw [List.filter_eq_self.mpr fun _ _ => rfl] at h
  exact h
variable {D : Ends} {tz tbd : TS}
/-- for over anything -/
theorem q_forG {U : α → Hp → Sl → Sl → Prop} {xs : List α} {H : Hp} (mh : Same M H) (hsrc : GvI wi σ M xs R) (htg : TgOk g R U) (Pv : Hp → Nat → Sl → Hp → Hp → Prop)
    (h0 : ∀ M1 H1, Gr M H M1 H1 → Pv M1 0 σ M1 H1) (hk : ∀ M1 i σ' M' H', Pv M1 i σ' M' H' → Same M1 M' ∧ Same M' H')
    (hs : ∀ M1 i x σ' M' H' M2 H2 σ2, Same M M1 → xs[i]? = some x → Pv M1 i σ' M' H' → Gr M' H' M2 H2 → U x M2 σ' σ2 →
      tbd { D with nx := fun σ2 H2 => ∃ M2, Pv M1 (i + 1) σ2 M2 H2, ct := fun σ2 H2 => ∃ M2, Pv M1 (i + 1) σ2 M2 H2, bk := tz D } σ2 H2)
    (hd : ∀ M1 σ' M' H', Same M M1 → Pv M1 xs.length σ' M' H' → tz D σ' H') : tSeq (tFor wi g tbd) tz D σ H := by
  refine hsrc H mh _ fun J M1 H1 g1 ⟨G, Y, w, hG, hY⟩ => ?_
  refine for_it w (fun i σ' H' => ∃ M', Pv M1 i σ' M' H') ⟨M1, h0 M1 H1 g1⟩ (fun i σ' H' _ ⟨M', p⟩ => hG M' H' (hk _ _ _ _ _ p).1 (hk _ _ _ _ _ p).2) ?_ ?_
  · rintro i y σ' H' H'' hi ⟨M', p⟩ hy
    have km := hk _ _ _ _ _ p
    obtain ⟨x, M2, hx, g2, rx⟩ := hY i M' H' y H'' km.1 km.2 hi hy
    exact htg x M2 y H'' σ' _ rx g2.mh fun σ2 hU => hs M1 i x σ' M' H' M2 H'' σ2 g1.mm hx p g2 hU
  · rintro σ' H' ⟨M', p⟩
    exact hd M1 σ' M' H' g1.mm p
/-- i ≤ j ≤ k -/
theorem gv_chain {tc : TE} {i j k : Int} (ha : Gv ta σ M (It' i)) (hb : Gv tb σ M (It' j)) (hc : Gv tc σ M (It' k)) :
    Gv (tChain (rI0 fun i j => .bl (decide (i ≤ j))) (rI0 fun i j => .bl (decide (i ≤ j))) ta tb tc) σ M (Bl (decide (i ≤ j) && decide (j ≤ k))) := fun H mh Q q =>
  ha H mh _ fun x M1 H1 g1 p1 => hb.le g1.mm H1 g1.mh _ fun y M2 H2 g2 p2 => ⟨i, j, p1, p2, decide (i ≤ j), rfl, by
    cases hd : decide (i ≤ j) with
    | true =>
      refine (hc.le (g1.mm.trans g2.mm)) H2 g2.mh _ fun z M3 H3 g3 p3 => ⟨j, k, p2, p3, q _ M3 H3 ((g1.trans g2).trans g3) ?_⟩
      rw [hd]; rfl
    | false =>
      refine q _ M2 H2 (g1.trans g2) ?_
      rw [hd]; rfl⟩
end
end L3

set_option Elab.async false
set_option linter.all false
set_option maxRecDepth 100000
set_option maxHeartbeats 2000000
namespace L3
open PySem PySem.Spec PyProof.Rows L2
/-! tuple(x) where x is collected -/
theorem tup_by {prog : Program} {w : World} {A : Around} {E : Value → Shared → Prop} {s : Shared} {T : String} {r : Addr} {n : Nat} {P : Nat → Value → Prop} {Q : Value → Shared → Prop} (ty : s.TypeIs (.ref r) T) (nt : (Value.type T == Value.type "tuple") = false) (hn : n ≤ sizeLine)
    (col : ∀ (B : Around) (F : Value → Shared → Prop) (R : List Value → Shared → Prop), B.handled = A.handled → (∀ (h' : Heap) (tk : Nat) (acc : Array Value), (∀ b o, s.heap.get? b = some o → h'.get? b = some o) → ItemsOf P acc n → R acc.toList { s with heap := h', toks := tk }) → wpAny (model prog w) B (collect (.ref r)) R F s)
    (fin : ∀ (h' : Heap) (tk : Nat) (acc : Array Value), (∀ b o, s.heap.get? b = some o → h'.get? b = some o) → ItemsOf P acc n → Q (.ref h'.objs.size) { s with heap := h'.push { cls := .type "tuple", data := .seq acc }, toks := tk }) :
    wpAny (model prog w) A (call (.type "tuple") [.ref r]) Q E s := by
  have made : codeAny (model prog w) A.in1 (.call (.builtin "tuple.__new__") ⟨[.type "tuple", .ref r], []⟩) (wants (fun v s1 => s1.TypeIs v "tuple" ∧ Q v s1) E) s := by
    apply codeAny_of_tree
    apply wpAny_bind
    apply wpAny_of_eq (F.newCall_tuple_1 _)
    refine wpAny_pure ⟨plainId_quiet F.plain_tuple_new _, codeAny_builtin F.entry_tuple_new ?_⟩
    rw [Around.under_plainId F.plain_tuple_new _]
    have a1 := sub_tuple_self
    have a2 := init_tuple_lookup
    have a3 := madeHere_tuple
    have here {F : Value → Shared → Prop} {R : List Value → Shared → Prop} := col A.in1.in1 F R rfl
    wp_walk using wpAny_typeOf ty, here
    intro h' tk acc kp it
    have sz : acc.size ≤ sizeLine := it.1 ▸ hn
    have same : acc.toList.toArray = acc := by simp
    rw [same]
    refine wpAny_bind (wpAny_pure (wpAny_bind (wpAny_newObj_type ?_ (show sizeOk (Data.seq acc) from sz))))
    exact wpAny_pure ⟨⟨_, Heap.get?_push_size _ rfl, rfl⟩, fin h' tk acc kp it⟩
  refine callType_codes F.called_tuple (F.typeCall_tuple_1 _) F.entry_object_init made fun v s1 h => ⟨h.1, F.args_object_init_2 v _, ?_⟩
  exact object_init_meets F.called_tuple.init.lookup F.called_tuple.made (by decide) prog w A.in1 _ s1 ⟨h.1, rfl, h.2⟩
/-- the keys of a dict with tuple keys -/
def rTupD : List V → Hp → VK → Prop := fun xs H Q => ∃ d kvs, xs = [V.ref d] ∧ Rd H d (.dT kvs) ∧ ∀ p bs, H p = none → IsKeys H kvs bs → Q (.ref p) (upd H p (.tup (bs.map V.ref)))
theorem call_tupD {X : Cx} (hc : X.calm = true) : CallR X (.type "tuple") rTupD := fun pins s σ H xs us Q I r ⟨d, kvs, ex, hd, q⟩ => by
  subst ex
  obtain ⟨_, rfl, rfl⟩ := r.one
  obtain ⟨z, low, ks, pr, o, es, ep, ho, exact_, hdt, he, _⟩ := (show ObjOk X.prog X.w H s.heap d (.dT kvs) from hd.ok I.hok)
  have S := kdl_raw (prog := X.prog) (w := X.w) low exact_ hdt
  have n1 : es.size = ks.length := size_of_entries he
  have n2 := Paired.length pr
  refine tup_by (S.type s ho) S.notTuple (n := es.size) (by omega) (fun B F R hB h => PySem.W.kdu_collect S (hB.trans (I.ok.hd hc)) ho (by omega) h) fun h' tk acc kp it => ?_
  have vals : acc.toList = (ks.map (·.2.1)).map Value.ref := by
    apply List.ext_getElem
    · rw [Array.length_toList, List.length_map, List.length_map, it.1, n1]
    · intro j h1 h2
      rw [Array.length_toList] at h1
      have hj : j < ks.length := by rw [← n1, ← it.1]; exact h1
      obtain ⟨en, g, v⟩ := it.2 j acc[j] (Array.getElem?_eq_getElem h1)
      have g2 := entry_at he j
      rw [g, List.getElem?_eq_getElem hj] at g2
      rw [Array.getElem_toList, v, List.getElem_map, List.getElem_map, Option.some.inj g2]
      rfl
  have I' : Inv X pins σ H { s with heap := h', toks := tk } := I.kept kp
  refine ⟨.ref h'.objs.size, _, I'.laid (t' := tk) (o := .tup ((ks.map (·.2.1)).map V.ref)) (fun b u e => Heap.get?_push_of_some _ e) (Nat.le_refl _) ?_, rfl, q _ _ (I'.hok.fresh (Nat.le_refl _)) (isKeys_of pr)⟩
  refine ⟨by simp only [List.length_map]; omega, acc.toList, vals ▸ vals_refs _, ⟨_, Heap.get?_push_size _ rfl, rfl, 0, ?_⟩⟩
  simp
/-! the frame of a comprehension -/
abbrev InBlk (X : Cx) (scope : Scope) (J : Cx → Prop) : Prop := ∀ (s : Shared) (H : Hp) (C : Addr) (cl : List (Str × Addr)) (fp : List Addr), J (X.blk s H scope (compEnvC scope cl C X.env) fp)
section
variable {X : Cx} {pins : List (Addr × Obj)} {σ τ : Sl} {H0 H : Hp} {s0 s : Shared} {scope : Scope} {ce : Env} {fp : List Addr} {tn : Nat → Heap → Prop} {i : Nat}
theorem blk_fp (I : Inv (X.blk s0 H0 scope ce fp) [] τ H s) (h : ∀ b ∈ fp, H b = none) : ∀ b ∈ fp, FpOk (X.blk s0 H0 scope ce fp) [] H b := fun b hb =>
  have x := I.ok.exf b hb
  ⟨h b hb, x.1, I.ok.exfs b hb, .inl hb, x.2, fun p hp => (List.not_mem_nil (a := p) hp).elim⟩
/-- out of the frame -/
theorem blk_out (I0 : Inv X pins σ H0 s0) (f0 : ∀ b ∈ fp, FpOk X pins H0 b) (I : Inv (X.blk s0 H0 scope ce fp) [] τ H s) : Inv X pins σ H s :=
  I0.call' (ch := fp) I.os I.base I.hok I.bare fun b hb => have z := (f0 b hb).2; ⟨z.2.2.1, z.1, z.2.2.2.1, z.2.2.2.2⟩
/-- its variables let go -/
theorem blk_end (I0 : Inv X pins σ H0 s0) (f0 : ∀ b ∈ fp, FpOk X pins H0 b) (hC : ce.locals = s0.heap.objs.size) (I : Inv (X.blk s0 H0 scope ce fp) [] τ H s) :
    ∃ m, s.heap.Ns s0.heap.objs.size m ∧ ∀ h', Heap.SameBut s0.heap.objs.size s.heap h' → Inv X pins σ H { s with heap := h' } := by
  have fr : H s0.heap.objs.size = none := hC ▸ I.free
  have z := I0.fpOk (Nat.le_refl _) fr
  have O := blk_out I0 f0 I
  obtain ⟨m, ns, _⟩ := I.loc
  exact ⟨m, hC ▸ ns, fun h' sb => O.turned (t' := s.toks) (fun b o hb e => (sb.2 b hb).trans e) fr z.2.1 z.2.2.2.1 z.2.2.2.2.1 z.2.2.2.2.2⟩
/-- the frame between two turns: the walk stands ahead of item i -/
structure Ahead (Y : Cx) (fp : List Addr) (tn : Nat → Heap → Prop) (τ : Sl) (i : Nat) (H : Hp) (s : Shared) : Prop where
  inv : Inv Y [] τ H s
  at_ : tn i s.heap
  off : ∀ b ∈ fp, H b = none
/-- one item drawn, stored, looked at; whoever goes on from there may close the turn -/
theorem blk_turn {tg : Expr} {ifs : List Expr} {J : It} {it : Addr} {g : TG} {tt : TT} {vs : List Nat} {Body : Sl → Hp → Prop} {Nx : Hp → Prop} {E : Value → Shared → Prop} {F0 : Shared → Prop} {Fy Fn : Shared → Prop}
    (T : Turn X.prog X.w X.K tg J fp it tn) (hc : X.calm = true) (pg : PG (X.blk s0 H0 scope ce fp) tg g) (pt : PTs (X.blk s0 H0 scope ce fp) ifs tt) (a : Ahead (X.blk s0 H0 scope ce fp) fp tn (wipe σ vs) i H s) (go : J.go i H)
    (step : ∀ x H', J.yld i H x H' → g x (wipe σ vs) H' fun σ2 H2 => wipe σ2 vs = wipe σ vs ∧ tt σ2 H2 fun b H3 => if b = true then Body σ2 H3 else Nx H3)
    (yes : ∀ pl σ2 H2 s2, Inv (X.blk s0 H0 scope ce fp) pl σ2 H2 s2 → Body σ2 H2 → (∀ H' s', Inv (X.blk s0 H0 scope ce fp) pl σ2 H' s' → Ahead (X.blk s0 H0 scope ce fp) fp tn (wipe σ vs) (i + 1) H' s') → Fy s2)
    (no : ∀ H' s', Ahead (X.blk s0 H0 scope ce fp) fp tn (wipe σ vs) (i + 1) H' s' → Nx H' → Fn s') :
    wpAny (model X.prog X.w) X.A (pyNext (.ref it)) (fun r s1 => match r with
      | none => F0 s1
      | some v => wpAny (model X.prog X.w) X.A (letOwnedTupleGo tg (.ref it) v) (fun _ s2 => wpAny (model X.prog X.w) X.A (assign tg ce v) (fun _ s3 =>
          wpAny (model X.prog X.w) X.A (forIn ifs true fun c r => if r = true then do let ok ← isTrue c ce (eval c ce); pure (ForInStep.yield ok) else pure (ForInStep.yield r)) (fun ok s4 => if ok = true then Fy s4 else Fn s4) E s3) E s2) E s1) E s := by
  refine thnF (T.item (X.blk s0 H0 scope ce fp) rfl rfl rfl hc i [] s _ H _ a.inv (blk_fp a.inv a.off) a.at_ go) fun r s1 ⟨v, hr, h1⟩ => ?_
  subst hr
  refine thnF h1 fun _ s2 ⟨x, H2, I2, rx, y2, st2, off2⟩ => ?_
  have P2 := I2.pinned (blk_fp I2 off2) (T.obj _ _ st2)
  refine thnF (pg.run _ s2 _ H2 x v _ P2 rx (step x H2 y2)) fun _ s3 ⟨σ3, H3, I3, hw, q3⟩ => ?_
  have close : ∀ H' s', Inv (X.blk s0 H0 scope ce fp) ([] ++ pinsAt fp s2.heap) σ3 H' s' → Ahead (X.blk s0 H0 scope ce fp) fp tn (wipe σ vs) (i + 1) H' s' := fun H' s' I' => by
    have pin : ∀ b ∈ fp, ∀ o, s2.heap.get? b = some o → s'.heap.get? b = some o ∧ H' b = none := fun b hb o e =>
      have z := I'.pin (b, o) (List.mem_append_right _ (List.mem_append_right _ (mem_pinsAt hb e)))
      ⟨z.1, z.2.1⟩
    refine ⟨(I'.unpinned (pins := [])).weak (hw ▸ wipe_length σ3 vs) fun j v e => (wipe_some (hw ▸ e : (wipe σ3 vs)[j]? = _)).1, T.keep _ _ _ st2 fun b hb o e => (pin b hb o e).1, fun b hb => ?_⟩
    obtain ⟨o, e, _⟩ := T.obj _ _ st2 b hb
    exact (pin b hb o e).2
  refine thnF (pt.run _ s3 σ3 H3 _ I3 q3) fun ok s4 ⟨H4, I4, q4⟩ => ?_
  cases ok with
  | true => exact yes _ σ3 H4 s4 I4 q4 close
  | false => exact no H4 s4 (close H4 s4 I4) q4
/-- D[b] = r, b a tuple key -/
theorem put_T {E : Value → Shared → Prop} {D b : Addr} {kvs : List (List Key × V)} {k : List Key} {v : V} {r : Value} {Q : Unit → Shared → Prop} (hu : X.A.units + 1 < cLine) (I : Inv X pins σ H s) (hD : H D = some (.dT kvs)) (hz : kvs.length < sizeLine) (hb : H b = some (.tup (k.map kV))) (rv : RelV v r)
    (h : ∀ s', Inv X pins σ (upd H D (.dT (putK kvs k v))) s' → Q () s') : wpAny (model X.prog X.w) X.A (dictSet D (.ref b) r) Q E s := by
  have ⟨_, low, xs, rel, dd⟩ := dt_of I.hok hD
  have room : (tupleKind (mixKind X.prog X.w)).room X.A := Nat.lt_of_succ_lt hu
  apply wpAny_dictSet_heap room (key_of I.hok hb) dd (hsz := Paired.length rel ▸ Nat.le_of_lt hz)
  intro h' ⟨q, es, ep, hq, d1, d2, d3, _, d4⟩ sb
  have len : (putK kvs k v).length ≤ sizeLine := Nat.le_trans (length_putK kvs k v) hz
  have other : ∀ c ys, H c = some (.tup ys) → upd H D (.dT (putK kvs k v)) c = some (.tup ys) := fun c ys e => (upd_ne (ne_of e hD nofun)).trans e
  exact h _ (d_write I (by rw [hD]; trivial) sb ⟨q, hq⟩ ⟨len, low, _, (rel.put k hb rv).keeps other, q, es, ep, hq, d1, d2, d3, d4⟩)
end
/-! a dict comprehension whose keys are tuples -/
/-- the key c, the value z put in; then nx -/
def KeyPut (D : Addr) (tk tv : TE) (nx : Hp → Prop) : Sl → Hp → Prop := fun σ H => tk σ H fun y H1 => tv σ H1 fun z H2 => ∃ kvs k c, y = .ref c ∧ H2 c = some (.tup (List.map kV k)) ∧ H2 D = some (.dT kvs) ∧ kvs.length < sizeLine ∧ nx (upd H2 D (.dT (putK kvs k z)))
/-- what a turn is asked: the end, or an item with which the count goes down -/
def DcTurn (J : It) (g : TG) (tt : TT) (tk tv : TE) (τ : Sl) (vs : List Nat) (D : Addr) (fin : Hp → Prop) (W : Nat → Nat → Hp → Prop) (i m : Nat) (H : Hp) : Prop :=
  J.stop i H ∧ fin H ∨ J.go i H ∧ ∀ x H', J.yld i H x H' → g x τ H' fun σ2 H2 => wipe σ2 vs = τ ∧ tt σ2 H2 fun b H3 =>
    if b = true then KeyPut D tk tv (fun H4 => ∃ m', m' < m ∧ W (i + 1) m' H4) σ2 H3 else ∃ m', m' < m ∧ W (i + 1) m' H3
def tDcT (wi : TI) (g : TG) (tt : TT) (tk tv : TE) (vs : List Nat) : TE := fun σ H Q => wi σ H fun J H1 => ∀ D, H1 D = none → ∃ W : Nat → Nat → Hp → Prop,
  (∃ m, W 0 m (upd H1 D (.dT []))) ∧ ∀ i m H, W i m H → DcTurn J g tt tk tv (wipe σ vs) vs D (Q (.ref D)) W i m H
section
variable {X : Cx} {kx vx tg iter : Expr} {ifs : List Expr} {scope : Scope} {own : List (Str × Nat)} {pos : Pos} {wi : TI} {g : TG} {tt : TT} {tk tv : TE}
/-- the loop, once the frame stands -/
theorem dcT_loop {pins : List (Addr × Obj)} {σ : Sl} {H0 : Hp} {s0 s : Shared} {ce : Env} {fp : List Addr} {it D : Addr} {J : It} {tn : Nat → Heap → Prop} {Q : VK} {W : Nat → Nat → Hp → Prop} {m0 : Nat} (hu : X.A.units + 64 < cLine) (hc : X.calm = true) (T : Turn X.prog X.w X.K tg J fp it tn)
    (I0 : Inv X pins σ H0 s0) (f0 : ∀ b ∈ fp, FpOk X pins H0 b) (hC : ce.locals = s0.heap.objs.size) (pg : PG (X.blk s0 H0 scope ce fp) tg g) (pt : PTs (X.blk s0 H0 scope ce fp) ifs tt) (pk : PE (X.blk s0 H0 scope ce fp) kx tk) (pv : PE (X.blk s0 H0 scope ce fp) vx tv)
    (turn : ∀ i m H, W i m H → DcTurn J g tt tk tv (wipe σ (own.map (·.2))) (own.map (·.2)) D (Q (.ref D)) W i m H)
    (w0 : W 0 m0 H0) (a0 : Ahead (X.blk s0 H0 scope ce fp) fp tn (wipe σ (own.map (·.2))) 0 H0 s) :
    codeAny (model X.prog X.w) X.A (.compLoop (.DictComp kx vx [⟨tg, iter, ifs, 0⟩] scope pos) 0 (.ref it) (.ref D) ce) (compPost (model X.prog X.w) X.A X.xe none (EP X pins σ Q) (.ref D) s0.heap.objs.size) s := by
  refine compLoop_anyD (fun n s' => ∃ i H', W i n H' ∧ Ahead (X.blk s0 H0 scope ce fp) fp tn (wipe σ (own.map (·.2))) i H' s') (fun n s1 ⟨i, H1, w1, a1⟩ => ?_) m0 ⟨0, H0, w0, a0⟩
  rcases turn i n H1 w1 with ⟨stop, q⟩ | ⟨go, step⟩
  · refine thnF (T.done (X.blk s0 H0 scope ce fp) rfl rfl rfl hc i [] s1 _ H1 _ a1.inv (blk_fp a1.inv a1.off) a1.at_ stop) fun r s2 ⟨hr, I2⟩ => ?_
    subst hr
    obtain ⟨m, ns, out⟩ := blk_end I0 f0 hC I2
    exact ⟨m, ns, fun h' sb => ⟨.ref D, H1, out h' sb, rfl, q⟩⟩
  · have on : ∀ H' s', Ahead (X.blk s0 H0 scope ce fp) fp tn (wipe σ (own.map (·.2))) (i + 1) H' s' → (∃ m', m' < n ∧ W (i + 1) m' H') → ∃ m, m < n ∧ ∃ i H', W i m H' ∧ Ahead (X.blk s0 H0 scope ce fp) fp tn (wipe σ (own.map (·.2))) i H' s' := fun H' s' a' ⟨m', lt, w'⟩ => ⟨m', lt, i + 1, H', w', a'⟩
    refine blk_turn T hc pg pt a1 go step (fun pl σ2 H2 s2 I2 q2 close => ?_) on
    refine thnF (pk.run pl s2 σ2 H2 _ I2 q2) fun kv s3 ⟨y, H3, I3, ry, q3⟩ => thnF (pv.run pl s3 σ2 H3 _ I3 q3) fun vv s4 ⟨z, H4, I4, rz, kvs, k, c, ey, hk, hD, hz, nx⟩ => ?_
    subst ey
    obtain rfl : kv = .ref c := ry
    exact put_T (X := X.blk s0 H0 scope ce fp) (by show X.A.units + 1 < cLine; omega) I4 hD hz hk rz fun s5 I5 => on _ _ (close _ _ I5) nx
theorem pe_dcT (hu : X.A.units + 64 < cLine) (hc : X.calm = true) (hN : X.N.Nodup) (hi : PI X tg iter wi) (ok : BlkOk X.N X.env.scope scope own) (hg : InBlk X scope fun Y => PG Y tg g) (ht : InBlk X scope fun Y => PTs Y ifs tt)
    (hk : InBlk X scope fun Y => PE Y kx tk) (he : InBlk X scope fun Y => PE Y vx tv) (hs : ∀ x, foldedSetIterable iter X.env x = pure x := by intro _; rfl) :
    PE X (.DictComp kx vx [⟨tg, iter, ifs, 0⟩] scope pos) (tDcT wi g tt tk tv (own.map (·.2))) where
  run pins s σ H Q I h := by
    rw [arm_eval_DictComp]
    have cells : closureFor scope X.env = pure (cloFrom X.env.cells scope.names []) := closure_ok fun y hy e => I.ok.has _ (ok.free y hy e)
    refine wpAny_comprehension_free rfl hs cells ok.kind (fun y hy e => e ▸ ok.uniq y hy) (thn (hi.run pins s σ H _ I h) fun _ s1 h1 => thn h1 fun _ s2 ⟨it, fp, tn, J, H2, e, I2, T, st, f2, q⟩ => ?_)
    subst e
    have nD := I2.hok.fresh (Nat.le_refl s2.heap.objs.size)
    obtain ⟨W, ⟨m0, w0⟩, turn⟩ := q _ nD
    have below : ∀ b ∈ fp, b < s2.heap.objs.size := fun b hb => let ⟨_, e, _⟩ := T.obj _ _ st b hb; Heap.lt_size e
    have I3 := I2.laid (t' := s2.toks) (h' := s2.heap.push { cls := .type "dict", data := .dict #[] }) (fun b o e => Heap.get?_push_of_some _ e) (Nat.le_refl _) (dt_empty s2.heap I2.big)
    have off : ∀ b ∈ fp, upd H2 s2.heap.objs.size (.dT []) b = none := fun b hb => (upd_ne (Nat.ne_of_lt (below b hb))).trans (f2 b hb).1
    have f3 : ∀ b ∈ fp, FpOk X pins (upd H2 s2.heap.objs.size (.dT [])) b := fun b hb => ⟨off b hb, (f2 b hb).2⟩
    refine wpAny_newObj_type (newEnv_comp ?_)
    have I4 := block_start I3 ok hN fun b hb => ⟨f3 b hb, by show b < (s2.heap.push _).objs.size; rw [Heap.size_push]; exact Nat.lt_succ_of_lt (below b hb)⟩
    have st4 := T.keep _ _ _ st fun b _ o e => pushCells_keeps scope.names _ _ _ (Heap.get?_push_of_some { cls := .type "dict", data := .dict #[] } (Heap.get?_push_of_some { cls := .type "dict", data := .dict #[] } e))
    have loop := dcT_loop (kx := kx) (vx := vx) (iter := iter) (pos := pos) (Q := Q) hu hc T I3 f3 rfl (hg _ _ _ _ _) (ht _ _ _ _ _) (hk _ _ _ _ _) (he _ _ _ _ _) turn w0 ⟨I4, st4, off⟩
    exact codeAny_compStart_dict loop (T.self X.A 0 _ _ _ st4 loop)
end
end L3

set_option Elab.async false
set_option linter.all false
set_option maxRecDepth 100000
set_option maxHeartbeats 1000000
namespace L3
open PySem PySem.Spec PyProof.Rows L2
/-- a tuple of texts that stands in the heap itself; a tuple of anything -/
def TT : Rl (List Str) := fun xs M v => ∃ a, v = .ref a ∧ M a = some (.tup (xs.map V.str))
instance : Mon TT := ⟨fun e ⟨a, h, r⟩ => ⟨a, h, e _ _ r⟩⟩
theorem TT.tup {K : PySem.W.Frag} {xs : List Str} {M : Hp} {v : V} (h : TT xs M v) : TupR K Tx xs M v := let ⟨a, e, r⟩ := h; ⟨a, _, e, .inl (.inl r), pd_of_tx xs⟩
theorem TT.sq {K : PySem.W.Frag} {xs : List Str} {M : Hp} {v : V} (h : TT xs M v) : SqR K Tx xs M v := .inr h.tup
theorem py_TT {K : PySem.W.Frag} : PyR K TT fun xs => .tuple (xs.map .str) := fun xs M v h => py_tup py_str _ _ _ h.tup
theorem TT.new {M : Hp} {p : Addr} (xs : List Str) : TT xs (upd M p (.tup (xs.map V.str))) (.ref p) := ⟨p, rfl, upd_same⟩
theorem inj_TT : Inj fun xs : List Str => PyData.tuple (xs.map .str) := inj_tup inj_str
def TuR {α : Type} (R : Rl α) : Rl (List α) := fun xs M v => ∃ a vs, v = .ref a ∧ M a = some (.tup vs) ∧ Pd R M xs vs
def LiR {α : Type} (R : Rl α) : Rl (List α) := fun xs M v => ∃ a vs, v = .ref a ∧ M a = some (.lst vs) ∧ Pd R M xs vs
section
variable {K : PySem.W.Frag} {α : Type} {R : Rl α}
instance [Mon R] : Mon (TuR R) := ⟨fun e ⟨a, vs, h1, h2, h3⟩ => ⟨a, vs, h1, e _ _ h2, h3.mono e⟩⟩
instance [Mon R] : Mon (LiR R) := ⟨fun e ⟨a, vs, h1, h2, h3⟩ => ⟨a, vs, h1, e _ _ h2, h3.mono e⟩⟩
theorem TuR.tup {xs : List α} {M : Hp} {v : V} (h : TuR R xs M v) : TupR K R xs M v := let ⟨a, vs, e, r, p⟩ := h; ⟨a, vs, e, .inl (.inl r), p⟩
theorem TuR.sq {xs : List α} {M : Hp} {v : V} (h : TuR R xs M v) : SqR K R xs M v := .inr h.tup
theorem LiR.lst {xs : List α} {M : Hp} {v : V} (h : LiR R xs M v) : LstR K R xs M v := let ⟨a, vs, e, r, p⟩ := h; ⟨a, vs, e, .inl (.inl r), p⟩
theorem LiR.sq {xs : List α} {M : Hp} {v : V} (h : LiR R xs M v) : SqR K R xs M v := .inl h.lst
end
/-! tuple({x: True for x in xs}): each once -/
def onceP {α : Type} [DecidableEq α] (acc : List α) (x : α) : List α := if x ∈ acc then acc else acc ++ [x]
def once {α : Type} [DecidableEq α] (xs : List α) : List α := xs.foldl onceP []
def ent (acc : List (List Str)) : List (List Key × V) := acc.map fun c => (c.map Sum.inr, V.bl true)
theorem inr_inj : ∀ {a b : List Str}, a.map (Sum.inr : Str → Key) = b.map Sum.inr → a = b
  | [], [], _ => rfl
  | [], _ :: _, h => by simp at h
  | _ :: _, [], h => by simp at h
  | x :: a, y :: b, h => by
    simp only [List.map_cons, List.cons.injEq, Sum.inr.injEq] at h
    rw [h.1, inr_inj h.2]
theorem putK_ent (acc : List (List Str)) (c : List Str) : putK (ent acc) (c.map Sum.inr) (V.bl true) = ent (onceP acc c) := by
  unfold putK onceP
  have e : ((ent acc).any fun kv => decide (kv.1 = c.map Sum.inr)) = decide (c ∈ acc) := by
    unfold ent
    rw [List.any_map]
    induction acc with
    | nil => simp
    | cons x r ih =>
      rw [List.any_cons, ih]
      by_cases h : c = x
      · subst h; simp
      · have h1 : ¬ x.map (Sum.inr : Str → Key) = c.map Sum.inr := fun z => h (inr_inj z).symm
        simp [h, h1]
  rw [e]
  by_cases h : c ∈ acc
  · rw [decide_eq_true h, if_pos rfl, if_pos h]
    unfold ent
    rw [List.map_map]
    refine List.map_congr_left fun x _ => ?_
    show (if _ then _ else _) = _
    by_cases h2 : x.map (Sum.inr : Str → Key) = c.map Sum.inr
    · rw [if_pos h2]
    · rw [if_neg h2]
  · rw [decide_eq_false h, if_neg (by simp), if_neg h]
    unfold ent
    rw [List.map_append]
    rfl
theorem key_V (c : List Str) : (c.map (Sum.inr : Str → Key)).map kV = c.map V.str := by rw [List.map_map]; rfl
theorem onceP_len {α : Type} [DecidableEq α] (acc : List α) (x : α) : (onceP acc x).length ≤ acc.length + 1 := by
  unfold onceP; split
  · omega
  · simp
section
variable {K : PySem.W.Frag} {σ : Sl} {M : Hp} {wi : TI}
theorem gv_once {j : Nat} {xs : List (List Str)} (hj : j < σ.length) (hsrc : GvI wi σ M xs TT) (hz : xs.length ≤ sizeLine) :
    Gv (tCB rTupD (tCons (tDcT wi (gName j) tYes (tVar j) (tC (.bl true)) [j]) tNil)) σ M (TuR TT (once xs)) := by
  intro H mh Q q
  refine hsrc H mh _ fun J M1 H1 g1 ⟨G, Y, w, hG, hY⟩ D hD => ?_
  let Pv : Nat → Hp → Prop := fun i H' => ∃ M' acc, Gr M1 H1 M' H' ∧ M' D = none ∧ acc = (xs.take i).foldl onceP [] ∧ acc.length ≤ i ∧ H' D = some (.dT (ent acc))
  refine ⟨fun i m H' => m = xs.length - i ∧ i ≤ xs.length ∧ Pv i H', ⟨xs.length, by omega, Nat.zero_le _, M1, [], .own g1.mh hD, g1.mh.free hD, rfl, Nat.le_refl _, upd_same⟩, ?_⟩
  rintro i m H' ⟨rfl, hi, M', acc, g, m0, eacc, hl, hw⟩
  by_cases hlt : i < xs.length
  · refine .inr ⟨w.goes i H' hlt (hG M' H' g.mm g.mh), fun y H2 hy => ?_⟩
    obtain ⟨x, M2, hx, g2, ⟨b, rfl, rb⟩⟩ := hY i M' H' y H2 g.mm g.mh hlt (w.yields i H' y H2 hlt (hG M' H' g.mm g.mh) hy)
    have et : xs.take (i + 1) = xs.take i ++ [x] := by rw [List.take_add_one, hx]; rfl
    have hs : ((wipe σ [j]).set j (some (V.ref b)))[j]? = some (some (V.ref b)) := by rw [List.getElem?_set_self (by rw [wipe_length]; exact hj)]
    refine ⟨wipe1, .ref b, hs, ent acc, x.map Sum.inr, b, rfl, by rw [key_V]; exact g2.mh _ _ rb, g2.hh _ _ hw, by unfold ent; rw [List.length_map]; exact Nat.lt_of_le_of_lt hl (Nat.lt_of_lt_of_le hlt hz), ?_⟩
    refine ⟨xs.length - (i + 1), by omega, rfl, hlt, M2, onceP acc x, (g.trans g2).mut hD (g2.keep m0 hw), g2.keep m0 hw, by rw [et, List.foldl_append, ← eacc]; rfl, Nat.le_trans (onceP_len acc x) (Nat.succ_le_succ hl), ?_⟩
    rw [upd_same, putK_ent]
  · have e : i = xs.length := by omega
    subst e
    rw [List.take_length] at eacc
    refine .inl ⟨w.stops H' (hG M' H' g.mm g.mh), D, ent acc, rfl, .inl hw, fun p bs np hk => ?_⟩
    have hbs : ∀ b ∈ bs, ∃ ys, H' b = some (.tup ys) := by
      intro b hb
      have go : ∀ {kvs : List (List Key × V)} {bs : List Addr}, IsKeys H' kvs bs → ∀ b ∈ bs, ∃ ys, H' b = some (.tup ys) := by
        intro kvs bs h
        induction h with
        | nil => intro b hb; cases hb
        | cons q _ ih =>
          intro b hb
          rcases List.mem_cons.mp hb with rfl | hb
          · exact ⟨_, q⟩
          · exact ih b hb
      exact go hk b hb
    have gt := Gr.tups g.mh hbs
    have hpd : Pd TT (withT M' H' bs) acc (bs.map V.ref) := by
      have go : ∀ {acc : List (List Str)} {cs : List Addr}, (∀ c ∈ cs, c ∈ bs) → IsKeys H' (ent acc) cs → Pd TT (withT M' H' bs) acc (cs.map V.ref) := by
        intro acc
        induction acc with
        | nil => intro cs _ h; cases h; exact .nil
        | cons x r ih =>
          intro cs hc h
          cases h with
          | cons q t => exact .cons ⟨_, rfl, withT_in g.mh (hc _ List.mem_cons_self) (by rw [← key_V]; exact q)⟩ (ih (fun c h => hc c (List.mem_cons_of_mem _ h)) t)
      exact go (fun c h => h) hk
    have gn := Gr.new (o := .tup (bs.map V.ref)) gt.mh np
    refine q _ _ _ (((g1.trans g).trans gt).trans gn) ⟨p, _, rfl, upd_same, ?_⟩
    unfold once
    rw [← eacc]
    exact hpd.mono gn.mm
end
end L3

set_option Elab.async false
set_option linter.all false
set_option maxRecDepth 100000
set_option maxHeartbeats 1000000
namespace L3
open PySem PySem.Spec PyProof.Rows L2
/-! something of ours is lent to the known part while an expression runs -/
def del (M : Hp) (x : Addr) : Hp := fun a => if a = x then none else M a
theorem del_ne {M : Hp} {x a : Addr} (h : a ≠ x) : del M x a = M a := if_neg h
theorem del_at {M : Hp} {x : Addr} : del M x x = none := if_pos rfl
class Stb (P : Pr) : Prop where
  del : ∀ {M : Hp} {v : V} {x : Addr} {o : HO}, (∀ xs, o ≠ HO.tup xs) → M x = some o → P M v → P (del M x) v
class Stl {α : Type} (R : Rl α) : Prop where
  del : ∀ {y : α} {M : Hp} {v : V} {x : Addr} {o : HO}, (∀ xs, o ≠ HO.tup xs) → M x = some o → R y M v → R y (del M x) v
instance {α : Type} {R : Rl α} [h : Stl R] {y : α} : Stb (R y) := ⟨fun a b c => h.del a b c⟩
instance : Stl Tx := ⟨fun _ _ h => h⟩
instance : Stl It' := ⟨fun _ _ h => h⟩
instance : Stl Bl := ⟨fun _ _ h => h⟩
instance : Stl OpN := ⟨fun _ _ h => h⟩
theorem tup_ne {M : Hp} {a x : Addr} {o : HO} {xs : List V} (hn : ∀ xs, o ≠ HO.tup xs) (hx : M x = some o) (ha : M a = some (.tup xs)) : a ≠ x := fun z => by
  subst z; rw [hx] at ha; exact hn xs (Option.some.inj ha)
instance : Stl TT := ⟨fun hn hx ⟨a, e, r⟩ => ⟨a, e, by rw [del_ne (tup_ne hn hx r)]; exact r⟩⟩
theorem Pd.del {α : Type} {R : Rl α} [Stl R] {M : Hp} {x : Addr} {o : HO} (hn : ∀ xs, o ≠ HO.tup xs) (hx : M x = some o) {ys : List α} {vs : List V} (h : Pd R M ys vs) : Pd R (L3.del M x) ys vs := Paired.mapP h fun _ _ q => Stl.del hn hx q
instance {α : Type} {R : Rl α} [Stl R] : Stl (TuR R) := ⟨fun hn hx ⟨a, vs, e, r, p⟩ => ⟨a, vs, e, by rw [del_ne (tup_ne hn hx r)]; exact r, p.del hn hx⟩⟩
theorem same_lent {M H : Hp} {x : Addr} {o : HO} (mh : Same M H) (hx : H x = some o) : Same (upd M x o) H := fun b u e => by
  by_cases hb : b = x
  · subst hb; rw [upd_same] at e; rw [hx]; exact e
  · rw [upd_ne hb] at e; exact mh b u e
theorem Gr.back {M H M' H' : Hp} {x : Addr} {o : HO} (g : Gr (upd M x o) H M' H') (hm : M x = none) : Gr M H (del M' x) H' := by
  refine ⟨fun a u e => ?_, g.hh, fun a u e => ?_, fun a u e => ?_, fun a ps e => by
    by_cases ha : a = x
    · subst ha; rw [del_at] at e; cases e
    · rw [del_ne ha] at e
      have h := g.nt a ps e
      rw [upd_ne ha] at h
      exact h⟩
  · have na : a ≠ x := ne_of_none e hm
    rw [del_ne na]
    exact g.mm a u (by rw [upd_ne na]; exact e)
  · by_cases ha : a = x
    · subst ha; rw [del_at] at e; cases e
    · rw [del_ne ha] at e; exact g.mh a u e
  · by_cases ha : a = x
    · subst ha; rw [del_at] at e; cases e
    · rw [del_ne ha] at e
      rcases g.nw a u e with h | h
      · rw [upd_ne ha] at h; exact .inl h
      · exact .inr h
section
variable {K : PySem.W.Frag} {σ : Sl} {M H : Hp} {te : TE} {P : Pr} {x : Addr} {o : HO}
theorem Gv.lend [Stb P] (h : Gv te σ (upd M x o) P) (hm : M x = none) (mh : Same M H) (hx : H x = some o) (hn : ∀ xs, o ≠ HO.tup xs) {Q : VK} (q : ∀ v M' H', Gr M H M' H' → M' x = none → H' x = some o → P M' v → Q v H') : te σ H Q :=
  h H (same_lent mh hx) Q fun v M' H' g p => q v _ H' (g.back hm) del_at (g.hh _ _ hx) (Stb.del hn (g.mm x o upd_same) p)
end
/-! our instance -/
structure OwnI (H0 M H : Hp) (x C dx : Addr) (fs : List (Str × V)) : Prop where
  h0 : H0 x = none
  m : M x = none
  h : H x = some (.ins C dx fs)
theorem ins_nt {C dx : Addr} {fs : List (Str × V)} : ∀ xs, HO.ins C dx fs ≠ HO.tup xs := by intro _ z; cases z
/-- self.f = e, self in slot i -/
theorem s_fld {K : PySem.W.Frag} {σ : Sl} {M H : Hp} {te : TE} {P : Pr} {D : Ends} {i : Nat} {x C dx : Addr} {fs : List (Str × V)} {f : Str} [Stb P] (mh : Same M H) (hm : M x = none) (hx : H x = some (.ins C dx fs)) (hi : σ[i]? = some (some (.ref x))) (cl : Cls K C) (na : NoAttr K C f) (hl : fs.length < 1000)
    (h : Gv te σ (upd M x (.ins C dx fs)) P) (k : ∀ v M' H', Gr M H M' H' → M' x = none → P M' v → D.nx σ (upd H' x (.ins C dx (putF f v fs)))) : sFld K (tVar i) te f D σ H :=
  h.lend hm mh hx ins_nt fun v M' H' g m0 hx' p => ⟨.ref x, hi, x, C, dx, fs, rfl, hx', cl, na, hl, k v M' H' g m0 p⟩
theorem q_fld {K : PySem.W.Frag} {σ : Sl} {M H : Hp} {te : TE} {P : Pr} {D : Ends} {tz : TS} {i : Nat} {x C dx : Addr} {fs : List (Str × V)} {f : Str} [Stb P] (mh : Same M H) (hm : M x = none) (hx : H x = some (.ins C dx fs)) (hi : σ[i]? = some (some (.ref x))) (cl : Cls K C) (na : NoAttr K C f) (hl : fs.length < 1000)
    (h : Gv te σ (upd M x (.ins C dx fs)) P) (k : ∀ v M' H', Gr M H M' H' → M' x = none → P M' v → tz D σ (upd H' x (.ins C dx (putF f v fs)))) : tSeq (sFld K (tVar i) te f) tz D σ H :=
  s_fld (D := { D with nx := tz D }) mh hm hx hi cl na hl h k
theorem gv_self {K : PySem.W.Frag} {σ : Sl} {M : Hp} {P : Pr} {i : Nat} {x C dx : Addr} {fs : List (Str × V)} {f : Str} {u : V} (hi : σ[i]? = some (some (.ref x))) (hx : M x = some (.ins C dx fs)) (cl : Cls K C) (na : NoAttr K C f) (l : fs.lookup f = some u) (p : P M u) : Gv (tFld K (tVar i) f) σ M P :=
  fun H mh Q q => ⟨.ref x, hi, x, C, dx, fs, u, rfl, mh _ _ hx, cl, na, l, q u M H (.refl mh) p⟩
theorem putF_len {f : Str} {v : V} {fs : List (Str × V)} {n : Nat} (h : fs.length ≤ n) : (putF f v fs).length ≤ n + 1 := Nat.le_trans (length_putF f v fs) (Nat.succ_le_succ h)
theorem lt1000 {n m : Nat} (h : n ≤ m) (hm : m < 1000 := by decide) : n < 1000 := Nat.lt_of_le_of_lt h hm
/-- e.f of an instance that is known -/
theorem gv_fld {K : PySem.W.Frag} {σ : Sl} {M : Hp} {te : TE} {P P' : Pr} {f : Str} [Mono P'] (h : Gv te σ M P') (hf : ∀ M' v, P' M' v → ∃ a C dx fs u, v = .ref a ∧ M' a = some (.ins C dx fs) ∧ Cls K C ∧ NoAttr K C f ∧ fs.lookup f = some u ∧ P M' u) : Gv (tFld K te f) σ M P := fun H mh Q q =>
  h H mh _ fun v M1 H1 g1 p1 => let ⟨a, C, dx, fs, u, e, hm, cl, na, l, p⟩ := hf M1 v p1; ⟨a, C, dx, fs, u, e, g1.mh _ _ hm, cl, na, l, q _ M1 H1 g1 p⟩
section
variable {K : PySem.W.Frag} {σ : Sl} {M : Hp} {ta tb te : TE} {α : Type} {R : Rl α}
/-- tuple + tuple -/
theorem gv_addT [Mon R] {xs ys : List α} (ha : Gv ta σ M (TuR R xs)) (hb : Gv tb σ M (TuR R ys)) (hz : xs.length + ys.length ≤ sizeLine) : Gv (tOp (rAddA K) ta tb) σ M (TuR R (xs ++ ys)) := by
  refine gv_op ha hb fun M' u w ⟨a, vs, e1, r1, p1⟩ ⟨b, ws, e2, r2, p2⟩ H mh Q q => .inr (.inr (.inl ⟨a, b, vs, ws, e1, e2, .inl (.inl (mh _ _ r1)), .inl (.inl (mh _ _ r2)), by rw [← p1.length, ← p2.length]; exact hz, fun e => ?_, fun e1 e2 => ?_, fun _ _ p np => ?_⟩))
  · subst e; cases p1
    exact q _ M' H (.refl mh) ⟨b, ws, rfl, r2, p2⟩
  · subst e2; cases p2
    exact q _ M' H (.refl mh) ⟨a, vs, rfl, r1, by rw [List.append_nil]; exact p1⟩
  · exact q _ _ _ (.new mh np) ⟨p, _, rfl, upd_same, Pd.mono (R := R) (same_new (mh.free np)) (pd_app p1 p2)⟩
theorem TT.ts {xs : List Str} {M : Hp} {v : V} (h : TT xs M v) : TuR Tx xs M v := let ⟨a, e, r⟩ := h; ⟨a, _, e, r, pd_of_tx xs⟩
theorem TuR.tt {xs : List Str} {M : Hp} {v : V} (h : TuR Tx xs M v) : TT xs M v := let ⟨a, vs, e, r, p⟩ := h; ⟨a, e, by rw [← pd_tx p]; exact r⟩
theorem gv_addTT {xs ys : List Str} (ha : Gv ta σ M (TT xs)) (hb : Gv tb σ M (TT ys)) (hz : xs.length + ys.length ≤ sizeLine) : Gv (tOp (rAddA K) ta tb) σ M (TT (xs ++ ys)) :=
  gv_is (gv_addT (R := Tx) (gv_is ha fun _ _ h => h.ts) (gv_is hb fun _ _ h => h.ts) hz) fun _ _ h => h.tt
theorem gv_nilT : Gv (tTup tNil) σ M (TT []) := gv_tup ga_nil (fun _ vs h => by rw [h]; exact Nat.zero_le _) fun M' vs p h _ => by subst h; exact ⟨p, rfl, upd_same⟩
end
/-- a def with defaults, no exception leaves it -/
theorem funD_ok {P : Program} {w : World} {K : PySem.W.Frag} {mg : Str → Option Value} {base : Heap} {x qual : Str} {params : Arguments} {body : List Stmt} {scope : Scope} {dvs : List V} {kws : List (Str × V)} {f : Addr} {fd : FuncData} {N ps : List Str} {k : Nat} {sp : Sp}
    (F : FunD K x qual params body scope dvs kws f fd) (S : FnScope N ps scope) (len : ∀ vs H Q E, sp vs H Q E → vs.length = ps.length)
    (hb : ∀ (cdv : Value) (A : Around) (outer : List Env) (s : Shared) (H : Hp) (vs : List V) (Q : VK) (E : XK), Room k (A.deeper (envOfC qual scope s.heap.objs.size f cdv)) → sp vs H Q E →
      ∃ t, PSs (cxOf CX0 P w K mg base N qual scope f cdv A outer s H E).nox body t ∧ t { nx := fun _ H' => Q .non H', rt := Q } (start N vs) H) : FnOk P w K mg base CX0 (k + 1) f fd ps sp :=
  FunD.ok F S len fun cdv A outer s H vs Q E hr hs => let ⟨t, h, q⟩ := hb cdv A outer s H vs Q E hr hs; ⟨t, h.nox, q⟩
end L3

set_option Elab.async false
set_option linter.all false
set_option maxRecDepth 100000
set_option maxHeartbeats 1000000
namespace L3
open PySem PySem.Spec PyProof.Rows L2
/-! a dict of ours whose keys are texts -/
def GvK (te : TE) (σ : Sl) (M : Hp) (ks : List Str) : Prop := ∀ H, Same M H → ∀ Q : VK, (∀ p M' H', Gr M H M' H' → H p = none → M' p = none → H' p = some (.dK (kvT ks)) → Q (.ref p) H') → te σ H Q
theorem putK_kvT (acc : List Str) (x : Str) : putK (kvT acc) (Sum.inr x : Key) (V.bl true) = kvT (onceP acc x) := by
  unfold putK onceP
  have e : ((kvT acc).any fun kv => decide (kv.1 = (Sum.inr x : Key))) = decide (x ∈ acc) := by
    unfold kvT
    rw [List.any_map]
    induction acc with
    | nil => simp
    | cons y r ih =>
      rw [List.any_cons, ih]
      by_cases h : x = y
      · subst h; simp
      · have h1 : ¬ (Sum.inr y : Key) = Sum.inr x := fun z => h (Sum.inr.inj z).symm
        simp [h, h1]
  rw [e]
  by_cases h : x ∈ acc
  · rw [decide_eq_true h, if_pos rfl, if_pos h]
    unfold kvT
    rw [List.map_map]
    refine List.map_congr_left fun y _ => ?_
    show (if _ then _ else _) = _
    by_cases h2 : (Sum.inr y : Key) = Sum.inr x
    · rw [if_pos h2]
    · rw [if_neg h2]
  · rw [decide_eq_false h, if_neg (by simp), if_neg h]
    unfold kvT
    rw [List.map_append]
    rfl
theorem kvT_len (ks : List Str) : (kvT ks).length = ks.length := by unfold kvT; rw [List.length_map]
section
variable {K : PySem.W.Frag} {σ : Sl} {M : Hp} {wi : TI}
theorem gk_dc {j : Nat} {xs : List Str} (hj : j < σ.length) (hsrc : GvI wi σ M xs Tx) (hz : xs.length ≤ sizeLine) : GvK (tDc wi (gName j) tYes (tVar j) (tC (.bl true)) [j]) σ M (once xs) := by
  intro H mh Q q
  refine hsrc H mh _ fun J M1 H1 g1 ⟨G, Y, w, hG, hY⟩ D hD => ?_
  let Pv : Nat → Hp → Prop := fun i H' => ∃ M' acc, Gr M1 H1 M' H' ∧ M' D = none ∧ acc = (xs.take i).foldl onceP [] ∧ acc.length ≤ i ∧ H' D = some (.dK (kvT acc))
  refine ⟨fun i m H' => m = xs.length - i ∧ i ≤ xs.length ∧ Pv i H', ⟨xs.length, by omega, Nat.zero_le _, M1, [], .own g1.mh hD, g1.mh.free hD, rfl, Nat.le_refl _, upd_same⟩, ?_⟩
  rintro i m H' ⟨rfl, hi, M', acc, g, m0, eacc, hl, hw⟩
  by_cases hlt : i < xs.length
  · refine .inr ⟨w.goes i H' hlt (hG M' H' g.mm g.mh), Pv (i + 1), fun H2 p2 => ⟨xs.length - (i + 1), by omega, rfl, hlt, p2⟩, fun y H2 hy => ?_⟩
    obtain ⟨x, M2, hx, g2, ry⟩ := hY i M' H' y H2 g.mm g.mh hlt (w.yields i H' y H2 hlt (hG M' H' g.mm g.mh) hy)
    cases (show y = _ from ry)
    have et : xs.take (i + 1) = xs.take i ++ [x] := by rw [List.take_add_one, hx]; rfl
    have hs : ((wipe σ [j]).set j (some (V.str x)))[j]? = some (some (V.str x)) := by rw [List.getElem?_set_self (by rw [wipe_length]; exact hj)]
    refine ⟨wipe1, .str x, hs, kvT acc, Sum.inr x, rfl, g2.hh _ _ hw, by rw [kvT_len]; exact Nat.lt_of_le_of_lt hl (Nat.lt_of_lt_of_le hlt hz), ?_⟩
    refine ⟨M2, onceP acc x, (g.trans g2).mut hD (g2.keep m0 hw), g2.keep m0 hw, by rw [et, List.foldl_append, ← eacc]; rfl, Nat.le_trans (onceP_len acc x) (Nat.succ_le_succ hl), ?_⟩
    rw [upd_same, putK_kvT]
  · have e : i = xs.length := by omega
    subst e
    rw [List.take_length] at eacc
    unfold once at q
    rw [← eacc] at q
    exact .inl ⟨w.stops H' (hG M' H' g.mm g.mh), q D M' H' (g1.trans g) (g1.hh.free hD) m0 hw⟩
end
/-- what we own: a dict -/
structure OwnK (H0 M H : Hp) (p : Addr) (ks : List Str) : Prop where
  h0 : H0 p = none
  m : M p = none
  h : H p = some (.dK (kvT ks))
theorem OwnK.step {H0 M H M' H' : Hp} {p : Addr} {ks : List Str} (o : OwnK H0 M H p ks) (g : Gr M H M' H') : OwnK H0 M' H' p ks := ⟨o.h0, g.keep o.m o.h, g.hh _ _ o.h⟩
theorem OwnK.idle {H0 M H H' : Hp} {p : Addr} {ks : List Str} (o : OwnK H0 M H p ks) (hh : Same H H') : OwnK H0 M H' p ks := ⟨o.h0, o.m, hh _ _ o.h⟩
theorem OwnK.put {H0 M H : Hp} {p : Addr} {ks ls : List Str} (o : OwnK H0 M H p ks) : OwnK H0 M (upd H p (.dK (kvT ls))) p ls := ⟨o.h0, o.m, upd_same⟩
/-- another thing of ours changes -/
theorem OwnK.off {H0 M H : Hp} {p b : Addr} {ks : List Str} {u : HO} (o : OwnK H0 M H p ks) (h : p ≠ b) : OwnK H0 M (upd H b u) p ks := ⟨o.h0, o.m, by rw [upd_ne h]; exact o.h⟩
theorem Own.off {H0 M H : Hp} {p b : Addr} {vs : List V} {u : HO} (o : Own H0 M H p vs) (h : p ≠ b) : Own H0 M (upd H b u) p vs := ⟨o.h0, o.m, by rw [upd_ne h]; exact o.h⟩
theorem OwnK.ne {H0 M H : Hp} {p b : Addr} {ks : List Str} {vs : List V} (o : OwnK H0 M H p ks) (q : Own H0 M H b vs) : p ≠ b := ne_of o.h q.h (by intro z; cases z)
theorem OwnK.lent {H0 M H : Hp} {p : Addr} {ks : List Str} (o : OwnK H0 M H p ks) (mh : Same M H) : Same (upd M p (.dK (kvT ks))) H := same_lent mh o.h
theorem OwnK.ct {K : PySem.W.Frag} {M : Hp} {p : Addr} {ks : List Str} : CtR K ks (upd M p (.dK (kvT ks))) (.ref p) := .inr ⟨p, rfl, .inl upd_same⟩
theorem kt_nt {kvs : List (Key × V)} : ∀ xs, HO.dK kvs ≠ HO.tup xs := by intro _ z; cases z
theorem ls_nt {vs : List V} : ∀ xs, HO.lst vs ≠ HO.tup xs := by intro _ z; cases z
/-! a thing is locked for good behind an expression -/
def tFrz (te : TE) : TE := fun σ H Q => te σ H fun v H1 => ∃ a u, v = .ref a ∧ H1 a = some u ∧ Mut (some u) ∧ ∀ o, Q v (upd H1 a (.frz o u))
theorem pe_frz {X : Cx} {e : Expr} {te : TE} (h : PE X e te) : PE X e (tFrz te) := by
  refine ⟨fun pins s σ H Q I hw => thn (h.run pins s σ H _ I hw) fun v s1 ⟨x, H1, I1, r, a, u, ex, ha, mu, q⟩ => ?_⟩
  obtain ⟨od, I2⟩ := I1.lock ha mu
  exact ⟨x, _, I2, r, q od⟩
section
variable {K : PySem.W.Frag} {σ : Sl} {M : Hp} {D : Ends} {tc : L2.TT} {tb tz : TS}
theorem q_while {H : Hp} (W : Nat → Sl → Hp → Hp → Prop) {m0 : Nat} (h0 : W m0 σ M H) (hs : ∀ m σ' M' H', W m σ' M' H' → ∃ b Mp, Same Mp H' ∧ GvT tc σ' Mp b ∧
      (b = true → ∀ H1, Same H' H1 → tb { D with nx := fun σ2 H2 => ∃ m' M2, m' < m ∧ W m' σ2 M2 H2, ct := fun σ2 H2 => ∃ m' M2, m' < m ∧ W m' σ2 M2 H2, bk := tz D } σ' H1) ∧ (b = false → ∀ H1, Same H' H1 → tz D σ' H1)) :
    tSeq (tWhile tc tb) tz D σ H := by
  refine ⟨fun m σ' H' => ∃ M', W m σ' M' H', ⟨m0, M, h0⟩, ?_⟩
  rintro m σ' H' ⟨M', w⟩
  obtain ⟨b, Mp, mp, hb, h1, h2⟩ := hs m σ' M' H' w
  refine hb H' mp _ fun M2 H2 g => ?_
  cases b with
  | true => exact ⟨_, fun σ2 H3 ⟨m', M3, hm, w'⟩ => ⟨m', hm, M3, w'⟩, h1 rfl H2 g.hh⟩
  | false => exact h2 rfl H2 g.hh
end
end L3

set_option Elab.async false
set_option linter.all false
set_option maxRecDepth 100000
set_option maxHeartbeats 1000000
namespace L3
open PySem PySem.Spec PyProof.Rows L2
/-! a dict of ours is lent -/
class Sdk (P : Pr) : Prop where
  del : ∀ {M : Hp} {v : V} {x : Addr} {kvs : List (Key × V)}, M x = some (.dK kvs) → P M v → P (L3.del M x) v
class Sdl {α : Type} (R : Rl α) : Prop where
  del : ∀ {y : α} {M : Hp} {v : V} {x : Addr} {kvs : List (Key × V)}, M x = some (.dK kvs) → R y M v → R y (L3.del M x) v
instance {α : Type} {R : Rl α} [h : Sdl R] {y : α} : Sdk (R y) := ⟨fun b c => h.del b c⟩
instance {α : Type} {R : Rl α} [h : Stl R] : Sdl R := ⟨fun b c => h.del kt_nt b c⟩
theorem Pd.delK {α : Type} {R : Rl α} [Sdl R] {M : Hp} {x : Addr} {kvs : List (Key × V)} (hx : M x = some (.dK kvs)) {ys : List α} {vs : List V} (h : Pd R M ys vs) : Pd R (L3.del M x) ys vs := Paired.mapP h fun _ _ q => Sdl.del hx q
instance {α : Type} {R : Rl α} [Sdl R] : Sdl (LiR R) := ⟨fun hx ⟨a, vs, e, r, p⟩ => ⟨a, vs, e, by
  rw [del_ne (fun z => by subst z; rw [hx] at r; cases r)]; exact r, p.delK hx⟩⟩
instance {α : Type} {R : Rl α} [h : Sdl R] : Sdl (OpR' R) := ⟨fun {y M v x kvs} hx r => by
  cases y with
  | none => exact r
  | some y => exact h.del hx r⟩
section
variable {K : PySem.W.Frag} {σ : Sl} {M H : Hp} {te : TE} {P : Pr} {x : Addr} {kvs : List (Key × V)} {D : Ends} {tz : TS}
theorem Gv.lendK [Sdk P] (h : Gv te σ (upd M x (.dK kvs)) P) (hm : M x = none) (mh : Same M H) (hx : H x = some (.dK kvs)) {Q : VK} (q : ∀ v M' H', Gr M H M' H' → M' x = none → H' x = some (.dK kvs) → P M' v → Q v H') : te σ H Q :=
  h H (same_lent mh hx) Q fun v M' H' g p => q v _ H' (g.back hm) del_at (g.hh _ _ hx) (Sdk.del (g.mm x _ upd_same) p)
theorem q_asgK {i : Nat} [Sdk P] (mh : Same M H) (hm : M x = none) (hx : H x = some (.dK kvs)) (h : Gv te σ (upd M x (.dK kvs)) P) (k : ∀ v M' H', Gr M H M' H' → P M' v → tz D (σ.set i (some v)) H') : tSeq (tAsg te (gName i)) tz D σ H :=
  h.lendK hm mh hx fun v M' H' g _ _ p => k v M' H' g p
theorem q_if0 {tt : L2.TT} {b : Bool} {tu : TS} (mh : Same M H) (h : GvT tt σ M b) (h1 : b = true → ∀ H', Same H H' → tu { D with nx := tz D } σ H') (h2 : b = false → ∀ H', Same H H' → tz D σ H') : tSeq (tIfS tt tu tNext) tz D σ H := q_if mh h h1 h2
theorem s_if0 {tt : L2.TT} {b : Bool} {tu : TS} (mh : Same M H) (h : GvT tt σ M b) (h1 : b = true → ∀ H', Same H H' → tu D σ H') (h2 : b = false → ∀ H', Same H H' → D.nx σ H') : tIfS tt tu tNext D σ H := s_if mh h h1 h2
/-! arguments one by one -/
variable {tr ta : TA} {QA : List V → Hp → Prop}
theorem a_V (mh : Same M H) (h : Gv te σ M P) (k : ∀ v M' H', Gr M H M' H' → P M' v → tr σ H' fun vs H2 => QA (v :: vs) H2) : tCons te tr σ H QA := h H mh _ k
theorem a_L {P : Hp → List V → Prop} (mh : Same M H) (h : GvL te σ M P) (k : ∀ p vs M' H', Gr M H M' H' → H p = none → M' p = none → H' p = some (.lst vs) → P M' vs → tr σ H' fun us H2 => QA (.ref p :: us) H2) : tCons te tr σ H QA := h H mh _ k
theorem a_K {ks : List Str} (mh : Same M H) (h : GvK te σ M ks) (k : ∀ p M' H', Gr M H M' H' → H p = none → M' p = none → H' p = some (.dK (kvT ks)) → tr σ H' fun us H2 => QA (.ref p :: us) H2) : tCons te tr σ H QA := h H mh _ k
theorem a_nil (k : QA [] H) : tNil σ H QA := k
theorem q_par3 {i j l : Nat} (h : ta σ H fun vs H1 => ∃ u v w, vs = [u, v, w] ∧ tz D (((σ.set i (some u)).set j (some v)).set l (some w)) H1) : tSeq (tPar3 i j l ta) tz D σ H := h
theorem q_par2 {i j : Nat} (h : ta σ H fun vs H1 => ∃ u v, vs = [u, v] ∧ tz D ((σ.set i (some u)).set j (some v)) H1) : tSeq (tPar i j ta) tz D σ H := h
theorem s_dputT {i : Nat} {p : Addr} {so : List Str} {l : Str} {tk : TE} (mh : Same M H) (hi : σ[i]? = some (some (.ref p))) (hp : H p = some (.dK (kvT so))) (hz : so.length < sizeLine) (h : Gv tk σ M (Tx l))
    (k : ∀ M' H', Gr M H M' H' → D.nx σ (upd H' p (.dK (kvT (onceP so l))))) : sDPut (tVar i) tk (tC (.bl true)) D σ H :=
  ⟨.ref p, hi, h H mh _ fun v M' H' g r => ⟨p, _, rfl, .inl ⟨kvT so, Sum.inr l, g.hh _ _ hp, r, by rw [kvT_len]; exact hz, rfl⟩, by rw [putK_kvT]; exact k M' H' g⟩⟩
theorem q_dputT {i : Nat} {p : Addr} {so : List Str} {l : Str} {tk : TE} (mh : Same M H) (hi : σ[i]? = some (some (.ref p))) (hp : H p = some (.dK (kvT so))) (hz : so.length < sizeLine) (h : Gv tk σ M (Tx l))
    (k : ∀ M' H', Gr M H M' H' → tz D σ (upd H' p (.dK (kvT (onceP so l))))) : tSeq (sDPut (tVar i) tk (tC (.bl true))) tz D σ H := s_dputT (D := { D with nx := tz D }) mh hi hp hz h k
theorem q_app {i : Nat} {p : Addr} {vs : List V} (mh : Same M H) (hi : σ[i]? = some (some (.ref p))) (hp : H p = some (.lst vs)) (hz : vs.length < sizeLine) (h : Gv te σ M P)
    (k : ∀ v M' H', Gr M H M' H' → P M' v → tz D σ (upd H' p (.lst (vs ++ [v])))) : tSeq (tDrop (tBM K "list" rAppend (tVar i) (tCons te tNil))) tz D σ H := s_app (D := { D with nx := tz D }) mh hi hp hz h k
theorem Own.new' {M0 H0 M H : Hp} {p : Addr} {vs : List V} (g : Gr M0 H0 M H) (np : H p = none) : Own H0 M (upd H p (.lst vs)) p vs := ⟨g.hh.free np, g.mh.free np, upd_same⟩
theorem Own.both {H0 M H : Hp} {p b : Addr} {vs : List V} {u : HO} (o : Own H0 M H p vs) (h : p ≠ b) : Own H0 (upd M b u) (upd H b u) p vs := ⟨o.h0, by rw [upd_ne h]; exact o.m, by rw [upd_ne h]; exact o.h⟩
end
end L3

set_option Elab.async false
set_option linter.all false
set_option maxRecDepth 100000
set_option maxHeartbeats 1000000
namespace L3
open PySem PySem.Spec PyProof.Rows L2
/-! len(x) by an own __len__ -/
section
variable {X : Cx} {CX : CXT} {pins : List (Addr × Obj)} {σ : L2.St} {H : Hp} {s : Shared} {a C dx f : Addr} {fs : List (Str × V)} {k : Nat} {fd : FuncData} {ps : List Str} {sp : Sp} {E : XK}
theorem own_inst (I : Inv X pins σ H s) (e : H a = some (.ins C dx fs)) : ∃ ox od, PySem.W.InstAt s.heap a ox C od := let ⟨_, O, _⟩ := ins_get I.hok e; let ⟨_, J, _⟩ := O.look; ⟨_, _, J⟩
/-- the callee runs somewhat deeper -/
theorem run_deep {A : Around} {Q : VK} {us : List Value} {vs : List V} (F : FnOk X.prog X.w X.K X.mg X.base CX k f fd ps sp) (hr : Room k A) (e0 : Env0 X.prog X.w X.K X.mg X.base A X.stack s H) (hb : Binds X.K fd ps []) (hx : Passes CX X E)
    (I : Inv X pins σ H s) (r : Vals vs us) (h : sp vs H Q E) : wpAny (model X.prog X.w) A (call (.ref f) us) (EP X pins σ Q) X.xe s := by
  have hl : (us ++ []).length = ps.length := by rw [List.append_nil, ← r.length]; exact F.len _ _ _ _ h
  have hb' := hb s us I.kIn hl
  rw [List.append_nil] at hb'
  refine wpAny_call (codeAny_mono (F.run A X.stack s H ⟨us, []⟩ us vs Q E hr e0 hb' r h) fun r s' hq => ?_)
  cases r with
  | error e => exact hx pins σ H s e s' I hq
  | ok fl =>
    cases fl with
    | ret u => exact I.after hq
    | next => exact False.elim hq
    | brk => exact False.elim hq
    | cont => exact False.elim hq
def rLenO (C : Addr) (sp : Sp) : List V → Hp → VK → Prop := fun xs H Q => ∃ a dx fs, xs = [V.ref a] ∧ H a = some (.ins C dx fs) ∧ sp [.ref a] H (fun v H' => ∃ n : Nat, v = .int (n : Nat) ∧ n ≤ 1000000000 ∧ Q v H') E0
/-- a class with an own __len__ -/
structure OwnLen (P : Program) (w : World) (K : PySem.W.Frag) (mg : Str → Option Value) (base : Heap) (k : Nat) (C : Addr) (sp : Sp) : Prop where
  ok : ∃ f fd, FnOk P w K mg base CX0 k f fd ["self"] sp ∧ PySem.W.findIn K (.ref C) "__len__" = some (some (.ref f)) ∧ PySem.W.isFn K (.ref f) = true ∧ Binds K fd ["self"] []
theorem call_lenO (o : OwnLen X.prog X.w X.K X.mg X.base k C sp) (hr : Room (k + 1) X.A) : CallR X (.builtin "len") (rLenO C sp) := by
  intro pins s σ H xs us Q I r h
  obtain ⟨f, fd, F, hs, hf, hb⟩ := o.ok
  obtain ⟨a, dx, fs, rfl, ha, q⟩ := h
  obtain ⟨u, rfl, ru⟩ := r.one
  cases (show u = Value.ref a from ru)
  obtain ⟨ox, od, J⟩ := own_inst I ha
  obtain ⟨m, hF⟩ := I.fr
  refine PySem.W.len_K hF I.ok.mod.kin J hs hf (wpAny_mono (run_deep (us := [.ref a]) (vs := [.ref a]) F hr.in1 I.env0.in1 hb pass0 I (.cons rfl .nil) q) (fun w s' z => ?_) fun _ _ x => x)
  obtain ⟨z', H', I', rz, n, ei, hn, qz⟩ := z
  subst ei
  obtain ⟨t, e⟩ := (show ∃ t, w = Value.int n t from rz)
  cases e
  exact ⟨⟨by omega, by omega⟩, .int n, H', I'.tok _, ⟨_, rfl⟩, qz⟩
end
section
variable {α : Type} {σ : Sl} {M : Hp} {te : TE} {R1 : Rl α} {C : Addr}
theorem gv_lenO {pre : α → Prop} {R : α → Pr} {x : α} {n : Nat} (h : Gv te σ M (R1 x)) (hi : ∀ M v, R1 x M v → ∃ a dx fs, v = .ref a ∧ M a = some (.ins C dx fs)) (hp : pre x) (hn : n ≤ 1000000000) (hR : ∀ M v, R x M v → v = .int (n : Nat)) :
    Gv (tCB (rLenO C (sp1 R1 pre R)) (tCons te tNil)) σ M (It' n) := fun H mh Q q => h H mh _ fun v M1 H1 g1 p1 => by
  obtain ⟨a, dx, fs, rfl, ha⟩ := hi M1 v p1
  exact ⟨a, dx, fs, rfl, g1.mh _ _ ha, x, M1, _, rfl, g1.mh, p1, hp, fun u M' H' g r => ⟨n, hR _ _ r, hn, q _ M' H' (g1.trans g) (hR _ _ r)⟩⟩
end
section
variable {σ : Sl} {M H : Hp} {te : TE} {ta : TA} {P : Pr} {D : Ends} {tz : TS} {g : TG} {sp : Sp}
theorem q_drop (mh : Same M H) (h : Gv te σ M P) (k : ∀ v M' H', Gr M H M' H' → P M' v → tz D σ H') : tSeq (tDrop te) tz D σ H := h H mh _ k
theorem q_asgC (h : ta σ H fun vs H1 => sp (vs ++ []) H1 (fun v H2 => g v σ H2 fun σ' H3 => tz D σ' H3) E0) : tSeq (tAsg (tCall sp [] E0 ta) g) tz D σ H := h
end
end L3

set_option Elab.async false
set_option linter.all false
set_option maxRecDepth 100000
set_option maxHeartbeats 1000000
namespace L3
open PySem PySem.Spec PyProof.Rows L2
/-! the law's stream: two lists that change behind all else -/
structure Strm where
  a : Addr
  b : Addr
namespace Strm
def off (S : Strm) (x : Addr) : Prop := x = S.a ∨ x = S.b
instance {S : Strm} {x : Addr} : Decidable (S.off x) := by unfold off; infer_instance
def cut (S : Strm) (H : Hp) : Hp := fun x => if S.off x then none else H x
/-- the stream stands, k draws are left -/
structure At (S : Strm) (k : Nat) (H : Hp) : Prop where
  ne : S.a ≠ S.b
  ex : ∃ (cells : List Int) (x n m : Int), H S.a = some (.lst [.ref S.b, .int x, .int n, .int m]) ∧ H S.b = some (.lst (cells.map V.int)) ∧ 0 ≤ x ∧ 0 ≤ n ∧ n + k ≤ 10000000 ∧ 0 ≤ m ∧ m < 2147483647
variable {S : Strm} {H H' M M' : Hp} {x p : Addr} {o : HO} {j k : Nat}
theorem cut_off (h : S.off x) : S.cut H x = none := if_pos h
theorem cut_on (h : ¬ S.off x) : S.cut H x = H x := if_neg h
theorem on_of (h : S.cut H x = some o) : ¬ S.off x := fun z => by rw [cut_off z] at h; cases h
theorem of_cut (h : S.cut H x = some o) : H x = some o := by rw [← cut_on (S := S) (H := H) (on_of h)]; exact h
theorem cut_same : Same (S.cut H) H := fun _ _ h => of_cut h
theorem cut_upd (h : ¬ S.off p) : S.cut (upd H p o) = upd (S.cut H) p o := by
  funext y
  by_cases hy : y = p
  · subst hy; rw [cut_on h, upd_same, upd_same]
  · rw [upd_ne hy]
    by_cases ho : S.off y
    · rw [cut_off ho, cut_off ho]
    · rw [cut_on ho, cut_on ho, upd_ne hy]
theorem At.le (h : S.At k H) (e : j ≤ k) : S.At j H := let ⟨c, x, n, m, h1, h2, h3, h4, h5, h6⟩ := h.ex; ⟨h.ne, c, x, n, m, h1, h2, h3, h4, by omega, h6⟩
theorem At.same (h : S.At k H) (e : Same H H') : S.At k H' := let ⟨c, x, n, m, h1, h2, h3⟩ := h.ex; ⟨h.ne, c, x, n, m, e _ _ h1, e _ _ h2, h3⟩
theorem At.upd (h : S.At k H) (hp : ¬ S.off p) : S.At k (upd H p o) := let ⟨c, x, n, m, h1, h2, h3⟩ := h.ex
  ⟨h.ne, c, x, n, m, by rw [upd_ne (fun z => hp (.inl z.symm))]; exact h1, by rw [upd_ne (fun z => hp (.inr z.symm))]; exact h2, h3⟩
theorem At.at_ (h : S.At k H) (ho : S.off x) : ∃ vs, H x = some (.lst vs) := let ⟨c, y, n, m, h1, h2, h3⟩ := h.ex; by
  rcases ho with rfl | rfl
  · exact ⟨_, h1⟩
  · exact ⟨_, h2⟩
theorem At.fresh (h : S.At k H) (hp : H p = none) : ¬ S.off p := fun z => by obtain ⟨vs, e⟩ := h.at_ z; rw [hp] at e; cases e
theorem At.cutn (h : S.At k H) (hp : H p = none) : S.cut H p = none := by rw [cut_on (h.fresh hp)]; exact hp
theorem off_none (mh : Same M (S.cut H)) (ho : S.off x) : M x = none := by
  cases e : M x with
  | none => rfl
  | some o => have := mh x o e; rw [cut_off ho] at this; cases this
theorem lift (mh : Same M (S.cut H)) (h : S.At k H) (g : Gr M H M' H') : Gr M (S.cut H) M' (S.cut H') := by
  refine ⟨g.mm, fun y u e => ?_, fun y u e => ?_, fun y u e => ?_, g.nt⟩
  · rw [cut_on (on_of e)]; exact g.hh y u (of_cut e)
  · have ny : ¬ S.off y := fun z => by
      obtain ⟨vs, hy⟩ := h.at_ z
      rw [g.keep (off_none mh z) hy] at e
      cases e
    rw [cut_on ny]; exact g.mh y u e
  · rcases g.nw y u e with z | z | z
    · exact .inl z
    · by_cases ho : S.off y
      · exact .inr (.inl (cut_off ho))
      · exact .inr (.inl (by rw [cut_on ho]; exact z))
    · exact .inr (.inr z)
end Strm
open Strm
/-- a value behind draws -/
def GvS (S : Strm) (c : Nat) (te : TE) (σ : Sl) (M : Hp) (P : Pr) : Prop := ∀ H k, Same M (S.cut H) → S.At (k + c) H → ∀ Q : VK, (∀ v M' H', Gr M (S.cut H) M' (S.cut H') → S.At k H' → P M' v → Q v H') → te σ H Q
def GvTS (S : Strm) (c : Nat) (tt : L2.TT) (σ : Sl) (M : Hp) (B : Bool → Prop) : Prop := ∀ H k, Same M (S.cut H) → S.At (k + c) H → ∀ Q : Bool → Hp → Prop, (∀ b M' H', Gr M (S.cut H) M' (S.cut H') → S.At k H' → B b → Q b H') → tt σ H Q
def GvLS (S : Strm) (c : Nat) (te : TE) (σ : Sl) (M : Hp) (P : Hp → List V → Prop) : Prop := ∀ H k, Same M (S.cut H) → S.At (k + c) H → ∀ Q : VK,
  (∀ p vs M' H', Gr M (S.cut H) M' (S.cut H') → S.At k H' → S.cut H p = none → M' p = none → S.cut H' p = some (.lst vs) → P M' vs → Q (.ref p) H') → te σ H Q
def GvIS {α : Type} (S : Strm) (c : Nat) (wi : TI) (σ : Sl) (M : Hp) (G : List α → Prop) (R : Rl α) : Prop := ∀ H k, Same M (S.cut H) → S.At (k + c) H → ∀ Q : It → Hp → Prop, (∀ J xs M1 H1, Gr M (S.cut H) M1 (S.cut H1) → S.At k H1 → G xs → GW M1 J xs R → Q J H1) → wi σ H Q
/-- some x that is good -/
def Ex {α : Type} (R : Rl α) (good : α → Prop) : Pr := fun M v => ∃ x, good x ∧ R x M v
instance {α : Type} {R : Rl α} [Mon R] {good : α → Prop} : Mono (Ex R good) := ⟨fun e ⟨x, g, r⟩ => ⟨x, g, Mon.mono e r⟩⟩
section
variable {K : PySem.W.Frag} {S : Strm} {c c1 c2 : Nat} {σ : Sl} {M M1 : Hp} {ta tb te : TE} {tt tu : L2.TT} {P P1 : Pr} {α : Type} {R : Rl α}
theorem Gv.s (h : Gv te σ M P) : GvS S 0 te σ M P := fun H k mh at_ Q q => h H (mh.trans cut_same) Q fun v M' H' g p => q v M' H' (lift mh at_ g) (at_.same g.hh) p
theorem GvT.s {b : Bool} (h : GvT tt σ M b) : GvTS S 0 tt σ M (· = b) := fun H k mh at_ Q q => h H (mh.trans cut_same) Q fun M' H' g => q b M' H' (lift mh at_ g) (at_.same g.hh) rfl
theorem GvI.s {wi : TI} {xs : List α} (h : GvI wi σ M xs R) : GvIS S 0 wi σ M (· = xs) R := fun H k mh at_ Q q => h H (mh.trans cut_same) Q fun J M' H' g w => q J xs M' H' (lift mh at_ g) (at_.same g.hh) rfl w
theorem GvL.s {P : Hp → List V → Prop} (h : GvL te σ M P) : GvLS S 0 te σ M P := fun H k mh at_ Q q => h H (mh.trans cut_same) Q fun p vs M' H' g h0 m0 hp r =>
  q p vs M' H' (lift mh at_ g) (at_.same g.hh) (Strm.At.cutn at_ h0) m0 (by rw [cut_on (Strm.At.fresh at_ h0)]; exact hp) r
theorem GvS.is {P' : Pr} (h : GvS S c te σ M P) (e : ∀ M v, P M v → P' M v) : GvS S c te σ M P' := fun H k mh at_ Q q => h H k mh at_ Q fun v M' H' g a p => q v M' H' g a (e M' v p)
theorem GvS.cost (h : GvS S c te σ M P) (e : c ≤ c1) : GvS S c1 te σ M P := fun H k mh at_ Q q => h H k mh (at_.le (by omega)) Q q
theorem GvLS.cost {P : Hp → List V → Prop} (h : GvLS S c te σ M P) (e : c ≤ c1) : GvLS S c1 te σ M P := fun H k mh at_ Q q => h H k mh (at_.le (by omega)) Q q
theorem GvTS.cost {B : Bool → Prop} (h : GvTS S c tt σ M B) (e : c ≤ c1) : GvTS S c1 tt σ M B := fun H k mh at_ Q q => h H k mh (at_.le (by omega)) Q q
theorem GvTS.is {B B' : Bool → Prop} (h : GvTS S c tt σ M B) (e : ∀ b, B b → B' b) : GvTS S c tt σ M B' := fun H k mh at_ Q q => h H k mh at_ Q fun b M' H' g a p => q b M' H' g a (e b p)
theorem GvS.le [Mono P] (h : GvS S c te σ M P) (e : Same M M1) : GvS S c te σ M1 P := fun H k mh at_ Q q =>
  h H k (e.trans mh) at_ Q fun v M' H' g a p => q v _ H' (g.join e mh).1 a (Mono.mono (g.join e mh).2 p)
theorem GvTS.le {B : Bool → Prop} (h : GvTS S c tt σ M B) (e : Same M M1) : GvTS S c tt σ M1 B := fun H k mh at_ Q q => h H k (e.trans mh) at_ Q fun b M' H' g a p => q b _ H' (g.join e mh).1 a p
theorem GvLS.gv {R : Hp → List V → Prop} (h : GvLS S c te σ M R) (hp : ∀ M vs p, R M vs → M p = none → P (upd M p (.lst vs)) (.ref p)) : GvS S c te σ M P := fun H k mh at_ Q q =>
  h H k mh at_ Q fun p vs M' H' g a h0 m0 hw r => q (.ref p) _ H' (g.freeze h0 m0 hw) a (hp M' vs p r m0)
theorem GvLS.is {R R' : Hp → List V → Prop} (h : GvLS S c te σ M R) (e : ∀ M vs, R M vs → R' M vs) : GvLS S c te σ M R' := fun H k mh at_ Q q => h H k mh at_ Q fun p vs M' H' g a h0 m0 hw r => q p vs M' H' g a h0 m0 hw (e M' vs r)
theorem gs_op {r : R2} {R : Pr} [Mono P] [Mono P1] (ha : GvS S c1 ta σ M P) (hb : GvS S c2 tb σ M P1) (hr : ∀ M' x y, P M' x → P1 M' y → RV (r x y) M' R) : GvS S (c1 + c2) (tOp r ta tb) σ M R := fun H k mh at_ Q q =>
  ha H (k + c2) mh (at_.le (by omega)) _ fun x M1 H1 g1 a1 p1 => hb.le g1.mm H1 k g1.mh a1 _ fun y M2 H2 g2 a2 p2 =>
    hr M2 x y (Mono.mono g2.mm p1) p2 H2 (g2.mh.trans cut_same) _ fun v M3 H3 g3 p3 => q v M3 H3 ((g1.trans g2).trans (lift g2.mh a2 g3)) (a2.same g3.hh) p3
theorem gs_cb1 {r : List V → Hp → VK → Prop} {P' : Pr} (h : GvS S c te σ M P) (hr : ∀ M' v, P M' v → RV (r [v]) M' P') : GvS S c (tCB r (tCons te tNil)) σ M P' := fun H k mh at_ Q q =>
  h H k mh at_ _ fun v M1 H1 g1 a1 p1 => hr M1 v p1 H1 (g1.mh.trans cut_same) Q fun u M' H' g r => q u M' H' (g1.trans (lift g1.mh a1 g)) (a1.same g.hh) r
theorem gts_test (h : GvS S c te σ M P) {B : Bool → Prop} (e : ∀ M v, P M v → ∃ b, v = .bl b ∧ B b) : GvTS S c (tTest te) σ M B := fun H k mh at_ Q q => h H k mh at_ _ fun v M' H' g a p => let ⟨b, e1, e2⟩ := e M' v p; ⟨b, e1, q b M' H' g a e2⟩
theorem gts_B (h : GvS S c te σ M P) {B : Bool → Prop} (e : ∀ M v, P M v → ∃ b, v = .bl b ∧ B b) : GvTS S c (tB te) σ M B := fun H k mh at_ Q q => h H k mh at_ _ fun v M' H' g a p => let ⟨b, e1, e2⟩ := e M' v p; ⟨b, e1, q b M' H' g a e2⟩
theorem gts_or {B C : Bool → Prop} (h : GvTS S c1 tt σ M B) (h2 : B false → GvTS S c2 tu σ M C) : GvTS S (c1 + c2) (tOr tt tu) σ M (fun b => (b = true ∧ B true) ∨ (B false ∧ C b)) := fun H k mh at_ Q q => h H (k + c2) mh (at_.le (by omega)) _ fun b M1 H1 g1 a1 p => by
  cases b with
  | true => exact q true M1 H1 g1 (a1.le (by omega)) (.inl ⟨rfl, p⟩)
  | false => exact (h2 p).le g1.mm H1 k g1.mh a1 _ fun b2 M2 H2 g2 a2 p2 => q b2 M2 H2 (g1.trans g2) a2 (.inr ⟨p, p2⟩)
theorem gts_not {B : Bool → Prop} (h : GvTS S c tt σ M B) : GvTS S c (tNot tt) σ M (fun b => B (!b)) := fun H k mh at_ Q q => h H k mh at_ _ fun b M1 H1 g1 a1 p => q (!b) M1 H1 g1 a1 (by show B (!(!b)); rw [Bool.not_not]; exact p)
theorem gs_if {B : Bool → Prop} [Mono P] (h : GvTS S c1 tt σ M B) (h1 : B true → GvS S c2 ta σ M P) (h2 : B false → GvS S c2 tb σ M P) : GvS S (c1 + c2) (tIf tt ta tb) σ M P := fun H k mh at_ Q q => h H (k + c2) mh (at_.le (by omega)) _ fun b M1 H1 g1 a1 p => by
  cases b with
  | true => exact (h1 p).le g1.mm H1 k g1.mh a1 _ fun v M2 H2 g2 a2 p2 => q v M2 H2 (g1.trans g2) a2 p2
  | false => exact (h2 p).le g1.mm H1 k g1.mh a1 _ fun v M2 H2 g2 a2 p2 => q v M2 H2 (g1.trans g2) a2 p2
theorem gis_sq [Mon R] {ts : TE} {good : List α → Prop} (h : GvS S c ts σ M (Ex (SqR K R) good)) : GvIS S c (iSq K ts) σ M good R := fun H k mh at_ Q q => h H k mh at_ _ fun v M1 H1 g1 a1 ⟨xs, gx, hv⟩ =>
  gi_sq (K := K) (σ := σ) (M := M1) (ts := tC v) (gv_c hv) H1 (g1.mh.trans cut_same) _ fun J M2 H2 g2 w => q J xs M2 H2 (g1.trans (lift g1.mh a1 g2)) (a1.same g2.hh) gx w
theorem gis_rng1 {good : Nat → Prop} (h : GvS S c te σ M (Ex (fun n : Nat => It' (n : Int)) good)) (hn : ∀ n, good n → n ≤ 1000000000) : GvIS S c (iRng1 (tCons te tNil)) σ M (fun xs => ∃ n, good n ∧ xs = List.range n) (fun i => It' (i : Nat)) := fun H k mh at_ Q q => h H k mh at_ _ fun v M1 H1 g1 a1 ⟨n, gx, hv⟩ =>
  gi_rng1 (σ := σ) (M := M1) (te := tC v) (gv_c hv) (hn n gx) H1 (g1.mh.trans cut_same) _ fun J M2 H2 g2 w => q J _ M2 H2 (g1.trans (lift g1.mh a1 g2)) (a1.same g2.hh) ⟨n, gx, rfl⟩ w
end
end L3

set_option Elab.async false
set_option linter.all false
set_option maxRecDepth 100000
set_option maxHeartbeats 1000000
namespace L3
open PySem PySem.Spec PyProof.Rows L2
open Strm
instance {α : Type} {R : Rl α} [h : Stl R] {good : α → Prop} : Stb (Ex R good) := ⟨fun a b ⟨x, g, r⟩ => ⟨x, g, h.del a b r⟩⟩
/-! statements behind draws -/
section
variable {K : PySem.W.Frag} {S : Strm} {c c1 c2 k : Nat} {σ : Sl} {M H : Hp} {ta tb te : TE} {tt tu : L2.TT} {P P1 : Pr} {α β : Type} {R : Rl α} {D : Ends} {tz tx tw : TS}
theorem z_ret (mh : Same M (S.cut H)) (a : S.At (k + c) H) (h : GvS S c te σ M P) (q : ∀ v M' H', Gr M (S.cut H) M' (S.cut H') → S.At k H' → P M' v → D.rt v H') : tRet te D σ H := h H k mh a _ q
theorem z_retL {P : Hp → List V → Prop} (mh : Same M (S.cut H)) (a : S.At (k + c) H) (h : GvLS S c te σ M P)
    (q : ∀ p vs M' H', Gr M (S.cut H) M' (S.cut H') → S.At k H' → S.cut H p = none → M' p = none → S.cut H' p = some (.lst vs) → P M' vs → D.rt (.ref p) H') : tRet te D σ H := h H k mh a _ q
theorem z_asg {i : Nat} (mh : Same M (S.cut H)) (a : S.At (k + c) H) (h : GvS S c te σ M P) (q : ∀ v M' H', Gr M (S.cut H) M' (S.cut H') → S.At k H' → P M' v → tz D (σ.set i (some v)) H') : tSeq (tAsg te (gName i)) tz D σ H := h H k mh a _ q
theorem z_asgL {i : Nat} {P : Hp → List V → Prop} (mh : Same M (S.cut H)) (a : S.At (k + c) H) (h : GvLS S c te σ M P)
    (q : ∀ p vs M' H', Gr M (S.cut H) M' (S.cut H') → S.At k H' → S.cut H p = none → M' p = none → S.cut H' p = some (.lst vs) → P M' vs → tz D (σ.set i (some (.ref p))) H') : tSeq (tAsg te (gName i)) tz D σ H := h H k mh a _ q
theorem z_if {B : Bool → Prop} (mh : Same M (S.cut H)) (a : S.At (k + c) H) (h : GvTS S c tt σ M B) (h1 : B true → ∀ M' H', Gr M (S.cut H) M' (S.cut H') → S.At k H' → tx { D with nx := tz D } σ H') (h2 : B false → ∀ M' H', Gr M (S.cut H) M' (S.cut H') → S.At k H' → tz D σ H') :
    tSeq (tIfS tt tx tNext) tz D σ H := h H k mh a _ fun b M' H' g a' p => by
  cases b with
  | true => exact h1 p M' H' g a'
  | false => exact h2 p M' H' g a'
theorem z_appE {i : Nat} {p : Addr} {vs : List V} (mh : Same M (S.cut H)) (a : S.At (k + c) H) (hi : σ[i]? = some (some (.ref p))) (hp : S.cut H p = some (.lst vs)) (hz : vs.length < sizeLine) (h : GvS S c te σ M P)
    (q : ∀ v M' H', Gr M (S.cut H) M' (S.cut H') → S.At k H' → P M' v → D.nx σ (upd H' p (.lst (vs ++ [v])))) : tDrop (tBM K "list" rAppend (tVar i) (tCons te tNil)) D σ H :=
  ⟨.ref p, hi, .inl ⟨rfl, _, .inl (.inl (of_cut hp))⟩, h H k mh a _ fun v M' H' g a' r => ⟨p, vs, v, rfl, rfl, of_cut (g.hh _ _ hp), hz, q v M' H' g a' r⟩⟩
/-- a list of ours changes -/
theorem cut_put {p : Addr} {o u : HO} (hp : S.cut H p = some o) : S.cut (upd H p u) = upd (S.cut H) p u := cut_upd (on_of hp)
/-- something of ours is lent -/
theorem GvS.lend {x : Addr} {o : HO} [Stb P] (h : GvS S c te σ (upd M x o) P) (hm : M x = none) (mh : Same M (S.cut H)) (a : S.At (k + c) H) (hx : S.cut H x = some o) (hn : ∀ xs, o ≠ HO.tup xs) {Q : VK}
    (q : ∀ v M' H', Gr M (S.cut H) M' (S.cut H') → S.At k H' → P M' v → Q v H') : te σ H Q :=
  h H k (same_lent mh hx) a Q fun v M' H' g a' p => q v _ H' (g.back hm) a' (Stb.del hn (g.mm x o upd_same) p)
/-- for over anything, drawing -/
theorem z_for {wi : TI} {g : TG} {tbd : TS} {U : α → Hp → Sl → Sl → Prop} {G : List α → Prop} (mh : Same M (S.cut H)) (a : S.At (k + c) H) (hsrc : GvIS S c wi σ M G R) (htg : TgOk g R U) (Pv : List α → Hp → Nat → Sl → Hp → Hp → Prop)
    (h0 : ∀ xs M1 H1, G xs → Gr M (S.cut H) M1 (S.cut H1) → S.At k H1 → Pv xs M1 0 σ M1 H1) (hk : ∀ xs M1 i σ' M' H', Pv xs M1 i σ' M' H' → Same M1 M' ∧ Same M' (S.cut H') ∧ S.At 0 H')
    (hs : ∀ xs M1 i x σ' M' H' M2 H2 σ2, G xs → Same M M1 → xs[i]? = some x → Pv xs M1 i σ' M' H' → Gr M' H' M2 H2 → U x M2 σ' σ2 →
      tbd { D with nx := fun σ2 H2 => ∃ M2, Pv xs M1 (i + 1) σ2 M2 H2, ct := fun σ2 H2 => ∃ M2, Pv xs M1 (i + 1) σ2 M2 H2, bk := tz D } σ2 H2)
    (hd : ∀ xs M1 σ' M' H', G xs → Same M M1 → Pv xs M1 xs.length σ' M' H' → tz D σ' H') : tSeq (tFor wi g tbd) tz D σ H := by
  refine hsrc H k mh a _ fun J xs M1 H1 g1 a1 gx ⟨GG, Y, w, hG, hY⟩ => ?_
  refine for_it w (fun i σ' H' => ∃ M', Pv xs M1 i σ' M' H') ⟨M1, h0 xs M1 H1 gx g1 a1⟩ (fun i σ' H' _ ⟨M', p⟩ => hG M' H' (hk _ _ _ _ _ _ p).1 ((hk _ _ _ _ _ _ p).2.1.trans cut_same)) ?_ ?_
  · rintro i y σ' H' H'' hi ⟨M', p⟩ hy
    have km := hk _ _ _ _ _ _ p
    obtain ⟨x, M2, hx, g2, rx⟩ := hY i M' H' y H'' km.1 (km.2.1.trans cut_same) hi hy
    exact htg x M2 y H'' σ' _ rx g2.mh fun σ2 hU => hs xs M1 i x σ' M' H' M2 H'' σ2 gx g1.mm hx p g2 hU
  · rintro σ' H' ⟨M', p⟩
    exact hd xs M1 σ' M' H' gx g1.mm p
/-- a comprehension without a test, drawing at each item -/
theorem gls_m1 {T : Rl β} [Mon T] {j n : Nat} {wi : TI} {G : List α → Prop} {good : α → β → Prop} (hsrc : GvIS S c1 wi σ M G R) (hn : ∀ xs, G xs → xs.length ≤ n) (hz : n ≤ sizeLine)
    (he : ∀ xs, G xs → ∀ x ∈ xs, ∀ M1 v, Same M M1 → R x M1 v → GvS S c2 te ((wipe σ [j]).set j (some v)) M1 (Ex T (good x))) :
    GvLS S (c1 + n * c2) (tLc wi (gName j) tYes te [j]) σ M fun M ws => ∃ xs ys, G xs ∧ Paired good xs ys ∧ Pd T M ys ws := by
  intro H k mh at_ Q q
  refine hsrc H (k + n * c2) mh (at_.le (by omega)) _ fun J xs M1 H1 g1 a1 gx ⟨GG, Y, w, hG, hY⟩ D hD => ?_
  have hxn := hn xs gx
  have nD := a1.fresh hD
  refine lc_it w (fun i H' => ∃ M' ys ws, Gr M1 (S.cut H1) M' (S.cut H') ∧ S.At (k + (n - i) * c2) H' ∧ M' D = none ∧ S.cut H' D = some (.lst ws) ∧ ws.length ≤ i ∧ Paired good (xs.take i) ys ∧ Pd T M' ys ws)
    ⟨M1, [], [], by rw [cut_upd nD]; exact .own g1.mh (a1.cutn hD), a1.upd nD, g1.mh.free (a1.cutn hD), by rw [cut_upd nD, upd_same], Nat.le_refl _, .nil, .nil⟩ (fun i H' _ ⟨M', ys, ws, g, _⟩ => hG M' H' g.mm (g.mh.trans cut_same)) ?_ ?_
  · rintro i y H' H'' hi ⟨M', ys, ws, g, a', m0, hw', hl, hg, hpd⟩ hy
    obtain ⟨x, M0, hx, g0, rx⟩ := hY i M' H' y H'' g.mm (g.mh.trans cut_same) hi hy
    have hxm : x ∈ xs := List.mem_of_getElem? hx
    have et : xs.take (i + 1) = xs.take i ++ [x] := by rw [List.take_add_one, hx]; rfl
    have gg := g.trans (lift g.mh a' g0)
    have ag := a'.same g0.hh
    have k0 : S.cut H'' D = some (.lst ws) := (lift g.mh a' g0).hh _ _ hw'
    have m0' : M0 D = none := (lift g.mh a' g0).keep m0 hw'
    have hni : n - i = (n - (i + 1)) + 1 := by omega
    refine ⟨wipe1, ?_⟩
    show te _ H'' _
    refine he xs gx x hxm M0 y (g1.mm.trans gg.mm) rx H'' (k + (n - (i + 1)) * c2) gg.mh (ag.le (by rw [hni, Nat.add_mul]; omega)) _ fun z M3 H3 g3 a3 ⟨b, gb, hb⟩ => ?_
    have m3 : M3 D = none := g3.keep m0' k0
    have k3 := g3.hh _ _ k0
    have n3 := on_of k3
    refine ⟨ws, of_cut k3, Nat.lt_of_lt_of_le (Nat.lt_of_le_of_lt hl hi) (Nat.le_trans hxn hz), M3, ys ++ [b], ws ++ [z], by rw [cut_upd n3]; exact (gg.trans g3).mut (a1.cutn hD) m3, a3.upd n3, m3, by rw [cut_upd n3, upd_same], by rw [List.length_append]; exact Nat.succ_le_succ hl, ?_, ?_⟩
    · rw [et]; exact pd_app hg (.cons gb .nil)
    · exact pd_app (hpd.mono ((lift g.mh a' g0).mm.trans g3.mm)) (.cons hb .nil)
  · rintro H' ⟨M', ys, ws, g, a', m0, hw', hl, hg, hpd⟩
    rw [List.take_length] at hg
    exact q D ws M' H' (g1.trans g) (a'.le (by omega)) (g1.hh.free (a1.cutn hD)) m0 hw' ⟨xs, ys, gx, hg, hpd⟩
end
/-! promises of defs that draw -/
section
variable {α β γ : Type} {S : Strm} {c : Nat} {σ : Sl} {M : Hp} {t1 t2 t3 : TE} {R1 : Rl α} {R2 : Rl β} {R3 : Rl γ} {i : Nat}
def spS1 (R1 : Rl α) (pre : α → Prop) (c : α → Nat) (R : α → Pr) : Sp := fun vs H Q _ => ∃ (S : Strm) (x : α) (M : Hp) (v : V) (k : Nat), vs = [.ref S.a, v] ∧ Same M (S.cut H) ∧ S.At (k + c x) H ∧ R1 x M v ∧ pre x ∧ ∀ u M' H', Gr M (S.cut H) M' (S.cut H') → S.At k H' → R x M' u → Q u H'
def slS1 (R1 : Rl α) (pre : α → Prop) (c : α → Nat) (R : α → Hp → List V → Prop) : Sp := fun vs H Q _ => ∃ (S : Strm) (x : α) (M : Hp) (v : V) (k : Nat), vs = [.ref S.a, v] ∧ Same M (S.cut H) ∧ S.At (k + c x) H ∧ R1 x M v ∧ pre x ∧
  ∀ p ws M' H', Gr M (S.cut H) M' (S.cut H') → S.At k H' → S.cut H p = none → M' p = none → S.cut H' p = some (.lst ws) → R x M' ws → Q (.ref p) H'
def slS2 (R1 : Rl α) (R2 : Rl β) (pre : α → β → Prop) (c : α → β → Nat) (R : α → β → Hp → List V → Prop) : Sp := fun vs H Q _ => ∃ (S : Strm) (x : α) (y : β) (M : Hp) (v w : V) (k : Nat), vs = [.ref S.a, v, w] ∧ Same M (S.cut H) ∧ S.At (k + c x y) H ∧ R1 x M v ∧ R2 y M w ∧ pre x y ∧
  ∀ p ws M' H', Gr M (S.cut H) M' (S.cut H') → S.At k H' → S.cut H p = none → M' p = none → S.cut H' p = some (.lst ws) → R x y M' ws → Q (.ref p) H'
theorem gs_call1 {pre : α → Prop} {cs : α → Nat} {R : α → Pr} {x : α} (hi : σ[i]? = some (some (.ref S.a))) (h1 : Gv t1 σ M (R1 x)) (hp : pre x) : GvS S (cs x) (tCall (spS1 R1 pre cs R) [] E0 (tCons (tVar i) (tCons t1 tNil))) σ M (R x) := fun H k mh a Q q =>
  ⟨_, hi, h1 H (mh.trans cut_same) _ fun v M1 H1 g1 p1 => ⟨S, x, M1, v, k, rfl, (lift mh a g1).mh, a.same g1.hh, p1, hp, fun u M' H' g a' r => q u M' H' ((lift mh a g1).trans g) a' r⟩⟩
theorem gls_call1 {pre : α → Prop} {cs : α → Nat} {R : α → Hp → List V → Prop} {x : α} (hi : σ[i]? = some (some (.ref S.a))) (h1 : Gv t1 σ M (R1 x)) (hp : pre x) : GvLS S (cs x) (tCall (slS1 R1 pre cs R) [] E0 (tCons (tVar i) (tCons t1 tNil))) σ M (R x) := fun H k mh a Q q =>
  ⟨_, hi, h1 H (mh.trans cut_same) _ fun v M1 H1 g1 p1 => ⟨S, x, M1, v, k, rfl, (lift mh a g1).mh, a.same g1.hh, p1, hp, fun p ws M' H' g a' h0 m0 hw r => q p ws M' H' ((lift mh a g1).trans g) a' ((lift mh a g1).hh.free h0) m0 hw r⟩⟩
theorem gls_call2 [Mon R1] [Mon R2] {pre : α → β → Prop} {cs : α → β → Nat} {R : α → β → Hp → List V → Prop} {x : α} {y : β} (hi : σ[i]? = some (some (.ref S.a))) (h1 : Gv t1 σ M (R1 x)) (h2 : Gv t2 σ M (R2 y)) (hp : pre x y) :
    GvLS S (cs x y) (tCall (slS2 R1 R2 pre cs R) [] E0 (tCons (tVar i) (tCons t1 (tCons t2 tNil)))) σ M (R x y) := fun H k mh a Q q =>
  ⟨_, hi, h1 H (mh.trans cut_same) _ fun v M1 H1 g1 p1 => h2.le g1.mm H1 g1.mh _ fun w M2 H2 g2 p2 => ⟨S, x, y, M2, v, w, k, rfl, (lift mh a (g1.trans g2)).mh, a.same (g1.trans g2).hh, Mon.mono g2.mm p1, p2, hp,
    fun p ws M' H' g a' h0 m0 hw r => q p ws M' H' ((lift mh a (g1.trans g2)).trans g) a' ((lift mh a (g1.trans g2)).hh.free h0) m0 hw r⟩⟩
end
end L3

set_option Elab.async false
set_option linter.all false
set_option maxRecDepth 100000
set_option maxHeartbeats 1000000
namespace L3
open PySem PySem.Spec PyProof.Rows L2
open Strm
namespace Strm
variable {S : Strm} {H H' M M' : Hp} {x p : Addr} {o : HO} {j k : Nat}
/-- the stream lent -/
def full (S : Strm) (M H : Hp) : Hp := fun x => if S.off x then H x else M x
theorem full_off (h : S.off x) : S.full M H x = H x := if_pos h
theorem full_on (h : ¬ S.off x) : S.full M H x = M x := if_neg h
theorem full_same (mh : Same M (S.cut H)) : Same (S.full M H) H := fun y u e => by
  by_cases h : S.off y
  · rw [full_off h] at e; exact e
  · rw [full_on h] at e; exact of_cut (mh y u e)
theorem mfull (mh : Same M (S.cut H)) : Same M (S.full M H) := fun y u e => by rw [full_on (on_of (mh y u e))]; exact e
theorem cut_updo (h : S.off p) : S.cut (upd H p o) = S.cut H := by
  funext y
  by_cases ho : S.off y
  · rw [cut_off ho, cut_off ho]
  · rw [cut_on ho, cut_on ho, upd_ne (fun z => ho (by rw [z]; exact h))]
theorem unfull (mh : Same M (S.cut H)) (g : Gr (S.full M H) H M' H') : Gr M (S.cut H) (S.cut M') (S.cut H') := by
  refine ⟨fun y u e => ?_, fun y u e => ?_, fun y u e => ?_, fun y u e => ?_, fun y ps e => by
    have h := g.nt y ps (of_cut e)
    rw [full_on (on_of e)] at h
    exact h⟩
  · have ny := on_of (mh y u e)
    rw [cut_on ny]; exact g.mm y u (by rw [full_on ny]; exact e)
  · rw [cut_on (on_of e)]; exact g.hh y u (of_cut e)
  · rw [cut_on (on_of e)]; exact g.mh y u (of_cut e)
  · have ny := on_of e
    rcases g.nw y u (of_cut e) with z | z | z
    · rw [full_on ny] at z; exact .inl z
    · exact .inr (.inl (by rw [cut_on ny]; exact z))
    · exact .inr (.inr z)
end Strm
def cellD (cells : List Int) (x n m : Int) : List PyData := [.list (cells.map .int), .int x, .int n, .int m]
structure StAt (S : Strm) (H : Hp) (cells : List Int) (x n m : Int) : Prop where
  ne : S.a ≠ S.b
  a : H S.a = some (.lst [.ref S.b, .int x, .int n, .int m])
  b : H S.b = some (.lst (cells.map V.int))
/-- one statement, then what follows it is proved once -/
theorem q_cut {t tz : TS} {D : Ends} {σ : Sl} {H : Hp} (J : Sl → Hp → Prop) (h : ∀ nx, (∀ σ H, J σ H → nx σ H) → t { D with nx := nx } σ H) (hz : ∀ σ H, J σ H → tz D σ H) : tSeq t tz D σ H := h _ hz
section
variable {K : PySem.W.Frag} {S : Strm} {c k : Nat} {σ : Sl} {M H H' : Hp} {te : TE} {D : Ends} {tz tb : TS} {cells : List Int} {x n m : Int}
theorem StAt.same (st : StAt S H cells x n m) (e : Same H H') : StAt S H' cells x n m := ⟨st.ne, e _ _ st.a, e _ _ st.b⟩
theorem pd_int {M : Hp} : ∀ (cs : List Int), Pd (Dd K) M (cs.map PyData.int) (cs.map V.int)
  | [] => .nil
  | c :: r => .cons (.int c) (pd_int r)
theorem dpa_pd {M : Hp} {ds : List PyData} {vs : List V} (h : Pd (Dd K) M ds vs) : DpAll K M vs ds := by
  induction h with
  | nil => exact .nil
  | cons q _ ih => exact .cons q ih
theorem StAt.sq (st : StAt S H cells x n m) : SqR K (Dd K) (cellD cells x n m) (S.full M H) (.ref S.a) :=
  .inl ⟨_, _, rfl, .inl (.inl (by rw [full_off (.inl rfl)]; exact st.a)), .cons (.lst (.inl (.inl (by rw [full_off (.inr rfl)]; exact st.b))) (dpa_pd (pd_int cells))) (.cons (.int x) (.cons (.int n) (.cons (.int m) .nil)))⟩
/-- stream[j] = e -/
theorem z_subE {j : Int} {jn : Nat} {z : Int} (hσ : σ[0]? = some (some (.ref S.a))) (mh : Same M (S.cut H)) (st : StAt S H cells x n m) (hj : ixN 4 j = some jn) (h : Gv te σ (S.full M H) (It' z))
    (q : ∀ M' H', Gr M (S.cut H) M' (S.cut H') → H' S.a = some (.lst ([V.ref S.b, .int x, .int n, .int m].set jn (.int z))) → H' S.b = some (.lst (cells.map V.int)) → D.nx σ H') :
    tAsg te (gSub (tVar 0) (tC (.int j)) rSetL) D σ H := h H (full_same mh) _ fun v M' H' g p => by
  have st' := st.same g.hh
  refine ⟨.ref S.a, hσ, S.a, _, j, jn, rfl, rfl, st'.a, hj, ?_⟩
  cases (show v = _ from p)
  refine q _ _ (by rw [cut_updo (.inl rfl)]; exact unfull mh g) upd_same ?_
  rw [upd_ne (Ne.symm st.ne)]
  exact st'.b
theorem z_sub {j : Int} {jn : Nat} {z : Int} (hσ : σ[0]? = some (some (.ref S.a))) (mh : Same M (S.cut H)) (st : StAt S H cells x n m) (hj : ixN 4 j = some jn) (h : Gv te σ (S.full M H) (It' z))
    (q : ∀ M' H', Gr M (S.cut H) M' (S.cut H') → H' S.a = some (.lst ([V.ref S.b, .int x, .int n, .int m].set jn (.int z))) → H' S.b = some (.lst (cells.map V.int)) → tz D σ H') :
    tSeq (tAsg te (gSub (tVar 0) (tC (.int j)) rSetL)) tz D σ H := z_subE (D := { D with nx := tz D }) hσ mh st hj h q
end
end L3

set_option Elab.async false
set_option linter.all false
set_option maxRecDepth 100000
set_option maxHeartbeats 1000000
namespace L3
open PySem PySem.Spec PyProof.Rows L2
open Strm
section
variable {σ : Sl} {M H : Hp} {te0 te : TE}
/-- [e for k in range(n)], n told while something of ours is lent -/
theorem lc_rngL {x : Addr} {o : HO} {n j : Nat} (h : Gv te0 σ (upd M x o) (It' (n : Int))) (hm : M x = none) (mh : Same M H) (hx : H x = some o) (hn : n ≤ 1000000000) (ho : ∀ xs, o ≠ HO.tup xs) {Q : VK} (Pv : Addr → Nat → Hp → Hp → Prop)
    (h0 : ∀ M1 H1 D, Gr M H M1 H1 → H1 D = none → Pv D 0 M1 (upd H1 D (.lst [])))
    (hs : ∀ D i M' H', i < n → Pv D i M' H' → te ((wipe σ [j]).set j (some (.int (i : Nat)))) H' fun z H3 => ∃ acc, H3 D = some (.lst acc) ∧ acc.length < sizeLine ∧ ∃ M3, Pv D (i + 1) M3 (upd H3 D (.lst (acc ++ [z]))))
    (hd : ∀ D M' H', Pv D n M' H' → Q (.ref D) H') : tLc (iRng1 (tCons te0 tNil)) (gName j) tYes te [j] σ H Q := by
  refine h.lend hm mh hx ho fun v M1 H1 g1 _ _ hv => ?_
  cases (show v = _ from hv)
  refine ⟨(n : Int), rfl, by omega, by omega, fun D hD => ?_⟩
  have w := walk_range (lo := 0) (n := (n : Int).toNat)
  refine lc_it w (fun i H' => ∃ M', Pv D i M' H') ⟨M1, h0 M1 H1 D g1 hD⟩ (fun _ _ _ _ => trivial) ?_ ?_
  · rintro i y H' H'' hi ⟨M', p⟩ ⟨rfl, rfl⟩
    rw [Int.toNat_natCast] at hi
    have e0 : (fun i : Nat => V.int (0 + (i : Int))) i = V.int (i : Nat) := by show V.int _ = V.int _; rw [Int.zero_add]
    rw [e0]
    exact ⟨wipe1, hs D i M' _ hi p⟩
  · rintro H' ⟨M', p⟩
    rw [Int.toNat_natCast] at p
    exact hd D M' H' p
end
end L3
namespace L3
open PySem PySem.Spec PyProof.Rows L2
open Strm
section
variable {K : PySem.W.Frag} {S : Strm} {c k : Nat} {σ : Sl} {M H : Hp} {te ta tb : TE} {P : Pr} {α β : Type} {R : Rl α} {T : Rl β} {D : Ends} {tz : TS} {g : TG} {U : α → Hp → Sl → Sl → Prop}
theorem z_asgT {x : α} (mh : Same M (S.cut H)) (a : S.At (k + c) H) (h : GvS S c te σ M (R x)) (htg : TgOk g R U) (q : ∀ σ' M' H', Gr M (S.cut H) M' (S.cut H') → S.At k H' → U x M' σ σ' → tz D σ' H') : tSeq (tAsg te g) tz D σ H :=
  h H k mh a _ fun v M' H' g' a' r => htg x M' v H' σ _ r (g'.mh.trans cut_same) fun σ' u => q σ' M' H' g' a' u
theorem gv_pair [Mon R] [Mon T] {x : α} {y : β} (h1 : Gv ta σ M (R x)) (h2 : Gv tb σ M (T y)) : Gv (tTup (tCons ta (tCons tb tNil))) σ M (PrR K R T (x, y)) := fun H mh Q q =>
  h1 H mh _ fun v M1 H1 g1 p1 => h2.le g1.mm H1 g1.mh _ fun w M2 H2 g2 p2 => ⟨by show 2 ≤ sizeLine; decide, fun p np => q _ _ _ ((g1.trans g2).trans (.new g2.mh np)) ⟨p, _, _, rfl, .inl (.inl upd_same), Mon.mono (g2.mm.trans (same_new (g2.mh.free np))) p1, Mon.mono (same_new (g2.mh.free np)) p2⟩⟩
/-- constants in a row -/
def tCs : List V → TA
  | [] => tNil
  | v :: r => tCons (tC v) (tCs r)
theorem ga_cs : ∀ vs : List V, GvA (tCs vs) σ M fun _ ws => ws = vs
  | [] => ga_nil
  | v :: r => fun H mh Q q => ga_cs r H mh _ fun ws M' H' g e => q _ M' H' g (by rw [e])
theorem gl_cs (vs : List V) (hz : vs.length ≤ 1000) : GvL (tLst (tCs vs)) σ M fun _ ws => ws = vs := gl_lst (ga_cs vs) fun _ ws e => by rw [e]; exact Nat.le_trans hz (by decide)
theorem gv_strs (xs : List Str) (hz : xs.length ≤ 1000) : Gv (tLst (tCs (xs.map V.str))) σ M (LiR Tx xs) := (gl_cs _ (by rw [List.length_map]; exact hz)).gv fun M vs p e m => by subst e; exact ⟨p, _, rfl, upd_same, pd_of_tx xs⟩
theorem pd_of_it {M : Hp} : ∀ (xs : List Int), Pd It' M xs (xs.map V.int)
  | [] => .nil
  | _ :: r => .cons rfl (pd_of_it r)
theorem gv_ints (xs : List Int) (hz : xs.length ≤ 1000) : Gv (tLst (tCs (xs.map V.int))) σ M (LiR It' xs) := (gl_cs _ (by rw [List.length_map]; exact hz)).gv fun M vs p e m => by subst e; exact ⟨p, _, rfl, upd_same, pd_of_it xs⟩
/-- sep.join(a new list of texts) -/
theorem gs_join {good : List Str → Prop} {x : Str} (h : GvLS S c te σ M fun M ws => ∃ ys, good ys ∧ Pd Tx M ys ws) (hz : ∀ ys, good ys → (ys.map (·.length)).sum + ys.length * x.length ≤ 16777216) :
    GvS S c (tM1 (fun x xs H Q => ∃ a p, ∃ ys : List Str, x = .str a ∧ xs = [.ref p] ∧ (SqL K H p (ys.map V.str) ∨ SqT K H p (ys.map V.str)) ∧ (ys.map (·.length)).sum + ys.length * a.length ≤ 16777216 ∧ Q (.str (Txt.join a ys)) H) (tC (.str x)) te) σ M (Ex (fun ys => Tx (Txt.join x ys)) good) := fun H k mh a Q q =>
  ⟨⟨x, rfl⟩, h H k mh a _ fun p vs M' H' g a' h0 m0 hw ⟨ys, gy, hp⟩ => ⟨x, p, ys, rfl, rfl, .inl (.inl (.inl (by rw [← pd_tx hp]; exact of_cut hw))), hz ys gy, q _ M' H' g a' ⟨ys, gy, rfl⟩⟩⟩
end
end L3
namespace L3
open PySem PySem.Spec PyProof.Rows L2
open Strm
section
variable {K : PySem.W.Frag} {S : Strm} {c k : Nat} {σ : Sl} {M H : Hp} {te : TE} {P : Pr} {D : Ends} {tz : TS}
/-- xs.append(e), e asks xs itself -/
theorem z_appL {i : Nat} {p : Addr} {vs : List V} [Stb P] (mh : Same M (S.cut H)) (a : S.At (k + c) H) (hi : σ[i]? = some (some (.ref p))) (hm : M p = none) (hp : S.cut H p = some (.lst vs)) (hz : vs.length < sizeLine) (h : GvS S c te σ (upd M p (.lst vs)) P)
    (q : ∀ v M' H', Gr M (S.cut H) M' (S.cut H') → S.At k H' → P M' v → D.nx σ (upd H' p (.lst (vs ++ [v])))) : tDrop (tBM K "list" rAppend (tVar i) (tCons te tNil)) D σ H :=
  ⟨.ref p, hi, .inl ⟨rfl, _, .inl (.inl (of_cut hp))⟩, h.lend hm mh a hp ls_nt fun v M' H' g a' r => ⟨p, vs, v, rfl, rfl, of_cut (g.hh _ _ hp), hz, q v M' H' g a' r⟩⟩
end
/-- a list of ours behind the stream -/
structure OwS (S : Strm) (H0 M H : Hp) (p : Addr) (vs : List V) : Prop where
  o : Own (S.cut H0) M (S.cut H) p vs
theorem OwS.put {S : Strm} {H0 M H : Hp} {p : Addr} {vs ws : List V} (o : OwS S H0 M H p vs) : OwS S H0 M (upd H p (.lst ws)) p ws := ⟨by rw [cut_put o.o.h]; exact o.o.put⟩
theorem OwS.step {S : Strm} {H0 M H M' H' : Hp} {p : Addr} {vs : List V} (o : OwS S H0 M H p vs) (g : Gr M (S.cut H) M' (S.cut H')) : OwS S H0 M' H' p vs := ⟨o.o.step g⟩
theorem OwS.mut {S : Strm} {M0 H0 M H : Hp} {p : Addr} {vs ws : List V} (o : OwS S H0 M H p vs) (g : Gr M0 (S.cut H0) M (S.cut H)) : Gr M0 (S.cut H0) M (S.cut (upd H p (.lst ws))) := by rw [cut_put o.o.h]; exact g.mut o.o.h0 o.o.m
theorem OwS.on {S : Strm} {H0 M H : Hp} {p : Addr} {vs : List V} (o : OwS S H0 M H p vs) : ¬ S.off p := on_of o.o.h
end L3
namespace L3
open PySem PySem.Spec PyProof.Rows L2
open Strm
def cutL {α : Type} (xs : List α) (lo hi : Option Int) : List α := (xs.drop (HT.sIx xs.length 0 lo)).take (HT.sIx xs.length xs.length hi - HT.sIx xs.length 0 lo)
theorem pd_cut {α : Type} {R : Rl α} {M : Hp} {xs : List α} {vs : List V} {lo hi : Option Int} (h : Pd R M xs vs) : Pd R M (cutL xs lo hi) (cutV vs lo hi) := by
  have e : cutV vs lo hi = cutL vs lo hi := rfl
  rw [e]
  unfold cutL
  rw [← h.length]
  exact pd_take _ (pd_drop _ h)
theorem cut_sub {α : Type} (xs : List α) (lo hi : Option Int) : (cutL xs lo hi).Sublist xs := (List.take_sublist _ _).trans (List.drop_sublist _ _)
section
variable {K : PySem.W.Frag} {S : Strm} {c1 c2 : Nat} {σ : Sl} {M : Hp} {te th : TE} {α : Type} {R : Rl α}
theorem gl_cut [Mon R] {tl th : TO} {xs : List α} {lo hi : Option Int} (h : Gv te σ M (LstR K R xs)) (hl : ∀ (H : Hp) (Q : Option Int → Hp → Prop), Q lo H → tl σ H Q) (hh : ∀ (H : Hp) (Q : Option Int → Hp → Prop), Q hi H → th σ H Q) :
    GvL (tSl (rSlX K) te tl th) σ M fun M ws => Pd R M (cutL xs lo hi) ws := fun H mh Q q =>
  h H mh _ fun v M1 H1 g1 ⟨a, vs, e, hs, hp⟩ => hl H1 _ (hh H1 _ (.inr (.inl ⟨a, vs, e, sl_mono g1.mh hs, fun p np => q p _ M1 _ (g1.trans (.own g1.mh np)) (g1.hh.free np) (g1.mh.free np) upd_same (pd_cut hp)⟩)))
theorem gls_cut [Mon R] {good : List α → Prop} (h : GvS S c1 te σ M (Ex (LiR R) good)) (hh : GvS S c2 th σ M (Ex It' fun _ => True)) :
    GvLS S (c1 + c2) (tSl (rSlX K) te tNoPart (tPart th)) σ M fun M ws => ∃ xs i, good xs ∧ Pd R M (cutL xs none (some i)) ws := fun H k mh at_ Q q =>
  h H (k + c2) mh (at_.le (by omega)) _ fun v M1 H1 g1 a1 ⟨xs, gx, a, vs, e, hs, hp⟩ => hh.le g1.mm H1 k g1.mh a1 _ fun w M2 H2 g2 a2 ⟨i, _, ew⟩ =>
    ⟨i, ew, .inr (.inl ⟨a, vs, e, .inl (.inl (of_cut (g2.mh _ _ (g2.mm _ _ hs)))), fun p np => by
      have n2 := a2.fresh np
      exact q p _ M2 _ ((g1.trans g2).trans (by rw [cut_upd n2]; exact .own g2.mh (a2.cutn np))) (a2.upd n2) ((g1.trans g2).hh.free (a2.cutn np)) (g2.mh.free (a2.cutn np)) (by rw [cut_upd n2, upd_same]) ⟨xs, i, gx, (pd_cut hp).mono g2.mm⟩⟩)⟩
end
end L3
namespace L3
open PySem PySem.Spec PyProof.Rows L2
section
variable {K : PySem.W.Frag} {σ : Sl} {M : Hp} {ta tb tc : TE}
/-- a written tuple of three texts -/
theorem gv_tup3 {x y z : Str} (h1 : Gv ta σ M (Tx x)) (h2 : Gv tb σ M (Tx y)) (h3 : Gv tc σ M (Tx z)) : Gv (tTup (tCons ta (tCons tb (tCons tc tNil)))) σ M (TupR K Tx [x, y, z]) := fun H mh Q q =>
  h1 H mh _ fun v M1 H1 g1 p1 => h2.le g1.mm H1 g1.mh _ fun w M2 H2 g2 p2 => h3.le (g1.mm.trans g2.mm) H2 g2.mh _ fun u M3 H3 g3 p3 => ⟨by show 3 ≤ sizeLine; decide, fun p np => q _ _ _ (((g1.trans g2).trans g3).trans (.new g3.mh np)) ⟨p, _, rfl, .inl (.inl upd_same), .cons p1 (.cons p2 (.cons p3 .nil))⟩⟩
end
end L3

set_option Elab.async false
set_option linter.all false
set_option maxRecDepth 100000
set_option maxHeartbeats 1000000
namespace L3
open PySem PySem.Spec PyProof.Rows L2
open Strm
/-! instances made by name -/
def Mak (P : Program) (w : World) (K : PySem.W.Frag) (mg : Str → Option Value) (base : Heap) (k : Nat) (x : Str) (C : Addr) (ps : List Str) (sp : Sp) : Prop :=
  ∃ f fd, Mk K C f ∧ FnOk P w K mg base CX0 k f fd ps sp ∧ mg x = some (.ref C) ∧ Binds K fd ps []
theorem pe_mk {X : Cx} {k : Nat} {x : Str} {C : Addr} {ps : List Str} {sp : Sp} {e : Expr} {es : List Expr} {t : TA} {p pos : Pos} (c : Mak X.prog X.w X.K X.mg X.base k x C ps sp) (hr : Room (k + 1) X.A) (ha : PA X (e :: es) t) (hg : Gl X x := by rfl)
    (hdb : (x == ("__debug__" : Str)) = false := by decide) (he : starEach (e :: es) X.env = (false, eval e X.env) :: starEach es X.env := by rfl) (hpl : (backTo pos (starEach es X.env)).any (·.1) = false := by rfl) :
    PE X (.Call (.Name x p) (e :: es) [] pos) (tMake C sp [] E0 t) :=
  let ⟨_, _, M, F, m, b⟩ := c
  pe_make M F hr hg m b .nil pass0 ha hdb he hpl
theorem cut_take {α : Type} (xs : List α) (n : Nat) : cutL xs none (some (n : Int)) = xs.take n := by
  unfold cutL
  rw [HT.sIx_none, HT.sIx_nat]
  simp only [List.drop_zero, Nat.sub_zero]
  by_cases h : n ≤ xs.length
  · rw [Nat.min_eq_left h]
  · rw [Nat.min_eq_right (by omega), List.take_length, List.take_of_length_le (by omega)]
theorem cut_drop {α : Type} (xs : List α) (n : Nat) : cutL xs (some (n : Int)) none = xs.drop n := by
  unfold cutL
  rw [HT.sIx_none, HT.sIx_nat]
  by_cases h : n ≤ xs.length
  · rw [Nat.min_eq_left h, List.take_of_length_le (by rw [List.length_drop]; omega)]
  · rw [Nat.min_eq_right (by omega), List.drop_length, List.drop_of_length_le (by omega)]; simp
/-- three keys -/
theorem merge3 {a b c : Str} {u v w : V} (h1 : a ≠ b) (h2 : a ≠ c) (h3 : b ≠ c) : mergeK [] [(Sum.inr a, u), (Sum.inr b, v), (Sum.inr c, w)] = [(Sum.inr a, u), (Sum.inr b, v), (Sum.inr c, w)] := by
  have e1 : ¬ (Sum.inr a : Key) = Sum.inr b := fun z => h1 (Sum.inr.inj z)
  have e2 : ¬ (Sum.inr a : Key) = Sum.inr c := fun z => h2 (Sum.inr.inj z)
  have e3 : ¬ (Sum.inr b : Key) = Sum.inr c := fun z => h3 (Sum.inr.inj z)
  simp [mergeK, putK, e1, e2, e3]
section
variable {σ : Sl} {M : Hp} {td : TE} {P : Pr}
theorem gv_dget {R : Pr} {k : Str} (h : Gv td σ M P) (hr : ∀ M v, P M v → ∃ a kvs u, v = .ref a ∧ M a = some (.dK kvs) ∧ valV kvs (Sum.inr k : Key) = some u ∧ R M u) : Gv (tDGet td (tC (.str k))) σ M R := fun H mh Q q => h H mh _ fun v M1 H1 g1 p1 => by
  obtain ⟨a, kvs, u, rfl, ha, hu, r⟩ := hr M1 v p1
  exact ⟨a, u, rfl, .inl ⟨kvs, Sum.inr k, .inl (g1.mh _ _ ha), rfl, hu.symm⟩, q u M1 H1 g1 r⟩
end
end L3
namespace L3
open PySem PySem.Spec PyProof.Rows L2
open Strm
section
variable {K : PySem.W.Frag} {S : Strm} {c k : Nat} {σ : Sl} {M H : Hp} {te t1 t2 t3 : TE} {P : Pr} {tr : TA} {QA : List V → Hp → Prop}
theorem z_V (mh : Same M (S.cut H)) (a : S.At (k + c) H) (h : GvS S c te σ M P) (q : ∀ v M' H', Gr M (S.cut H) M' (S.cut H') → S.At k H' → P M' v → tr σ H' fun vs H2 => QA (v :: vs) H2) : tCons te tr σ H QA := h H k mh a _ q
def Dc3 (a b c : Str) (R1 R2 R3 : Pr) : Pr := fun M v => ∃ p u1 u2 u3, v = .ref p ∧ M p = some (.dK [(Sum.inr a, u1), (Sum.inr b, u2), (Sum.inr c, u3)]) ∧ R1 M u1 ∧ R2 M u2 ∧ R3 M u3
/-- a written dict with three texts for keys -/
theorem gv_disp3 {a b c : Str} {R1 R2 R3 : Pr} [Mono R1] [Mono R2] [Mono R3] (h1 : Gv t1 σ M R1) (h2 : Gv t2 σ M R2) (h3 : Gv t3 σ M R3) (n1 : a ≠ b) (n2 : a ≠ c) (n3 : b ≠ c) :
    Gv (tDisp [(tC (.str a), t1), (tC (.str b), t2), (tC (.str c), t3)]) σ M (Dc3 a b c R1 R2 R3) := fun H mh Q q p np => by
  have g0 := Gr.own (o := .dK []) mh np
  have m0 : M p = none := mh.free np
  have p0 : (upd H p (.dK [])) p = some (.dK []) := upd_same
  refine h1 _ g0.mh _ fun u1 M1 H1 g1 r1 => ?_
  refine h2.le g1.mm H1 g1.mh _ fun u2 M2 H2 g2 r2 => ?_
  refine h3.le (g1.mm.trans g2.mm) H2 g2.mh _ fun u3 M3 H3 g3 r3 => ?_
  have G := (g1.trans g2).trans g3
  have m3 : M3 p = none := G.keep m0 p0
  have e3 := same_new (o := .dK [(Sum.inr a, u1), (Sum.inr b, u2), (Sum.inr c, u3)]) m3
  refine ⟨G.hh _ _ p0, [(Sum.inr a, u1), (Sum.inr b, u2), (Sum.inr c, u3)], rfl, by show 3 ≤ 15; decide, ?_⟩
  rw [merge3 n1 n2 n3]
  exact q _ _ _ (((g0.trans G).mut np m3).freeze np m3 upd_same) ⟨p, u1, u2, u3, rfl, upd_same, Mono.mono ((g2.mm.trans g3.mm).trans e3) r1, Mono.mono (g3.mm.trans e3) r2, Mono.mono e3 r3⟩
end
end L3
namespace L3
open PySem PySem.Spec PyProof.Rows L2
/-- a, b = x, y through a real tuple -/
def Fin2 (K : PySem.W.Frag) (i j : Nat) (tz : TS) (D : Ends) (σ : Sl) : List V → Hp → Prop := fun vs H1 => vs.length ≤ sizeLine ∧ ∀ p, H1 p = none → gTup K 2 (gCons (gName i) (gCons (gName j) gNil)) (.ref p) σ (upd H1 p (.tup vs)) fun σ' H' => tz D σ' H'
theorem q_asg2 {K : PySem.W.Frag} {i j : Nat} {tz : TS} {D : Ends} {σ : Sl} {H : Hp} {ta : TA} (h : ta σ H (Fin2 K i j tz D σ)) : tSeq (tAsg (tTup ta) (gTup K 2 (gCons (gName i) (gCons (gName j) gNil)))) tz D σ H := h
theorem fin2 {K : PySem.W.Frag} {i j : Nat} {tz : TS} {D : Ends} {σ : Sl} {H1 : Hp} {u v : V} (h : ∀ p, H1 p = none → tz D ((σ.set i (some u)).set j (some v)) (upd H1 p (.tup [u, v]))) : Fin2 K i j tz D σ [u, v] H1 :=
  ⟨by show 2 ≤ sizeLine; decide, fun p np => ⟨p, _, rfl, .inl (.inl upd_same), rfl, u, _, rfl, v, _, rfl, rfl, h p np⟩⟩
end L3
namespace L3
open PySem PySem.Spec PyProof.Rows L2
/-- a new list while a list of ours is lent -/
theorem q_asgLL {i : Nat} {σ : Sl} {M H : Hp} {te : TE} {D : Ends} {tz : TS} {x : Addr} {us : List V} {P : Hp → List V → Prop} (hP : ∀ M ws, M x = some (.lst us) → P M ws → P (del M x) ws) (mh : Same M H) (hm : M x = none) (hx : H x = some (.lst us)) (h : GvL te σ (upd M x (.lst us)) P)
    (k : ∀ p vs M' H', Gr M H M' H' → H p = none → M' p = none → H' p = some (.lst vs) → P M' vs → tz D (σ.set i (some (.ref p))) H') : tSeq (tAsg te (gName i)) tz D σ H :=
  h H (same_lent mh hx) _ fun p vs M' H' g h0 m0 hw r => k p vs _ H' (g.back hm) h0 (by unfold del; split; rfl; exact m0) hw (hP M' vs (g.mm x _ upd_same) r)
end L3
namespace L3
open PySem PySem.Spec PyProof.Rows L2
def CalG (P : Program) (w : World) (K : PySem.W.Frag) (mg : Str → Option Value) (base : Heap) (k : Nat) (x : Str) (ps : List Str) (sp : Sp) : Prop :=
  ∃ f fd, FnG P w K mg base CX0 k f fd ps sp ∧ mg x = some (.ref f) ∧ PySem.W.keepIn K (.ref f) = true ∧ Binds K fd ps []
theorem pe_fG {X : Cx} {k : Nat} {x : Str} {ps : List Str} {sp : Sp} {e : Expr} {es : List Expr} {t : TA} {p pos : Pos} (c : CalG X.prog X.w X.K X.mg X.base k x ps sp) (hgu : X.A.guards = some []) (hr : Room k X.A) (ha : PA X (e :: es) t) (hg : Gl X x := by rfl)
    (hdb : (x == ("__debug__" : Str)) = false := by decide) (he : starEach (e :: es) X.env = (false, eval e X.env) :: starEach es X.env := by rfl) (hpl : (backTo pos (starEach es X.env)).any (·.1) = false := by rfl) :
    PE X (.Call (.Name x p) (e :: es) [] pos) (tCall sp [] E0 t) :=
  let ⟨_, _, G, m, kp, b⟩ := c
  pe_callG G hgu hr hg m kp b .nil pass0 ha hdb he hpl
end L3

set_option Elab.async false
set_option linter.all false
set_option maxRecDepth 100000
set_option maxHeartbeats 1000000
namespace L3
open PySem PySem.Spec PyProof.Rows L2
open Strm
section
variable {K : PySem.W.Frag} {S : Strm} {c k : Nat} {σ : Sl} {M H : Hp} {te t1 t2 t3 : TE} {ta tr : TA} {tt : L2.TT} {tx tz : TS} {P : Pr} {D : Ends} {α β γ : Type} {R : Rl α} {R1 : Rl α} {R2 : Rl β} {R3 : Rl γ} {QA : List V → Hp → Prop} {E : XK}
theorem q_asgS {i : Nat} (h : te σ H fun v H1 => tz D (σ.set i (some v)) H1) : tSeq (tAsg te (gName i)) tz D σ H := h
theorem lst_in {Q : VK} (h : ta σ H fun vs H1 => vs.length ≤ sizeLine ∧ ∀ p, H1 p = none → Q (.ref p) (upd H1 p (.lst vs))) : tLst ta σ H Q := h
theorem call_in {Q : VK} {sp : Sp} (h : ta σ H fun vs H1 => sp (vs ++ []) H1 Q E) : tCall sp [] E ta σ H Q := h
theorem z_ifE {B : Bool → Prop} (mh : Same M (S.cut H)) (a : S.At (k + c) H) (h : GvTS S c tt σ M B) (h1 : B true → ∀ M' H', Gr M (S.cut H) M' (S.cut H') → S.At k H' → tx D σ H') (h2 : B false → ∀ M' H', Gr M (S.cut H) M' (S.cut H') → S.At k H' → D.nx σ H') :
    tIfS tt tx tNext D σ H := h H k mh a _ fun b M' H' g a' p => by
  cases b with
  | true => exact h1 p M' H' g a'
  | false => exact h2 p M' H' g a'
/-- list + list -/
theorem gl_addL [Mon R] {xs ys : List α} (h1 : Gv t1 σ M (LiR R xs)) (h2 : Gv t2 σ M (LiR R ys)) (hz : xs.length + ys.length ≤ sizeLine) : GvL (tOp (rAddA K) t1 t2) σ M fun M ws => Pd R M (xs ++ ys) ws := fun H mh Q q =>
  h1 H mh _ fun v M1 H1 g1 p1 => h2.le g1.mm H1 g1.mh _ fun w M2 H2 g2 p2 => by
    obtain ⟨a, us, e1, r1, d1⟩ := (Mon.mono g2.mm p1 : LiR R xs M2 v)
    obtain ⟨b, ws, e2, r2, d2⟩ := p2
    exact .inr (.inr (.inr ⟨a, b, us, ws, e1, e2, g2.mh _ _ r1, g2.mh _ _ r2, by rw [← d1.length, ← d2.length]; exact hz, fun p np => q p _ M2 _ ((g1.trans g2).trans (.own g2.mh np)) ((g1.trans g2).hh.free np) (g2.mh.free np) upd_same (pd_app d1 d2)⟩))
/-- an argument, a new list, while a list of ours is lent -/
theorem a_LL {x : Addr} {us : List V} {P : Hp → List V → Prop} (hP : ∀ M ws, M x = some (.lst us) → P M ws → P (del M x) ws) (mh : Same M H) (hm : M x = none) (hx : H x = some (.lst us)) (h : GvL te σ (upd M x (.lst us)) P)
    (k : ∀ p vs M' H', Gr M H M' H' → H p = none → M' p = none → H' p = some (.lst vs) → P M' vs → tr σ H' fun ws H2 => QA (.ref p :: ws) H2) : tCons te tr σ H QA :=
  h H (same_lent mh hx) _ fun p vs M' H' g h0 m0 hw r => k p vs _ H' (g.back hm) h0 (by unfold del; split; rfl; exact m0) hw (hP M' vs (g.mm x _ upd_same) r)
/-- a plain def whose last argument draws -/
theorem gs_sp3 [Mon R1] [Mon R2] {pre : α → β → γ → Prop} {Rr : α → β → γ → Pr} {x : α} {y : β} {good : γ → Prop} (h1 : Gv t1 σ M (R1 x)) (h2 : Gv t2 σ M (R2 y)) (h3 : GvS S c t3 σ M (Ex R3 good)) [Mon R3] (hp : ∀ z, good z → pre x y z) :
    GvS S c (tCall (sp3 R1 R2 R3 pre Rr) [] E (tCons t1 (tCons t2 (tCons t3 tNil)))) σ M (fun M v => ∃ z, good z ∧ Rr x y z M v) := fun H k mh a Q q =>
  h1 H (mh.trans cut_same) _ fun v M1 H1 g1 p1 => h2.le g1.mm H1 g1.mh _ fun w M2 H2 g2 p2 => by
    have g12 := lift mh a (g1.trans g2)
    have a2 := a.same (g1.trans g2).hh
    exact h3.le g12.mm H2 k g12.mh a2 _ fun u M3 H3 g3 a3 ⟨z, gz, pz⟩ => ⟨x, y, z, M3, v, w, u, rfl, g3.mh.trans cut_same, Mon.mono (g2.mm.trans g3.mm) p1, Mon.mono g3.mm p2, pz, hp z gz, fun r M' H' g hr => q r M' H' ((g12.trans g3).trans (lift g3.mh a3 g)) (a3.same g.hh) ⟨z, gz, hr⟩⟩
/-- .. whose first argument draws -/
theorem gs_sp2 [Mon R1] [Mon R2] {pre : α → β → Prop} {Rr : α → β → Pr} {y : β} {good : α → Prop} (h1 : GvS S c t1 σ M (Ex R1 good)) (h2 : Gv t2 σ M (R2 y)) (hp : ∀ x, good x → pre x y) :
    GvS S c (tCall (sp2 R1 R2 pre Rr) [] E (tCons t1 (tCons t2 tNil))) σ M (fun M v => ∃ x, good x ∧ Rr x y M v) := fun H k mh a Q q =>
  h1 H k mh a _ fun v M1 H1 g1 a1 ⟨x, gx, px⟩ => h2.le g1.mm H1 (g1.mh.trans cut_same) _ fun w M2 H2 g2 p2 =>
    ⟨x, y, M2, v, w, rfl, g2.mh, Mon.mono g2.mm px, p2, hp x gx, fun r M' H' g hr => q r M' H' (g1.trans (lift g1.mh a1 (g2.trans g))) (a1.same (g2.trans g).hh) ⟨x, gx, hr⟩⟩
end
section
variable {S : Strm} {c k : Nat} {σ : Sl} {M H : Hp} {α : Type} {R : Rl α} {D : Ends}
/-- for over anything, drawing, at the end of a block -/
theorem z_forE {wi : TI} {g : TG} {tbd : TS} {U : α → Hp → Sl → Sl → Prop} {G : List α → Prop} (mh : Same M (S.cut H)) (a : S.At (k + c) H) (hsrc : GvIS S c wi σ M G R) (htg : TgOk g R U) (Pv : List α → Hp → Nat → Sl → Hp → Hp → Prop)
    (h0 : ∀ xs M1 H1, G xs → Gr M (S.cut H) M1 (S.cut H1) → S.At k H1 → Pv xs M1 0 σ M1 H1) (hk : ∀ xs M1 i σ' M' H', Pv xs M1 i σ' M' H' → Same M1 M' ∧ Same M' (S.cut H') ∧ S.At 0 H')
    (hs : ∀ xs M1 i x σ' M' H' M2 H2 σ2, G xs → Same M M1 → xs[i]? = some x → Pv xs M1 i σ' M' H' → Gr M' H' M2 H2 → U x M2 σ' σ2 →
      tbd { D with nx := fun σ2 H2 => ∃ M2, Pv xs M1 (i + 1) σ2 M2 H2, ct := fun σ2 H2 => ∃ M2, Pv xs M1 (i + 1) σ2 M2 H2, bk := D.nx } σ2 H2)
    (hd : ∀ xs M1 σ' M' H', G xs → Same M M1 → Pv xs M1 xs.length σ' M' H' → D.nx σ' H') : tFor wi g tbd D σ H := by
  refine hsrc H k mh a _ fun J xs M1 H1 g1 a1 gx ⟨GG, Y, w, hG, hY⟩ => ?_
  refine for_it w (fun i σ' H' => ∃ M', Pv xs M1 i σ' M' H') ⟨M1, h0 xs M1 H1 gx g1 a1⟩ (fun i σ' H' _ ⟨M', p⟩ => hG M' H' (hk _ _ _ _ _ _ p).1 ((hk _ _ _ _ _ _ p).2.1.trans cut_same)) ?_ ?_
  · rintro i y σ' H' H'' hi ⟨M', p⟩ hy
    have km := hk _ _ _ _ _ _ p
    obtain ⟨x, M2, hx, g2, rx⟩ := hY i M' H' y H'' km.1 (km.2.1.trans cut_same) hi hy
    exact htg x M2 y H'' σ' _ rx g2.mh fun σ2 hU => hs xs M1 i x σ' M' H' M2 H'' σ2 gx g1.mm hx p g2 hU
  · rintro σ' H' ⟨M', p⟩
    exact hd xs M1 σ' M' H' gx g1.mm p
end
theorem pd_itv {M : Hp} {xs : List Int} {vs : List V} (h : Pd It' M xs vs) : vs = xs.map V.int := by
  induction h with
  | nil => rfl
  | cons q _ ih => rw [ih, show _ = V.int _ from q]; rfl
theorem inj_bl : Inj PyData.bool := fun a b => by cases a <;> cases b <;> simp [PyData.eqv]
end L3

set_option Elab.async false
set_option linter.all false
set_option maxRecDepth 100000
set_option maxHeartbeats 1000000
namespace L3
open PySem PySem.Spec PyProof.Rows L2
open Strm
/-- a walk whose turns are told by one statement -/
theorem turns_of {J : It} {n : Nat} {G : Hp → Prop} {Y : Nat → Hp → V → Hp → Prop} (w : Walk J n G Y) {H1 : Hp} {fin : Hp → Prop} {B : V → Hp → (Hp → Prop) → Prop} (Pv : Nat → Hp → Prop) (h0 : Pv 0 H1) (hG : ∀ i H, i ≤ n → Pv i H → G H)
    (hs : ∀ i x H H', i < n → Pv i H → Y i H x H' → B x H' (Pv (i + 1))) (hd : ∀ H, Pv n H → fin H) :
    ∃ W : Nat → Nat → Hp → Prop, (∃ m, W 0 m H1) ∧ ∀ i m H, W i m H → (J.stop i H ∧ fin H) ∨ (J.go i H ∧ ∃ N : Hp → Prop, (∀ H', N H' → ∃ m', m' < m ∧ W (i + 1) m' H') ∧ ∀ x H', J.yld i H x H' → B x H' N) := by
  refine ⟨fun i m H => i + m = n ∧ Pv i H, ⟨n, Nat.zero_add n, h0⟩, fun i m H ⟨e, p⟩ => ?_⟩
  cases m with
  | zero =>
    have e' : i = n := e
    subst e'
    exact .inl ⟨w.stops H (hG _ H (Nat.le_refl _) p), hd H p⟩
  | succ m =>
    have hi : i < n := by omega
    have g := hG i H (Nat.le_of_lt hi) p
    exact .inr ⟨w.goes i H hi g, Pv (i + 1), fun H' p' => ⟨m, Nat.lt_succ_self m, by omega, p'⟩, fun x H' y => hs i x H H' hi p (w.yields i H x H' hi g y)⟩
section
variable {K : PySem.W.Frag} {σ : Sl} {M : Hp} {ta tb te ts : TE} {tt : L2.TT} {α β γ : Type} {R : Rl α} {R1 : Rl β} {T : Rl γ} {wi wi1 : TI} {g : TG}
theorem wipe2a {i j : Nat} {u : V} : wipe ((wipe σ [i, j]).set i (some u)) [i, j] = wipe σ [i, j] := by
  show ((((σ.set j none).set i none).set i (some u)).set j none).set i none = (σ.set j none).set i none
  rw [List.set_set]
  by_cases h : i = j
  · subst h; simp
  · rw [List.set_comm _ _ h, List.set_set, List.set_set]
theorem take_flat {α β : Type} {xs : List α} {i : Nat} {x : α} (f : α → List β) (h : xs[i]? = some x) : (xs.take (i + 1)).flatMap f = (xs.take i).flatMap f ++ f x := by
  rw [List.take_add_one, h]
  simp
/-- [e for x in xs for y in ys] -/
theorem gl_two [Mon T] {i j : Nat} {xs : List α} {ys : α → List β} {f : α → β → γ} (hsrc : GvI wi σ M xs R) (hz : (xs.flatMap ys).length ≤ sizeLine)
    (hy : ∀ x ∈ xs, ∀ M1 v, Same M M1 → R x M1 v → GvI wi1 ((wipe σ [i, j]).set i (some v)) M1 (ys x) R1)
    (he : ∀ x ∈ xs, ∀ y ∈ ys x, ∀ M1 v w, Same M M1 → R x M1 v → R1 y M1 w → Gv te ((wipe ((wipe σ [i, j]).set i (some v)) [j]).set j (some w)) M1 (T (f x y))) [Mon R] :
    GvL (tLc2 wi (gName i) tYes wi1 (gName j) tYes te [i, j] [j]) σ M fun M ws => Pd T M (xs.flatMap fun x => (ys x).map (f x)) ws := by
  intro H mh Q q
  refine hsrc H mh _ fun J M1 H1 g1 ⟨G, Y, w, hG, hY⟩ D hD => ?_
  have lens : ∀ zs : List α, (zs.flatMap fun x => (ys x).map (f x)).length = (zs.flatMap ys).length := fun zs => by
    induction zs with
    | nil => rfl
    | cons z zs ih => rw [List.flatMap_cons, List.flatMap_cons, List.length_append, List.length_append, List.length_map, ih]
  refine turns_of w (fun a H' => ∃ M' ws, Gr M1 H1 M' H' ∧ M' D = none ∧ H' D = some (.lst ws) ∧ Pd T M' ((xs.take a).flatMap fun x => (ys x).map (f x)) ws) ⟨M1, [], .own g1.mh hD, g1.mh.free hD, upd_same, .nil⟩ (fun a H' _ ⟨M', ws, g, _⟩ => hG M' H' g.mm g.mh) ?_ ?_
  · rintro a y H' H'' ha ⟨M', ws, gr, m0, hw, hpd⟩ hya
    obtain ⟨x, M0, hx, g0, rx⟩ := hY a M' H' y H'' gr.mm gr.mh ha hya
    have hxm := List.mem_of_getElem? hx
    have G0 := gr.trans g0
    have sm := g1.mm.trans G0.mm
    refine ⟨wipe2a, hy x hxm M0 y sm rx H'' G0.mh _ fun J1 M2 H2 g2 ⟨GG, YY, w2, hG2, hY2⟩ => ?_⟩
    have whole : ((xs.take a).flatMap ys).length + (ys x).length ≤ sizeLine := by
      have e : (xs.flatMap ys).length = ((xs.take (a + 1)).flatMap ys).length + ((xs.drop (a + 1)).flatMap ys).length := by rw [← List.length_append, ← List.flatMap_append, List.take_append_drop]
      rw [take_flat ys hx, List.length_append] at e
      omega
    have s02 : Gr M1 H1 M2 H2 := G0.trans g2
    have mm02 : Same M' M2 := g0.mm.trans g2.mm
    have w2D : H2 D = some (.lst ws) := g2.hh _ _ (g0.hh _ _ hw)
    have m2D : M2 D = none := (g0.trans g2).keep m0 hw
    refine turns_of w2 (fun b H3 => ∃ M3 us, Gr M1 H1 M3 H3 ∧ Same M2 M3 ∧ M3 D = none ∧ H3 D = some (.lst us) ∧ Pd T M3 (((xs.take a).flatMap fun x => (ys x).map (f x)) ++ ((ys x).take b).map (f x)) us) ⟨M2, ws, s02, Same.refl _, m2D, w2D, by simpa using hpd.mono mm02⟩ (fun b H3 _ ⟨M3, us, g3, s3, _⟩ => hG2 M3 H3 s3 g3.mh) ?_ ?_
    · rintro b z H3 H4 hb ⟨M3, us, g3, s3, m3, hw3, hp3⟩ hz4
      obtain ⟨c, M4, hc, g4, rc⟩ := hY2 b M3 H3 z H4 s3 g3.mh hb hz4
      have G4 := g3.trans g4
      have up : Same M0 M4 := g2.mm.trans (s3.trans g4.mm)
      have h4 : H4 D = some (.lst us) := g4.hh _ _ hw3
      refine ⟨wipe1, he x hxm c (List.mem_of_getElem? hc) M4 y z (sm.trans up) (Mon.mono up rx) rc H4 G4.mh _ fun u M5 H5 g5 hu => ?_⟩
      have m5 : M5 D = none := g5.keep (g4.keep m3 hw3) h4
      have len := hp3.length
      rw [List.length_append, lens, List.length_map, List.length_take] at len
      refine ⟨us, g5.hh _ _ h4, by omega, M5, us ++ [u], (G4.trans g5).mut hD m5, s3.trans (g4.mm.trans g5.mm), m5, upd_same, ?_⟩
      rw [List.take_add_one, hc]
      simp only [Option.toList_some, List.map_append, List.map_cons, List.map_nil, ← List.append_assoc]
      exact pd_app (hp3.mono (g4.mm.trans g5.mm)) (.cons hu .nil)
    · rintro H3 ⟨M3, us, g3, s3, m3, hw3, hp3⟩
      refine ⟨M3, us, g3, m3, hw3, ?_⟩
      rw [take_flat _ hx]
      rw [List.take_length] at hp3
      exact hp3
  · rintro H' ⟨M', ws, gr, m0, hw, hpd⟩
    rw [List.take_length] at hpd
    exact q D ws M' H' (g1.trans gr) (g1.hh.free hD) m0 hw hpd
/-- range(i, j) -/
theorem gi_rng2 {i j : Nat} (h1 : Gv ta σ M (It' (i : Int))) (h2 : Gv tb σ M (It' (j : Int))) (hn : i ≤ 1000000000 ∧ j ≤ 1000000000) : GvI (iRng2 (tCons ta (tCons tb tNil))) σ M (List.range' i (j - i)) (fun i => It' (i : Nat)) := fun H mh Q q =>
  h1 H mh _ fun u M1 H1 g1 e1 => h2.le g1.mm H1 g1.mh _ fun v M2 H2 g2 e2 => by
    cases (show u = _ from e1)
    cases (show v = _ from e2)
    refine ⟨i, j, rfl, by omega, q _ M2 H2 (g1.trans g2) ⟨_, _, (by rw [List.length_range', show ((j : Int) - i).toNat = j - i by omega]; exact walk_range), fun _ _ _ _ => trivial, ?_⟩⟩
    rintro a M3 H3 v H4 s1 s2 ha ⟨rfl, rfl⟩
    rw [List.length_range'] at ha
    refine ⟨i + a, M3, by rw [List.getElem?_range' (by omega), Nat.one_mul], .refl s2, ?_⟩
    show V.int _ = V.int _
    rw [Int.natCast_add]
end
/-! methods -/
def Met (P : Program) (w : World) (K : PySem.W.Frag) (mg : Str → Option Value) (base : Heap) (k : Nat) (C : Addr) (m : Str) (ps : List Str) (sp : Sp) : Prop := ∃ f fd, Cls K C ∧ Meth K C m f ∧ FnOk P w K mg base CX0 k f fd ps sp ∧ Binds K fd ps []
section
variable {X : Cx} {k : Nat} {C : Addr} {m : Str} {ps : List Str} {sp : Sp} {o e : Expr} {es : List Expr} {to : TE} {t : TA} {apos pos : Pos} {pl : Sem Bool}
theorem pe_m (c : Met X.prog X.w X.K X.mg X.base k C m ps sp) (hr : Room k X.A) (ho : PE X o to) (ha : PA X (e :: es) t) (hst : starEach (e :: es) X.env = (false, eval e X.env) :: starEach es X.env := by rfl) (hpl : (backTo pos (starEach es X.env)).any (·.1) = false := by rfl)
    (ht : eval (.Call (.Attribute o m apos) (e :: es) [] pos) X.env = (do let ov ← eval o X.env; standAt apos.atName; let (f, first) ← holding [ov] (getMethod ov m pl); callWith pos f first (backTo pos (starEach (e :: es) X.env)) (backToKw pos (keywordEach [] X.env))) := by rfl) :
    PE X (.Call (.Attribute o m apos) (e :: es) [] pos) (tMeth C m sp [] E0 to t) := by
  obtain ⟨f, fd, cl, hm, F, hb⟩ := c
  exact pe_meth ho cl hm F hr hb .nil pass0 ha hst hpl ht
theorem pe_m0 (c : Met X.prog X.w X.K X.mg X.base k C m ps sp) (hr : Room k X.A) (ho : PE X o to)
    (ht : eval (.Call (.Attribute o m apos) [] [] pos) X.env = (do let ov ← eval o X.env; standAt apos.atName; let (f, first) ← holding [ov] (getMethod ov m pl); callWith pos f first (backTo pos (starEach [] X.env)) (backToKw pos (keywordEach [] X.env))) := by rfl) :
    PE X (.Call (.Attribute o m apos) [] [] pos) (tMeth C m sp [] E0 to tNil) := by
  obtain ⟨f, fd, cl, hm, F, hb⟩ := c
  exact pe_meth0 ho cl hm F hr hb .nil pass0 ht
end
section
variable {σ : Sl} {M : Hp} {α β : Type} {R1 : Rl α} {R2 : Rl β} {to te : TE} {C : Addr} {m : Str}
/-- an instance of C without a variable of the method's name -/
def InsR (C : Addr) (m : Str) (P : Pr) : Prop := ∀ M v, P M v → ∃ a dx fs, v = .ref a ∧ M a = some (.ins C dx fs) ∧ fs.lookup m = none
theorem gv_met1 {pre : α → Prop} {R : α → Pr} {x : α} (hi : InsR C m (R1 x)) (h : Gv to σ M (R1 x)) (hp : pre x) : Gv (tMeth C m (sp1 R1 pre R) [] E0 to tNil) σ M (R x) := fun H mh Q q => h H mh _ fun v M1 H1 g1 p1 => by
  obtain ⟨a, dx, fs, e, ha, hl⟩ := hi M1 v p1
  exact ⟨a, dx, fs, e, g1.mh _ _ ha, hl, x, M1, v, rfl, g1.mh, p1, hp, fun u M' H' g r => q u M' H' (g1.trans g) r⟩
theorem gl_met1 {pre : α → Prop} {R : α → Hp → List V → Prop} {x : α} (hi : InsR C m (R1 x)) (h : Gv to σ M (R1 x)) (hp : pre x) : GvL (tMeth C m (sl1 R1 pre R) [] E0 to tNil) σ M (R x) := fun H mh Q q => h H mh _ fun v M1 H1 g1 p1 => by
  obtain ⟨a, dx, fs, e, ha, hl⟩ := hi M1 v p1
  exact ⟨a, dx, fs, e, g1.mh _ _ ha, hl, x, M1, v, rfl, g1.mh, p1, hp, fun p vs M' H' g h0 m0 hw r => q p vs M' H' (g1.trans g) (g1.hh.free h0) m0 hw r⟩
theorem gv_met2 [Mon R1] [Mon R2] {pre : α → β → Prop} {R : α → β → Pr} {x : α} {y : β} (hi : InsR C m (R1 x)) (h : Gv to σ M (R1 x)) (h2 : Gv te σ M (R2 y)) (hp : pre x y) : Gv (tMeth C m (sp2 R1 R2 pre R) [] E0 to (tCons te tNil)) σ M (R x y) := fun H mh Q q => h H mh _ fun v M1 H1 g1 p1 => by
  obtain ⟨a, dx, fs, e, ha, hl⟩ := hi M1 v p1
  refine ⟨a, dx, fs, e, g1.mh _ _ ha, hl, h2.le g1.mm H1 g1.mh _ fun w M2 H2 g2 p2 => ⟨x, y, M2, v, w, rfl, g2.mh, Mon.mono g2.mm p1, p2, hp, fun u M' H' g r => q u M' H' ((g1.trans g2).trans g) r⟩⟩
end
/-! dicts with tuple keys, known -/
def DtR : Rl (List (List Str)) := fun ks M v => ∃ a, v = .ref a ∧ M a = some (.dT (ent ks))
instance : Mon DtR := ⟨fun e ⟨a, h, r⟩ => ⟨a, h, e _ _ r⟩⟩
theorem val_ent (x : List Str) : ∀ ks : List (List Str), (valV (ent ks) (x.map (Sum.inr : Str → Key))).isSome = decide (x ∈ ks)
  | [] => rfl
  | k :: ks => by
    have ih := val_ent x ks
    unfold valV ent at ih ⊢
    rw [List.map_cons, List.find?_cons]
    by_cases h : k = x
    · subst h
      simp
    · have h1 : ¬ (k.map (Sum.inr : Str → Key)) = x.map Sum.inr := fun e => h (inr_inj e)
      rw [decide_eq_false (by simpa using h1)]
      rw [ih]
      simp [Ne.symm h]
section
variable {K : PySem.W.Frag} {σ : Sl} {M : Hp} {ta tb : TE} {wi : TI}
theorem gv_inDt {neg : Bool} {x : List Str} {ks : List (List Str)} (ha : Gv ta σ M (TT x)) (hb : Gv tb σ M (DtR ks)) : Gv (tOp (rInA K neg) ta tb) σ M (Bl (xor neg (decide (x ∈ ks)))) :=
  gv_op ha hb fun M' u v pu pv => by
    obtain ⟨b, e1, r1⟩ := pu
    obtain ⟨d, e2, r2⟩ := pv
    subst e1 e2
    refine rv_pure (v := .bl (xor neg (decide (x ∈ ks)))) (fun H mh Q q => .inr (.inl ⟨d, _, rfl, .inr ⟨ent ks, x.map Sum.inr, b, .inl (mh _ _ r2), rfl, (by rw [key_V]; exact mh _ _ r1), rfl⟩, ?_⟩)) rfl
    rw [val_ent]
    exact q
/-- {x: True for x in xs}, known from now on -/
theorem gv_dcTd {j : Nat} {xs : List (List Str)} (hj : j < σ.length) (hsrc : GvI wi σ M xs TT) (hz : xs.length ≤ sizeLine) : Gv (tDcT wi (gName j) tYes (tVar j) (tC (.bl true)) [j]) σ M (DtR (once xs)) := by
  intro H mh Q q
  refine hsrc H mh _ fun J M1 H1 g1 ⟨G, Y, w, hG, hY⟩ D hD => ?_
  refine ⟨fun i m H' => i + m = xs.length ∧ ∃ M', Gr M1 H1 M' H' ∧ M' D = none ∧ ((xs.take i).foldl onceP []).length ≤ i ∧ H' D = some (.dT (ent ((xs.take i).foldl onceP []))), ⟨xs.length, Nat.zero_add _, M1, .own g1.mh hD, g1.mh.free hD, Nat.le_refl _, upd_same⟩, fun i m H' ⟨e, M', gr, m0, hl, hw⟩ => ?_⟩
  have gG := hG M' H' gr.mm gr.mh
  cases m with
  | zero =>
    have e' : i = xs.length := e
    subst e'
    rw [List.take_length] at hw
    exact .inl ⟨w.stops H' gG, q _ _ H' (g1.trans (gr.freeze hD m0 hw)) ⟨D, rfl, upd_same⟩⟩
  | succ m =>
    have hi : i < xs.length := by omega
    refine .inr ⟨w.goes i H' hi gG, fun y H2 hy => ?_⟩
    obtain ⟨x, M2, hx, g2, b, ey, rb⟩ := hY i M' H' y H2 gr.mm gr.mh hi (w.yields i H' y H2 hi gG hy)
    subst ey
    have at_j : ((wipe σ [j]).set j (some (V.ref b)))[j]? = some (some (V.ref b)) := List.getElem?_set_self (by rw [wipe_length]; exact hj)
    refine ⟨wipe1, _, at_j, ent ((xs.take i).foldl onceP []), x.map Sum.inr, b, rfl, by rw [key_V]; exact g2.mh _ _ rb, g2.hh _ _ hw, ?_, m, Nat.lt_succ_self m, by omega, M2, (gr.trans g2).mut hD (g2.keep m0 hw), g2.keep m0 hw, ?_, ?_⟩
    · unfold ent; rw [List.length_map]; omega
    · rw [List.take_add_one, hx, List.foldl_append]
      exact Nat.le_trans (onceP_len _ x) (Nat.succ_le_succ hl)
    · rw [upd_same, putK_ent, List.take_add_one, hx, List.foldl_append]
      rfl
end
end L3

set_option Elab.async false
set_option linter.all false
set_option maxRecDepth 100000
set_option maxHeartbeats 1000000
namespace L3
open PySem PySem.Spec PyProof.Rows L2
/-! *d in a display, d a dict with texts for keys -/
def tStarK (te : TE) (t : TA) : TA := fun σ H Q => te σ H fun x H1 => ∃ d ks, x = V.ref d ∧ Rd H1 d (.dK (kvT ks)) ∧ t σ H1 fun ys H2 => Q (ks.map V.str ++ ys) H2
section
variable {X : Cx} {e : Expr} {es : List Expr} {te : TE} {t : TA} {p : Pos}
theorem pa_starK (hc : X.calm = true) (he : PE X e te) (hr : PA X es t) (hs : starEach (.Starred e p :: es) X.env = (true, eval e X.env) :: starEach es X.env := by rfl) : PA X (.Starred e p :: es) (tStarK te t) where
  run pos pins s σ H Q I h := by
    apply PySem.W.items_star _ hs
    refine thn (he.run pins s σ H _ I h) fun v s1 z => ?_
    obtain ⟨_, H1, I1, rv, d, ks, rfl, hd, q⟩ := z
    obtain rfl : v = Value.ref d := rv
    have ⟨z, low, vs, rk, dd⟩ := (show ObjOk X.prog X.w H1 s1.heap d (.dK (kvT ks)) from hd.ok I1.hok)
    have ⟨ep, at_⟩ := dd.dictAt
    have S := PySem.W.kdl_dict (prog := X.prog) (w := X.w) (knd := mixKind X.prog X.w) (kvs := vs) (ep := ep) low
    have n1 : (kvT ks).length = vs.length := Paired.length rk
    have n2 : (kvT ks).length = ks.length := by unfold kvT; rw [List.length_map]
    unfold PySem.W.StarOf notIterableAtAll
    refine wpAny_bind (wpAny_specialOf (S.type s1 at_) PySem.F.slot_dict_iter.lookup (wpAny_pure ⟨rfl, PySem.W.kdu_collect S (I1.ok.hd hc) at_ (by omega) fun h' tk acc kp it => ?_⟩))
    have I2 : Inv X pins σ H1 { s1 with heap := h', toks := tk } := I1.kept kp
    have rel : Vals (ks.map V.str) acc.toList := by
      refine vals_of_at (by have h1 := it.1; have h2 : acc.toList.length = acc.size := Array.length_toList; rw [List.length_map, h2]; omega) fun j x u hx hu => ?_
      rw [Array.getElem?_toList] at hu
      obtain ⟨k, y, hk, is⟩ := it.2 j u hu
      have keys := congrArg (fun l => l[j]?) (KV.keys rk)
      simp only [kvT, List.map_map, List.getElem?_map, hk] at keys
      rw [List.getElem?_map] at hx
      cases hj : ks[j]? with
      | none => rw [hj] at hx; cases hx
      | some a =>
        rw [hj] at hx keys
        cases Option.some.inj hx
        have ek : (Sum.inr a : Key) = k := Option.some.inj keys
        rw [← ek] at is
        exact keyIs_rel (show keyIs (Sum.inr a) u = true from is)
    exact thn (hr.run pos pins _ σ H1 _ I2 q) fun ws s3 ⟨us, H3, I3, r3, q3⟩ => ⟨_, H3, I3, rel.append r3, q3⟩
end
/-! defs called with defaults -/
def CalD (P : Program) (w : World) (K : PySem.W.Frag) (mg : Str → Option Value) (base : Heap) (k : Nat) (x : Str) (ps : List Str) (dvs : List V) (sp : Sp) : Prop :=
  ∃ f fd ds, FnOk P w K mg base CX0 k f fd ps sp ∧ mg x = some (.ref f) ∧ PySem.W.keepIn K (.ref f) = true ∧ Binds K fd ps ds ∧ Vals dvs ds
theorem pe_fD {X : Cx} {k : Nat} {x : Str} {ps : List Str} {dvs : List V} {sp : Sp} {e : Expr} {es : List Expr} {t : TA} {p pos : Pos} (c : CalD X.prog X.w X.K X.mg X.base k x ps dvs sp) (hr : Room k X.A) (ha : PA X (e :: es) t) (hg : Gl X x := by rfl)
    (hdb : (x == ("__debug__" : Str)) = false := by decide) (he : starEach (e :: es) X.env = (false, eval e X.env) :: starEach es X.env := by rfl) (hpl : (backTo pos (starEach es X.env)).any (·.1) = false := by rfl) : PE X (.Call (.Name x p) (e :: es) [] pos) (tCall sp dvs E0 t) :=
  let ⟨_, _, _, F, m, hk, b, hv⟩ := c
  pe_call F hr hg m hk b hv pass0 ha hdb he hpl
section
variable {α β : Type} {σ : Sl} {M : Hp} {R1 : Rl α} {R2 : Rl β} {t1 : TE}
theorem gv_callD {pre : α → β → Prop} {R : α → β → Pr} {x : α} {y : β} {d : V} (h1 : Gv t1 σ M (R1 x)) (hd : ∀ M, R2 y M d) (hp : pre x y) : Gv (tCall (sp2 R1 R2 pre R) [d] E0 (tCons t1 tNil)) σ M (R x y) := fun H mh Q q =>
  h1 H mh _ fun v M1 H1 g1 p1 => ⟨x, y, M1, v, d, rfl, g1.mh, p1, hd M1, hp, fun u M' H' g r => q u M' H' (g1.trans g) r⟩
end
end L3

set_option Elab.async false
set_option linter.all false
set_option maxRecDepth 100000
set_option maxHeartbeats 1000000
namespace L3
open PySem PySem.Spec PyProof.Rows L2
/-! x in o, x not in o by an own __contains__; o == p, o != p by an own __eq__ -/
theorem ne_slot : Slot "object" "__ne__" "object.__ne__" := PySem.F.slot_object_ne
section
variable {X : Cx} {CX : CXT} {pins : List (Addr × Obj)} {σ : L2.St} {H : Hp} {s : Shared} {C : Addr} {k : Nat} {ps : List Str} {sp : Sp} {E : XK}
/-- a class with an own method of a special name -/
def OwnSp (P : Program) (w : World) (K : PySem.W.Frag) (mg : Str → Option Value) (base : Heap) (k : Nat) (C : Addr) (nm : Str) (ps : List Str) (sp : Sp) : Prop :=
  ∃ f fd, FnOk P w K mg base CX0 k f fd ps sp ∧ PySem.W.findIn K (.ref C) nm = some (some (.ref f)) ∧ PySem.W.isFn K (.ref f) = true ∧ Binds K fd ps []
def rInO (C : Addr) (sp : Sp) (neg : Bool) : R2 := fun x y H Q => ∃ a dx fs, y = V.ref a ∧ H a = some (.ins C dx fs) ∧ sp [.ref a, x] H (fun v H' => ∃ b, v = .bl b ∧ Q (.bl (xor neg b)) H') E0
theorem op_inO (o : OwnSp X.prog X.w X.K X.mg X.base k C "__contains__" ps sp) (hr : Room k X.A) : OpR X (compareOp .In) (rInO C sp false) := by
  intro pins s σ H x y u v Q I rx ry h
  obtain ⟨f, fd, F, hs, hf, hb⟩ := o
  obtain ⟨a, dx, fs, rfl, ha, q⟩ := h
  cases (show v = Value.ref a from ry)
  obtain ⟨ox, od, J⟩ := own_inst I ha
  obtain ⟨m, hF⟩ := I.fr
  refine PySem.W.in_K hF I.ok.mod.kin J hs hf (wpAny_mono (run_deep (us := [.ref a, u]) (vs := [.ref a, x]) F hr I.env0 hb pass0 I (.cons rfl (.cons rx .nil)) q) (fun w s' z => ?_) fun _ _ x => x)
  obtain ⟨z', H', I', rz, b, e, qz⟩ := z
  subst e
  cases (show w = Value.bool b from rz)
  exact wpAny_truthy_bool ⟨.bl b, H', I', rfl, by simpa using qz⟩
theorem op_niO (o : OwnSp X.prog X.w X.K X.mg X.base k C "__contains__" ps sp) (hr : Room k X.A) : OpR X (compareOp .NotIn) (rInO C sp true) := by
  intro pins s σ H x y u v Q I rx ry h
  obtain ⟨f, fd, F, hs, hf, hb⟩ := o
  obtain ⟨a, dx, fs, rfl, ha, q⟩ := h
  cases (show v = Value.ref a from ry)
  obtain ⟨ox, od, J⟩ := own_inst I ha
  obtain ⟨m, hF⟩ := I.fr
  refine PySem.W.notIn_K hF I.ok.mod.kin J hs hf (wpAny_mono (run_deep (us := [.ref a, u]) (vs := [.ref a, x]) F hr I.env0 hb pass0 I (.cons rfl (.cons rx .nil)) q) (fun w s' z => ?_) fun _ _ x => x)
  obtain ⟨z', H', I', rz, b, e, qz⟩ := z
  subst e
  cases (show w = Value.bool b from rz)
  exact wpAny_truthy_bool ⟨.bl (!b), H', I', rfl, by simpa using qz⟩
def rEqO (C : Addr) (sp : Sp) (neg : Bool) : R2 := fun x y H Q => ∃ a b dx dy fs gs, x = V.ref a ∧ y = V.ref b ∧ H a = some (.ins C dx fs) ∧ H b = some (.ins C dy gs) ∧ sp [.ref a, .ref b] H (fun v H' => ∃ c, v = .bl c ∧ Q (.bl (xor neg c)) H') E0
theorem op_eqO (o : OwnSp X.prog X.w X.K X.mg X.base k C "__eq__" ps sp) (hr : Room k X.A) : OpR X (compareOp .Eq) (rEqO C sp false) := by
  intro pins s σ H x y u v Q I rx ry h
  obtain ⟨f, fd, F, hs, hf, hb⟩ := o
  obtain ⟨a, b, dx, dy, fs, gs, rfl, rfl, ha, hb', q⟩ := h
  cases (show u = Value.ref a from rx)
  cases (show v = Value.ref b from ry)
  obtain ⟨ox, od, J⟩ := own_inst I ha
  obtain ⟨oy, od', J'⟩ := own_inst I hb'
  obtain ⟨m, hF⟩ := I.fr
  refine PySem.W.cmp_K (op := .Eq) (tb := .ref C) hr.units0 hF I.ok.mod.kin J J'.type (by simp [PySem.W.notFirst]) hs hf (wpAny_mono (run_deep (us := [.ref a, .ref b]) (vs := [.ref a, .ref b]) F hr I.env0 hb pass0 I (.cons rfl (.cons rfl .nil)) q) (fun w s' z => ?_) fun _ _ x => x)
  obtain ⟨z', H', I', rz, c, e, qz⟩ := z
  subst e
  cases (show w = Value.bool c from rz)
  exact ⟨.bl c, H', I', rfl, by simpa using qz⟩
/-- a class that has object's != -/
structure NeObj (K : PySem.W.Frag) (C : Addr) : Prop where
  ne : PySem.W.findIn K (.ref C) "__ne__" = some (some (.builtin "object.__ne__"))
  ob : PySem.W.subIn K (.ref C) (.type "object") = some true
theorem ne_bound {M : Model} {A : Around} {F : Value → Shared → Prop} {K : PySem.W.Frag} {x : Addr} {ox : Obj} {od : Option Obj} {r : Value} {Z : Option Value → Shared → Prop} (KX : K.In s.heap) (n : NeObj K C) (J : PySem.W.InstAt s.heap x ox C od)
    (go : wpAny M A (call (.builtin "object.__ne__") [.ref x, r]) (fun v => Z (some v)) F s) : wpAny M A (callSpecialIfBound? (.ref x) "__ne__" [r]) Z F s := by
  have last : wpAny M A (do let v ← call (.builtin "object.__ne__") ([Value.ref x] ++ [r]); pure (some v)) Z F s := wpAny_bind (wpAny_mono go (fun _ _ z => wpAny_pure z) fun _ _ z => z)
  unfold callSpecialIfBound? bindSpecialIfBound?
  refine wpAny_holding (wpAny_bind (wpAny_bind (wpAny_bind (J.type.here ((PySem.W.looks_findIn KX n.ne).here ?_)))))
  simp only [ne_slot.bind]
  refine wpAny_bind (wpAny_askSetting (wpAny_ite ?_))
  split
  · exact wpAny_bind (wpAny_pure (wpAny_pure last))
  · exact wpAny_tryCatch (wpAny_bind (wpAny_pure (wpAny_pure last)))
theorem ne_check {M : Model} {A : Around} {F : Value → Shared → Prop} {K : PySem.W.Frag} {x : Addr} {ox : Obj} {od : Option Obj} {r : Value} {Z : Unit → Shared → Prop} (KX : K.In s.heap) (n : NeObj K C) (J : PySem.W.InstAt s.heap x ox C od) (z : Z () s) :
    wpAny M A (checkBuiltinCall "object.__ne__" ⟨[.ref x, r], []⟩) Z F s := by
  unfold checkBuiltinCall
  simp only [PySem.F.cmpKind_ne, PySem.F.cmpSplit_ne]
  refine wpAny_bind ?_
  unfold isInstance
  refine wpAny_bind (J.type.here ((PySem.W.looks_subIn KX n.ob).here ?_))
  have ar := PySem.F.cmpArgs_ne (.ref x) r
  show wpAny M A (match Manifest.signature? "object.__ne__" with | none => pure () | some g => Bind.checkArgs "object.__ne__" g ⟨[.ref x, r], []⟩) Z F s
  cases sg : Manifest.signature? "object.__ne__" with
  | none => exact wpAny_pure z
  | some g =>
    unfold argsOk at ar
    rw [sg] at ar
    show wpAny M A (Bind.checkArgs "object.__ne__" g ⟨[.ref x, r], []⟩) Z F s
    rw [show Bind.checkArgs "object.__ne__" g ⟨[.ref x, r], []⟩ = pure () from ar]
    exact wpAny_pure z
theorem op_neO (o : OwnSp X.prog X.w X.K X.mg X.base k C "__eq__" ps sp) (n : NeObj X.K C) (hr : Room (k + 1) X.A) : OpR X (compareOp .NotEq) (rEqO C sp true) := by
  intro pins s σ H x y u v Q I rx ry h
  obtain ⟨f, fd, F, hs, hf, hb⟩ := o
  obtain ⟨a, b, dx, dy, fs, gs, rfl, rfl, ha, hb', q⟩ := h
  cases (show u = Value.ref a from rx)
  cases (show v = Value.ref b from ry)
  obtain ⟨ox, od, J⟩ := own_inst I ha
  obtain ⟨oy, od', J'⟩ := own_inst I hb'
  obtain ⟨m, hF⟩ := I.fr
  have KX := I.ok.mod.kin.keeps hF.keep
  have body : wpAny (model X.prog X.w) X.A.in1 (Builtin.«object.__ne__» ⟨[.ref a, .ref b], []⟩) (fun fin s' => ∃ c, fin = .done (.ret (.bool c)) ∧ EP X pins σ Q (.bool c) s') X.xe s := by
    unfold Builtin.«object.__ne__»
    refine wpAny_bind (wpAny_pure ?_)
    refine wpAny_bind (wpAny_cRoomFor hr.in1.units0 ?_)
    refine wpAny_bind (PySem.W.ifBound_K KX J hs hf (wpAny_mono (run_deep (us := [.ref a, .ref b]) (vs := [.ref a, .ref b]) F hr.in1 I.env0.in1 hb pass0 I (.cons rfl (.cons rfl .nil)) q) (fun w s' z => ?_) fun _ _ x => x))
    obtain ⟨z', H', I', rz, c, e, qz⟩ := z
    subst e
    cases (show w = Value.bool c from rz)
    refine wpAny_bind (wpAny_truthy_bool (wpAny_pure ⟨!c, rfl, .bl (!c), H', I', rfl, by simpa using qz⟩))
  have one : wpAny (model X.prog X.w) X.A (tryCompare (.ref a) "__ne__" (.ref b)) (fun r s' => ∃ c, r = some (.bool c) ∧ EP X pins σ Q (.bool c) s') X.xe s := by
    unfold tryCompare
    refine wpAny_bind (ne_bound KX n J (wpAny_call (codeAny_call_builtin ne_slot.plain PySem.F.cmpEntry_ne (ne_check KX n J (wpAny_mono body (fun fin s' z => ?_) fun _ _ x => x)))))
    obtain ⟨c, rfl, qz⟩ := z
    exact wpAny_pure ⟨c, rfl, qz⟩
  show wpAny (model X.prog X.w) X.A (richCompare .NotEq (.ref a) (.ref b)) (EP X pins σ Q) X.xe s
  unfold richCompare
  simp only [oneThing_ref]
  refine wpAny_holding (wpAny_bind (wpAny_cRoomFor hr.units0 (wpAny_bind (J.type.here (wpAny_bind (J'.type.here ?_))))))
  rw [if_neg (by simp)]
  refine wpAny_bind (wpAny_pure ?_)
  simp only [Bool.false_eq_true, if_false]
  refine wpAny_bind (wpAny_mono one (fun r s' z => ?_) fun _ _ e => e)
  obtain ⟨c, rfl, qz⟩ := z
  exact wpAny_pure qz
end
end L3

set_option Elab.async false
set_option linter.all false
set_option maxRecDepth 100000
set_option maxHeartbeats 1000000
namespace L3
open PySem PySem.Spec PyProof.Rows L2
/-! lists of data: remove, index; insert -/
def rRemD (K : PySem.W.Frag) : V → List V → Hp → VK → Prop := fun x xs H Q => ∃ l vs y ds d j, x = .ref l ∧ xs = [y] ∧ H l = some (.lst vs) ∧ DpAll K H vs ds ∧ Dp K H y d ∧ d.depth ≤ 60 ∧ SeqAt.dataPlace ds d = some j ∧ Q .non (upd H l (.lst (vs.eraseIdx j)))
def rIdxD (K : PySem.W.Frag) : V → List V → Hp → VK → Prop := fun x xs H Q => ∃ l vs y ds d j, x = .ref l ∧ xs = [y] ∧ H l = some (.lst vs) ∧ DpAll K H vs ds ∧ Dp K H y d ∧ d.depth ≤ 60 ∧ SeqAt.dataPlace ds d = some j ∧ Q (.int (j : Nat)) H
theorem mt_remD {X : Cx} (hu : X.A.units + 64 < cLine) : MtR X "list.remove" (rRemD X.K) := by
  intro pins s σ H x xs v us Q I rx rxs h
  obtain ⟨l, vs, y, ds, d, j, rfl, rfl, hH, ha, hy, hz, hp, q⟩ := h
  cases (show v = Value.ref l from rx)
  obtain ⟨u, rfl, ru⟩ := rxs.one
  obtain ⟨z, its, n, r, hl, e⟩ := I.lstM hH
  obtain ⟨as, ra⟩ := Dp.readsAll I ds _ its ha r
  obtain ⟨bs, rb⟩ := Dp.reads I d y u hy ru
  refine SeqAt.remove_list_data (vs := its.toArray) ⟨_, e, rfl, n, rfl⟩ (by simpa using ra) rb (dpa_plain ha) (dp_plain hy) (by omega) hp (by rw [List.size_toArray]; omega) ?_
  have rr := r.eraseIdx j
  refine ⟨.non, _, I.lset (its' := its.eraseIdx j) (t' := s.toks) hH e (by show its.toArray.eraseIdxIfInBounds j = _; rw [List.eraseIdxIfInBounds_toArray]) rr ?_, rfl, q⟩
  have : (vs.eraseIdx j).length ≤ vs.length := (List.eraseIdx_sublist vs j).length_le
  omega
theorem mt_idxD {X : Cx} (hu : X.A.units + 64 < cLine) : MtR X "list.index" (rIdxD X.K) := by
  intro pins s σ H x xs v us Q I rx rxs h
  obtain ⟨l, vs, y, ds, d, j, rfl, rfl, hH, ha, hy, hz, hp, q⟩ := h
  cases (show v = Value.ref l from rx)
  obtain ⟨u, rfl, ru⟩ := rxs.one
  obtain ⟨z, its, n, r, hl, e⟩ := I.lstM hH
  obtain ⟨as, ra⟩ := Dp.readsAll I ds _ its ha r
  obtain ⟨bs, rb⟩ := Dp.reads I d y u hy ru
  have hsl := sizeLine_eq
  obtain ⟨hj, hit, hno⟩ := SeqAt.hit_at (vs := its.toArray) (h := s.heap) (by simpa using ra) (dpa_plain ha) hp
  refine call_meets PySem.F.slot_list_index ⟨_, e, rfl⟩ PySem.F.entry_list_index (PySem.F.args_list_index_2 _ _)
    (SeqAt.list_indexAt l its.toArray n none #[] u (fun w => PyData.eqv (SeqAt.readOf s.heap w) d) j hj (by have hj' : j < its.length := (by simpa using hj); omega) hit hno) ⟨e, SeqAt.items_plain (vs := its.toArray) (by simpa using ra) rb (dpa_plain ha) (dp_plain hy) (by omega), ?_⟩
  exact ⟨.int (j : Nat), H, I.tok _, ⟨_, rfl⟩, q⟩
def rIns : V → List V → Hp → VK → Prop := fun x vs H Q => ∃ (l : Addr) (xs : List V) (i : Int) (y : V), x = .ref l ∧ vs = [.int i, y] ∧ H l = some (.lst xs) ∧ xs.length < sizeLine ∧ 0 ≤ i ∧ i < 2 ^ 63 ∧ Q .non (upd H l (.lst (xs.take i.toNat ++ [y] ++ xs.drop i.toNat)))
theorem mt_ins {X : Cx} : MtR X "list.insert" rIns := mt_insert
section
variable {K : PySem.W.Frag} {σ : Sl} {M H : Hp} {te tb : TE} {P : Pr} {D : Ends} {tz : TS} {α : Type} {R : Rl α}
/-- the place of an item among items that == tells apart -/
theorem place_of {e : α → PyData} [DecidableEq α] (ie : Inj e) {x : α} : ∀ {xs : List α} {j : Nat}, xs[j]? = some x → (∀ m, m < j → xs[m]? ≠ some x) → SeqAt.dataPlace (xs.map e) (e x) = some j := by
  intro xs
  induction xs with
  | nil => intro j h; cases h
  | cons y r ih =>
    intro j h hn
    unfold SeqAt.dataPlace at ih ⊢
    rw [List.map_cons, List.findIdx?_cons]
    cases j with
    | zero =>
      have e1 : y = x := Option.some.inj h
      rw [e1, ie x x]
      simp
    | succ j =>
      have ne : ¬ y = x := fun z => hn 0 (Nat.succ_pos _) (by rw [z]; rfl)
      rw [ie y x, decide_eq_false ne]
      have := ih (j := j) h fun m hm => hn (m + 1) (Nat.succ_lt_succ hm)
      rw [this]
      rfl
/-- xs.remove(e), xs in slot i at p -/
theorem s_rem {e : α → PyData} [DecidableEq α] [Mon R] {i j : Nat} {p : Addr} {vs : List V} {xs : List α} {x : α} (pe : PyR K R e) (ie : Inj e) (mh : Same M H) (hi : σ[i]? = some (some (.ref p))) (hp : H p = some (.lst vs)) (pd : Pd R M xs vs) (h : Gv te σ M (R x)) (hz : (e x).depth ≤ 60)
    (hj : xs[j]? = some x) (hn : ∀ m, m < j → xs[m]? ≠ some x) (k : ∀ M' H', Gr M H M' H' → D.nx σ (upd H' p (.lst (vs.eraseIdx j)))) : tDrop (tBM K "list" (rRemD K) (tVar i) (tCons te tNil)) D σ H :=
  ⟨.ref p, hi, .inl ⟨rfl, _, .inl (.inl hp)⟩, h H mh _ fun v M' H' g r => ⟨p, vs, v, xs.map e, e x, j, rfl, rfl, g.hh _ _ hp, dpa_mono (g.mm.trans g.mh) (py_all pe pd), dp_mono g.mh (pe _ _ _ r), hz, place_of ie hj hn, k M' H' g⟩⟩
/-- xs.insert(i, e) -/
theorem s_ins {i : Nat} {n : Nat} {p : Addr} {vs : List V} (mh : Same M H) (hi : σ[i]? = some (some (.ref p))) (hp : H p = some (.lst vs)) (hz : vs.length < sizeLine) (h1 : Gv tb σ M (It' (n : Nat))) (hn : n < 2 ^ 62) (h : Gv te σ M P) [Mono P]
    (k : ∀ v M' H', Gr M H M' H' → P M' v → D.nx σ (upd H' p (.lst (vs.take n ++ [v] ++ vs.drop n)))) : tDrop (tBM K "list" rIns (tVar i) (tCons tb (tCons te tNil))) D σ H :=
  ⟨.ref p, hi, .inl ⟨rfl, _, .inl (.inl hp)⟩, h1 H mh _ fun u M1 H1 g1 r1 => h.le g1.mm H1 g1.mh _ fun v M2 H2 g2 r2 => by
    cases (show u = _ from r1)
    exact ⟨p, vs, (n : Int), v, rfl, rfl, (g1.trans g2).hh _ _ hp, hz, by omega, by omega, k v M2 H2 (g1.trans g2) r2⟩⟩
/-- t[lo:hi], t a tuple -/
theorem gv_cutT [Mon R] {tl th : TO} {xs : List α} {lo hi : Option Int} (h : Gv te σ M (TuR R xs)) (hl : ∀ (H : Hp) (Q : Option Int → Hp → Prop), Q lo H → tl σ H Q) (hh : ∀ (H : Hp) (Q : Option Int → Hp → Prop), Q hi H → th σ H Q) :
    Gv (tSl (rSlX K) te tl th) σ M (TuR R (cutL xs lo hi)) := fun H mh Q q => h H mh _ fun v M1 H1 g1 ⟨a, vs, e, r, p⟩ => hl _ _ (hh _ _ (by
    subst e
    have el : xs.length = vs.length := p.length
    refine .inr (.inr ⟨a, vs, rfl, .inl (.inl (g1.mh _ _ r)), fun ⟨w1, w2⟩ => ?_, fun _ t nt => ?_⟩)
    · refine q _ M1 H1 g1 ⟨a, vs, rfl, r, ?_⟩
      have : cutL xs lo hi = xs := by unfold cutL; rw [el, w1, w2, List.drop_zero, Nat.sub_zero, ← el, List.take_length]
      rw [this]
      exact p
    · exact q _ _ _ (g1.trans (.new g1.mh nt)) ⟨t, _, rfl, upd_same, (pd_cut p).mono (same_new (g1.mh.free nt))⟩))
/-- what isinstance asks of a class of the text -/
structure InsF (K : PySem.W.Frag) (C : Addr) : Prop where
  cl : Cls K C
  gc : PySem.W.findIn K (.ref C) "__class__" = some (some (.builtin "object.__class__"))
  sp : PySem.W.specialIn K (.builtin "object.__class__") "__get__" = some (some (.builtin "getset_descriptor.__get__"))
  tk : PySem.W.takesIn K (.builtin "object.__class__") = some true
  mr : PySem.W.mroIn K C (.type "object") = some true
/-- isinstance(x, C), x an instance of C -/
theorem gv_isC {C : Addr} (I : InsF K C) (h : Gv te σ M P) (hi : ∀ M v, P M v → ∃ a dx fs, v = .ref a ∧ M a = some (.ins C dx fs)) : Gv (tCB (rIsi K) (tCons te (tCons (tC (.ref C)) tNil))) σ M (Bl true) := fun H mh Q q =>
  h H mh _ fun v M1 H1 g1 p1 => by
    obtain ⟨a, dx, fs, rfl, ha⟩ := hi M1 v p1
    exact ⟨_, _, .ref C, .ref C, true, rfl, .own C, .base (.ins (g1.mh _ _ ha) I.cl I.gc I.sp I.tk I.mr), by unfold PySem.W.kitOne; simp, q _ M1 H1 g1 rfl⟩
end
section
variable {α β : Type} {σ : Sl} {M : Hp} {ta tb : TE} {R1 : Rl α} {R2 : Rl β} {C : Addr}
/-- x in o, o == p by own methods -/
theorem gv_inO [Mon R1] [Mon R2] {pre : α → β → Prop} {B : α → β → Bool} {x : α} {y : β} {neg : Bool} (ha : Gv ta σ M (R2 y)) (hb : Gv tb σ M (R1 x)) (hi : ∀ M v, R1 x M v → ∃ a dx fs, v = .ref a ∧ M a = some (.ins C dx fs)) (hp : pre x y) :
    Gv (tOp (rInO C (sp2 R1 R2 pre fun x y => Bl (B x y)) neg) ta tb) σ M (Bl (xor neg (B x y))) := fun H mh Q q =>
  ha H mh _ fun v M1 H1 g1 p1 => hb.le g1.mm H1 g1.mh _ fun w M2 H2 g2 p2 => by
    obtain ⟨a, dx, fs, rfl, h2⟩ := hi M2 w p2
    exact ⟨a, dx, fs, rfl, g2.mh _ _ h2, x, y, M2, _, v, rfl, g2.mh, p2, Mon.mono g2.mm p1, hp, fun u M' H' g r => ⟨_, r, q _ M' H' ((g1.trans g2).trans g) rfl⟩⟩
theorem gv_eqO [Mon R1] {pre : α → α → Prop} {B : α → α → Bool} {x y : α} {neg : Bool} (ha : Gv ta σ M (R1 x)) (hb : Gv tb σ M (R1 y)) (hi : ∀ z M v, R1 z M v → ∃ a dx fs, v = .ref a ∧ M a = some (.ins C dx fs)) (hp : pre x y) :
    Gv (tOp (rEqO C (sp2 R1 R1 pre fun x y => Bl (B x y)) neg) ta tb) σ M (Bl (xor neg (B x y))) := fun H mh Q q =>
  ha H mh _ fun v M1 H1 g1 p1 => hb.le g1.mm H1 g1.mh _ fun w M2 H2 g2 p2 => by
    have p12 : R1 x M2 v := Mon.mono g2.mm p1
    obtain ⟨a, dx, fs, rfl, h1⟩ := hi x M2 v p12
    obtain ⟨b, dy, gs, rfl, h2⟩ := hi y M2 w p2
    exact ⟨a, b, dx, dy, fs, gs, rfl, rfl, g2.mh _ _ h1, g2.mh _ _ h2, x, y, M2, _, _, rfl, g2.mh, p12, p2, hp, fun u M' H' g r => ⟨_, r, q _ M' H' ((g1.trans g2).trans g) rfl⟩⟩
end
end L3

set_option Elab.async false
set_option linter.all false
set_option maxRecDepth 100000
set_option maxHeartbeats 1000000
namespace L3
open PySem PySem.Spec PyProof.Rows L2
/-! instances made with defaults -/
def MakD (P : Program) (w : World) (K : PySem.W.Frag) (mg : Str → Option Value) (base : Heap) (k : Nat) (x : Str) (C : Addr) (ps : List Str) (dvs : List V) (sp : Sp) : Prop :=
  ∃ f fd ds, Mk K C f ∧ FnOk P w K mg base CX0 k f fd ps sp ∧ mg x = some (.ref C) ∧ Binds K fd ps ds ∧ Vals dvs ds
theorem pe_mkD {X : Cx} {k : Nat} {x : Str} {C : Addr} {ps : List Str} {dvs : List V} {sp : Sp} {e : Expr} {es : List Expr} {t : TA} {p pos : Pos} (c : MakD X.prog X.w X.K X.mg X.base k x C ps dvs sp) (hr : Room (k + 1) X.A) (ha : PA X (e :: es) t) (hg : Gl X x := by rfl)
    (hdb : (x == ("__debug__" : Str)) = false := by decide) (he : starEach (e :: es) X.env = (false, eval e X.env) :: starEach es X.env := by rfl) (hpl : (backTo pos (starEach es X.env)).any (·.1) = false := by rfl) : PE X (.Call (.Name x p) (e :: es) [] pos) (tMake C sp dvs E0 t) :=
  let ⟨_, _, _, M, F, m, b, d⟩ := c
  pe_make M F hr hg m b d pass0 ha hdb he hpl
end L3

set_option Elab.async false
set_option linter.all false
set_option maxRecDepth 100000
set_option maxHeartbeats 1000000
namespace L3
open PySem PySem.Spec PyProof.Rows L2
section
variable {K : PySem.W.Frag} {σ : Sl} {M : Hp} {ta tb te : TE} {tt : L2.TT} {α β γ : Type} {R : Rl α} {S : Rl β} {T : Rl γ}
/-- two lists walked together -/
theorem gi_zip [Mon R] [Mon S] {xs : List α} {ys : List β} (hl : xs.length = ys.length) (h1 : Gv ta σ M (LstR K R xs)) (h2 : Gv tb σ M (LstR K S ys)) : GvI (iZip K (tCons ta (tCons tb tNil))) σ M (xs.zip ys) (PrR K R S) := fun H mh Q q =>
  h1 H mh _ fun v M1 H1 g1 r1 => h2.le g1.mm H1 g1.mh _ fun w M2 H2 g2 ⟨b, ws, ew, hw, pw⟩ => by
    obtain ⟨a, vs, ev, hv, pv⟩ := Mon.mono (R := LstR K R) g2.mm r1
    subst ev ew
    have len : (xs.zip ys).length = min vs.length ws.length := by rw [List.length_zip, pv.length, pw.length]
    refine ⟨a, b, vs, ws, rfl, sl_mono g2.mh hv, sl_mono g2.mh hw, q _ M2 H2 (g1.trans g2) ⟨_, _, walk_zip (xs := vs) (ys := ws) len, fun M3 H3 s1 s2 => ⟨sl_mono (s1.trans s2) hv, sl_mono (s1.trans s2) hw⟩, ?_⟩⟩
    rintro i M3 H3 z H4 s1 s2 hi ⟨P, x1, x2, rfl, nP, rfl, e1, e2⟩
    obtain ⟨x, hx, rx⟩ := pd_get' pv e1
    obtain ⟨y, hy, ry⟩ := pd_get' pw e2
    have up : Same M2 (upd M3 P (.tup [x1, x2])) := s1.trans (same_new (s2.free nP))
    exact ⟨(x, y), upd M3 P (.tup [x1, x2]), List.getElem?_zip_eq_some.mpr ⟨hx, hy⟩, .new s2 nP, P, _, _, rfl, .inl (.inl upd_same), Mon.mono (M' := upd M3 P (.tup [x1, x2])) up rx, Mon.mono up ry⟩
/-- a comprehension over pairs -/
theorem gl_c2 [Mon T] {wi : TI} {i j : Nat} {xs : List (α × β)} (hsrc : GvI wi σ M xs (PrR K R S)) (hz : xs.length ≤ sizeLine) (t : α × β → Bool) (f : α × β → γ)
    (ht : ∀ x ∈ xs, ∀ M1 u v, Same M M1 → R x.1 M1 u → S x.2 M1 v → GvT tt (((wipe σ [i, j]).set i (some u)).set j (some v)) M1 (t x))
    (he : ∀ x ∈ xs, t x = true → ∀ M1 u v, Same M M1 → R x.1 M1 u → S x.2 M1 v → Gv te (((wipe σ [i, j]).set i (some u)).set j (some v)) M1 (T (f x))) :
    GvL (tLc wi (gTup K 2 (gCons (gName i) (gCons (gName j) gNil))) tt te [i, j]) σ M fun M ws => Pd T M ((xs.filter t).map f) ws :=
  gl_comp hsrc tg_2 (fun x M' σ' ⟨u, v, _, _, e⟩ => by rw [e]; exact wipe2) hz t f (fun x hx M1 σ' sm ⟨u, v, ru, rv, e⟩ => by rw [e]; exact ht x hx M1 u v sm ru rv) fun x hx h M1 σ' sm ⟨u, v, ru, rv, e⟩ => by rw [e]; exact he x hx h M1 u v sm ru rv
end
end L3

set_option Elab.async false
set_option linter.all false
set_option maxRecDepth 100000
set_option maxHeartbeats 1000000
namespace L3
open PySem PySem.Spec PyProof.Rows L2
/-! texts cut, lists repeated, several things of ours lent, a dict of new lists -/
section
variable {K : PySem.W.Frag} {σ : Sl} {M H : Hp} {to te ta tb ts : TE} {α : Type} {R : Rl α}
theorem gl_split {x y : Str} (h : Gv to σ M (Tx x)) (h2 : Gv te σ M (Tx y)) (hy : (y.length == 0) = false) (hz : x.length + 2 ≤ sizeLine) :
    GvL (tM1 (fun x xs H Q => ∃ a b, x = .str a ∧ xs = [.str b] ∧ (b.length == 0) = false ∧ a.length + 2 ≤ sizeLine ∧ rNewStrs (Txt.split a b) H Q) to te) σ M fun M ws => Pd Tx M (Txt.split x y) ws := fun H mh Q q =>
  h H mh _ fun v M1 H1 g1 e1 => by
    cases (show v = _ from e1)
    refine ⟨⟨x, rfl⟩, h2.le g1.mm H1 g1.mh _ fun w M2 H2 g2 e2 => ?_⟩
    cases (show w = _ from e2)
    exact ⟨x, y, rfl, rfl, hy, hz, fun p np => q p _ M2 _ ((g1.trans g2).trans (.own g2.mh np)) ((g1.trans g2).hh.free np) (g2.mh.free np) upd_same (pd_of_tx _)⟩
theorem gv_joinL {a : Str} {ys : List Str} (h : Gv te σ M (SqR K Tx ys)) (hz : (ys.map (·.length)).sum + ys.length * a.length ≤ 16777216) :
    Gv (tM1 (fun x xs H Q => ∃ a p, ∃ ys : List Str, x = .str a ∧ xs = [.ref p] ∧ (SqL K H p (ys.map V.str) ∨ SqT K H p (ys.map V.str)) ∧ (ys.map (·.length)).sum + ys.length * a.length ≤ 16777216 ∧ Q (.str (Txt.join a ys)) H) (tC (.str a)) te) σ M (Tx (Txt.join a ys)) := fun H mh Q q =>
  ⟨⟨a, rfl⟩, h H mh _ fun v M1 H1 g1 r => by
    rcases r with ⟨p, vs, rfl, hs, pd⟩ | ⟨p, vs, rfl, hs, pd⟩
    · have e := pd_tx pd
      subst e
      exact ⟨a, p, ys, rfl, rfl, .inl (sl_mono g1.mh hs), hz, q _ M1 H1 g1 rfl⟩
    · have e := pd_tx pd
      subst e
      exact ⟨a, p, ys, rfl, rfl, .inr (st_mono g1.mh hs), hz, q _ M1 H1 g1 rfl⟩⟩
/-- [x, *xs] -/
theorem gv_starL {x : Str} {xs : List Str} (h1 : Gv te σ M (Tx x)) (h2 : Gv ts σ M (SqR K Tx xs)) (hz : xs.length ≤ 1000000) : Gv (tLst (tCons te (StX.tStar K ts tNil))) σ M (LiR Tx (x :: xs)) := fun H mh Q q =>
  h1 H mh _ fun v M1 H1 g1 e1 => h2.le g1.mm H1 g1.mh _ fun w M2 H2 g2 r2 => by
    cases (show v = _ from e1)
    have fin : ∀ {vs : List V}, Pd Tx M2 xs vs → (V.str x :: (vs ++ [])).length ≤ sizeLine ∧ ∀ p, H2 p = none → Q (.ref p) (upd H2 p (.lst (V.str x :: (vs ++ [])))) := fun {vs} pd => by
      have e := pd_tx pd
      subst e
      rw [List.append_nil]
      refine ⟨Nat.le_trans (show _ ≤ 16000000 by simp only [List.length_cons, List.length_map]; omega) (by decide), fun p np => q _ _ _ ((g1.trans g2).trans (.new g2.mh np)) ?_⟩
      exact ⟨p, _, rfl, upd_same, pd_of_tx (x :: xs)⟩
    rcases r2 with ⟨a, vs, rfl, hs, pd⟩ | ⟨a, vs, rfl, hs, pd⟩
    · exact ⟨a, vs, rfl, .inr (sl_mono g2.mh hs), fin pd⟩
    · exact ⟨a, vs, rfl, .inl (st_mono g2.mh hs), fin pd⟩
theorem pd_rep {M : Hp} {xs : List α} {vs : List V} (h : Pd R M xs vs) : ∀ n : Nat, Pd R M (List.replicate n xs).flatten (List.replicate n vs).flatten
  | 0 => .nil
  | n + 1 => by
    rw [List.replicate_succ, List.replicate_succ, List.flatten_cons, List.flatten_cons]
    exact pd_app h (pd_rep h n)
/-- xs * n -/
theorem gl_rep [Mon R] {xs : List α} {n : Nat} (h1 : GvL ta σ M fun M ws => Pd R M xs ws) (h2 : ∀ M1, Same M M1 → Gv tb σ M1 (It' (n : Nat))) (hz : xs.length * n ≤ sizeLine) (hn : n ≤ 1000000) : GvL (tOp rRep ta tb) σ M fun M ws => Pd R M (List.replicate n xs).flatten ws := fun H mh Q q =>
  h1 H mh _ fun p ws M1 H1 g1 h0 m0 hw pd => h2 M1 g1.mm H1 g1.mh _ fun v M2 H2 g2 e => by
    cases (show v = _ from e)
    refine ⟨p, (n : Int), ws, rfl, rfl, g2.hh _ _ hw, by omega, by omega, by show ws.length * (n : Int).toNat ≤ _; rw [Int.toNat_natCast, ← pd.length]; exact hz, fun p2 np => ?_⟩
    rw [Int.toNat_natCast]
    exact q p2 _ M2 _ ((g1.trans g2).trans (.own g2.mh np)) ((g1.trans g2).hh.free np) (g2.mh.free np) upd_same (pd_rep (pd.mono g2.mm) n)
abbrev rJoin (K : PySem.W.Frag) : V → List V → Hp → VK → Prop := fun x xs H Q => ∃ a p, ∃ ys : List Str, x = .str a ∧ xs = [.ref p] ∧ (SqL K H p (ys.map V.str) ∨ SqT K H p (ys.map V.str)) ∧ (ys.map (·.length)).sum + ys.length * a.length ≤ 16777216 ∧ Q (.str (Txt.join a ys)) H
/-- C() -/
theorem pe_mk0 {X : Cx} {k : Nat} {x : Str} {C : Addr} {ps : List Str} {sp : Sp} {p pos : Pos} (c : Mak X.prog X.w X.K X.mg X.base k x C ps sp) (hr : Room (k + 1) X.A) (hg : Gl X x := by rfl) (hdb : (x == ("__debug__" : Str)) = false := by decide) :
    PE X (.Call (.Name x p) [] [] pos) (tMake C sp [] E0 tNil) :=
  let ⟨_, _, M, F, m, b⟩ := c
  pe_make0 M F hr hg m b .nil pass0 hdb
/-! several things of ours, lent at once -/
def delS (M : Hp) (bs : List Addr) : Hp := fun x => if x ∈ bs then none else M x
theorem lentS {bs : List Addr} (mh : Same M H) : Same (withT M H bs) H := fun a o e => by
  unfold withT at e
  cases q : M a with
  | some u => rw [q] at e; cases e; exact mh a _ q
  | none =>
    rw [q] at e
    by_cases ha : a ∈ bs
    · rw [if_pos ha] at e; exact e
    · rw [if_neg ha] at e; cases e
theorem withT_on {bs : List Addr} {a : Addr} {o : HO} (mh : Same M H) (ha : a ∈ bs) (h : H a = some o) : withT M H bs a = some o := withT_in mh ha h
theorem withT_up {bs : List Addr} : Same M (withT M H bs) := fun a o e => by unfold withT; rw [e]; rfl
theorem delS_on {bs : List Addr} {a : Addr} (h : a ∉ bs) : delS M bs a = M a := if_neg h
theorem delS_off {bs : List Addr} {a : Addr} (h : a ∈ bs) : delS M bs a = none := if_pos h
theorem _root_.L3.Gr.backS {bs : List Addr} {M' H' : Hp} (g : Gr (withT M H bs) H M' H') (hb : ∀ b ∈ bs, M b = none) : Gr M H (delS M' bs) H' := by
  have nb : ∀ {a o}, M a = some o → a ∉ bs := fun {a o} e z => by rw [hb a z] at e; cases e
  refine ⟨fun a o e => ?_, g.hh, fun a o e => ?_, fun a o e => ?_, fun a ps e => by
    by_cases z : a ∈ bs
    · rw [delS_off z] at e; cases e
    · rw [delS_on z] at e
      have h := g.nt a ps e
      unfold withT at h
      cases q : M a with
      | some u => rw [q] at h; exact h
      | none => rw [q, if_neg z] at h; cases h⟩
  · rw [delS_on (nb e)]
    exact g.mm _ _ (withT_up _ _ e)
  · by_cases z : a ∈ bs
    · rw [delS_off z] at e; cases e
    · rw [delS_on z] at e; exact g.mh _ _ e
  · by_cases z : a ∈ bs
    · rw [delS_off z] at e; cases e
    · rw [delS_on z] at e
      rcases g.nw a o e with h | h | h
      · unfold withT at h
        cases q : M a with
        | some u => rw [q] at h; exact .inl h
        | none => rw [q, if_neg z] at h; cases h
      · exact .inr (.inl h)
      · exact .inr (.inr h)
end
theorem putK_new {kvs : List (Key × V)} {k : Key} {v : V} (h : ∀ kv ∈ kvs, kv.1 ≠ k) : putK kvs k v = kvs ++ [(k, v)] := by
  unfold putK
  have : (kvs.any fun kv => decide (kv.1 = k)) = false := by
    rw [List.any_eq_false]
    intro kv hkv
    simpa using h kv hkv
  rw [this]
  rfl
def kvR (xs : List Str) (ps : List Addr) : List (Key × V) := List.zipWith (fun x p => ((Sum.inr x : Key), V.ref p)) xs ps
theorem kvR_snoc : ∀ {xs : List Str} {ps : List Addr} {x : Str} {p : Addr}, xs.length = ps.length → kvR (xs ++ [x]) (ps ++ [p]) = kvR xs ps ++ [(Sum.inr x, V.ref p)]
  | [], [], _, _, _ => rfl
  | y :: xs, q :: ps, x, p, h => by
    show (_ :: kvR (xs ++ [x]) (ps ++ [p])) = _
    rw [kvR_snoc (by simpa using h)]
    rfl
theorem kvR_key : ∀ {xs : List Str} {ps : List Addr} {kv : Key × V}, kv ∈ kvR xs ps → ∃ x ∈ xs, kv.1 = Sum.inr x
  | [], _, _, h => by cases h
  | _ :: _, [], _, h => by cases h
  | x :: xs, p :: ps, kv, h => by
    rcases List.mem_cons.mp (show kv ∈ (Sum.inr x, V.ref p) :: kvR xs ps from h) with rfl | h
    · exact ⟨x, List.mem_cons_self .., rfl⟩
    · obtain ⟨y, hy, e⟩ := kvR_key h
      exact ⟨y, List.mem_cons_of_mem _ hy, e⟩
section
variable {K : PySem.W.Frag} {σ : Sl} {M : Hp} {wi : TI}
/-- {x: [] for x in xs} -/
theorem dc_lists {j : Nat} {xs : List Str} (hj : j < σ.length) (nd : xs.Nodup) (hsrc : GvI wi σ M xs Tx) (hz : xs.length ≤ 1000) {H : Hp} (mh : Same M H) {Q : VK}
    (q : ∀ D ps M' H', Gr M H M' H' → H D = none → M' D = none → ps.length = xs.length → ps.Nodup → (∀ p ∈ ps, H p = none ∧ M' p = none ∧ H' p = some (.lst []) ∧ p ≠ D) → H' D = some (.dK (kvR xs ps)) → Q (.ref D) H') :
    tDc wi (gName j) tYes (tVar j) (tLst tNil) [j] σ H Q := by
  refine hsrc H mh _ fun J M1 H1 g1 ⟨G, Y, w, hG, hY⟩ D hD => ?_
  let Pv : Nat → Hp → Prop := fun i H' => ∃ M' ps, Gr M1 H1 M' H' ∧ M' D = none ∧ ps.length = i ∧ ps.Nodup ∧ (∀ p ∈ ps, H1 p = none ∧ M' p = none ∧ H' p = some (.lst []) ∧ p ≠ D) ∧ H' D = some (.dK (kvR (xs.take i) ps))
  refine ⟨fun i m H' => m = xs.length - i ∧ i ≤ xs.length ∧ Pv i H', ⟨xs.length, by omega, Nat.zero_le _, M1, [], .own g1.mh hD, g1.mh.free hD, rfl, List.nodup_nil, (fun _ h => by cases h), upd_same⟩, ?_⟩
  rintro i m H' ⟨rfl, hi, M', ps, g, m0, hl, hnd, hps, hw⟩
  by_cases hlt : i < xs.length
  · refine .inr ⟨w.goes i H' hlt (hG M' H' g.mm g.mh), Pv (i + 1), fun H2 p2 => ⟨xs.length - (i + 1), by omega, rfl, hlt, p2⟩, fun y H2 hy => ?_⟩
    obtain ⟨x, M2, hx, g2, ry⟩ := hY i M' H' y H2 g.mm g.mh hlt (w.yields i H' y H2 hlt (hG M' H' g.mm g.mh) hy)
    cases (show y = _ from ry)
    have et : xs.take (i + 1) = xs.take i ++ [x] := by rw [List.take_add_one, hx]; rfl
    have hs : ((wipe σ [j]).set j (some (V.str x)))[j]? = some (some (V.str x)) := by rw [List.getElem?_set_self (by rw [wipe_length]; exact hj)]
    have hw2 := g2.hh _ _ hw
    refine ⟨wipe1, .str x, hs, ⟨Nat.zero_le _, fun p np => ?_⟩⟩
    have npD : p ≠ D := fun z => by rw [z, hw2] at np; cases np
    have hwp : (upd H2 p (.lst [])) D = some (.dK (kvR (xs.take i) ps)) := by rw [upd_ne (Ne.symm npD)]; exact hw2
    have new : ∀ kv ∈ kvR (xs.take i) ps, kv.1 ≠ (Sum.inr x : Key) := fun kv h e => by
      obtain ⟨z, hz', e'⟩ := kvR_key h
      have : z = x := by rw [e'] at e; exact Sum.inr.inj e
      subst this
      obtain ⟨k, hk, ek⟩ := List.mem_take_iff_getElem.mp hz'
      have e2 := (List.getElem?_eq_some_iff.mp hx).2
      have := (List.getElem_inj nd).mp (ek.trans e2.symm)
      omega
    have gg := (g.trans g2).trans (.own (o := .lst []) g2.mh np)
    have m2D : M2 D = none := g2.keep m0 hw
    have lk : (kvR (xs.take i) ps).length ≤ 1000 := by unfold kvR; rw [List.length_zipWith, List.length_take]; omega
    refine ⟨_, Sum.inr x, rfl, hwp, Nat.lt_of_le_of_lt lk (by decide), M2, ps ++ [p], gg.mut hD m2D, m2D, by rw [List.length_append, hl]; rfl, ?_, ?_, ?_⟩
    · refine List.nodup_append.mpr ⟨hnd, by simp, fun a ha b hb e => ?_⟩
      rw [List.mem_singleton.mp hb] at e
      have := g2.hh _ _ (hps a ha).2.2.1
      rw [e, np] at this
      cases this
    · intro a ha
      rcases List.mem_append.mp ha with ha | ha
      · obtain ⟨h1, h2, h3, h4⟩ := hps a ha
        have h3' := g2.hh _ _ h3
        have nap : a ≠ p := fun z => by rw [z, np] at h3'; cases h3'
        exact ⟨h1, g2.keep h2 h3, by rw [upd_ne h4, upd_ne nap]; exact h3', h4⟩
      · rw [List.mem_singleton.mp ha]
        exact ⟨(g.trans g2).hh.free np, g2.mh.free np, by rw [upd_ne npD, upd_same], npD⟩
    · rw [upd_same, putK_new new, et, kvR_snoc (by rw [hl, List.length_take]; omega)]
  · have e : i = xs.length := by omega
    subst e
    rw [List.take_length] at hw
    exact .inl ⟨w.stops H' (hG M' H' g.mm g.mh), q D ps M' H' (g1.trans g) (g1.hh.free hD) m0 hl hnd (fun p hp => let ⟨h1, h2, h3, h4⟩ := hps p hp; ⟨g1.hh.free h1, h2, h3, h4⟩) hw⟩
end
end L3

set_option Elab.async false
set_option linter.all false
set_option maxRecDepth 100000
set_option maxHeartbeats 2000000
namespace L3
open PySem PySem.Spec PyProof.Rows PySem.Calls L2 NdefX
/-! own exceptions whose __init__ says super().__init__('..') and then self.f = x -/
/-- the body of such an __init__ -/
abbrev supBody (p0 p1 p2 p3 p4 p5 p6 p7 p8 p9 : Pos) (k : Nat) (tx : Str) (f x : Str) : List Stmt :=
  [.Expr (.Call (.Attribute (.Call (.Name "super" p0) [] [] p1) "__init__" p2) [.Constant (.str tx) k p3] [] p4) p5, .Assign [.Attribute (.Name "self" p6) f p7] (.Name x p8) p9]
/-- what the written part says of the class at C and its __init__ at fI -/
structure SupC (P : Program) (K : PySem.W.Frag) (C fI : Addr) (q : Str) (args : Arguments) (body : List Stmt) (sc : Scope) : Prop where
  T : OexC K C
  fn : ∃ oc od kV doc pm an cda ct osl cc cl cld csl ccl cdd vs ccs file tf, K.lookup fI = some ⟨oc, od, .func (PySem.W.fnX "__init__" q args body sc [("__class__", cc)] .none kV doc pm an (.ref cda) ct), osl⟩ ∧ PySem.W.codeIn K (.ref cda) q = true ∧
    K.lookup cc = some ⟨cl, cld, .cell (some (.ref C)), csl⟩ ∧ K.lookup cda = some ⟨ccl, cdd, .fields vs, ccs⟩ ∧ vs[2]? = some (.str file tf) ∧ ((P.main.file : Str) == file) = true
  sup : PySem.W.nsIn K mainGlobals "super" = some none
  opq : PySem.W.nsIn K cStatics "thirdparty.any" = some none
  hm : PySem.W.ks_superIn K C C "__init__" = some (some (.builtin "ValueError.__init__"))
  hB : PySem.W.subIn K (.ref C) (.type "ValueError") = some true
  hS : PySem.W.mroIn K C (.ref C) = some true
  top : (P.main.scope.names.lookup ("super" : Str)).isSome = false
/-- what such an __init__ does -/
def spSup (K : PySem.W.Frag) (C : Addr) (f : Str) : Sp := fun vs H Q _ => ∃ a v, vs = [.ref a, v] ∧ H a = some (exo a C none) ∧ ∀ dx, H dx = none → dx ≠ a → Q .non (upd (upd H dx (exd dx [(f, v)])) a (exo a C (some dx)))
section
variable {prog : Program} {w : World} {A : Around} {E : Value → Shared → Prop}
/-- the wrapper of ValueError.__init__, called -/
theorem call_mw {u e t0 C : Addr} {dv : Option Addr} {h : Heap} {g : Array GenState} {d : Drawn} {t : Nat} {os : OsState} {rest : List Value} {Q : Value → Shared → Prop} {nm q : Str} {N : Addr} {bs bm : List Value} {hdct : Bool} {sn : List Str} {sub : List Value} {ab : Bool} {col : Option Bool} {dd : Option Addr} {k0 k1 k2 k3 k5 : Option Value}
    (hC : h.get? C = some (excClassObj nm q C N bs bm hdct sn sub ab col dd k0 k1 k2 k3 k5 "ValueError.__new__")) (he : h.get? e = some (PySem.W.excRec (.ref C) t0 dv .none .none (.bool false))) (hu : h.get? u = some (PySem.W.kxs_mw "ValueError.__init__" e)) (hz : rest.length ≤ sizeLine)
    (hq : ∀ h', (∀ b o, b ≠ e → h.get? b = some o → h'.get? b = some o) → h'.get? e = some (PySem.W.excRec (.ref C) h.objs.size dv .none .none (.bool false)) → Q .none ⟨h', g, d, t, os⟩) : wpAny (model prog w) A (call (.ref u) rest) Q E ⟨h, g, d, t, os⟩ := by
  refine wpAny_call (codeAny_of_tree ?_)
  show wpAny _ A.in1 (callAny (.ref u) ⟨rest, []⟩) _ _ _
  simp only [callAny]
  refine wpAny_bind (wpAny_load hu ?_)
  simp only [PySem.W.kxs_mw, show (Value.type "method-wrapper" == Value.type "method" || Value.type "method-wrapper" == Value.type "builtin_function_or_method" || Value.type "method-wrapper" == Value.type "method-wrapper") = true by decide, if_true]
  refine PySem.W.KFB.if_so (by decide) ?_
  refine wpAny_bind (PySem.W.check_bound_init PySem.F.excBase_ValueError.toExcCallFacts hC he rfl ?_)
  refine wpAny_bind (wpAny_pure (wpAny_pure ?_))
  refine ⟨plainId_quiet PySem.F.excBase_ValueError.init.plain _, codeAny_builtin PySem.F.excBase_ValueError.initEntry ?_⟩
  exact PySem.W.exc_init_tree he hz fun h' k e' _ => hq h' k e'
end
/-- FnOk of such an __init__ -/
theorem sup_ok {CX : CXT} {P : Program} {w : World} {K : PySem.W.Frag} {mg : Str → Option Value} {base : Heap} {k : Nat} {C fI : Addr} {q : Str} {args : Arguments} {sc : Scope} {p0 p1 p2 p3 p4 p5 p6 p7 p8 p9 : Pos} {kk : Nat} {tx f x : Str}
    (S : SupC P K C fI q args (supBody p0 p1 p2 p3 p4 p5 p6 p7 p8 p9 kk tx f x) sc) (hno : PySem.W.findIn K (.ref C) f = some none) (hx1 : (x == ("__debug__" : Str)) = false) (hx2 : (x == ("__classdict__" : Str)) = false) (NS : NScope ["self", x, "__class__"] ["self", x] ["__class__"] sc) (hks : sc.names.lookup ("super" : Str) = some .globalImplicit)
    (har : ∃ ar : Arg, (args.posonlyargs ++ args.args).head? = some ar ∧ ar.arg = "self") (hev : ∀ env : Env, ∃ pl : Sem Bool, eval (.Call (.Attribute (.Call (.Name "super" p0) [] [] p1) "__init__" p2) [.Constant (.str tx) kk p3] [] p4) env = (do
      let ov ← attributeBase (.Call (.Name "super" p0) [] [] p1) "__init__" env (eval (.Call (.Name "super" p0) [] [] p1) env)
      standAt p2.atName
      let (f, first) ← holding [ov] (getMethod ov "__init__" pl)
      callWith p4 f first (backTo p4 (starEach [.Constant (.str tx) kk p3] env)) []))
    (hbind : ∀ (kV doc pm : Value) (an : Option Addr) (cdv ct : Value) (cl : List (Str × Addr)) (us : List Value), us.length = 2 → bindArgs (PySem.W.fnX "__init__" q args (supBody p0 p1 p2 p3 p4 p5 p6 p7 p8 p9 kk tx f x) sc cl .none kV doc pm an cdv ct) ⟨us, []⟩ = pure (([("self" : Str), x]).zip us)) :
    ∃ fd, Binds K fd ["self", x] [] ∧ FnOk P w K mg base CX (k + 1) fI fd ["self", x] (spSup K C f) := by
  obtain ⟨oc, od, kV, doc, pm, an, cda, ct, osl, cc, cl, cld, csl, ccl, cdd, vs, ccs, file, tf, lk, hcd, hcell, hcode, hvs, hfile⟩ := S.fn
  refine ⟨PySem.W.fnX "__init__" q args (supBody p0 p1 p2 p3 p4 p5 p6 p7 p8 p9 kk tx f x) sc [("__class__", cc)] .none kV doc pm an (.ref cda) ct, .all fun us hl => hbind _ _ _ _ _ _ _ us hl, ⟨fun vs H Q E h => ?_, fun A outer s H as us vs' Q E hr e0 hb r hsp => ?_⟩⟩
  · obtain ⟨a, v, rfl, _⟩ := h
    rfl
  have hl : vs'.length = 2 := by obtain ⟨a, v, rfl, _⟩ := hsp; rfl
  have KB : ∀ b o, K.lookup b = some o → s.heap.get? b = some o ∧ H b = none := fun b o e => e0.bs b o (e0.mod.kin b o e)
  have KX : K.In s.heap := fun b o e => (KB b o e).1
  have lim : s.heap.NoLimit := e0.mod.nolimit.keeps fun b o e => (e0.bs b o e).1
  let F : NF := ⟨"__init__", q, args, supBody p0 p1 p2 p3 p4 p5 p6 p7 p8 p9 kk tx f x, sc, [("__class__", cc)], cda⟩
  have hl2 : us.length = 2 := by rw [← r.length]; exact hl
  refine ks_codeAny_call_defAt hr.depth (KX _ _ lk) rfl lim (PySem.W.codeRec_of KX hcd) rfl hb NS.nocell (fun ⟨n, _⟩ hy => NS.par n (List.of_mem_zip hy).1) (fun h₁ hns kp => ?_) NS.co NS.gen NS.kind
  have one : ∀ {y : Str} {c : Addr}, F.cl.lookup y = some c → y = "__class__" ∧ c = cc := fun {y c} e => by
    have e : (match (y == ("__class__" : Str)) with | true => some cc | false => none) = some c := e
    cases hy : (y == ("__class__" : Str)) with
    | true => rw [hy] at e; exact ⟨beq_iff_eq.mp hy, (Option.some.inj e).symm⟩
    | false => rw [hy] at e; cases e
  have CA : CellsAt F.cl ["__class__"] [none] s.heap H := by
    refine ⟨rfl, fun y c e => ?_, fun x y c e1 e2 => (one e1).1.trans (one e2).1.symm, fun i y e => ?_⟩
    · obtain ⟨rfl, rfl⟩ := one e
      exact ⟨(KB _ _ hcell).2, _, ⟨_, (KB _ _ hcell).1, rfl⟩⟩
    · cases i with
      | zero =>
        cases (show (some ("__class__" : Str)) = some y from e)
        exact ⟨cc, rfl, fun v e => by cases (show (some none : Option (Option V)) = some (some v) from e)⟩
      | succ i => cases (show (none : Option Str) = some y from by simpa using e)
  have I : Inv (ncx CX P w K mg base ["self", x, "__class__"] F fI A outer s H E) [] (startF ["self", x, "__class__"] vs' [none]) H { s with heap := h₁, toks := s.toks + (([("self" : Str), x]).zip us).length } := inv_startN NS hr.hd e0 hl r CA hns kp
  obtain ⟨a, v, rfl, ha, hq⟩ := hsp
  obtain ⟨u0, u1, rfl⟩ : ∃ u0 u1, us = [u0, u1] := match us, hl2 with | [u0, u1], _ => ⟨u0, u1, rfl⟩
  obtain rfl : u0 = .ref a := by cases r with | cons r1 _ => exact r1
  obtain ⟨env, henv⟩ : ∃ env, env = envF F fI s.heap.objs.size := ⟨_, rfl⟩
  have goal : _root_.PySem.wpAt (model P w) (A.deeper env) (.func F.body env) (execs F.body env) (fun f s' => CR CX outer P w H s Q E (.ok (.ret (match f with | .ret v => v | _ => .none))) s')
      (fun e s' => wpAny (model P w) (A.deeper env) (leaving env e) (fun _ s'' => CR CX outer P w H s Q E (.error e) s'') (fun e' s'' => CR CX outer P w H s Q E (.error e') s'') s') { s with heap := h₁, toks := s.toks + (([("self" : Str), x]).zip [Value.ref a, u1]).length } := by
    have hk : env.scope.kind = .function := by rw [henv]; exact NS.kind
    have hin : interactive env = false := by unfold interactive; rw [hk]; rfl
    obtain ⟨pl, he⟩ := hev env
    refine ks_wpAt_execs_cons (ks_wpAt_Expr_any (ks_wpAt_MethodCall (pl := pl) ?_ he) hin ?_)
    · obtain ⟨ar, har1, har2⟩ := har
      have nd2 : ([("self" : Str), x] : List Str).Nodup := by
        have h := NS.nd
        have h2 : ([("self" : Str), x] ++ [("__class__" : Str)]).Nodup := h
        exact (List.nodup_append.mp h2).1
      have m0 : (([("self" : Str), x]).zip [Value.ref a, u1]).reverse.lookup ("self" : Str) = some (.ref a) := zip_look nd2 (i := 0) rfl rfl
      obtain ⟨nm, qC, NC, bs, bm, sn, sub, ab, col, dd, k0, k1, k2, k3, k5, hC, hbm⟩ := S.T.cls
      have hcl : PySem.W.clsIn K C = some { name := nm, bases := bs, mro := .ref C :: bm, ns := NC, qualname := qC, hasDict := true, slotNames := sn, subclasses := sub, abstract := ab, collection := col, hasDel := false } := by unfold PySem.W.clsIn; rw [hC] <;> rfl
      have KX1 : K.In h₁ := KX.keeps kp
      obtain ⟨t1, hoe⟩ := exo_at e0.hok ha
      have hoe1 := kp _ _ hoe
      obtain ⟨mb, hb1, hb2⟩ := e0.mod.blt
      have kB : ∀ b o, base.get? b = some o → h₁.get? b = some o := fun b o e => kp _ _ (e0.bs b o e).1
      refine ks_wpAt_super_base (cc := cda) (f := fI) (ar := ar) (by rw [henv]; exact hks) (by rw [henv]; exact NS.frk _ (by simp)) (by decide) (by rw [henv]) (kp _ _ (KX _ _ lk)) rfl har1 (by rw [henv]) (kp _ _ (KX _ _ hcode)) rfl hvs hfile S.top ?_
      refine PySem.W.ks_loadName_global hk (by rw [henv]; exact hks) (Calls.loadGlobal_builtin (mg := mg) (mb := mb) (by rw [henv]; exact e0.mod.glob.keeps kB) (PySem.W.mg_none_of e0.mod.kin e0.mod.glob S.sup) (by rw [henv]; exact hb1.keeps kB) ((hb2 "super" (by decide)).trans (by kernel_rfl)) ⟨rfl, ?_⟩)
      refine wpAny_loadName_free hk (by rw [henv]; exact NS.frk _ (by simp)) (by rw [henv]; rfl) ⟨_, KX1 _ _ hcell, rfl⟩ ?_
      rw [har2]
      refine wpAny_loadName_local hk (by rw [henv]; exact NS.par _ (by simp)) (by rw [henv]; exact hns) m0 ?_
      refine ks_wpAny_isType_cls (KX1 _ _ hC) rfl ⟨rfl, ?_⟩
      refine ks_wpAny_call_super (KX1 _ _ hC) rfl hoe1 rfl (fun c z => by cases z) (PySem.W.looks_mroIn KX1 S.hS) (fun h2 e2 k2 => ?_)
      have KX2 : K.In h2 := KX1.keeps k2
      have I2 : PySem.W.InstAt h2 a _ C none := ⟨k2 _ _ hoe1, rfl, rfl, trivial⟩
      have hm := S.hm
      unfold PySem.W.ks_superIn at hm
      rw [hcl] at hm
      refine PySem.W.kxs_getMethod PySem.W.kxs_ValueError e2 (PySem.W.looks_opaque KX2 S.opq) (l₀ := .ref C :: bm) (fun A Q E s k q => wpAny_bind ((PySem.W.looks_clsIn KX2 hcl) A _ E s k (wpAny_pure q))) rfl KX2 hm (I2.type.andThen (PySem.W.looks_subIn KX2 S.hB)) (PySem.W.ks_ne KX2 I2 hcl) (by decide) ?_
      -- the wrapper stands
      obtain ⟨u, hu⟩ : ∃ u, u = h2.objs.size := ⟨_, rfl⟩
      have k3 : ∀ b o, h₁.get? b = some o → (h2.push (PySem.W.kxs_mw "ValueError.__init__" a)).get? b = some o := fun b o e => Heap.get?_push_of_some _ (k2 _ _ e)
      have eu : (h2.push (PySem.W.kxs_mw "ValueError.__init__" a)).get? u = some (PySem.W.kxs_mw "ValueError.__init__" a) := by rw [hu]; exact Heap.get?_push_size _ rfl
      have lu : h₁.objs.size ≤ u := by
        rw [hu]
        refine Nat.le_of_not_lt fun z => ?_
        obtain ⟨oS, hS⟩ : ∃ oS, h2.get? h₁.objs.size = some oS := ⟨_, e2⟩
        exact absurd (Heap.lt_size hS) (Nat.not_lt.mpr (Nat.le_of_lt z))
      have I3 : Inv (ncx CX P w K mg base ["self", x, "__class__"] F fI A outer s H E) [] (startF ["self", x, "__class__"] [.ref a, v] [none]) H { s with heap := h2.push (PySem.W.kxs_mw "ValueError.__init__" a), toks := s.toks + (([("self" : Str), x]).zip [Value.ref a, u1]).length + 1 } := I.kept (t' := s.toks + (([("self" : Str), x]).zip [Value.ref a, u1]).length + 1) k3
      have I4 : Inv (ncx CX P w K mg base ["self", x, "__class__"] F fI A outer s H E) [(u, PySem.W.kxs_mw "ValueError.__init__" a)] (startF ["self", x, "__class__"] [.ref a, v] [none]) H { s with heap := h2.push (PySem.W.kxs_mw "ValueError.__init__" a), toks := s.toks + (([("self" : Str), x]).zip [Value.ref a, u1]).length + 1 } := I3.pins_of fun p hp => by
        rw [List.mem_singleton.mp hp]
        exact ⟨eu, I.hok.fresh lu, fun z => by
          have := I.lt
          rw [← z] at this
          exact absurd (Nat.lt_of_lt_of_le this lu) (Nat.lt_irrefl _), I.nofs lu, fun v z => by cases z⟩
      rw [← hu]
      show wpAny (model P w) (A.deeper env) (callWith p4 (.ref u) [] (backTo p4 (starEach [.Constant (.str tx) kk p3] env)) []) _ _ _
      refine PySem.W.kxs_callWith1 (i := "ValueError.__init__") (x := a) (h₀ := h₁) (L := s.heap.objs.size) (news := [(u, PySem.W.kxs_mw "ValueError.__init__" a)]) (fun p hp => ?_) (by simp) ?_ (by rfl) (by rfl)
      · rw [List.mem_singleton.mp hp]
        refine ⟨eu, fun z => ?_, ?_⟩
        · have z : u = s.heap.objs.size := z
          have := I.lt
          have this : s.heap.objs.size < h₁.objs.size := this
          omega
        · show h₁.get? u = none
          cases e : h₁.get? u with
          | none => rfl
          | some o => exact absurd (Heap.lt_size e) (Nat.not_lt.mpr lu)
      rw [henv]
      refine thn ((pa_cons (X := ncx CX P w K mg base ["self", x, "__class__"] F fI A outer s H E) (pe_str (x := tx)) pa_nil).run p4 [(u, PySem.W.kxs_mw "ValueError.__init__" a)] _ _ H (fun vs H' => vs = [.str tx] ∧ H' = H) I4 ⟨rfl, rfl⟩) fun us s5 hAP => ?_
      obtain ⟨vs5, H5, I5, r5, rfl, rfl⟩ := hAP
      have hu5 := (I5.pin (u, PySem.W.kxs_mw "ValueError.__init__" a) (List.mem_append_right _ List.mem_cons_self)).1
      obtain ⟨t5, he5⟩ := exo_at I5.hok ha
      have hz5 : us.length ≤ sizeLine := by rw [← r5.length]; show 1 ≤ sizeLine; decide
      obtain ⟨h5, g5, d5, tk5, os5⟩ := s5
      refine ⟨hu5, call_mw (I5.kIn _ _ hC) he5 hu5 hz5 fun h6 k6 e6 => ?_⟩
      have J := I5.write (t' := tk5) (x := a) (e := a) (o := exo a C none) (by rw [ha]; exact True.intro) (.inl rfl) k6 ⟨_, e6⟩ (exo_ok e6)
      have eH : upd H5 a (exo a C none) = H5 := by
        funext b
        by_cases hb : b = a
        · rw [hb, upd_same, ha]
        · rw [upd_ne hb]
      rw [eH] at J
      have J2 := J.pins_of (pins' := []) fun p hp => absurd hp (by simp)
      refine wpAt_of_wpAny (wpAny_mono ((pss_one (ps_ost (X := ncx CX P w K mg base ["self", x, "__class__"] F fI A outer s H5 E) (pv 0 rfl (.inl (NS.par _ (by simp)))) (pv 1 rfl (.inl (NS.par _ (by simp))) hx1 hx2))).run [] _ _ H5 { nx := fun _ H' => Q .non H', rt := Q } J2 ?_) (fun fl s' hs => ?_) fun e s' z => z)
      · exact ⟨v, rfl, .ref a, rfl, a, C, rfl, S.T, hno, .inl ⟨ha, fun dx n ne => hq dx n ne⟩⟩
      · have fin : ∀ {σ' : L2.St} {H' : Hp} {v : V} {u : Value}, Inv (ncx CX P w K mg base ["self", x, "__class__"] F fI A outer s H5 E) [] σ' H' s' → L2.RelV v u → Q v H' → CE outer P w H5 s Q u s' :=
          fun {σ' H' v u} J rv q => ⟨v, H', J.os, J.bare, J.base, J.hok, rv, q⟩
        cases fl with
        | ret u =>
          obtain ⟨v, σ', H', J, rv, q⟩ := hs
          exact fin J rv q
        | next =>
          obtain ⟨σ', H', J, q⟩ := hs
          exact fin (v := V.non) (u := Value.none) J rfl q
        | brk =>
          obtain ⟨_, _, _, q⟩ := hs
          exact False.elim q
        | cont =>
          obtain ⟨_, _, _, q⟩ := hs
          exact False.elim q
    · rfl
  rw [henv] at goal
  exact goal
end L3

set_option Elab.async false
set_option linter.all false
set_option maxRecDepth 100000
set_option maxHeartbeats 2000000
namespace L3
open PySem PySem.Spec PyProof.Rows L2
/-! own exceptions raised, caught, asked for their field -/
/-- an own exception class x of the module, its instances made with one thing, kept as field f -/
structure Rai (P : Program) (w : World) (K : PySem.W.Frag) (mg : Str → Option Value) (base : Heap) (k : Nat) (x : Str) (C : Addr) (f : Str) : Prop where
  T : OexC K C
  gl : mg x = some (.ref C)
  ini : ∃ (fI : Addr) (fd : FuncData) (p : Str), PySem.W.findIn K (.ref C) "__init__" = some (some (.ref fI)) ∧ PySem.W.typeIn K (.ref fI) = some (.type "function") ∧ FnOk P w K mg base CX0 k fI fd ["self", p] (spSup K C f) ∧ Binds K fd ["self", p] []
/-- raise C(e) -/
def tRai (K : PySem.W.Frag) (C : Addr) (f : Str) (W : WX) (te : TE) : TS := fun _ σ H => tMkO C (spSup K C f) [] (tCons te tNil) σ H fun cls d H' => W cls d σ H'
theorem ps_rai {X : Cx} {W : WX} {k : Nat} {x : Str} {C : Addr} {f : Str} {e : Expr} {te : TE} {p p2 p3 : Pos} (R : Rai X.prog X.w X.K X.mg X.base k x C f) (hr : Room (k + 1) X.A) (hc : X.calm = true) (tk : Takes X W) (h : PA X [e] (tCons te tNil)) (hg : Gl X x := by rfl)
    (hdb : (x == ("__debug__" : Str)) = false := by decide) (he : starEach [e] X.env = (false, eval e X.env) :: starEach [] X.env := by rfl) (hpl : (backTo p2 (starEach [] X.env)).any (·.1) = false := by rfl) :
    PS X (.Raise (some (.Call (.Name x p) [e] [] p2)) none p3) (tRai X.K C f W te) :=
  let ⟨_, _, _, h1, h2, h3, h4⟩ := R.ini
  ps_raise hc tk (pmk_oex R.T h1 h2 h3 hr h4 .nil pass0 hg R.gl h hdb he hpl)
theorem s_rai {K : PySem.W.Frag} {C : Addr} {f : Str} {W : WX} {te : TE} {D : Ends} {σ : Sl} {M H : Hp} {P : Pr} (mh : Same M H) (h : Gv te σ M P) (q : ∀ v M' H' d, Gr M H M' H' → P M' v → H' d = none → W (.ref C) (some d) σ (upd H' d (.xd [(f, v)]))) : tRai K C f W te D σ H :=
  h H mh _ fun v M1 H1 g1 p1 => ⟨by show 1 ≤ 1000; decide, fun a na => ⟨a, v, rfl, upd_same, fun dx ndx nda => ⟨rfl, dx, [(f, v)], upd_same, by rw [upd_ne nda]; exact upd_same, by rw [upd_ne nda] at ndx; exact ndx, by
    have nd1 : H1 dx = none := by rw [upd_ne nda] at ndx; exact ndx
    have e : upd (L2.del (upd (upd (upd H1 a (exo a C none)) dx (exd dx [(f, v)])) a (exo a C (some dx))) a) dx (.xd [(f, v)]) = upd H1 dx (.xd [(f, v)]) := by
      funext b
      by_cases hb : b = dx
      · rw [hb, upd_same, upd_same]
      · rw [upd_ne hb, upd_ne hb]
        by_cases ha : b = a
        · rw [ha, L2.del_same, na]
        · rw [L2.del_ne ha, upd_ne ha, upd_ne hb, upd_ne ha]
    rw [e]
    exact q v M1 H1 dx g1 p1 nd1⟩⟩⟩
end L3

set_option Elab.async false
set_option linter.all false
set_option maxRecDepth 100000
set_option maxHeartbeats 2000000
namespace L3
open PySem PySem.Spec PyProof.Rows L2
/-! what the head must see of an own exception class, as a Boolean -/
def oexM (C : Addr) (cd : ClassData) : List Value → List (Option Value) → Bool
  | .ref C' :: bm, [_, _, _, _, some (.builtin n), _] => decide (C' = C) && (decide (n = "ValueError.__new__") && (cd.hasDict && (!cd.hasDel && PySem.HandSPX.refsVE bm)))
  | _, _ => false
def oexB (K : PySem.W.Frag) (C : Addr) : Bool := match K.lookup C with
  | some ⟨.type c, _, .cls cd, sl⟩ => decide (c = "type") && oexM C cd cd.mro sl.toList
  | _ => false
theorem oexM_ok {C : Addr} {cd : ClassData} {mro : List Value} {sl : List (Option Value)} (h : oexM C cd mro sl = true) : ∃ bm k0 k1 k2 k3 k5, mro = .ref C :: bm ∧ sl = [k0, k1, k2, k3, some (.builtin "ValueError.__new__"), k5] ∧ cd.hasDict = true ∧ cd.hasDel = false ∧ PySem.HandSPX.refsVE bm = true := by
  unfold oexM at h
  split at h
  · rename_i C' bm a0 a1 a2 a3 n a5
    obtain ⟨g1, h2⟩ := He.ba h
    obtain ⟨g2, h2⟩ := He.ba h2
    obtain ⟨g3, h2⟩ := He.ba h2
    obtain ⟨g4, g5⟩ := He.ba h2
    cases of_decide_eq_true g1
    cases of_decide_eq_true g2
    exact ⟨_, _, _, _, _, _, rfl, rfl, g3, by simpa using g4, g5⟩
  · cases h
theorem oexB_ok {K : PySem.W.Frag} {C : Addr} (h : oexB K C = true) : ∃ nm q N bs bm sn sub ab col dd k0 k1 k2 k3 k5, K.lookup C = some (excClassObj nm q C N bs bm true sn sub ab col dd k0 k1 k2 k3 k5 "ValueError.__new__") ∧ PySem.HandSPX.refsVE bm = true := by
  unfold oexB at h
  cases e : K.lookup C with
  | none => rw [e] at h; cases h
  | some o =>
    obtain ⟨oc, od, dt, ⟨sl⟩⟩ := o
    rw [e] at h
    cases oc with
    | type c =>
      cases dt with
      | cls cd =>
        obtain ⟨h1, h2⟩ := He.ba (show (decide (c = "type") && oexM C cd cd.mro sl) = true from h)
        cases of_decide_eq_true h1
        obtain ⟨bm, a0, a1, a2, a3, a5, e1, rfl, e3, e4, g5⟩ := oexM_ok h2
        obtain ⟨nm, bs, mro, ns, qn, hd, sn, sb, ab, col, del⟩ := cd
        dsimp only at e1 e3 e4
        subst e1 e3 e4
        exact ⟨nm, qn, ns, bs, bm, sn, sb, ab, col, od, a0, a1, a2, a3, a5, rfl, g5⟩
      | _ => cases h
    | _ => cases dt <;> cases h
/-- the words of the __init__ at fI -/
abbrev FnC : Type := Option (Str × Str × Arguments × FuncBody × Scope × Addr × List Str × Addr)
def fnC (K : PySem.W.Frag) (x : Str) : FnC := match K.lookup (He.ma K (He.ga K x) "__init__") with
  | some ⟨_, _, .func fd, _⟩ => some (fd.name, fd.qualname, fd.params, fd.body, fd.scope, fd.globals, fd.closure.map (·.1), fd.builtins)
  | _ => none
def fnCv (q : Str) (st : Stmt) : FnC := some ("__init__", q, defArgs st, .stmts (defBody st), defScope st, mainGlobals, ["__class__"], builtinsNs)
/-- its cell, its code, its defaults -/
def cellB (K : PySem.W.Frag) (C : Addr) : List (Str × Addr) → Bool
  | [(_, cc)] => (match K.lookup cc with
    | some ⟨_, _, .cell (some (.ref D)), _⟩ => decide (D = C)
    | _ => false)
  | _ => false
def fileB (P : Program) (K : PySem.W.Frag) : Value → Bool
  | .ref cda => (match K.lookup cda with
    | some ⟨_, _, .fields vs, _⟩ => (match (vs[2]? : Option Value) with
      | some (.str file _) => (P.main.file : Str) == file
      | _ => false)
    | _ => false)
  | _ => false
def noneB : Value → Bool
  | .none => true
  | _ => false
def restB (P : Program) (K : PySem.W.Frag) (x q : Str) : Bool := match K.lookup (He.ma K (He.ga K x) "__init__") with
  | some ⟨_, _, .func fd, _⟩ => PySem.W.codeIn K fd.code q && (fileB P K fd.code && (cellB K (He.ga K x) fd.closure && noneB fd.defaults))
  | _ => false
theorem cellB_ok {K : PySem.W.Frag} {C : Addr} {cl : List (Str × Addr)} (h : cellB K C cl = true) (e : cl.map (·.1) = [("__class__" : Str)]) : ∃ cc oc od osl, cl = [(("__class__" : Str), cc)] ∧ K.lookup cc = some ⟨oc, od, .cell (some (.ref C)), osl⟩ := by
  match cl, h, e with
  | [(n, cc)], h, e =>
    obtain rfl : n = "__class__" := by simpa using e
    have h : (match K.lookup cc with
      | some ⟨_, _, .cell (some (.ref D)), _⟩ => decide (D = C)
      | _ => false) = true := h
    split at h
    · rename_i oc od D osl hl
      cases of_decide_eq_true h
      exact ⟨cc, oc, od, osl, rfl, hl⟩
    · cases h
theorem fileB_ok {P : Program} {K : PySem.W.Frag} {v : Value} (h : fileB P K v = true) : ∃ cda ccl cdd vs ccs file tf, v = .ref cda ∧ K.lookup cda = some ⟨ccl, cdd, .fields vs, ccs⟩ ∧ vs[2]? = some (.str file tf) ∧ ((P.main.file : Str) == file) = true := by
  cases v with
  | ref cda =>
    have h : (match K.lookup cda with
      | some ⟨_, _, .fields vs, _⟩ => (match (vs[2]? : Option Value) with
        | some (.str file _) => (P.main.file : Str) == file
        | _ => false)
      | _ => false) = true := h
    split at h
    · rename_i ccl cdd vs ccs hl
      split at h
      · rename_i file tf hv
        exact ⟨cda, ccl, cdd, vs, ccs, file, tf, rfl, hl, hv, h⟩
      · cases h
    · cases h
  | _ => cases h
/-- all else of the class -/
def supB (P : Program) (K : PySem.W.Frag) (x q f : Str) : Bool :=
  oexB K (He.ga K x) && (decide (PySem.W.findIn K (.ref (He.ga K x)) "__setattr__" = some (some (.builtin "object.__setattr__"))) && (decide (PySem.W.subIn K (.ref (He.ga K x)) (.type "BaseException") = some true) && (decide (PySem.W.typeIn K (.ref (He.ga K x)) = some (.type "type")) &&
  (PySem.W.keepIn K (.ref (He.ga K x)) && (decide (PySem.W.nsIn K mainGlobals "super" = some none) && (decide (PySem.W.nsIn K cStatics "thirdparty.any" = some none) && (decide (PySem.W.ks_superIn K (He.ga K x) (He.ga K x) "__init__" = some (some (.builtin "ValueError.__init__"))) &&
  (decide (PySem.W.subIn K (.ref (He.ga K x)) (.type "ValueError") = some true) && (decide (PySem.W.mroIn K (He.ga K x) (.ref (He.ga K x)) = some true) && (decide (PySem.W.findIn K (.ref (He.ga K x)) "__init__" = some (some (.ref (He.ma K (He.ga K x) "__init__")))) &&
  (decide (PySem.W.typeIn K (.ref (He.ma K (He.ga K x) "__init__")) = some (.type "function")) && (decide (PySem.W.findIn K (.ref (He.ga K x)) f = some none) && (xfB K (He.ga K x) && restB P K x q)))))))))))))
structure SupF (P : Program) (K : PySem.W.Frag) (x q f : Str) (st : Stmt) : Prop where
  S : SupC P K (He.ga K x) (He.ma K (He.ga K x) "__init__") q (defArgs st) (defBody st) (defScope st)
  xf : XfC K (He.ga K x)
  ini : PySem.W.findIn K (.ref (He.ga K x)) "__init__" = some (some (.ref (He.ma K (He.ga K x) "__init__")))
  ty : PySem.W.typeIn K (.ref (He.ma K (He.ga K x) "__init__")) = some (.type "function")
  no : PySem.W.findIn K (.ref (He.ga K x)) f = some none
theorem supB_ok {P : Program} {K : PySem.W.Frag} {x q f : Str} {st : Stmt} (h : supB P K x q f = true) (e : fnC K x = fnCv q st) (top : (P.main.scope.names.lookup ("super" : Str)).isSome = false) : SupF P K x q f st := by
  obtain ⟨a1, h⟩ := He.ba h
  obtain ⟨a2, h⟩ := He.ba h
  obtain ⟨a3, h⟩ := He.ba h
  obtain ⟨a4, h⟩ := He.ba h
  obtain ⟨a5, h⟩ := He.ba h
  obtain ⟨a6, h⟩ := He.ba h
  obtain ⟨a7, h⟩ := He.ba h
  obtain ⟨a8, h⟩ := He.ba h
  obtain ⟨a9, h⟩ := He.ba h
  obtain ⟨b1, h⟩ := He.ba h
  obtain ⟨b2, h⟩ := He.ba h
  obtain ⟨b3, h⟩ := He.ba h
  obtain ⟨b4, h⟩ := He.ba h
  obtain ⟨b5, b6⟩ := He.ba h
  refine ⟨⟨⟨oexB_ok a1, of_decide_eq_true a2, of_decide_eq_true a3, of_decide_eq_true a4, a5⟩, ?_, of_decide_eq_true a6, of_decide_eq_true a7, of_decide_eq_true a8, of_decide_eq_true a9, of_decide_eq_true b1, top⟩, xfB_ok b5, of_decide_eq_true b2, of_decide_eq_true b3, of_decide_eq_true b4⟩
  unfold restB at b6
  unfold fnC at e
  cases hl : K.lookup (He.ma K (He.ga K x) "__init__") with
  | none => rw [hl] at b6; cases b6
  | some o =>
    obtain ⟨oc, od, dt, osl⟩ := o
    rw [hl] at b6 e
    cases dt with
    | func fd =>
      obtain ⟨n1, n2, n3, n4, n5, n6, n7, n8, n9, n10, n11, n12, n13, n14, n15⟩ := fd
      have e2 : (some (n1, n2, n3, n4, n5, n6, n7.map (·.1), n15) : FnC) = fnCv q st := e
      unfold fnCv at e2
      simp only [Option.some.injEq, Prod.mk.injEq] at e2
      obtain ⟨h1, h2, h3, h4, h5, h6, h7, h8⟩ := e2
      subst h1 h2 h3 h4 h5 h6 h8
      obtain ⟨c1, d2⟩ := He.ba (show (PySem.W.codeIn K n13 n2 && (fileB P K n13 && (cellB K (He.ga K x) n7 && noneB n8))) = true from b6)
      obtain ⟨c2, d3⟩ := He.ba d2
      obtain ⟨c3, c4⟩ := He.ba d3
      obtain ⟨cc, cl, cld, csl, rfl, hcell⟩ := cellB_ok c3 h7
      obtain ⟨cda, ccl, cdd, vs, ccs, file, tf, rfl, hcode, hvs, hfile⟩ := fileB_ok c2
      obtain rfl : n8 = .none := by cases n8 <;> first | rfl | cases c4
      exact ⟨_, _, _, _, _, _, cda, _, _, cc, cl, cld, csl, ccl, cdd, vs, ccs, file, tf, rfl, c1, hcell, hcode, hvs, hfile⟩
    | _ => cases b6
end L3

set_option Elab.async false
set_option linter.all false
set_option maxRecDepth 100000
set_option maxHeartbeats 1000000
namespace L3
open PySem PySem.Spec PyProof.Rows L2
/-! ~o by an own __invert__, o <= p by an own __le__, o op p by an own method of both's class -/
section
variable {X : Cx} {C : Addr} {k : Nat} {ps : List Str} {sp : Sp}
def rInvO (C : Addr) (sp : Sp) : V → Hp → VK → Prop := fun x H Q => ∃ a dx fs, x = V.ref a ∧ H a = some (.ins C dx fs) ∧ sp [.ref a] H Q E0
theorem un_invO (o : OwnSp X.prog X.w X.K X.mg X.base k C "__invert__" ps sp) (hr : Room k X.A) : UnR X (unaryOp .Invert) (rInvO C sp) := by
  intro pins s σ H x v Q I rx h
  obtain ⟨f, fd, F, hs, hf, hb⟩ := o
  obtain ⟨a, dx, fs, rfl, ha, q⟩ := h
  cases (show v = Value.ref a from rx)
  obtain ⟨ox, od, J⟩ := own_inst I ha
  obtain ⟨m, hF⟩ := I.fr
  have KX := I.ok.mod.kin.keeps hF.keep
  unfold unaryOp
  refine wpAny_holding ?_
  dsimp only
  rw [if_neg (by decide)]
  exact wpAny_bind (PySem.W.special_fn KX J hs (beq_iff_eq.mp hf) (wpAny_mono (run_deep (us := [.ref a]) (vs := [.ref a]) F hr I.env0 hb pass0 I (.cons rfl .nil) q) (fun w s' z => wpAny_pure z) fun _ _ x => x))
def rLeO (C : Addr) (sp : Sp) : R2 := fun x y H Q => ∃ a b dx dy fs gs, x = V.ref a ∧ y = V.ref b ∧ H a = some (.ins C dx fs) ∧ H b = some (.ins C dy gs) ∧ sp [.ref a, .ref b] H (fun v H' => ∃ c, v = .bl c ∧ Q (.bl c) H') E0
theorem op_leO (o : OwnSp X.prog X.w X.K X.mg X.base k C "__le__" ps sp) (hr : Room k X.A) : OpR X (compareOp .LtE) (rLeO C sp) := by
  intro pins s σ H x y u v Q I rx ry h
  obtain ⟨f, fd, F, hs, hf, hb⟩ := o
  obtain ⟨a, b, dx, dy, fs, gs, rfl, rfl, ha, hb', q⟩ := h
  cases (show u = Value.ref a from rx)
  cases (show v = Value.ref b from ry)
  obtain ⟨ox, od, J⟩ := own_inst I ha
  obtain ⟨oy, od', J'⟩ := own_inst I hb'
  obtain ⟨m, hF⟩ := I.fr
  refine PySem.W.cmp_K (op := .LtE) (tb := .ref C) hr.units0 hF I.ok.mod.kin J J'.type (by simp [PySem.W.notFirst]) hs hf (wpAny_mono (run_deep (us := [.ref a, .ref b]) (vs := [.ref a, .ref b]) F hr I.env0 hb pass0 I (.cons rfl (.cons rfl .nil)) q) (fun w s' z => ?_) fun _ _ x => x)
  obtain ⟨z', H', I', rz, c, e, qz⟩ := z
  subst e
  cases (show w = Value.bool c from rz)
  exact ⟨.bl c, H', I', rfl, qz⟩
end
/-! dicts with tuple keys, locked -/
def DtF : Rl (List (List Str)) := fun ks M v => ∃ a o, v = .ref a ∧ M a = some (.frz o (.dT (ent ks)))
instance : Mon DtF := ⟨fun e ⟨a, o, h, r⟩ => ⟨a, o, h, e _ _ r⟩⟩
section
variable {K : PySem.W.Frag} {σ : Sl} {M : Hp} {ta tb te ts : TE} {wi : TI}
theorem gv_inDtF {neg : Bool} {x : List Str} {ks : List (List Str)} (ha : Gv ta σ M (TT x)) (hb : Gv tb σ M (DtF ks)) : Gv (tOp (rInA K neg) ta tb) σ M (Bl (xor neg (decide (x ∈ ks)))) :=
  gv_op ha hb fun M' u v pu pv => by
    obtain ⟨b, e1, r1⟩ := pu
    obtain ⟨d, o, e2, r2⟩ := pv
    subst e1 e2
    refine rv_pure (v := .bl (xor neg (decide (x ∈ ks)))) (fun H mh Q q => .inr (.inl ⟨d, _, rfl, .inr ⟨ent ks, x.map Sum.inr, b, .inr ⟨o, mh _ _ r2⟩, rfl, (by rw [key_V]; exact mh _ _ r1), rfl⟩, ?_⟩)) rfl
    rw [val_ent]
    exact q
/-- a new dict with tuple keys that is ours -/
def GvKT (te : TE) (σ : Sl) (M : Hp) (ks : List (List Str)) : Prop := ∀ H, Same M H → ∀ Q : VK, (∀ p M' H', Gr M H M' H' → H p = none → M' p = none → H' p = some (.dT (ent ks)) → Q (.ref p) H') → te σ H Q
theorem gk_dcT {j : Nat} {xs : List (List Str)} (hj : j < σ.length) (hsrc : GvI wi σ M xs TT) (hz : xs.length ≤ sizeLine) : GvKT (tDcT wi (gName j) tYes (tVar j) (tC (.bl true)) [j]) σ M (once xs) := by
  intro H mh Q q
  refine hsrc H mh _ fun J M1 H1 g1 ⟨G, Y, w, hG, hY⟩ D hD => ?_
  refine ⟨fun i m H' => i + m = xs.length ∧ ∃ M', Gr M1 H1 M' H' ∧ M' D = none ∧ ((xs.take i).foldl onceP []).length ≤ i ∧ H' D = some (.dT (ent ((xs.take i).foldl onceP []))), ⟨xs.length, Nat.zero_add _, M1, .own g1.mh hD, g1.mh.free hD, Nat.le_refl _, upd_same⟩, fun i m H' ⟨e, M', gr, m0, hl, hw⟩ => ?_⟩
  have gG := hG M' H' gr.mm gr.mh
  cases m with
  | zero =>
    have e' : i = xs.length := e
    subst e'
    rw [List.take_length] at hw
    exact .inl ⟨w.stops H' gG, q _ _ H' (g1.trans gr) (g1.hh.free hD) m0 hw⟩
  | succ m =>
    have hi : i < xs.length := by omega
    refine .inr ⟨w.goes i H' hi gG, fun y H2 hy => ?_⟩
    obtain ⟨x, M2, hx, g2, b, ey, rb⟩ := hY i M' H' y H2 gr.mm gr.mh hi (w.yields i H' y H2 hi gG hy)
    subst ey
    have at_j : ((wipe σ [j]).set j (some (V.ref b)))[j]? = some (some (V.ref b)) := List.getElem?_set_self (by rw [wipe_length]; exact hj)
    refine ⟨wipe1, _, at_j, ent ((xs.take i).foldl onceP []), x.map Sum.inr, b, rfl, by rw [key_V]; exact g2.mh _ _ rb, g2.hh _ _ hw, ?_, m, Nat.lt_succ_self m, by omega, M2, (gr.trans g2).mut hD (g2.keep m0 hw), g2.keep m0 hw, ?_, ?_⟩
    · unfold ent; rw [List.length_map]; omega
    · rw [List.take_add_one, hx, List.foldl_append]
      exact Nat.le_trans (onceP_len _ x) (Nat.succ_le_succ hl)
    · rw [upd_same, putK_ent, List.take_add_one, hx, List.foldl_append]
      rfl
theorem gv_frzT {ks : List (List Str)} (h : GvKT te σ M ks) : Gv (tFrz te) σ M (DtF ks) := fun H mh Q q =>
  h H mh _ fun p M' H' g h0 m0 hp => ⟨p, _, rfl, hp, trivial, fun o => q _ _ _ ((g.mut h0 m0).freeze h0 m0 upd_same) ⟨p, o, rfl, upd_same⟩⟩
theorem gi_keysT {ks : List (List Str)} (h : Gv ts σ M (DtF ks)) : GvI (iKeys ts) σ M ks TT := fun H mh Q q => h H mh _ fun v M1 H1 g1 ⟨a, o, e, r⟩ => by
  subst e
  have hl : (ent ks).length = ks.length := by unfold ent; rw [List.length_map]
  refine ⟨a, o, rfl, .inr ⟨_, g1.mh _ _ r, q _ M1 H1 g1 ⟨_, _, (by rw [← hl]; exact walk_keysT (kvs := ent ks)), fun M2 H2 s1 s2 => s2 _ _ (s1 _ _ r), ?_⟩⟩⟩
  rintro i M2 H2 v H3 s1 s2 hi ⟨rfl, k, w, b, hk, rfl, hb⟩
  unfold ent at hk
  rw [List.getElem?_map] at hk
  obtain ⟨x, hx, ex⟩ := Option.map_eq_some_iff.mp hk
  cases ex
  rw [key_V] at hb
  exact ⟨x, withT M2 H3 [b], hx, Gr.tups s2 (fun c hc => ⟨x.map V.str, by rw [List.mem_singleton.mp hc]; exact hb⟩), b, rfl, withT_in s2 (List.mem_singleton.mpr rfl) hb⟩
/-- self.f = e where e gives a locked dict -/
theorem s_fldF {H : Hp} {D : Ends} {i : Nat} {x dx : Addr} {fs : List (Str × V)} {f : Str} {ks : List (List Str)} {C : Addr} (mh : Same M H) (hm : M x = none) (hx : H x = some (.ins C dx fs)) (hi : σ[i]? = some (some (.ref x))) (cl : Cls K C) (na : NoAttr K C f) (hl : fs.length < 1000)
    (h : Gv te σ (upd M x (.ins C dx fs)) (DtF ks)) (k : ∀ v M' H', Gr M H M' H' → M' x = none → DtF ks M' v → D.nx σ (upd H' x (.ins C dx (putF f v fs)))) : sFld K (tVar i) te f D σ H :=
  h H (same_lent mh hx) _ fun v M' H' g ⟨d, o, e, hd⟩ => ⟨.ref x, hi, x, C, dx, fs, rfl, g.hh _ _ hx, cl, na, hl, k v _ H' (g.back hm) del_at ⟨d, o, e, by
    have n : d ≠ x := fun z => by subst z; rw [g.mm d _ upd_same] at hd; cases hd
    rw [L3.del_ne n]; exact hd⟩⟩
end
end L3

set_option Elab.async false
set_option linter.all false
set_option maxRecDepth 100000
set_option maxHeartbeats 1000000
namespace L3
open PySem PySem.Spec PyProof.Rows L2 LamX
open Strm
/-! a lambda handed to a def of the law, behind the stream -/
/-- a def whose code object stands at c -/
def FunC (K : PySem.W.Frag) (x qual : Str) (st : Stmt) (fd : FuncData) (f c : Addr) : Prop := ∃ (oc : Value) (od : Option Addr) (kV doc pm : Value) (an : Option Addr) (ct : Value) (osl : Array (Option Value)),
  fd = PySem.W.fnOf x qual (defArgs st) (defBody st) (defScope st) .none kV doc pm an (.ref c) ct ∧ K.lookup f = some ⟨oc, od, .func (PySem.W.fnOf x qual (defArgs st) (defBody st) (defScope st) .none kV doc pm an (.ref c) ct), osl⟩ ∧ PySem.W.codeIn K (.ref c) qual = true
/-- a def keeps its promise where no repr is under way; its code object is known -/
theorem fun_okGC {P : Program} {w : World} {K : PySem.W.Frag} {mg : Str → Option Value} {base : Heap} {x qual : Str} {st : Stmt} {f c : Addr} {fd : FuncData} {N ps : List Str} {k : Nat} {sp : Sp} (F : FunC K x qual st fd f c) (S : FnScope N ps (defScope st))
    (ar : ∀ vs H Q E, sp vs H Q E → vs.length = ps.length) (hb : ∀ (A : Around) (outer : List Env) (s : Shared) (H : Hp) (vs : List V) (Q : VK) (E : XK), A.guards = some [] → Room k (A.deeper (envOfC qual (defScope st) s.heap.objs.size f (.ref c))) → sp vs H Q E →
      ∃ t, PSs (cxOf CX0 P w K mg base N qual (defScope st) f (.ref c) A outer s H E).nox (defBody st) t ∧ t { nx := fun _ H' => Q .non H', rt := Q } (start N vs) H) :
    FnG P w K mg base CX0 (k + 1) f fd ps sp where
  len := ar
  run A outer s H args us vs Q E hgu hr e0 hbi rv hsp := by
    have ⟨c1, c2, c3, c4, c5, c6, c7, c8, efd, lk, hcd⟩ := F
    subst efd
    have grown : ∀ b o, base.get? b = some o → s.heap.get? b = some o := fun b o e => (e0.bs b o e).1
    have inK := e0.mod.kin.keeps grown
    apply codeAny_call_function hr.depth (inK _ _ lk) rfl S.co S.gen rfl (PySem.W.codeRec_of inK hcd)
    apply hbi
    refine wpAny_newFunctionEnv_cells S.kind (fun ⟨n, v⟩ hy => ?_) fun env he s1 new => ?_
    · rcases S.par n (List.of_mem_zip hy).1 with q | q
      · exact .inl q
      · exact .inr ⟨q, PySem.W.cellsFrom_some _ _ _ (.inl q)⟩
    subst he
    have ⟨t, pt, q⟩ := hb A outer s H vs Q E hgu (hr.deeper _) hsp
    have I0 := inv_start (CX := CX0) (E := E) S hr.hd e0 (ar _ _ _ _ hsp) rv new
    refine ⟨(e0.mod.nolimit.keeps grown).keeps new.toInCall.keep, codeAny_func (wpAny_mono (pt.nox.run [] s1 _ H _ I0 q) ?_ fun _ _ z => z)⟩
    rintro (_ | _ | _ | u) s2 h2
    · have ⟨_, _, J, z⟩ := h2
      exact ⟨V.non, _, J.os, J.bare, J.base, J.hok, rfl, z⟩
    · exact h2.elim fun _ h => h.elim fun _ h => h.2.elim
    · exact h2.elim fun _ h => h.elim fun _ h => h.2.elim
    · have ⟨v, _, _, J, ru, z⟩ := h2
      exact ⟨v, _, J.os, J.bare, J.base, J.hok, ru, z⟩
/-- x(lambda: body), x a def of the text -/
theorem pe_lamR {X : Cx} {T : List (Addr × Str)} {TT : (XK → Hp → VK → Prop) → Hp → VK → Prop} {x a : Str} {g c P : Addr} {k : Nat} {fd : FuncData} {st : Stmt} {Ng : List Str} {params : Arguments} {body : Expr} {scope : Scope} {t : XK → TE} {p lpos pos : Pos}
    (F : Fun X.K x x st g fd) (hm : X.mg x = some (.ref g)) (hb : L2.Binds X.K fd [a] []) (Sg : FnScope Ng [a] (defScope st)) (hNg : Ng[0]? = some a) (hva : Vis (defScope st) a)
    (hG : ∀ cdv, GivesTo X Ng x (defScope st) g cdv (defBody st) a (X.env.qual ++ "<lambda>") TT) (TB : TabB X.base X.mg c P) (hcode : X.env.code = .ref c) (hT : T = [(P, X.env.qual ++ "<lambda>")]) (hr : Room (k + 2) X.A) (L : LamS X.env.scope scope)
    (hbody : ∀ (A : Around) (outer : List Env) (s : Shared) (H : Hp) (E : XK) (f c' : Addr), Room k (A.deeper (lamEnv X scope s.heap.objs.size f c')) → PE (lamCx X A outer s H E scope f c') body (t E))
    (hg : Gl X x := by rfl) (hdef : defaultsOf params X.env = ([], []) := by rfl) (hbind : ∀ (q : Str) (cl : List (Str × Addr)) (pm cv ctv : Value), bindArgs (PySem.W.kla_fn "<lambda>" q params body scope cl pm cv ctv) ⟨[], []⟩ = pure [] := by intros; rfl)
    (hdb : (x == ("__debug__" : Str)) = false := by decide) (hd : (a == ("__debug__" : Str)) = false := by decide) (hcd : (a == ("__classdict__" : Str)) = false := by decide) :
    PE X (.Call (.Name x p) [.Lambda params body scope lpos] [] pos) (tLam T TT t) := by
  obtain ⟨oc, od, kV, doc, pm, an, cdv, ct, osl, efd, lk, hc⟩ := F.ex
  subst efd
  subst hT
  exact pe_lamcall hg hm F.kp lk hc hb Sg hNg hva (hG cdv) TB hcode (List.mem_singleton.mpr rfl) (fun q hq _ => by rw [List.mem_singleton.mp hq]) hr L hdef hbind hbody hdb hd hcd
section
variable {S : Strm} {H H' M M' : Hp} {j k : Nat} {Pt : Addr} {q : Str} {σ : Sl} {P : Pr}
theorem Strm.At.ext (h : S.At k H) (e : ExtN H H') : S.At k H' := let ⟨c, x, n, m, h1, h2, h3⟩ := h.ex; ⟨h.ne, c, x, n, m, e _ _ h1 (fun _ z => by cases z), e _ _ h2 (fun _ z => by cases z), h3⟩
/-- the state of a law with a table of code objects -/
structure LS (S : Strm) (Pt : Addr) (q : Str) (M H : Hp) (k : Nat) : Prop where
  mh : Same M (S.cut H)
  at_ : S.At k H
  tb : TabS H Pt q
  mp : M Pt = none
  nt : ∀ a ps, M a ≠ some (.tbl ps)
theorem LS.le (L : LS S Pt q M H k) (e : j ≤ k) : LS S Pt q M H j := ⟨L.mh, L.at_.le e, L.tb, L.mp, L.nt⟩
theorem LS.step (L : LS S Pt q M H k) (g : Gr M (S.cut H) M' (S.cut H')) (a : S.At j H') : LS S Pt q M' H' j := by
  have kp : ∀ x o, H x = some o → (∀ vs, o ≠ HO.lst vs) → S.cut H x = some o ∧ H' x = some o := fun x o e n => by
    have no : ¬ S.off x := fun z => by
      obtain ⟨vs, hv⟩ := L.at_.at_ z
      rw [hv] at e
      exact n vs (Option.some.inj e).symm
    have e1 : S.cut H x = some o := by rw [cut_on no]; exact e
    exact ⟨e1, of_cut (g.hh x o e1)⟩
  obtain ⟨ps, hP, ok, h3⟩ := L.tb
  have h1 := kp Pt _ hP (fun _ z => by cases z)
  refine ⟨g.mh, a, ⟨ps, h1.2, ok, fun pos cv hc => ?_⟩, g.keep L.mp h1.1, fun x qs e => L.nt x qs (g.nt x qs e)⟩
  obtain ⟨c, e1, e2⟩ := h3 pos cv hc
  exact ⟨c, e1, (kp c _ e2 (fun _ z => by unfold CodeO at z; cases z)).2⟩
/-- a step that leaves all as it is -/
theorem LS.idle (L : LS S Pt q M H k) (hh : Same H H') : LS S Pt q M H' k := by
  have m1 : Same M (S.cut H') := fun x o e => by
    have h1 := L.mh x o e
    rw [cut_on (on_of h1)]
    exact hh _ _ (of_cut h1)
  exact ⟨m1, L.at_.same hh, L.tb.ext hh, L.mp, L.nt⟩
theorem LS.put (L : LS S Pt q M H k) {p : Addr} {o : HO} {vs : List V} (hp : S.cut H p = some (.lst vs)) (hm : M p = none) : LS S Pt q M (upd H p o) k := by
  have no : ¬ S.off p := on_of hp
  have hp' := of_cut hp
  obtain ⟨ps, hP, ok, h3⟩ := L.tb
  have n1 : Pt ≠ p := fun z => by rw [z, hp'] at hP; cases hP
  refine ⟨by rw [cut_upd no]; exact same_mut L.mh hm, L.at_.upd no, ⟨ps, by rw [upd_ne n1]; exact hP, ok, fun pos cv hc => ?_⟩, L.mp, L.nt⟩
  obtain ⟨c, e1, e2⟩ := h3 pos cv hc
  have n2 : c ≠ p := fun z => by rw [z, hp'] at e2; unfold CodeO at e2; cases e2
  exact ⟨c, e1, by rw [upd_ne n2]; exact e2⟩
/-- the lambda's reading, then what follows -/
theorem lam_step {TT : (XK → Hp → VK → Prop) → Hp → VK → Prop} {t : XK → TE} (L : LS S Pt q M H k) (h : Gv (fun σ H Q => TT (fun E H' Q' => t E σ H' Q') H Q) σ M P) {Q : VK} (go : ∀ v M' H', Same M M' → LS S Pt q M' H' k → ExtN H H' → P M' v → Q v H') : tLam [(Pt, q)] TT t σ H Q :=
  ⟨fun p hp => by rw [List.mem_singleton.mp hp]; exact L.tb, fun H1 eN T1 => by
    have m1 : Same M H1 := fun x o e => eN x o (cut_same _ _ (L.mh x o e)) fun ps z => L.nt x ps (z ▸ e)
    have a1 : S.At k H1 := L.at_.ext eN
    have c1 : Same M (S.cut H1) := fun x o e => by rw [cut_on (on_of (L.mh x o e))]; exact m1 x o e
    have L1 : LS S Pt q M H1 k := ⟨c1, a1, T1 _ (List.mem_singleton.mpr rfl), L.mp, L.nt⟩
    exact h H1 m1 Q fun v M' H' g p => go v M' H' g.mm (L1.step (lift c1 a1 g) (a1.same g.hh)) (eN.trans (.of g.hh)) p⟩
/-- try: a() / except BS as e: return e.f / return None -/
def TTix (BS : Addr) (f : Str) : (XK → Hp → VK → Prop) → Hp → VK → Prop := fun tl H Q => tl (fun cls d H' => cls = .ref BS ∧ ∃ a v, d = some a ∧ H' a = some (.xd [(f, v)]) ∧ Q v H') H fun _ H' => Q .non H'
end
end L3

set_option Elab.async false
set_option linter.all false
set_option maxRecDepth 100000
set_option maxHeartbeats 1000000
namespace L3
open PySem PySem.Spec PyProof.Rows L2
/-! data among which an empty dict may stand -/
/-- data, or an empty dict -/
def DdF (K : PySem.W.Frag) : Rl PyData := fun d M v => Dd K d M v ∨ (d = .dict [] ∧ ∃ a, v = .ref a ∧ M a = some (.dK []))
/-- .. or a list of such -/
def DdE (K : PySem.W.Frag) : Rl PyData := fun d M v => DdF K d M v ∨ ∃ a ds vs, d = .list ds ∧ v = .ref a ∧ SqL K M a vs ∧ Pd (DdF K) M ds vs
instance {K : PySem.W.Frag} : Mon (DdF K) := ⟨fun e h => h.elim (fun h => .inl (dp_mono e h)) fun ⟨h1, a, h2, h3⟩ => .inr ⟨h1, a, h2, e _ _ h3⟩⟩
instance {K : PySem.W.Frag} : Mon (DdE K) := ⟨fun e h => h.elim (fun h => .inl (Mon.mono e h)) fun ⟨a, ds, vs, h1, h2, h3, h4⟩ => .inr ⟨a, ds, vs, h1, h2, sl_mono e h3, h4.mono e⟩⟩
theorem ty_F {K : PySem.W.Frag} {M : Hp} {d : PyData} {v : V} (h : DdF K d M v) : TyX K M v (.type (tyN d)) := by
  rcases h with h | ⟨rfl, a, rfl, h⟩
  · exact ty_of h
  · exact .base (.dK h)
theorem ty_E {K : PySem.W.Frag} {M : Hp} {d : PyData} {v : V} (h : DdE K d M v) : TyX K M v (.type (tyN d)) := by
  rcases h with h | ⟨a, ds, vs, rfl, rfl, hs, _⟩
  · exact ty_F h
  · rcases hs with (h | ⟨o, h⟩) | ⟨o, its, n, hk, hc, _⟩
    · exact .base (.lst h)
    · exact .base (.frz h)
    · exact .kList hk hc
section
variable {K : PySem.W.Frag} {σ : Sl} {M : Hp} {ta : TE}
theorem gv_isiF {d : PyData} {n : String} {b : Bool} (h : Gv ta σ M (DdF K d)) (hk : kitB (tyN d) n = some b) : Gv (tCB (rIsi K) (tCons ta (tCons (tC (.ty n)) tNil))) σ M (Bl b) := fun H mh Q q =>
  h H mh _ fun v M1 H1 g1 p => ⟨v, .ty n, _, _, b, rfl, .ty n, ty_F (Mon.mono g1.mh p), kit_ty hk, q _ M1 H1 g1 rfl⟩
theorem gv_isi2E {d : PyData} {n m : String} {b c : Bool} (h : Gv ta σ M (DdE K d)) (hk : kitB (tyN d) n = some b) (hm : kitB (tyN d) m = some c) : Gv (tCB (rIsiT K) (tCons ta (tCons (tTup (tCons (tC (.ty n)) (tCons (tC (.ty m)) tNil))) tNil))) σ M (Bl (b || c)) := fun H mh Q q =>
  h H mh _ fun v M1 H1 g1 p => ⟨by show 2 ≤ sizeLine; decide, fun tp ntp => by
    refine ⟨v, tp, _, _, _, b || c, rfl, upd_same, .cons (.ty n) (.cons (.ty m) .nil), ty_E (Mon.mono ((g1.mh).trans (same_new ntp)) p), ?_, q _ M1 _ (g1.trans (.own g1.mh ntp)) rfl⟩
    refine kitAny_cons (kit_ty hk) (fun hb => kitAny_cons (kit_ty hm) (fun hc => ?_) fun hc => ?_) fun h => ?_
    · rw [hb, hc]; exact kitAny_nil
    · rw [hb, hc]; rfl
    · rw [h]; rfl⟩
theorem sqF {ds : List PyData} {v : V} (h : SqR K (Dd K) ds M v) : SqR K (DdF K) ds M v := by
  rcases h with ⟨a, vs, e, hs, hp⟩ | ⟨a, vs, e, hs, hp⟩
  · exact .inl ⟨a, vs, e, hs, Paired.mapP hp fun _ _ q => .inl q⟩
  · exact .inr ⟨a, vs, e, hs, Paired.mapP hp fun _ _ q => .inl q⟩
end
end L3

set_option Elab.async false
set_option linter.all false
set_option maxRecDepth 100000
set_option maxHeartbeats 1000000
namespace L3
open PySem PySem.Spec PyProof.Rows L2
/-! a written dict of three texts, locked at the return: it can be walked -/
def Dc3F (a b c : Str) (R1 R2 R3 : Pr) : Pr := fun M v => ∃ p o u1 u2 u3, v = .ref p ∧ M p = some (.frz o (.dK [(Sum.inr a, u1), (Sum.inr b, u2), (Sum.inr c, u3)])) ∧ R1 M u1 ∧ R2 M u2 ∧ R3 M u3
section
variable {K : PySem.W.Frag} {σ : Sl} {M : Hp} {td ts t1 t2 t3 : TE} {P : Pr}
theorem gv_dgetF {R : Pr} {k : Str} (h : Gv td σ M P) (hr : ∀ M v, P M v → ∃ a o kvs u, v = .ref a ∧ M a = some (.frz o (.dK kvs)) ∧ valV kvs (Sum.inr k : Key) = some u ∧ R M u) : Gv (tDGet td (tC (.str k))) σ M R := fun H mh Q q => h H mh _ fun v M1 H1 g1 p1 => by
  obtain ⟨a, o, kvs, u, rfl, ha, hu, r⟩ := hr M1 v p1
  exact ⟨a, u, rfl, .inl ⟨kvs, Sum.inr k, .inr ⟨o, g1.mh _ _ ha⟩, rfl, hu.symm⟩, q u M1 H1 g1 r⟩
theorem gv_disp3F {a b c : Str} {R1 R2 R3 : Pr} [Mono R1] [Mono R2] [Mono R3] (h1 : Gv t1 σ M R1) (h2 : Gv t2 σ M R2) (h3 : Gv t3 σ M R3) (n1 : a ≠ b) (n2 : a ≠ c) (n3 : b ≠ c) :
    Gv (tFrz (tDisp [(tC (.str a), t1), (tC (.str b), t2), (tC (.str c), t3)])) σ M (Dc3F a b c R1 R2 R3) := fun H mh Q q p np => by
  have g0 := Gr.own (o := .dK []) mh np
  have m0 : M p = none := mh.free np
  have p0 : (upd H p (.dK [])) p = some (.dK []) := upd_same
  refine h1 _ g0.mh _ fun u1 M1 H1 g1 r1 => ?_
  refine h2.le g1.mm H1 g1.mh _ fun u2 M2 H2 g2 r2 => ?_
  refine h3.le (g1.mm.trans g2.mm) H2 g2.mh _ fun u3 M3 H3 g3 r3 => ?_
  have G := (g1.trans g2).trans g3
  have m3 : M3 p = none := G.keep m0 p0
  refine ⟨G.hh _ _ p0, [(Sum.inr a, u1), (Sum.inr b, u2), (Sum.inr c, u3)], rfl, by show 3 ≤ 15; decide, ?_⟩
  rw [merge3 n1 n2 n3]
  refine ⟨p, _, rfl, upd_same, trivial, fun o => ?_⟩
  have e3 := same_new (o := .frz o (.dK [(Sum.inr a, u1), (Sum.inr b, u2), (Sum.inr c, u3)])) m3
  exact q _ _ _ ((((g0.trans G).mut np m3).mut np m3).freeze np m3 upd_same) ⟨p, o, u1, u2, u3, rfl, upd_same, Mono.mono ((g2.mm.trans g3.mm).trans e3) r1, Mono.mono (g3.mm.trans e3) r2, Mono.mono e3 r3⟩
theorem gi_keys3 {a b c : Str} {R1 R2 R3 : Pr} (h : Gv ts σ M (Dc3F a b c R1 R2 R3)) : GvI (iKeys ts) σ M [a, b, c] Tx := fun H mh Q q => h H mh _ fun v M1 H1 g1 ⟨p, o, u1, u2, u3, e, r, _⟩ => by
  subst e
  refine ⟨p, o, rfl, .inl ⟨_, g1.mh _ _ r, q _ M1 H1 g1 ⟨_, _, walk_keys (kvs := [(Sum.inr a, u1), (Sum.inr b, u2), (Sum.inr c, u3)]), fun M2 H2 s1 s2 => s2 _ _ (s1 _ _ r), ?_⟩⟩⟩
  rintro i M2 H2 v H3 s1 s2 hi ⟨rfl, k, w, hk, rfl⟩
  match i, hk with
  | 0, hk => cases hk; exact ⟨a, M2, rfl, .refl s2, rfl⟩
  | 1, hk => cases hk; exact ⟨b, M2, rfl, .refl s2, rfl⟩
  | 2, hk => cases hk; exact ⟨c, M2, rfl, .refl s2, rfl⟩
end
section
variable {K : PySem.W.Frag} {σ : Sl} {M : Hp} {te : TE} {α : Type} {R : Rl α} [Mon R] {xs : List α}
/-- xs[::-1] -/
theorem gl_revL (h : Gv te σ M (LstR K R xs)) : GvL (tRevL K te) σ M fun M ws => Pd R M xs.reverse ws := fun H mh Q q =>
  h H mh _ fun v M1 H1 g1 ⟨a, vs, e, hs, hp⟩ => ⟨a, vs, e, sl_mono g1.mh hs, fun p np => by
    have pr : ∀ {α : Type} {R : Rl α} {M : Hp} {xs : List α} {vs : List V}, Pd R M xs vs → Pd R M xs.reverse vs.reverse := fun {α R M xs vs} h => by
      induction h with
      | nil => exact .nil
      | cons q _ ih => rw [List.reverse_cons, List.reverse_cons]; exact pd_app ih (.cons q .nil)
    exact q p _ M1 _ (g1.trans (.own g1.mh np)) (g1.hh.free np) (g1.mh.free np) upd_same (pr hp)⟩
end
end L3
namespace L3
open PySem PySem.Spec PyProof.Rows L2 LamX
open Strm
/-- the lambda's reading, then what follows; what is ours stays -/
theorem lam_stepO {S : Strm} {H M : Hp} {k : Nat} {Pt : Addr} {q : Str} {σ : Sl} {P : Pr} {TT : (XK → Hp → VK → Prop) → Hp → VK → Prop} {t : XK → TE} (L : LS S Pt q M H k) (h : Gv (fun σ H Q => TT (fun E H' Q' => t E σ H' Q') H Q) σ M P) {Q : VK}
    (go : ∀ v M' H', Same M M' → LS S Pt q M' H' k → (∀ x o, M x = none → S.cut H x = some o → (∀ ps, o ≠ .tbl ps) → (∀ xs, o ≠ .tup xs) → M' x = none ∧ S.cut H' x = some o) → P M' v → Q v H') : tLam [(Pt, q)] TT t σ H Q :=
  ⟨fun p hp => by rw [List.mem_singleton.mp hp]; exact L.tb, fun H1 eN T1 => by
    have m1 : Same M H1 := fun x o e => eN x o (cut_same _ _ (L.mh x o e)) fun ps z => L.nt x ps (z ▸ e)
    have a1 : S.At k H1 := L.at_.ext eN
    have c1 : Same M (S.cut H1) := fun x o e => by rw [cut_on (on_of (L.mh x o e))]; exact m1 x o e
    have L1 : LS S Pt q M H1 k := ⟨c1, a1, T1 _ (List.mem_singleton.mpr rfl), L.mp, L.nt⟩
    exact h H1 m1 Q fun v M' H' g p => go v M' H' g.mm (L1.step (lift c1 a1 g) (a1.same g.hh)) (fun x o hm hx hn ht => by
      have no : ¬ S.off x := on_of hx
      have h1 := eN x o (of_cut hx) hn
      have h2 := g.hh _ _ h1
      exact ⟨g.keep hm h1 ht, by rw [cut_on no]; exact h2⟩) p⟩
end L3

set_option Elab.async false
set_option linter.all false
set_option maxRecDepth 100000
set_option maxHeartbeats 1000000
namespace L3
open PySem PySem.Spec PyProof.Rows L2 LamX
/-! the law's own end, a table of code objects at Pt tracked from the start, empty -/
def scrT (K : PySem.W.Frag) (a : Addr) (vs : List Value) (xs : List V) (Pt : Addr) : Hp := fun b => if b = Pt then some (.tbl #[]) else scrH K a vs xs b
section
variable {K : PySem.W.Frag} {a b Pt : Addr} {vs : List Value} {xs : List V}
theorem scrT_at : scrT K a vs xs Pt Pt = some (.tbl #[]) := if_pos rfl
theorem scrT_off (n : b ≠ Pt) : scrT K a vs xs Pt b = scrH K a vs xs b := if_neg n
/-- what is known at the start: all but the table -/
theorem start_law {H : Hp} {ns : List Int} (hP : H Pt = some (.tbl #[])) (hs : SqL K H a (ns.map V.int)) (only : ∀ b qs, H b = some (.tbl qs) → b = Pt) : ∃ M : Hp, L2.Same M H ∧ SqR K It' ns M (.ref a) ∧ M Pt = none ∧ ∀ b qs, M b ≠ some (.tbl qs) := by
  refine ⟨fun b => if b = Pt then none else H b, fun b o e => ?_, ?_, if_pos rfl, fun b qs e => ?_⟩
  · have e : (if b = Pt then none else H b) = some o := e
    by_cases n : b = Pt
    · rw [if_pos n] at e; cases e
    · rw [if_neg n] at e; exact e
  · have at_a : ∀ o, H a = some o → (∀ qs, o ≠ .tbl qs) → (fun b => if b = Pt then none else H b) a = some o := fun o e no => by
      have n : a ≠ Pt := fun z => by rw [z, hP] at e; exact no _ (Option.some.inj e).symm
      show (if a = Pt then none else H a) = some o
      rw [if_neg n]; exact e
    refine .inl ⟨a, _, rfl, ?_, pd_of_it ns⟩
    rcases hs with (h | ⟨o, h⟩) | h
    · exact .inl (.inl (at_a _ h (by intro qs z; cases z)))
    · exact .inl (.inr ⟨o, at_a _ h (by intro qs z; cases z)⟩)
    · exact .inr h
  · have e : (if b = Pt then none else H b) = some (.tbl qs) := e
    by_cases n : b = Pt
    · rw [if_pos n] at e; cases e
    · rw [if_neg n] at e; exact n (only b qs e)
end
theorem walk_GT {l : PySem.W.OpenLaw} {n k : Nat} {q : Program} {loose : List Str} {XP : (Str → Option Value) → Heap → Prop} {YP : World → Heap → Prop} {d : DefRec} {sp : PySem.W.Frag → Addr → Sp} {x : Str} (hn : l.most = some n) (hn2 : n ≤ sizeLine) (hdf : d.params.defaults = [])
    (hr : Room k callerA) (F : ∀ (w : World) (mg : Str → Option Value) (fa : Addr) (h : Heap), YP w h → h.Ns mainGlobals mg → mg d.name = some (.ref fa) → ∃ (K : PySem.W.Frag) (fd : FuncData) (c Pt : Addr), K.In h ∧ PySem.W.codeHdIn K c Pt = true ∧ K.lookup Pt = none ∧ h.get? Pt = some { cls := .none, data := .fields #[] } ∧
      (∀ (s : Shared) (u : Value), BindsTo s fd ⟨[u], []⟩ [(x, u)]) ∧ ∀ base : Heap, K.In base → base.Ns mainGlobals mg → TabB base mg c Pt → FnG l.prog w K mg base CX0 k fa fd [x] (sp K Pt))
    (hsp : ∀ (K : PySem.W.Frag) (Pt : Addr) (H : Hp) (a : Addr) (ns : List Int), ns.length ≤ n → (∀ z ∈ ns, Builtin.Int.intBits z ≤ 1048576) → H Pt = some (.tbl #[]) → SqL K H a (ns.map V.int) → (∀ b qs, H b = some (.tbl qs) → b = Pt) → sp K Pt [.ref a] H (fun v _ => v = .bl true) fun _ _ _ => False) : PySem.W.WalkO q loose XP YP l.row.toRowW d [] (fun f vs => PySem.call f vs) := by
  apply Att.attach_callB hn hdf
  intro w s0 s mg mb fa o pm cd doc a vs ns G Y ho hd hcd hmg hobj hints hlen hbits hgens
  obtain ⟨K, fd, c, Pt, KX, hcp, hPK, hPt, bind, hF⟩ := F w mg fa _ Y G.T.g hmg
  have rv := vals_ints hints
  have hz : (ns.map V.int).length ≤ sizeLine := by rw [List.length_map]; exact Nat.le_trans hlen hn2
  have hobj : s.heap.get? a = some (scrO vs) := hobj
  have aP : a ≠ Pt := fun z => by
    rw [← z, hobj] at hPt
    cases (show Data.seq vs.toArray _ = Data.fields #[] from congrArg Obj.data (Option.some.inj hPt))
  -- what stands in s and is neither the table nor the script is seen
  have free : ∀ {b : Addr} {ob : Obj}, s.heap.get? b = some ob → ob ≠ { cls := .none, data := .fields #[] } → (scrH K a vs (ns.map V.int) b = none) → (hidT s.heap (scrT K a vs (ns.map V.int) Pt)).get? b = some ob := fun {b ob} e h1 h2 => hidT_get e (by
    have nb : b ≠ Pt := fun z => by rw [z, hPt] at e; exact h1 (Option.some.inj e).symm
    rw [scrT_off nb]; exact h2)
  have noscr : ∀ {b : Addr} {ob : Obj}, s.heap.get? b = some ob → (∀ its m, ob.data ≠ .seq its m) → scrH K a vs (ns.map V.int) b = none := fun {b ob} e h1 => by
    cases z : scrH K a vs (ns.map V.int) b with
    | none => rfl
    | some u =>
      rw [(scrH_some z).1, hobj] at e
      cases e
      exact (h1 _ _ rfl).elim
  have KB : K.In (hidT s.heap (scrT K a vs (ns.map V.int) Pt)) := fun b ob e => hidT_get (KX b ob e) (by
    have nb : b ≠ Pt := fun z => by rw [z, hPK] at e; cases e
    rw [scrT_off nb]
    cases z : scrH K a vs (ns.map V.int) b with
    | none => rfl
    | some u =>
      have z2 := scrH_some z
      rw [z2.1, z2.2.1] at e
      cases e)
  have NS : ∀ b m, s.heap.Ns b m → (hidT s.heap (scrT K a vs (ns.map V.int) Pt)).Ns b m := fun b m ⟨ob, es, ep, e, dd, r⟩ => ⟨ob, es, ep, free e (fun z => by rw [z] at dd; cases dd) (noscr e fun its m z => by rw [dd] at z; cases z), dd, r⟩
  have hok : HOk l.prog w (scrT K a vs (ns.map V.int) Pt) s.heap := fun b u e => by
    by_cases nb : b = Pt
    · subst nb
      rw [scrT_at] at e
      cases e
      exact hPt
    · rw [scrT_off nb] at e
      obtain ⟨e1, _, e3⟩ := scrH_some e
      subst e1 e3
      exact ⟨hobj, hz, vs, _, rv, hobj⟩
  have gP : mainGlobals ≠ Pt := fun z => by
    obtain ⟨ob, es, ep, e, dd, _⟩ := G.T.g
    rw [z, hPt] at e
    cases e
    cases dd
  have bm : (hidT s.heap (scrT K a vs (ns.map V.int) Pt)).BuiltinsAt mg Pt := by
    obtain ⟨bm, ob, b1, b2, b3, b4, b5, b6⟩ := G.T.bmain
    refine ⟨bm, ob, b1, b2, fun z => ?_, fun z => ?_, free b3 (fun z => by rw [z] at b6; cases b6) (noscr b3 fun its m z => by rw [b6] at z; cases z), b4, b5, b6⟩
    · obtain ⟨o2, es, ep, e, dd, _⟩ := G.T.g
      rw [← z, b3] at e
      cases e
      rw [b6] at dd
      cases dd
    · rw [z, hPt] at b3
      cases b3
      cases b6
  have ⟨mc, l1, l2⟩ := G.T.nolimit
  have env : Env0 l.prog w K mg (hidT s.heap (scrT K a vs (ns.map V.int) Pt)) callerA [] s (scrT K a vs (ns.map V.int) Pt) :=
    ⟨rfl, ⟨KB, NS _ _ G.T.g, ⟨mb, NS _ _ G.T.b, G.T.builtins⟩, ⟨mc, NS _ _ l1, l2⟩⟩, fun b o e => of_hidT e, Nat.le_of_eq (hidT_size _ _), trivial, nofun, hok, .of_eq hgens⟩
  have sq : SqL K (scrT K a vs (ns.map V.int) Pt) a (ns.map V.int) := sl_mono (fun b u e => by
    have nb : b ≠ Pt := fun z => aP ((scrH_some e).1.symm.trans z)
    rw [scrT_off nb]; exact e) (scrH_sq KX hobj rv hz)
  have only : ∀ b qs, scrT K a vs (ns.map V.int) Pt b = some (.tbl qs) → b = Pt := fun b qs e => by
    by_cases nb : b = Pt
    · exact nb
    · rw [scrT_off nb] at e
      cases (scrH_some e).2.2
  refine codeAny_mono ((hF _ KB (NS _ _ G.T.g) ⟨PySem.W.codeHd_of_K KB hcp, bm, gP⟩).run callerA [] s _ ⟨[.ref a], []⟩ [.ref a] [.ref a] _ _ rfl hr env (bind _ _) (.cons rfl .nil) (hsp _ _ _ a ns hlen hbits scrT_at sq only)) ?_
  intro r s1 h
  match r, h with
  | .ok (.ret u), h =>
    have ⟨v, H1, os, bare, un, hok1, ru, ev⟩ := h
    have e1 : v = .bl true := ev
    subst e1
    cases (show u = Value.bool true from ru)
    obtain ⟨more, hm⟩ := un.tbls Pt #[] scrT_at
    have grown : s1.heap.get? Pt = some { cls := .none, data := .fields more } := by
      have z := hok1 Pt _ hm
      rw [Array.empty_append] at z
      exact z
    have kept : ∀ b ob, b ≠ Pt → s.heap.get? b = some ob → s1.heap.get? b = some ob := fun b ob nb e => by
      cases z : scrT K a vs (ns.map V.int) Pt b with
      | none => exact un.keep b ob e z nofun nofun
      | some y =>
        have z0 := z
        rw [scrT_off nb] at z0
        have hy := scrH_some z0
        rw [hy.2.2] at z
        have now := (hok1 b _ (un.frzs b _ _ z)).1
        rw [hy.1, hobj] at e
        cases e
        exact now
    refine ⟨rfl, ⟨fun b ob e => ?_, fun b ob e => ?_⟩, os, bare⟩
    · by_cases nb : b = Pt
      · subst nb
        rw [hPt] at e
        cases e
        exact .inr (.inl ⟨((PySem.W.codeHd_of_K KX hcp).tab hPt).isCodeTable, rfl, #[], more, rfl, by rw [Array.empty_append]; exact grown⟩)
      · exact .inl (kept b ob nb e)
    · by_cases nb : b = Pt
      · subst nb
        exact ⟨_, grown⟩
      · exact ⟨ob, kept b ob nb e⟩
end L3

set_option Elab.async false
set_option linter.all false
set_option maxRecDepth 100000
set_option maxHeartbeats 1000000
namespace L3
open PySem PySem.Spec PyProof.Rows L2
/-! a quiet def (one that raises nothing and walks no range) called while an exception is handled -/
structure FnQ (P : Program) (w : World) (K : PySem.W.Frag) (mg : Str → Option Value) (base : Heap) (k : Nat) (f : Addr) (fd : FuncData) (ps : List Str) (sp : Sp) : Prop where
  len (vs : List V) (H : Hp) (Q : VK) (E : XK) : sp vs H Q E → vs.length = ps.length
  run : ∀ (A : Around) (outer : List Env) (s : Shared) (H : Hp) (args : Args) (us : List Value) (vs : List V) (Q : VK) (E : XK) (p : Addr × Obj), A.guards = some [] → L2H.RoomH k A → L2H.PinOk outer H s p →
    Env0 P w K mg base A outer s H → BindsTo s fd args (ps.zip us) → Vals vs us → sp vs H Q E → codeAny (model P w) A (.call (.ref f) args) (CR CX0 outer P w H s Q E) s
theorem fun_okQ {P : Program} {w : World} {K : PySem.W.Frag} {mg : Str → Option Value} {base : Heap} {x qual : Str} {st : Stmt} {f : Addr} {fd : FuncData} {N ps : List Str} {k : Nat} {sp : Sp} (F : Fun K x qual st f fd) (S : FnScope N ps (defScope st))
    (ar : ∀ vs H Q E, sp vs H Q E → vs.length = ps.length) (hb : ∀ (cdv : Value) (A : Around) (outer : List Env) (s : Shared) (H : Hp) (vs : List V) (Q : VK) (E : XK) (p : Addr × Obj), A.guards = some [] → L2H.RoomH k (A.deeper (envOfC qual (defScope st) s.heap.objs.size f cdv)) → sp vs H Q E →
      ∃ t, PSs (L2H.cxH CX0 P w K mg base N qual (defScope st) f cdv A outer s H E p).nox (defBody st) t ∧ t { nx := fun _ H' => Q .non H', rt := Q } (start N vs) H) :
    FnQ P w K mg base (k + 1) f fd ps sp where
  len := ar
  run A outer s H args us vs Q E p hgu hr hp e0 hbi rv hsp := by
    have ⟨c1, c2, c3, c4, c5, c6, cdv, c7, c8, efd, lk, hcd⟩ := F.ex
    subst efd
    have grown : ∀ b o, base.get? b = some o → s.heap.get? b = some o := fun b o e => (e0.bs b o e).1
    have inK := e0.mod.kin.keeps grown
    apply codeAny_call_function hr.depth (inK _ _ lk) rfl S.co S.gen rfl (PySem.W.codeRec_of inK hcd)
    apply hbi
    refine wpAny_newFunctionEnv_cells S.kind (fun ⟨n, v⟩ hy => ?_) fun env he s1 new => ?_
    · rcases S.par n (List.of_mem_zip hy).1 with q | q
      · exact .inl q
      · exact .inr ⟨q, PySem.W.cellsFrom_some _ _ _ (.inl q)⟩
    subst he
    have ⟨t, pt, q⟩ := hb cdv A outer s H vs Q E p hgu (hr.deeper _) hsp
    have I0 := L2H.inv_startH (CX := CX0) (E := E) S hp e0 (ar _ _ _ _ hsp) rv new
    refine ⟨(e0.mod.nolimit.keeps grown).keeps new.toInCall.keep, codeAny_func (wpAny_mono (pt.nox.run [] s1 _ H _ I0 q) ?_ fun _ _ z => z)⟩
    rintro (_ | _ | _ | u) s2 h2
    · have ⟨_, _, J, z⟩ := h2
      exact ⟨V.non, _, J.os, J.bare, J.base, J.hok, rfl, z⟩
    · exact h2.elim fun _ h => h.elim fun _ h => h.2.elim
    · exact h2.elim fun _ h => h.elim fun _ h => h.2.elim
    · have ⟨v, _, _, J, ru, z⟩ := h2
      exact ⟨v, _, J.os, J.bare, J.base, J.hok, ru, z⟩
section
variable {X : Cx} {k : Nat} {f : Addr} {fd : FuncData} {ps : List Str} {sp : Sp} {E : XK} {x : Str} {p pos : Pos} {e : Expr} {es : List Expr} {t : TA}
theorem pe_callQ (F : FnQ X.prog X.w X.K X.mg X.base k f fd ps sp) (hgu : X.A.guards = some []) (hr : L2H.RoomH k X.A) (pin : Addr × Obj) (hpin : pin ∈ X.pn) (hg : Gl X x) (hm : X.mg x = some (.ref f)) (hk : PySem.W.keepIn X.K (.ref f) = true) (hb : Binds X.K fd ps []) (hx : Passes CX0 X E)
    (ha : PA X (e :: es) t) (hdb : (x == ("__debug__" : Str)) = false := by decide) (he : starEach (e :: es) X.env = (false, eval e X.env) :: starEach es X.env := by rfl) (hpl : (backTo pos (starEach es X.env)).any (·.1) = false := by rfl) :
    PE X (.Call (.Name x p) (e :: es) [] pos) (tCall sp [] E t) := by
  refine ⟨fun pins s σ H Q I h => wpAny_Call_Name_kw (ld_glob I hg hm (PySem.W.callWith_K (h₀ := X.base) I.ok.mod.kin hk
    (thn (ha.run pos pins s σ H _ I h) fun us s1 ⟨vs, H1, I1, r, q⟩ => ⟨I1.kIn, ?_⟩) he hpl) hdb)⟩
  have q : sp (vs ++ []) H1 Q E := q
  rw [List.append_nil] at q
  have bind := hb s1 us I1.kIn (by rw [List.append_nil, ← r.length]; exact F.len _ _ _ _ q)
  rw [List.append_nil] at bind
  have P1 := I1.pin pin (List.mem_append_left _ hpin)
  have pok : L2H.PinOk X.stack H1 s1 pin := ⟨P1.1, P1.2.1, fun hm => (List.mem_cons.mp (I1.stkSub pin.1 hm)).elim P1.2.2.1 P1.2.2.2.1, P1.2.2.2.2⟩
  apply wpAny_call
  apply codeAny_mono (F.run X.A X.stack s1 H1 ⟨us, []⟩ _ _ Q E pin hgu hr pok I1.env0 bind r q)
  rintro (e | fl) s' hq
  · exact hx pins σ H1 s1 e s' I1 hq
  · cases fl with
    | ret u => exact I1.after hq
    | _ => exact hq.elim
end
end L3

set_option Elab.async false
set_option linter.all false
set_option maxRecDepth 100000
set_option maxHeartbeats 4000000
namespace My
open PySem PySem.Spec PyProof.Rows L2 L3
def topS (i : Nat) : Stmt := PySem.Challenge.pw_lastopen_k02_rules_made.main.body.getD i (.Pass ⟨0, 0, 0, 0⟩)
/-! the plain functions -/
def nameOf (x : Str) : Str := if cutS x none (some 1) = "-" then cutS x (some 1) none else x
def opp (x : Str) : Str := if cutS x none (some 1) = "-" then cutS x (some 1) none else "-" ++ x
def isListD : PyData → Bool
  | .list _ => true | .tuple _ => true | _ => false
def isLit (ns : List Str) : PyData → Bool
  | .str x => decide (nameOf x ∈ ns) | _ => false
def nameD : PyData → Str
  | .str x => nameOf x | _ => ""
def fwGo (ns : List Str) : List PyData → List Str → Nat → Option Nat
  | [], _, _ => none
  | d :: r, met, i => if isLit ns d = false ∨ nameD d ∈ met then some i else fwGo ns r (met ++ [nameD d]) (i + 1)
/-- the index of the first thing that is no literal, or whose name stood before -/
def firstWrong (ns : List Str) : PyData → Option Nat
  | .list ds => fwGo ns ds [] 0 | .tuple ds => fwGo ns ds [] 0 | _ => some 0
def shortD : PyData → Prop
  | .str x => x.length ≤ 1000 | _ => True
def shortL : PyData → Prop
  | .list ds => ds.length ≤ 1000000 ∧ ∀ d ∈ ds, shortD d | .tuple ds => ds.length ≤ 1000000 ∧ ∀ d ∈ ds, shortD d | _ => True
def asc (ls ns : List Str) : List Str := ns.flatMap fun n => [n, ("-" : Str) ++ n].filter fun l => decide (l ∈ ls)
/-- built-ins that the module does not shade -/
structure Bi (mg : Str → Option Value) : Prop where
  len : mg "len" = none
  tuple : mg "tuple" = none
  list : mg "list" = none
  str : mg "str" = none
  int : mg "int" = none
  all : mg "all" = none
  any : mg "any" = none
  isinstance : mg "isinstance" = none
  enumerate : mg "enumerate" = none
  range : mg "range" = none
  repr : mg "repr" = none
theorem sz1000 {n : Nat} (h : n ≤ 1000) : n ≤ sizeLine := Nat.le_trans h (by decide)
theorem szM {n : Nat} (h : n ≤ 16000000) : n ≤ sizeLine := Nat.le_trans h (by decide)
theorem szL {n : Nat} (h : n ≤ 16000000) : n < sizeLine := Nat.lt_of_le_of_lt h (by decide)
section
variable {P : Program} {w : World} {K : PySem.W.Frag} {mg : Str → Option Value} {base : Heap}
abbrev s_name_of : Stmt := topS 12
theorem sc_name_of : FnScope ["literal"] ["literal"] (defScope s_name_of) := ⟨rfl, rfl, rfl, by decide +kernel, rfl, by decide +kernel, by decide +kernel⟩
def sp_name_of (K : PySem.W.Frag) : Sp := sp1 Tx (fun x => x.length ≤ 1000) fun x => Tx (nameOf x)
theorem ok_name_of {f : Addr} {fd : FuncData} (F : Fun K "name_of" "name_of" s_name_of f fd) : FnOk P w K mg base CX0 1 f fd ["literal"] (sp_name_of K) := by
  refine F.ok sc_name_of (fun vs H Q E h => ?_) (fun cdv A outer s H vs Q E hr h => ?_)
  · obtain ⟨x, M, v, rfl, _⟩ := h
    rfl
  · obtain ⟨x, M, v, rfl, mh, r1, hp, q⟩ := h
    have hu := hr.units
    refine ⟨_, (pss_one (ps_ret (pe_ifExp (pt_cmpR (op_eqP hu) (pe_slice sl_X (pv 0) po_none (po_some pe_int)) pe_str (nomark _)) (pe_slice sl_X (pv 0) (po_some pe_int) po_none) (pv 0)))), ?_⟩
    have hv : Gv (tVar 0) (start ["literal"] [v]) M (Tx x) := gv_var rfl r1
    refine s_ret mh (gv_if (gt_test (gv_eqT py_str inj_str (gv_cutS hv (sz1000 hp) (fun _ _ h => h) (fun _ _ h => ⟨1, rfl, h⟩)) (gv_c rfl) (by simp [PyData.depth]))) (fun hb => gv_is (gv_cutS hv (sz1000 hp) (fun _ _ h => ⟨1, rfl, h⟩) fun _ _ h => h) fun M' v h => ?_) fun hb => gv_is hv fun M' v h => ?_) q
    · show Tx (nameOf x) M' v
      rw [show nameOf x = _ from if_pos (by simpa using hb)]; exact h
    · show Tx (nameOf x) M' v
      rw [show nameOf x = _ from if_neg (by simpa using hb)]; exact h
def sp_opposite (K : PySem.W.Frag) : Sp := sp1 Tx (fun x => x.length ≤ 1000) fun x => Tx (opp x)
abbrev s_is_list : Stmt := topS 9
theorem sc_is_list : FnScope ["thing"] ["thing"] (defScope s_is_list) := ⟨rfl, rfl, rfl, by decide +kernel, rfl, by decide +kernel, by decide +kernel⟩
def sp_is_list (K : PySem.W.Frag) : Sp := sp1 (Dd K) (fun _ => True) fun d => Bl (isListD d)
theorem ok_is_list {f : Addr} {fd : FuncData} (F : Fun K "is_list" "is_list" s_is_list f fd) (T : Bi mg) : FnOk P w K mg base CX0 1 f fd ["thing"] (sp_is_list K) := by
  refine F.ok sc_is_list (fun vs H Q E h => ?_) (fun cdv A outer s H vs Q E hr h => ?_)
  · obtain ⟨x, M, v, rfl, _⟩ := h
    rfl
  · obtain ⟨d, M, v, rfl, mh, r1, hp, q⟩ := h
    refine ⟨_, (pss_one (ps_ret (pe_callB call_isiT (by rfl) T.isinstance boot_isinstance (pa_cons (pv 0) (pa_cons (pe_tup (pa_cons (pe_bltn (v := .ty "list") (u := .type "list") (by rfl) T.list (by decide +kernel) rfl) (pa_cons (pe_bltn (v := .ty "tuple") (u := .type "tuple") (by rfl) T.tuple (by decide +kernel) rfl) pa_nil))) pa_nil))))), ?_⟩
    have hv : Gv (tVar 0) (start ["thing"] [v]) M (Dd K d) := gv_var rfl r1
    cases d with
    | list _ => exact s_ret mh (gv_isi2 (b := true) (c := false) hv (by simp only [tyN]; decide +kernel) (by simp only [tyN]; decide +kernel)) q
    | tuple _ => exact s_ret mh (gv_isi2 (b := false) (c := true) hv (by simp only [tyN]; decide +kernel) (by simp only [tyN]; decide +kernel)) q
    | _ => exact s_ret mh (gv_isi2 (b := false) (c := false) hv (by simp only [tyN]; decide +kernel) (by simp only [tyN]; decide +kernel)) q
abbrev s_is_literal : Stmt := topS 13
theorem sc_is_literal : FnScope ["thing", "names"] ["thing", "names"] (defScope s_is_literal) := ⟨rfl, rfl, rfl, by decide +kernel, rfl, by decide +kernel, by decide +kernel⟩
def sp_is_literal (K : PySem.W.Frag) : Sp := sp2 (Dd K) (SqR K Tx) (fun d _ => shortD d) fun d ns => Bl (isLit ns d)
theorem ok_is_literal {f : Addr} {fd : FuncData} (F : Fun K "is_literal" "is_literal" s_is_literal f fd) (T : Bi mg) (c_name_of : Cal P w K mg base 1 "name_of" ["literal"] (sp_name_of K)) : FnOk P w K mg base CX0 2 f fd ["thing", "names"] (sp_is_literal K) := by
  refine F.ok sc_is_literal (fun vs H Q E h => ?_) (fun cdv A outer s H vs Q E hr h => ?_)
  · obtain ⟨x, y, M, v, w, rfl, _⟩ := h
    rfl
  · obtain ⟨d, ns, M, v, w, rfl, mh, r1, r2, hp, q⟩ := h
    have hu := hr.units
    refine ⟨_, (pss_one (ps_ret (pe_and (pe_callB call_isi (by rfl) T.isinstance boot_isinstance (pa_cons (pv 0) (pa_cons (pe_bltn (v := .ty "str") (u := .type "str") (by rfl) T.str (by decide +kernel) rfl) pa_nil))) (pe_one (pe_cmpR (op_inA hu) (pe_f c_name_of (hr.mono (by decide)) (pa_cons (pv 0) pa_nil)) (pv 1) (by rfl)))))), ?_⟩
    have hv : Gv (tVar 0) (start ["thing", "names"] [v, w]) M (Dd K d) := gv_var rfl r1
    cases d with
    | str x =>
      cases r1
      exact s_ret mh (gv_is (gv_andV (gv_isi (b := true) hv (by simp only [tyN]; decide +kernel)) fun _ => gv_inA (K := K) (gv_call1 (gv_var rfl rfl) hp) (gv_var rfl (.inl r2))) fun M' v h => by simpa [isLit] using h) q
    | _ => exact s_ret mh (gv_andV (c := false) (gv_isi (b := false) hv (by simp only [tyN]; decide +kernel)) fun h => nomatch h) q
end
end My

set_option Elab.async false
set_option linter.all false
set_option maxRecDepth 100000
set_option maxHeartbeats 4000000
namespace My
open PySem PySem.Spec PyProof.Rows L2 L3
section
variable {P : Program} {w : World} {K : PySem.W.Frag} {mg : Str → Option Value} {base : Heap}
abbrev s_first_wrong : Stmt := topS 14
theorem sc_first_wrong : FnScope ["things", "names", "met", "index", "thing"] ["things", "names"] (defScope s_first_wrong) := ⟨rfl, rfl, rfl, by decide +kernel, rfl, by decide +kernel, by decide +kernel⟩
def sp_first_wrong (K : PySem.W.Frag) : Sp := sp2 (Dd K) (SqR K Tx) (fun d _ => shortL d) fun d ns => OpN (firstWrong ns d)
theorem lit_shape {ns : List Str} {d : PyData} (h : isLit ns d = true) : ∃ x, d = .str x ∧ nameOf x ∈ ns := by
  cases d with
  | str x => exact ⟨x, rfl, by simpa [isLit] using h⟩
  | _ => exact absurd h (by simp [isLit])
theorem ok_first_wrong {f : Addr} {fd : FuncData} (F : Fun K "first_wrong" "first_wrong" s_first_wrong f fd) (T : Bi mg) (c_is_list : Cal P w K mg base 1 "is_list" ["thing"] (sp_is_list K)) (c_name_of : Cal P w K mg base 1 "name_of" ["literal"] (sp_name_of K))
    (c_is_literal : Cal P w K mg base 2 "is_literal" ["thing", "names"] (sp_is_literal K)) : FnOk P w K mg base CX0 3 f fd ["things", "names"] (sp_first_wrong K) := by
  refine F.ok sc_first_wrong (fun vs H Q E h => ?_) (fun cdv A outer s H vs Q E hr h => ?_)
  · obtain ⟨x, y, M, v, w, rfl, _⟩ := h
    rfl
  · obtain ⟨d, ns, M, v, w, rfl, mh, r1, r2, hp, q⟩ := h
    have hu := hr.units
    refine ⟨_, (pss_cons (ps_if (pt_not (pt_val (pe_f c_is_list (hr.mono (by decide)) (pa_cons (pv 0) pa_nil)))) (pss_one (ps_ret pe_int)) pss_nil)
      (pss_cons (ps_set (i := 2) sc_first_wrong.nd rfl (by first | exact .inl rfl | exact .inr rfl) (pe_lst pa_nil))
      (pss_cons (ps_for PassesOwn.never (by rfl) (pi_en (by rfl) T.enumerate (pa_cons (pv 0) pa_nil)) (pg_tup (by rfl) (pgs_cons (pg_name (i := 3) sc_first_wrong.nd rfl (by first | exact .inl rfl | exact .inr rfl)) (pgs_cons (pg_name (i := 4) sc_first_wrong.nd rfl (by first | exact .inl rfl | exact .inr rfl)) pgs_nil))) (pss_cons (ps_if (PW.pt (pw_or (pt_not (pt_val (pe_f c_is_literal (hr.mono (by decide)) (pa_cons (pv 4) (pa_cons (pv 1) pa_nil))))) (pw_or1 (pt_cmpR (op_inA hu) (pe_f c_name_of (hr.mono (by decide)) (pa_cons (pv 4) pa_nil)) (pv 2) (by rfl))))) (pss_one (ps_ret (pv 3))) pss_nil)
      (pss_one (ps_expr (pe_bm PySem.F.plainAttrs_list PySem.F.slot_list_append PySem.F.type_list_append mt_append (pv 2) (pa_cons (pe_f c_name_of (hr.mono (by decide)) (pa_cons (pv 4) pa_nil)) pa_nil))))))
      (pss_one (ps_ret pe_non))))), ?_⟩
    refine q_if mh (gt_not (gt_B (gv_call1 (gv_var rfl r1) trivial))) (fun hb H1 hh1 => ?_) (fun hb H1 hh1 => ?_)
    all_goals have g1 := Gr.idle mh hh1
    · refine s_ret g1.mh (P := It' 0) (gv_c rfl) fun v M' H' g r => q v M' H' (g1.trans g) ?_
      have : firstWrong ns d = some 0 := by
        cases d with
        | list _ => simp [isListD] at hb
        | tuple _ => simp [isListD] at hb
        | _ => rfl
      show v = match firstWrong ns d with | none => V.non | some i => V.int (i : Nat)
      rw [this]
      exact r
    · obtain ⟨ds, sq, efw, hlen, hsh⟩ : ∃ ds, SqR K (Dd K) ds M v ∧ firstWrong ns d = fwGo ns ds [] 0 ∧ ds.length ≤ 1000000 ∧ ∀ d ∈ ds, shortD d := by
        cases d with
        | list ds => exact ⟨ds, dp_sqL r1, rfl, hp.1, hp.2⟩
        | tuple ds => exact ⟨ds, dp_sqT r1, rfl, hp.1, hp.2⟩
        | _ => simp [isListD] at hb
      refine q_asgL g1.mh gl_nil fun p vs M2 H2 g2 h0 m0 hp2 hv => ?_
      subst hv
      have g02 := g1.trans g2
      refine q_forE (R1 := Dd K) (xs := ds) g2.mh (gv_var rfl (Mon.mono g02.mm sq))
        (fun M1' i σ' M' H' => ∃ y3 y4, Gr M H M' H' ∧ Same M1' M' ∧ Same M M' ∧ Own H M' H' p ((((ds.take i).map nameD)).map V.str) ∧ σ' = [some v, some w, some (.ref p), y3, y4] ∧ fwGo ns ds [] 0 = fwGo ns (ds.drop i) ((ds.take i).map nameD) i)
        (fun M3 H3 g3 => ⟨none, none, g02.trans g3, Same.refl _, (g02.trans g3).mm, Own.step ⟨g1.hh.free h0, m0, hp2⟩ g3, rfl, rfl⟩)
        (fun M3 i σ' M' H' ⟨_, _, g, s1, _⟩ => ⟨s1, g.mh⟩) ?_ ?_
      · rintro M3 i x v' σ' M' H' H'' sM hx ⟨y3, y4, g, s1, s2, ow, rfl, efw2⟩ gE rx
        have hxm : x ∈ ds := List.mem_of_getElem? hx
        have hil : i < ds.length := (List.getElem?_eq_some_iff.mp hx).1
        have g' := g.trans gE
        have ow' := ow.step gE
        have r2' : SqR K Tx ns M' w := Mon.mono s2 r2
        have et : ds.take (i + 1) = ds.take i ++ [x] := by rw [List.take_add_one, hx]; rfl
        have ed : ds.drop i = x :: ds.drop (i + 1) := by rw [List.drop_eq_getElem_cons hil]; congr 1; exact (List.getElem?_eq_some_iff.mp hx).2
        have up := ow'.up
        have pd := pd_of_tx (M := M') ((ds.take i).map nameD)
        refine q_if (ow'.fr g'.mh) (gt_or (c := decide (nameD x ∈ (ds.take i).map nameD)) (gt_not (gt_B (gv_call2 (R1 := Dd K) (R2 := SqR K Tx) (gv_var rfl (Mon.mono up rx)) (gv_var rfl (Mon.mono up r2')) (hsh x hxm)))) fun hl => ?_) (fun hb H4 hh4 => ?_) (fun hb H4 hh4 => ?_)
        · obtain ⟨y, rfl, _⟩ := lit_shape (d := x) (ns := ns) (by simpa using hl)
          cases rx
          exact gt_is (gt_test (gv_inA (K := K) (gv_call1 (gv_var rfl rfl) (hsh _ hxm)) (gv_var rfl (.inl (.inl (ow'.lst pd)))))) (by simp [nameD])
        · refine s_ret (P := It' (i : Nat)) (g'.mh.trans hh4) (gv_var rfl rfl) fun v5 M5 H5 g5 r5 => q v5 M5 H5 ((g'.trans (.idle g'.mh hh4)).trans g5) ?_
          show v5 = match firstWrong ns d with | none => V.non | some i => V.int (i : Nat)
          rw [efw, efw2, ed, fwGo, if_pos (by simpa using hb)]
          exact r5
        · obtain ⟨hb1, hb2⟩ : isLit ns x = true ∧ ¬ nameD x ∈ (ds.take i).map nameD := by simpa using hb
          obtain ⟨y, rfl, _⟩ := lit_shape hb1
          cases rx
          have g4 := g'.trans (.idle g'.mh hh4)
          have ow4 := ow'.idle hh4
          refine s_app (P := Tx (nameOf y)) g4.mh rfl ow4.h (szL (by simp; omega)) (gv_call1 (gv_var rfl rfl) (hsh _ hxm)) fun v5 M5 H5 g5 r5 => ?_
          cases r5
          have ow5 := ow4.step g5
          refine ⟨M5, _, _, (g4.trans g5).mut ow5.h0 ow5.m, s1.trans g5.mm, s2.trans g5.mm, ?_, rfl, ?_⟩
          · rw [et, List.map_append, List.map_append]
            exact ow5.put
          · rw [efw2, ed, fwGo, if_neg (by simpa using hb), et, List.map_append]
            rfl
      · rintro M3 σ' M' H' sM ⟨y3, y4, g, s1, s2, ow, rfl, efw2⟩
        refine s_ret g.mh (P := fun _ v => v = .non) (gv_c rfl) fun v M' H' g3 r => q v M' H' (g.trans g3) ?_
        show v = match firstWrong ns d with | none => V.non | some i => V.int (i : Nat)
        rw [efw, efw2, List.drop_length]
        exact r
end
end My

set_option Elab.async false
set_option linter.all false
set_option maxRecDepth 100000
set_option maxHeartbeats 4000000
namespace My
open PySem PySem.Spec PyProof.Rows L2 L3
section
variable {P : Program} {w : World} {K : PySem.W.Frag} {mg : Str → Option Value} {base : Heap}
def Shorts (ns : List Str) : Prop := ns.length ≤ 1000 ∧ ∀ n ∈ ns, n.length ≤ 900
abbrev s_ascending : Stmt := topS 15
theorem sc_ascending : FnScope ["literals", "names", "found", "name", "literal"] ["literals", "names"] (defScope s_ascending) := ⟨rfl, rfl, rfl, by decide +kernel, rfl, by decide +kernel, by decide +kernel⟩
def sp_ascending (K : PySem.W.Frag) : Sp := sp2 (CtR K) (SqR K Tx) (fun _ ns => Shorts ns) fun ls ns => TT (asc ls ns)
theorem asc_len (ls : List Str) : ∀ ns : List Str, (asc ls ns).length ≤ 2 * ns.length
  | [] => Nat.le_refl _
  | n :: ns => by
    have ih := asc_len ls ns
    have h2 := List.length_filter_le (fun l => decide (l ∈ ls)) [n, ("-" : Str) ++ n]
    unfold asc at ih ⊢
    rw [List.flatMap_cons, List.length_append, List.length_cons]
    simp only [List.length_cons, List.length_nil] at h2
    omega
theorem ok_ascending {f : Addr} {fd : FuncData} (F : Fun K "ascending" "ascending" s_ascending f fd) (T : Bi mg) : FnOk P w K mg base CX0 1 f fd ["literals", "names"] (sp_ascending K) := by
  refine F.ok sc_ascending (fun vs H Q E h => ?_) (fun cdv A outer s H vs Q E hr h => ?_)
  · obtain ⟨x, y, M, v, w, rfl, _⟩ := h
    rfl
  · obtain ⟨ls, ns, M, v, w, rfl, mh, r1, r2, hp, q⟩ := h
    have hu := hr.units
    refine ⟨_, (pss_cons (ps_set (i := 2) sc_ascending.nd rfl (by first | exact .inl rfl | exact .inr rfl) (pe_lst pa_nil))
      (pss_cons (ps_for PassesOwn.never (by rfl) (pi_sq (pv 1)) (pg_name (i := 3) sc_ascending.nd rfl (by first | exact .inl rfl | exact .inr rfl)) (pss_one (ps_expr (pe_bm PySem.F.plainAttrs_list PySem.F.slot_list_extend PySem.F.type_list_extend mt_extend (pv 2) (pa_cons (pe_lc (own := [("literal", 4)]) (g := (gName 4)) (tt := (tTest (tOp (rInA K false) (tVar 4) (tVar 0)))) (te := (tVar 4)) (by rfl) sc_ascending.nd (pi_sq (pe_tup (pa_cons (pv 3) (pa_cons (pe_op op_addA pe_str (pv 3)) pa_nil)))) (blkOk_by (by rfl)) (fun _ _ _ _ _ => (pg_name (i := 4) sc_ascending.nd rfl (by first | exact .inl rfl | exact .inr rfl))) (fun _ _ _ _ _ => (pts_one (pt_cmpR (op_inA hu) (pv 4) (pv 0) (by rfl)))) (fun _ _ _ _ _ => (pv 4))) pa_nil)))))
      (pss_one (ps_ret (pe_callTy call_tupA (by rfl) T.tuple boot_tuple (pa_cons (pv 2) pa_nil)))))), ?_⟩
    refine q_asgL mh gl_nil fun p vs M2 H2 g2 h0 m0 hp2 hv => ?_
    subst hv
    refine q_for (R1 := Tx) (xs := ns) g2.mh (gv_var rfl (Mon.mono g2.mm r2))
      (fun M1' i σ' M' H' => ∃ y3 y4, Gr M H M' H' ∧ Same M1' M' ∧ Same M M' ∧ Own H M' H' p ((asc ls (ns.take i)).map V.str) ∧ σ' = [some v, some w, some (.ref p), y3, y4])
      (fun M3 H3 g3 => ⟨none, none, g2.trans g3, Same.refl _, (g2.trans g3).mm, Own.step ⟨h0, m0, hp2⟩ g3, rfl⟩)
      (fun M3 i σ' M' H' ⟨_, _, g, s1, _⟩ => ⟨s1, g.mh⟩) ?_ ?_
    · rintro M3 i n v' σ' M' H' sM hx ⟨y3, y4, g, s1, s2, ow, rfl⟩ rx
      cases rx
      have hn : n.length ≤ 900 := hp.2 n (List.mem_of_getElem? hx)
      have hil : i < ns.length := (List.getElem?_eq_some_iff.mp hx).1
      have et : ns.take (i + 1) = ns.take i ++ [n] := by rw [List.take_add_one, hx]; rfl
      refine s_ext g.mh rfl ow.h (gl_lc (R := Tx) (S := Tx) (gv_is (gv_tup2 (K := K) (gv_var rfl rfl) (gv_addSt (gv_c rfl) (gv_var rfl rfl) (szM (by show 1 + n.length ≤ _; omega)))) fun _ _ h => .inr h) (by show 2 ≤ sizeLine; decide) (fun l => decide (l ∈ ls)) id
        (fun l _ M1 vl sm hl => gt_is (gt_test (gv_inA (K := K) (gv_var rfl hl) (gv_var rfl (Mon.mono (s2.trans sm) r1)))) (by simp)) (fun l _ _ M1 vl sm hl => gv_var rfl hl)) (fun M4 ws h => ?_) fun ws M4 H4 g4 h => ?_
      · have l1 := h.length
        have l2 := asc_len ls (ns.take i)
        have l3 := List.length_filter_le (fun l => decide (l ∈ ls)) [n, ("-" : Str) ++ n]
        have l4 := hp.1
        rw [List.length_map] at l1 ⊢
        rw [List.length_take] at l2
        simp only [List.length_cons, List.length_nil] at l3
        exact szM (by omega)
      · have e4 := pd_tx h
        subst e4
        have ow4 := ow.step g4
        refine ⟨M4, _, _, (g.trans g4).mut ow4.h0 ow4.m, s1.trans g4.mm, s2.trans g4.mm, ?_, rfl⟩
        have e5 : asc ls (ns.take (i + 1)) = asc ls (ns.take i) ++ ([n, ("-" : Str) ++ n].filter fun l => decide (l ∈ ls)).map id := by
          rw [et, List.map_id]; unfold asc; rw [List.flatMap_append]; simp
        rw [e5, List.map_append]
        exact ow4.put
    · rintro M3 σ' M' H' sM ⟨y3, y4, g, s1, s2, ow, rfl⟩
      rw [List.take_length] at ow
      exact s_retTup g.mh rfl ow.h fun l nl => q _ _ _ (g.trans (.new g.mh nl)) (TT.new _)
end
end My

set_option Elab.async false
set_option linter.all false
set_option maxRecDepth 100000
set_option maxHeartbeats 4000000
namespace My
open PySem PySem.Spec PyProof.Rows L2 L3
def g_LETTERS : Str := "abcdefghijklmnopqrstuvwxyz"
structure Gb (mg : Str → Option Value) : Prop extends Bi mg where
  g_LETTERS : ∃ t, mg "LETTERS" = some (.str My.g_LETTERS t)
def isNm (x : Str) : Bool := decide (1 ≤ x.length) && decide (x.length ≤ 8) && x.cps.toList.all fun c => decide (c ∈ g_LETTERS.cps.toList)
def isNmD : PyData → Bool
  | .str x => isNm x | _ => false
section
variable {P : Program} {w : World} {K : PySem.W.Frag} {mg : Str → Option Value} {base : Heap}
abbrev s_is_name : Stmt := topS 10
theorem sc_is_name : FnScope ["thing", "sign"] ["thing"] (defScope s_is_name) := ⟨rfl, rfl, rfl, by decide +kernel, rfl, by decide +kernel, by decide +kernel⟩
def sp_is_name (K : PySem.W.Frag) : Sp := sp1 (Dd K) (fun d => shortD d) fun d => Bl (isNmD d)
theorem ok_is_name {f : Addr} {fd : FuncData} (F : Fun K "is_name" "is_name" s_is_name f fd) (T : Gb mg) : FnOk P w K mg base CX0 1 f fd ["thing"] (sp_is_name K) := by
  refine F.ok sc_is_name (fun vs H Q E h => ?_) (fun cdv A outer s H vs Q E hr h => ?_)
  · obtain ⟨x, M, v, rfl, _⟩ := h
    rfl
  · obtain ⟨d, M, v, rfl, mh, r1, hp, q⟩ := h
    have hu := hr.units
    obtain ⟨tk, hL⟩ := T.g_LETTERS
    refine ⟨_, (pss_one (ps_ret (pe_and (pe_callB call_isi (by rfl) T.isinstance boot_isinstance (pa_cons (pv 0) (pa_cons (pe_bltn (v := .ty "str") (u := .type "str") (by rfl) T.str (by decide +kernel) rfl) pa_nil))) (pe_and (pe_chain op_le op_le pe_int (pe_callB call_lenA (by rfl) T.len boot_len (pa_cons (pv 0) pa_nil)) pe_int) (pe_one (pe_callB (cr_all rfl) (by rfl) T.all boot_all (pa_cons (pe_lc (own := [("sign", 1)]) (g := (gName 1)) (tt := tYes) (te := (tOp (rInA K false) (tVar 1) (tC (.str g_LETTERS)))) (by rfl) sc_is_name.nd (pi_str (pv 0)) (blkOk_by (by rfl)) (fun _ _ _ _ _ => (pg_name (i := 1) sc_is_name.nd rfl (by first | exact .inl rfl | exact .inr rfl))) (fun _ _ _ _ _ => pts_nil) (fun _ _ _ _ _ => (pe_cmpR (op_inA hu) (pv 1) (pe_glob (by rfl) hL ⟨_, rfl⟩) (by rfl)))) pa_nil))))))), ?_⟩
    have hv : Gv (tVar 0) (start ["thing", "sign"] [v]) M (Dd K d) := gv_var rfl r1
    cases d with
    | str x =>
      cases r1
      have hx : Gv (tVar 0) (start ["thing", "sign"] [.str x]) M (Tx x) := gv_var rfl rfl
      refine s_ret mh (gv_is (gv_andV (gv_isi (b := true) hv (by simp only [tyN]; decide +kernel)) fun _ => gv_andV (gv_chain (gv_c rfl) (gv_lenS (K := K) hx (sz1000 hp)) (gv_c rfl)) fun hb => gv_all (K := K)
        (gl_m1 (S := Bl) (gi_str hx) ?_ (fun c => decide (c ∈ g_LETTERS.cps.toList)) fun c _ M1 v sm r => gv_is (gv_sgn (K := K) (c := c) (gv_var rfl r) (gv_c rfl)) fun M' v h => by simpa using h)) fun M' v h => ?_) q
      · exact sz1000 (by rw [Array.length_toList]; exact hp)
      · show v = .bl (isNm x)
        rw [show v = _ from h]
        have e1 : ∀ n : Nat, decide ((1 : Int) ≤ (n : Int)) = decide (1 ≤ n) := fun n => by simp only [decide_eq_decide]; omega
        have e2 : ∀ n : Nat, decide ((n : Int) ≤ 8) = decide (n ≤ 8) := fun n => by simp only [decide_eq_decide]; omega
        simp only [isNm, List.all_map, Bool.true_and, e1, e2]
        rfl
    | _ => exact s_ret mh (gv_andV (c := false) (gv_isi (b := false) hv (by simp only [tyN]; decide +kernel)) fun h => nomatch h) q
abbrev s_checked_names : Stmt := topS 11
theorem sc_checked_names : FnScope ["things", "known", "found", "index", "thing"] ["things", "known"] (defScope s_checked_names) := ⟨rfl, rfl, rfl, by decide +kernel, rfl, by decide +kernel, by decide +kernel⟩
/-- names, no one twice, none known -/
def NamesOk (xs known : List Str) : Prop := xs.Nodup ∧ (∀ x ∈ xs, isNm x = true ∧ x ∉ known) ∧ xs.length ≤ 1000
theorem isNm_len {x : Str} (h : isNm x = true) : x.length ≤ 8 := by
  simp only [isNm, Bool.and_eq_true, decide_eq_true_eq] at h
  exact h.1.2
def sp_checked_names (K : PySem.W.Frag) : Sp := sp2 (SqR K Tx) (SqR K Tx) (fun xs known => NamesOk xs known) fun xs _ => TT xs
theorem ok_checked_names {f : Addr} {fd : FuncData} (F : Fun K "checked_names" "checked_names" s_checked_names f fd) (T : Gb mg) (c_is_name : Cal P w K mg base 1 "is_name" ["thing"] (sp_is_name K)) : FnOk P w K mg base CX0 2 f fd ["things", "known"] (sp_checked_names K) := by
  refine F.ok sc_checked_names (fun vs H Q E h => ?_) (fun cdv A outer s H vs Q E hr h => ?_)
  · obtain ⟨x, y, M, v, w, rfl, _⟩ := h
    rfl
  · obtain ⟨xs, kn, M, v, w, rfl, mh, r1, r2, hp, q⟩ := h
    have hu := hr.units
    refine ⟨_, (pss_cons (ps_set (i := 2) sc_checked_names.nd rfl (by first | exact .inl rfl | exact .inr rfl) (pe_lst pa_nil))
      (pss_cons (ps_for PassesOwn.never (by rfl) (pi_en (by rfl) T.enumerate (pa_cons (pv 0) pa_nil)) (pg_tup (by rfl) (pgs_cons (pg_name (i := 3) sc_checked_names.nd rfl (by first | exact .inl rfl | exact .inr rfl)) (pgs_cons (pg_name (i := 4) sc_checked_names.nd rfl (by first | exact .inl rfl | exact .inr rfl)) pgs_nil))) (pss_cons (ps_if (PW.pt (pw_or (pt_not (pt_val (pe_f c_is_name (hr.mono (by decide)) (pa_cons (pv 4) pa_nil)))) (pw_or (pt_cmpR (op_inA hu) (pv 4) (pv 2) (by rfl)) (pw_or1 (pt_cmpR (op_inA hu) (pv 4) (pv 1) (by rfl)))))) (pss_one ps_never) pss_nil)
      (pss_one (ps_expr (pe_bm PySem.F.plainAttrs_list PySem.F.slot_list_append PySem.F.type_list_append mt_append (pv 2) (pa_cons (pv 4) pa_nil))))))
      (pss_one (ps_ret (pe_callTy call_tupA (by rfl) T.tuple boot_tuple (pa_cons (pv 2) pa_nil)))))), ?_⟩
    obtain ⟨nd, ok, hl⟩ := hp
    refine q_asgL mh gl_nil fun p vs M2 H2 g2 h0 m0 hp2 hv => ?_
    subst hv
    refine q_forE (R1 := Tx) (xs := xs) g2.mh (gv_var rfl (Mon.mono g2.mm r1))
      (fun M1' i σ' M' H' => ∃ y3 y4, Gr M H M' H' ∧ Same M1' M' ∧ Same M M' ∧ Own H M' H' p ((xs.take i).map V.str) ∧ σ' = [some v, some w, some (.ref p), y3, y4])
      (fun M3 H3 g3 => ⟨none, none, g2.trans g3, Same.refl _, (g2.trans g3).mm, Own.step ⟨h0, m0, hp2⟩ g3, rfl⟩)
      (fun M3 i σ' M' H' ⟨_, _, g, s1, _⟩ => ⟨s1, g.mh⟩) ?_ ?_
    · rintro M3 i x v' σ' M' H' H'' sM hx ⟨y3, y4, g, s1, s2, ow, rfl⟩ gE rx
      cases rx
      have hxm : x ∈ xs := List.mem_of_getElem? hx
      have hil : i < xs.length := (List.getElem?_eq_some_iff.mp hx).1
      have et : xs.take (i + 1) = xs.take i ++ [x] := by rw [List.take_add_one, hx]; rfl
      have hnt : x ∉ xs.take i := fun hm => by
        obtain ⟨k, hk, ek⟩ := List.mem_take_iff_getElem.mp hm
        have e2 := (List.getElem?_eq_some_iff.mp hx).2
        have := (List.getElem_inj nd).mp (ek.trans e2.symm)
        omega
      have g' := g.trans gE
      have ow' := ow.step gE
      have up := ow'.up
      refine q_if (ow'.fr g'.mh) (b := false) (gt_is (gt_or (c := false) (gt_not (gt_B (gv_call1 (R1 := Dd K) (x := .str x) (gv_var rfl (.str x)) (Nat.le_trans (isNm_len (ok x hxm).1) (by decide))))) fun _ => gt_is (gt_or (c := false)
          (gt_test (gv_inA (K := K) (gv_var rfl rfl) (gv_var rfl (.inl (.inl (ow'.lst (pd_of_tx _))))))) fun _ => gt_is (gt_test (gv_inA (K := K) (gv_var rfl rfl) (gv_var rfl (.inl (Mon.mono (s2.trans up) r2))))) (by simp [(ok x hxm).2])) (by simp [hnt])) (by simp [isNmD, (ok x hxm).1]))
        (fun hb => nomatch hb) (fun _ H4 hh4 => ?_)
      have g4 := g'.trans (.idle g'.mh hh4)
      have ow4 := ow'.idle hh4
      refine s_app (P := Tx x) g4.mh rfl ow4.h (szL (by simp; omega)) (gv_var rfl rfl) fun v5 M5 H5 g5 r5 => ?_
      cases r5
      have ow5 := ow4.step g5
      refine ⟨M5, _, _, (g4.trans g5).mut ow5.h0 ow5.m, s1.trans g5.mm, s2.trans g5.mm, ?_, rfl⟩
      rw [et, List.map_append]
      exact ow5.put
    · rintro M3 σ' M' H' sM ⟨y3, y4, g, s1, s2, ow, rfl⟩
      rw [List.take_length] at ow
      exact s_retTup g.mh rfl ow.h fun l nl => q _ _ _ (g.trans (.new g.mh nl)) (TT.new _)
end
end My

set_option Elab.async false
set_option linter.all false
set_option maxRecDepth 100000
set_option maxHeartbeats 4000000
namespace My
open PySem PySem.Spec PyProof.Rows L2 L3
/-- a code: signs, helpers, clauses -/
structure CodeD where
  signs : List Str
  helpers : List Str
  clauses : List (List Str)
def CodeD.names (c : CodeD) : List Str := c.signs ++ c.helpers
def codeF (va vb vn vc : V) : List (Str × V) := putF "clause_row" vc (putF "names" vn (putF "helper_row" vb (putF "sign_row" va [])))
def CodeR (C : Addr) : Rl CodeD := fun c M v => ∃ a dx va vb vn vc, v = .ref a ∧ M a = some (.ins C dx (codeF va vb vn vc)) ∧ TT c.signs M va ∧ TT c.helpers M vb ∧ TT c.names M vn ∧ TuR TT c.clauses M vc
instance {C : Addr} : Mon (CodeR C) := ⟨fun e ⟨a, dx, va, vb, vn, vc, h1, h2, h3, h4, h5, h6⟩ => ⟨a, dx, va, vb, vn, vc, h1, e _ _ h2, Mon.mono e h3, Mon.mono e h4, Mon.mono e h5, Mon.mono e h6⟩⟩
/-- the class as the top has made it -/
structure CodeT (K : PySem.W.Frag) (mg : Str → Option Value) (C : Addr) : Prop where
  cl : Cls K C
  nS : NoAttr K C "sign_row"
  nH : NoAttr K C "helper_row"
  nN : NoAttr K C "names"
  nC : NoAttr K C "clause_row"
def mkCode (ss hs : List Str) (cs : List (List Str)) : CodeD := ⟨ss, hs, once (cs.map fun c => asc c (ss ++ hs))⟩
theorem codeF_sign (va vb vn vc : V) : (codeF va vb vn vc).lookup ("sign_row" : Str) = some va := by
  unfold codeF
  rw [lookup_putF, if_neg (by decide +kernel), lookup_putF, if_neg (by decide +kernel), lookup_putF, if_neg (by decide +kernel), lookup_putF, if_pos rfl]
theorem codeF_helper (va vb vn vc : V) : (codeF va vb vn vc).lookup ("helper_row" : Str) = some vb := by
  unfold codeF
  rw [lookup_putF, if_neg (by decide +kernel), lookup_putF, if_neg (by decide +kernel), lookup_putF, if_pos rfl]
theorem codeF_names (va vb vn vc : V) : (codeF va vb vn vc).lookup ("names" : Str) = some vn := by
  unfold codeF
  rw [lookup_putF, if_neg (by decide +kernel), lookup_putF, if_pos rfl]
theorem codeF_clause (va vb vn vc : V) : (codeF va vb vn vc).lookup ("clause_row" : Str) = some vc := by
  unfold codeF
  rw [lookup_putF, if_pos rfl]
section
variable {K : PySem.W.Frag} {mg : Str → Option Value} {σ : Sl} {M : Hp} {te : TE} {C : Addr} {c : CodeD}
theorem gv_sign (T : CodeT K mg C) (h : Gv te σ M (CodeR C c)) : Gv (tFld K te "sign_row") σ M (TT c.signs) := gv_fld h fun M' v ⟨a, dx, va, vb, vn, vc, h1, h2, h3, h4, h5, h6⟩ => ⟨a, C, dx, _, va, h1, h2, T.cl, T.nS, codeF_sign .., h3⟩
theorem gv_helper (T : CodeT K mg C) (h : Gv te σ M (CodeR C c)) : Gv (tFld K te "helper_row") σ M (TT c.helpers) := gv_fld h fun M' v ⟨a, dx, va, vb, vn, vc, h1, h2, h3, h4, h5, h6⟩ => ⟨a, C, dx, _, vb, h1, h2, T.cl, T.nH, codeF_helper .., h4⟩
theorem gv_names (T : CodeT K mg C) (h : Gv te σ M (CodeR C c)) : Gv (tFld K te "names") σ M (TT c.names) := gv_fld h fun M' v ⟨a, dx, va, vb, vn, vc, h1, h2, h3, h4, h5, h6⟩ => ⟨a, C, dx, _, vn, h1, h2, T.cl, T.nN, codeF_names .., h5⟩
theorem gv_clause (T : CodeT K mg C) (h : Gv te σ M (CodeR C c)) : Gv (tFld K te "clause_row") σ M (TuR TT c.clauses) := gv_fld h fun M' v ⟨a, dx, va, vb, vn, vc, h1, h2, h3, h4, h5, h6⟩ => ⟨a, C, dx, _, vc, h1, h2, T.cl, T.nC, codeF_clause .., h6⟩
end
section
variable {P : Program} {w : World} {K : PySem.W.Frag} {mg : Str → Option Value} {base : Heap}
def ClOk (ns c : List Str) : Prop := fwGo ns (c.map PyData.str) [] 0 = none ∧ c.length ≤ 1000000 ∧ ∀ l ∈ c, l.length ≤ 1000
theorem cl_d {ns c : List Str} {M : Hp} {v : V} (h : SqR K Tx c M v) (ok : ClOk ns c) : ∃ d, Dp K M v d ∧ shortL d ∧ firstWrong ns d = none := by
  have hs : ∀ d ∈ c.map PyData.str, shortD d := fun d hd => by
    obtain ⟨l, hl, rfl⟩ := List.mem_map.mp hd
    exact ok.2.2 l hl
  rcases h with h | h
  · exact ⟨_, py_lst py_str _ _ _ h, ⟨by rw [List.length_map]; exact ok.2.1, hs⟩, ok.1⟩
  · exact ⟨_, py_tup py_str _ _ _ h, ⟨by rw [List.length_map]; exact ok.2.1, hs⟩, ok.1⟩
def sp_checked_clauses (K : PySem.W.Frag) : Sp := sl2 (SqR K (SqR K Tx)) (SqR K Tx) (fun cs ns => Shorts ns ∧ cs.length ≤ 1000000 ∧ ∀ c ∈ cs, ClOk ns c) fun cs ns M ws => Pd TT M (cs.map fun c => asc c ns) ws
/-- names and clauses that a code takes -/
structure CodeOk (ss hs : List Str) (cs : List (List Str)) : Prop where
  s : NamesOk ss []
  h : NamesOk hs ss
  n : cs.length ≤ 1000000
  c : ∀ c ∈ cs, ClOk (ss ++ hs) c
  k : (ss ++ hs).length ≤ 1000
def sp_Code_init (K : PySem.W.Frag) (C : Addr) : Sp := fun vs H Q _ => ∃ ss hs cs M Hb x dx v1 v2 v3, vs = [.ref x, v1, v2, v3] ∧ Gr M Hb M H ∧ Hb x = none ∧ M x = none ∧ H x = some (.ins C dx []) ∧
  SqR K Tx ss M v1 ∧ SqR K (SqR K Tx) cs M v2 ∧ SqR K Tx hs M v3 ∧ CodeOk ss hs cs ∧ ∀ M' H', Gr M Hb M' H' → CodeR C (mkCode ss hs cs) M' (.ref x) → Q .non H'
end
end My

set_option Elab.async false
set_option linter.all false
set_option maxRecDepth 100000
set_option maxHeartbeats 4000000
namespace My
open PySem PySem.Spec PyProof.Rows L2 L3
/-! the literals of a clause that are not denied -/
def openGo (so : List Str) : List Str → List Str → Option (List Str)
  | [], acc => some acc
  | l :: r, acc => if l ∈ so then none else openGo so r (if opp l ∈ so then acc else acc ++ [l])
def openOnes (so c : List Str) : Option (List Str) := openGo so c []
theorem openGo_eq (so : List Str) : ∀ c acc : List Str, openGo so c acc = if c.any (fun l => decide (l ∈ so)) then none else some (acc ++ c.filter fun l => decide (opp l ∉ so))
  | [], acc => by simp [openGo]
  | l :: r, acc => by
    rw [openGo, openGo_eq so r]
    by_cases h : l ∈ so
    · simp [h]
    · by_cases h2 : opp l ∈ so
      · simp [h, h2]
      · simp [h, h2]
theorem openOnes_eq (so c : List Str) : openOnes so c = if c.any (fun l => decide (l ∈ so)) then none else some (c.filter fun l => decide (opp l ∉ so)) := by
  unfold openOnes; rw [openGo_eq]; simp
def shortT (c : List Str) : Prop := c.length ≤ 1000000 ∧ ∀ l ∈ c, l.length ≤ 1000
section
variable {P : Program} {w : World} {K : PySem.W.Frag} {mg : Str → Option Value} {base : Heap}
def sp_open_ones (K : PySem.W.Frag) : Sp := sp2 (SqR K Tx) (CtR K) (fun c _ => shortT c) fun c so => OpR' (LiR Tx) (openOnes so c)
end
end My

set_option Elab.async false
set_option linter.all false
set_option maxRecDepth 100000
set_option maxHeartbeats 4000000
namespace My
open PySem PySem.Spec PyProof.Rows L2 L3
abbrev Stp := Nat × Option Str
def optV : Option Str → V
  | none => .non | some l => .str l
/-- a step: a tuple (index, literal or None) -/
def StepR : Rl Stp := fun s M v => ∃ a, v = .ref a ∧ M a = some (.tup [.int (s.1 : Nat), optV s.2])
instance : Mon StepR := ⟨fun e ⟨a, h, r⟩ => ⟨a, h, e _ _ r⟩⟩
instance : Stl StepR := ⟨fun hn hx ⟨a, e, r⟩ => ⟨a, e, by rw [L3.del_ne (tup_ne hn hx r)]; exact r⟩⟩
/-- one walk over all clauses -/
def passGo : List (List Str) → Nat → List Str → List Stp → Bool → Except (List Stp) (List Str × List Stp × Bool)
  | [], _, so, st, mv => .ok (so, st, mv)
  | c :: r, i, so, st, mv => match openOnes so c with
    | some [] => .error (st ++ [(i, none)])
    | some [l] => passGo r (i + 1) (so ++ [l]) (st ++ [(i, some l)]) true
    | _ => passGo r (i + 1) so st mv
abbrev Res := Option (List Str) × List Stp
/-- following to its end -/
inductive Chase (cs : List (List Str)) : List Str → List Stp → Res → Prop
  | dead {so st st'} : passGo cs 0 so st false = .error st' → Chase cs so st (none, st')
  | done {so st so' st'} : passGo cs 0 so st false = .ok (so', st', false) → Chase cs so st (some so', st')
  | more {so st so' st' r} : passGo cs 0 so st false = .ok (so', st', true) → Chase cs so' st' r → Chase cs so st r
theorem Chase.fn {cs : List (List Str)} {so : List Str} {st : List Stp} {r : Res} (h : Chase cs so st r) : ∀ {r'}, Chase cs so st r' → r = r' := by
  induction h with
  | dead e =>
    intro r' h'
    cases h' with
    | dead e' => rw [e] at e'; cases e'; rfl
    | done e' => rw [e] at e'; cases e'
    | more e' _ => rw [e] at e'; cases e'
  | done e =>
    intro r' h'
    cases h' with
    | dead e' => rw [e] at e'; cases e'
    | done e' => rw [e] at e'; cases e'; rfl
    | more e' _ => rw [e] at e'; cases e'
  | more e _ ih =>
    intro r' h'
    cases h' with
    | dead e' => rw [e] at e'; cases e'
    | done e' => rw [e] at e'; cases e'
    | more e' h2 => rw [e] at e'; cases e'; exact ih h2
/-- how many literals of the clauses are not so yet -/
def mu (cs : List (List Str)) (so : List Str) : Nat := (cs.flatten.filter fun l => decide (l ∉ so)).length
theorem filter_lt {l : Str} {p q : Str → Bool} : ∀ {xs : List Str}, (∀ x, q x = true → p x = true) → l ∈ xs → p l = true → q l = false → (xs.filter q).length < (xs.filter p).length
  | [], _, h, _, _ => by cases h
  | x :: xs, hi, h, hp, hq => by
    have le : ∀ ys : List Str, (ys.filter q).length ≤ (ys.filter p).length := fun ys => by
      induction ys with
      | nil => exact Nat.le_refl _
      | cons y ys ih =>
        rw [List.filter_cons, List.filter_cons]
        by_cases hy : q y = true
        · rw [if_pos hy, if_pos (hi y hy)]; exact Nat.succ_le_succ ih
        · rw [if_neg hy]
          by_cases hy' : p y = true
          · rw [if_pos hy']; exact Nat.le_succ_of_le ih
          · rw [if_neg hy']; exact ih
    rw [List.filter_cons, List.filter_cons]
    rcases List.mem_cons.mp h with rfl | h
    · rw [if_neg (by rw [hq]; simp), if_pos hp]
      exact Nat.lt_succ_of_le (le xs)
    · have ih := filter_lt hi h hp hq
      by_cases hy : q x = true
      · rw [if_pos hy, if_pos (hi x hy)]; exact Nat.succ_lt_succ ih
      · rw [if_neg hy]
        by_cases hy' : p x = true
        · rw [if_pos hy']; exact Nat.lt_succ_of_lt ih
        · rw [if_neg hy']; exact ih
theorem mu_put {cs : List (List Str)} {c so : List Str} {l : Str} (hc : c ∈ cs) (hl : l ∈ c) (hs : l ∉ so) : mu cs (so ++ [l]) < mu cs so := by
  refine filter_lt (l := l) (fun x h => ?_) (List.mem_flatten.mpr ⟨c, hc, hl⟩) (by simpa using hs) (by simp)
  simp only [List.mem_append, decide_eq_true_eq, not_or] at h ⊢
  exact h.1
theorem open_one {so c : List Str} {l : Str} (h : openOnes so c = some [l]) : l ∈ c ∧ l ∉ so := by
  rw [openOnes_eq] at h
  split at h
  · cases h
  · rename_i hn
    have e := Option.some.inj h
    have hm : l ∈ c.filter fun l => decide (opp l ∉ so) := by rw [e]; simp
    have h1 := List.mem_filter.mp hm
    refine ⟨h1.1, fun hs => hn ?_⟩
    rw [List.any_eq_true]
    exact ⟨l, h1.1, by simpa using hs⟩
theorem onceP_new {so : List Str} {l : Str} (h : l ∉ so) : onceP so l = so ++ [l] := by unfold onceP; rw [if_neg h]
def optD : Option (List Str) → PyData
  | none => .none | some ls => .list (ls.map .str)
theorem optD_eq (o : Option (List Str)) (xs : List Str) : PyData.eqv (optD o) (.list (xs.map .str)) = decide (o = some xs) := by
  cases o with
  | none => simp [optD, PyData.eqv]
  | some ls =>
    have h := inj_lst inj_str ls xs
    simp only [optD]
    rw [h]
    simp
theorem depthS : ∀ ls : List Str, PyData.depthAll (ls.map .str) = 0
  | [] => by simp [PyData.depthAll]
  | l :: r => by simp [PyData.depthAll, PyData.depth, depthS r]
theorem depthO (o : Option (List Str)) : (optD o).depth ≤ 60 := by
  cases o with
  | none => simp [optD, PyData.depth]
  | some ls => simp [optD, PyData.depth, depthS]
section
variable {K : PySem.W.Frag} {σ : Sl} {M : Hp} {ta tb : TE}
theorem py_opL : PyR K (OpR' (LiR Tx)) optD := fun o M v h => by
  cases o with
  | none => cases (show v = .non from h); exact .non
  | some ls => exact py_lst py_str _ _ _ (LiR.lst (K := K) (show LiR Tx ls M v from h))
theorem gv_nilD : Gv (tLst tNil) σ M (Dd K (.list [])) := gl_nil.gv fun M vs p h m => by subst h; exact .lst (.inl (.inl upd_same)) .nil
theorem gv_step {i : Nat} {l : Str} (ha : Gv ta σ M (It' (i : Int))) (hb : Gv tb σ M (Tx l)) : Gv (tTup (tCons ta (tCons tb tNil))) σ M (StepR (i, some l)) := fun H mh Q q =>
  ha H mh _ fun v M1 H1 g1 p1 => hb.le g1.mm H1 g1.mh _ fun w M2 H2 g2 p2 => ⟨by show 2 ≤ sizeLine; decide, fun p np => q _ _ _ ((g1.trans g2).trans (.new g2.mh np)) ⟨p, rfl, by rw [upd_same, show v = _ from p1, show w = _ from p2]; rfl⟩⟩
theorem opL_non {o : Option (List Str)} {M : Hp} {v : V} (h : OpR' (LiR Tx) o M v) : decide (v = .non) = o.isNone := by
  cases o with
  | none => cases (show v = .non from h); rfl
  | some ls => obtain ⟨a, vs, e, _⟩ := (show LiR Tx ls M v from h); subst e; rfl
end
section
variable {P : Program} {w : World} {K : PySem.W.Frag} {mg : Str → Option Value} {base : Heap}
structure ChOk (cs : List (List Str)) (hs : List Str) : Prop where
  c : ∀ c ∈ cs, shortT c
  n : cs.flatten.length ≤ 1000000
  k : cs.length ≤ 1000000
  h : hs.length ≤ 1000000
def sp_chase (K : PySem.W.Frag) : Sp := fun vs H Q _ => ∃ cs hs M v w, vs = [v, w] ∧ Same M H ∧ SqR K (SqR K Tx) cs M v ∧ SqR K Tx hs M w ∧ ChOk cs hs ∧
  ∀ r t u p ws M' H', Chase cs (once hs) [] r → Gr M H M' H' → H p = none → M' p = none → H' p = some (.lst ws) → Pd StepR M' r.2 ws → OpR' DcF r.1 M' u → M' t = some (.tup [u, .ref p]) → Q (.ref t) H'
theorem once_len' (hs : List Str) : (once hs).length ≤ hs.length := by
  have go : ∀ (xs acc : List Str), (xs.foldl onceP acc).length ≤ acc.length + xs.length := by
    intro xs
    induction xs with
    | nil => intro acc; exact Nat.le_refl _
    | cons x xs ih =>
      intro acc
      have h1 := ih (onceP acc x)
      have h2 := onceP_len acc x
      rw [List.foldl_cons, List.length_cons]
      omega
  have := go hs []
  simpa [once] using this
end
end My

set_option Elab.async false
set_option linter.all false
set_option maxRecDepth 100000
set_option maxHeartbeats 4000000
namespace My
open PySem PySem.Spec PyProof.Rows L2 L3
structure Gc (mg : Str → Option Value) : Prop extends Gb mg where
  bool : mg "bool" = none
def isIdxD (d : PyData) (n : Int) : Bool := match d with
  | .int i => decide (0 ≤ i) && decide (i < n) | _ => false
def itemsD : PyData → List PyData
  | .list ds => ds | .tuple ds => ds | _ => []
/-- the step that a thing is, if it is right -/
def rightD (cs : List (List Str)) (so : List Str) (d : PyData) : Option Stp := match itemsD d with
  | [.int i, .none] => if 0 ≤ i ∧ i < (cs.length : Int) ∧ openOnes so (cs.getD i.toNat []) = some [] then some (i.toNat, none) else none
  | [.int i, .str l] => if 0 ≤ i ∧ i < (cs.length : Int) ∧ openOnes so (cs.getD i.toNat []) = some [l] then some (i.toNat, some l) else none
  | _ => none
structure CodeW (cd : CodeD) : Prop where
  c : ∀ x ∈ cd.clauses, shortT x
  n : cd.clauses.flatten.length ≤ 1000000
  k : cd.clauses.length ≤ 1000000
  s : Shorts cd.names
theorem _root_.L3.TuR.sqq {K : PySem.W.Frag} {cs : List (List Str)} {M : Hp} {v : V} (h : TuR TT cs M v) : SqR K (SqR K Tx) cs M v :=
  let ⟨a, vs, e, r, p⟩ := h
  .inr ⟨a, vs, e, .inl (.inl r), Paired.mapP p fun _ _ q => TT.sq q⟩
section
variable {K : PySem.W.Frag} {σ : Sl} {M : Hp} {ta tb tc : TE}
/-- i ≤ j < k -/
theorem gv_chainL {i j k : Int} (ha : Gv ta σ M (It' i)) (hb : Gv tb σ M (It' j)) (hc : Gv tc σ M (It' k)) :
    Gv (tChain (rI0 fun i j => .bl (decide (i ≤ j))) (rI0 fun i j => .bl (decide (i < j))) ta tb tc) σ M (Bl (decide (i ≤ j) && decide (j < k))) := fun H mh Q q =>
  ha H mh _ fun x M1 H1 g1 p1 => hb.le g1.mm H1 g1.mh _ fun y M2 H2 g2 p2 => ⟨i, j, p1, p2, decide (i ≤ j), rfl, by
    cases hd : decide (i ≤ j) with
    | true =>
      refine (hc.le (g1.mm.trans g2.mm)) H2 g2.mh _ fun z M3 H3 g3 p3 => ⟨j, k, p2, p3, q _ M3 H3 ((g1.trans g2).trans g3) ?_⟩
      rw [hd]; rfl
    | false =>
      refine q _ M2 H2 (g1.trans g2) ?_
      rw [hd]; rfl⟩
theorem gv_oneD {d : PyData} (h : Gv ta σ M (Dd K d)) : Gv (tLst (tCons ta tNil)) σ M (Dd K (.list [d])) :=
  (gl_lst (R := fun M vs => ∃ v r, vs = v :: r ∧ Dd K d M v ∧ r = []) (ga_cons h fun M1 _ => ga_nil) fun M vs ⟨v, r, e, _, e2⟩ => by subst e; subst e2; show 1 ≤ sizeLine; decide).gv
    fun M vs p ⟨v, r, e, hv, e2⟩ m => by subst e; subst e2; exact .lst (.inl (.inl upd_same)) (.cons (dp_mono (same_new m) hv) .nil)
end
section
variable {P : Program} {w : World} {K : PySem.W.Frag} {mg : Str → Option Value} {base : Heap}
def sp_is_index (K : PySem.W.Frag) : Sp := sp2 (Dd K) It' (fun _ _ => True) fun d n => Bl (isIdxD d n)
def sp_Code_len (K : PySem.W.Frag) (C : Addr) : Sp := sp1 (CodeR C) (fun _ => True) fun c => It' (c.clauses.length : Nat)
def sp_check_setting (K : PySem.W.Frag) : Sp := sp2 (Dd K) (SqR K Tx) (fun d ns => shortL d ∧ firstWrong ns d = none) fun _ _ _ v => v = .non
def sp_drawings (K : PySem.W.Frag) (C : Addr) : Sp := sl2 (CodeR C) (SqR K Tx) (fun c h => CodeW c ∧ ClOk c.names h) fun c h M ws => ∃ r, Chase c.clauses (once h) [] r ∧ Pd StepR M r.2 ws
end
end My

set_option Elab.async false
set_option linter.all false
set_option maxRecDepth 100000
set_option maxHeartbeats 4000000
namespace My
open PySem PySem.Spec PyProof.Rows L2 L3
open L3.Strm
section
variable {K : PySem.W.Frag} {σ : Sl} {M : Hp} {ta tb te : TE} {i j : Int}
theorem gv_mul (ha : Gv ta σ M (It' i)) (hb : Gv tb σ M (It' j)) (hc : CMul i j) : Gv (tOp (rI CMul fun i j => .int (i * j)) ta tb) σ M (It' (i * j)) := gv_op ha hb fun M' u w px py => rv_pure (fun H mh Q q => ⟨i, j, px, py, hc, q⟩) rfl
theorem gv_mod (ha : Gv ta σ M (It' i)) (hb : Gv tb σ M (It' j)) (hc : 0 < j) : Gv (tOp (rI (fun _ j => 0 < j) fun i j => .int (i % j)) ta tb) σ M (It' (i % j)) := gv_op ha hb fun M' u w px py => rv_pure (fun H mh Q q => ⟨i, j, px, py, hc, q⟩) rfl
theorem gv_fdiv (ha : Gv ta σ M (It' i)) (hb : Gv tb σ M (It' j)) (hc : CDiv i j) : Gv (tOp (rI CDiv fun i j => .int (i / j)) ta tb) σ M (It' (i / j)) := gv_op ha hb fun M' u w px py => rv_pure (fun H mh Q q => ⟨i, j, px, py, hc, q⟩) rfl
theorem gv_pow (ha : Gv ta σ M (It' i)) (hb : Gv tb σ M (It' j)) (hc : CPow i j) : Gv (tOp (rI CPow fun i j => .int (i ^ j.toNat)) ta tb) σ M (It' (i ^ j.toNat)) := gv_op ha hb fun M' u w px py => rv_pure (fun H mh Q q => ⟨i, j, px, py, hc, q⟩) rfl
theorem gv_lt (ha : Gv ta σ M (It' i)) (hb : Gv tb σ M (It' j)) : Gv (tOp (rI0 fun i j => .bl (decide (i < j))) ta tb) σ M (Bl (decide (i < j))) := gv_op ha hb fun M' u w px py => rv_pure (fun H mh Q q => ⟨i, j, px, py, q⟩) rfl
theorem gv_gt {g : Int → Int → V} (ha : Gv ta σ M (It' i)) (hb : Gv tb σ M (It' j)) : Gv (tOp (rI0 g) ta tb) σ M (fun _ v => v = g i j) := gv_op ha hb fun M' u w px py => rv_pure (fun H mh Q q => ⟨i, j, px, py, q⟩) rfl
theorem gv_int1 (ha : Gv ta σ M (It' i)) : Gv (tCB (fun xs H Q => (∃ i, xs = [V.int i] ∧ Q (.int i) H) ∨ ∃ k, xs = [V.bl k] ∧ Q (.int (if k then 1 else 0)) H) (tCons ta tNil)) σ M (It' i) := gv_cb1 ha fun M' v hv H mh Q q => .inl ⟨i, by rw [hv], q _ M' H (.refl mh) rfl⟩
theorem gv_int1b {b : Bool} (ha : Gv ta σ M (Bl b)) : Gv (tCB (fun xs H Q => (∃ i, xs = [V.int i] ∧ Q (.int i) H) ∨ ∃ k, xs = [V.bl k] ∧ Q (.int (if k then 1 else 0)) H) (tCons ta tNil)) σ M (It' (if b then 1 else 0)) := gv_cb1 ha fun M' v hv H mh Q q => .inr ⟨b, by rw [hv], q _ M' H (.refl mh) rfl⟩
/-- an int of a mixed list -/
theorem gv_ixI {ds : List PyData} {z : Int} (ha : Gv ta σ M (SqR K (Dd K) ds)) (hb : Gv tb σ M (It' i)) (hx : atI ds i = some (.int z)) : Gv (tOp (rIxX K) ta tb) σ M (It' z) := gv_is (gv_ix (K := K) (R := Dd K) ha hb hx) fun M v h => by cases h; rfl
end
theorem depthI (cs : List Int) : (PyData.list (cs.map .int)).depth ≤ 60 := by
  have : ∀ cs : List Int, PyData.depthAll (cs.map .int) = 0 := fun cs => by
    induction cs with
    | nil => simp [PyData.depthAll]
    | cons c r ih => simp [PyData.depthAll, PyData.depth, ih]
  simp [PyData.depth, this]
theorem nilI (cs : List Int) : PyData.eqv (.list (cs.map .int)) (.list []) = decide (cs = []) := by
  cases cs <;> simp [PyData.eqv, PyData.eqvAll]
section
variable {P : Program} {w : World} {K : PySem.W.Frag} {mg : Str → Option Value} {base : Heap}
abbrev s__law_draw : Stmt := topS 23
theorem sc__law_draw : FnScope ["_law_stream", "_law_many", "_law_mixed_here", "_law_digit"] ["_law_stream", "_law_many"] (defScope s__law_draw) := ⟨rfl, rfl, rfl, by decide +kernel, rfl, by decide +kernel, by decide +kernel⟩
def sp__law_draw (K : PySem.W.Frag) : Sp := spS1 It' (fun n => 0 < n ∧ n < 1073741824) (fun _ => 1) fun n => Ex It' fun i => 0 ≤ i ∧ i < n
theorem ok__law_draw {f : Addr} {fd : FuncData} (F : Fun K "_law_draw" "_law_draw" s__law_draw f fd) (T : Gc mg) : FnOk P w K mg base CX0 1 f fd ["_law_stream", "_law_many"] (sp__law_draw K) := by
  refine F.ok sc__law_draw (fun vs H Q E h => ?_) (fun cdv A outer s H vs Q E hr h => ?_)
  · obtain ⟨S, x, M, v, k, rfl, _⟩ := h
    rfl
  · obtain ⟨S, many, M, v, k, rfl, mh, at_, r1, ⟨hm1, hm2⟩, q⟩ := h
    cases r1
    have hu := hr.units
    refine ⟨_, (pss_cons (ps_asg (pe_op op_addA (pe_ix ix_X (pv 0) pe_int (fun _ _ => rfl)) pe_int) (pg_sub (pv 0) pe_int set_list))
      (pss_cons (ps_if (PW.pt (pw_and (pt_cmpR (op_eqP hu) (pe_ix ix_X (pv 0) pe_int (fun _ _ => rfl)) pe_int (nomark _)) (pw_and1 (pt_cmpR (op_neP hu) (pe_ix ix_X (pv 0) pe_int (fun _ _ => rfl)) (pe_lst pa_nil) (nomark _))))) (pss_cons (ps_asg (pe_bm PySem.F.plainAttrs_list PySem.F.slot_list_pop PySem.F.type_list_pop mt_popAt (pe_ix ix_X (pv 0) pe_int (fun _ _ => rfl)) (pa_cons pe_int pa_nil)) (pg_sub (pv 0) pe_int set_list))
      (pss_one (ps_if (pt_cmpR op_lt (pe_ix ix_X (pv 0) pe_int (fun _ _ => rfl)) (pe_op op_pow pe_int pe_int) (nomark _)) (pss_cons (ps_asg (pe_op op_mod (pe_callTy call_int1 (by rfl) T.int boot_int (pa_cons (pe_op op_addA (pe_op op_addA (pe_op op_mul (pe_ix ix_X (pv 0) pe_int (fun _ _ => rfl)) pe_int) (pe_ix ix_X (pv 0) pe_int (fun _ _ => rfl))) pe_int) pa_nil)) pe_int) (pg_sub (pv 0) pe_int set_list))
      (pss_one (ps_asg pe_int (pg_sub (pv 0) pe_int set_list)))) pss_nil))) pss_nil)
      (pss_cons (ps_if (pt_cmpR op_gt (pe_ix ix_X (pv 0) pe_int (fun _ _ => rfl)) pe_int (nomark _)) (pss_cons (ps_set (i := 3) sc__law_draw.nd rfl (by first | exact .inl rfl | exact .inr rfl) (pe_op op_mod (pe_callTy call_int1 (by rfl) T.int boot_int (pa_cons (pe_ix ix_X (pv 0) pe_int (fun _ _ => rfl)) pa_nil)) (pv 1)))
      (pss_cons (ps_asg (pe_op op_fdiv (pe_ix ix_X (pv 0) pe_int (fun _ _ => rfl)) (pv 1)) (pg_sub (pv 0) pe_int set_list))
      (pss_one (ps_ret (pv 3))))) pss_nil)
      (pss_cons (ps_set (i := 2) sc__law_draw.nd rfl (by first | exact .inl rfl | exact .inr rfl) (pe_op op_mod (pe_op op_pow (pe_op op_addA (pe_op op_addA (pe_ix ix_X (pv 0) pe_int (fun _ _ => rfl)) (pe_op op_mul pe_int (pe_ix ix_X (pv 0) pe_int (fun _ _ => rfl)))) pe_int) pe_int) pe_int))
      (pss_one (ps_ret (pe_op op_mod (pe_op op_mod (pe_op op_pow (pe_op op_addA (pe_op op_addA (pe_op op_mul (pv 2) pe_int) (pe_op op_mul (pe_op op_mul pe_int (pe_ix ix_X (pv 0) pe_int (fun _ _ => rfl))) (pe_ix ix_X (pv 0) pe_int (fun _ _ => rfl)))) pe_int) pe_int) pe_int) (pv 1)))))))), ?_⟩
    obtain ⟨hne, cells, x, n, m, h1, h2, hx, hn, hk, hm0, hm⟩ := at_
    have hk : n + ((k + 1 : Nat) : Int) ≤ 10000000 := hk
    have st0 : StAt S H cells x n m := ⟨hne, h1, h2⟩
    -- stream[2] = stream[2] + 1
    refine z_sub (j := 2) (jn := 2) (z := n + 1) rfl mh st0 rfl (gv_addIn (K := K) (gv_ixI (K := K) (i := 2) (gv_var rfl st0.sq) (gv_c rfl) rfl) (gv_c rfl)) fun M1 H1 g1 ha1 hb1 => ?_
    have st1 : StAt S H1 cells x (n + 1) m := ⟨hne, ha1, hb1⟩
    have hp18 : ((10 : Int) ^ (18 : Int).toNat) = 1000000000000000000 := by decide
    refine q_cut (fun σ' H2 => ∃ M2 cells x m, σ' = [some (.ref S.a), some (.int many), none, none] ∧ Gr M (S.cut H) M2 (S.cut H2) ∧ StAt S H2 cells x (n + 1) m ∧ 0 ≤ x ∧ 0 ≤ m ∧ m < 2147483647) (fun nx hnx => ?_) ?_
    · refine s_if0 (b := decide (x = 0) && !decide (cells = [])) (full_same g1.mh) (gt_and (gt_test (gv_is (gv_eqT (K := K) (neg := false) py_int inj_int (gv_ixI (K := K) (i := 1) (gv_var rfl st1.sq) (gv_c rfl) rfl) (gv_c rfl) (by simp [PyData.depth])) fun M v h => by simpa using h)) fun _ =>
          gt_test (gv_is (gv_eq (K := K) (neg := true) (d := .list (cells.map .int)) (e := .list []) (gv_ix (K := K) (R := Dd K) (i := 0) (gv_var rfl st1.sq) (gv_c rfl) rfl) gv_nilD (depthI cells)) fun M v h => ?_)) (fun hb H2 hh2 => ?_) (fun hb H2 hh2 => ?_)
      · rw [show v = _ from h, nilI]; simp
      · -- a cell is taken
        obtain ⟨ex, hc⟩ : x = 0 ∧ cells ≠ [] := by simpa using hb
        have st2 := st1.same hh2
        have g2 : Gr M (S.cut H) M1 (S.cut H2) := g1.trans (.idle g1.mh fun y u e => by rw [cut_on (on_of e)]; exact hh2 y u (of_cut e))
        obtain ⟨cell, rest, rfl⟩ : ∃ c r, cells = c :: r := by cases cells with | nil => exact absurd rfl hc | cons c r => exact ⟨c, r, rfl⟩
        refine ⟨.ref S.a, rfl, .inl ⟨S.a, _, 0, .ref S.b, rfl, rfl, .inl (.inl st2.a), rfl, .inl ⟨rfl, _, .inl (.inl st2.b)⟩, S.b, _, 0, 0, .int cell, rfl, rfl, st2.b, by decide, by decide, ?_, rfl, .ref S.a, rfl, S.a, _, 1, 1, rfl, rfl, (by rw [upd_ne hne]; exact st2.a), rfl, ?_⟩⟩
        · simp [seqIndex?]
        · have st3 : StAt S (upd (upd H2 S.b (.lst (((cell :: rest).map V.int).eraseIdx 0))) S.a (.lst ([V.ref S.b, .int x, .int (n + 1), .int m].set 1 (.int cell)))) rest cell (n + 1) m := ⟨hne, upd_same, by rw [upd_ne (Ne.symm hne), upd_same]; rfl⟩
          have g3 : Gr M (S.cut H) M1 (S.cut (upd (upd H2 S.b (.lst (((cell :: rest).map V.int).eraseIdx 0))) S.a (.lst ([V.ref S.b, .int x, .int (n + 1), .int m].set 1 (.int cell))))) := by rw [cut_updo (.inl rfl), cut_updo (.inr rfl)]; exact g2
          revert st3 g3
          generalize upd (upd H2 S.b (.lst (((cell :: rest).map V.int).eraseIdx 0))) S.a (.lst ([V.ref S.b, .int x, .int (n + 1), .int m].set 1 (.int cell))) = H3
          intro st3 g3
          refine s_if0 (b := decide (cell < 1000000000000000000)) (full_same g3.mh) (gt_test (gv_is (gv_lt (gv_ixI (K := K) (i := 1) (gv_var rfl st3.sq) (gv_c rfl) rfl) (gv_pow (i := 10) (j := 18) (gv_c rfl) (gv_c rfl) ⟨by decide, by decide, by decide⟩)) fun M v h => by rw [hp18] at h; exact h)) (fun hb4 H4 hh4 => ?_) (fun hb4 H4 hh4 => ?_)
          · have st4 := st3.same hh4
            have g4 : Gr M (S.cut H) M1 (S.cut H4) := g3.trans (.idle g3.mh fun y u e => by rw [cut_on (on_of e)]; exact hh4 y u (of_cut e))
            refine z_sub (j := 3) (jn := 3) (z := (m * 31 + cell + 7) % 2147483647) rfl g4.mh st4 rfl (gv_mod (gv_int1 (gv_addIn (K := K) (gv_addIn (K := K) (gv_mul (gv_ixI (K := K) (i := 3) (gv_var rfl st4.sq) (gv_c rfl) rfl) (gv_c rfl) (.inr ⟨by decide, by decide⟩)) (gv_ixI (K := K) (i := 1) (gv_var rfl st4.sq) (gv_c rfl) rfl)) (gv_c rfl))) (gv_c rfl) (by decide)) fun M5 H5 g5 ha5 hb5 => ?_
            have st5 : StAt S H5 rest cell (n + 1) ((m * 31 + cell + 7) % 2147483647) := ⟨hne, ha5, hb5⟩
            refine z_subE (j := 1) (jn := 1) (z := 0) rfl g5.mh st5 rfl (gv_c rfl) fun M6 H6 g6 ha6 hb6 => ?_
            exact hnx _ _ ⟨M6, rest, 0, _, rfl, (g4.trans g5).trans g6, ⟨hne, ha6, hb6⟩, Int.le_refl _, Int.emod_nonneg _ (by decide), Int.emod_lt_of_pos _ (by decide)⟩
          · have hc : (1000000000000000000 : Int) ≤ cell := by simpa using hb4
            exact hnx _ _ ⟨M1, rest, cell, m, rfl, g3.trans (.idle g3.mh fun y u e => by rw [cut_on (on_of e)]; exact hh4 y u (of_cut e)), st3.same hh4, by omega, hm0, hm⟩
      · exact hnx _ _ ⟨M1, cells, x, m, rfl, g1.trans (.idle g1.mh fun y u e => by rw [cut_on (on_of e)]; exact hh2 y u (of_cut e)), st1.same hh2, hx, hm0, hm⟩
    · rintro σ' H2 ⟨M2, cells, x, m, rfl, g2, st2, hx, hm0, hm⟩
      have hk' : n + 1 + (k : Int) ≤ 10000000 := by omega
      refine q_if0 (b := decide (0 < x)) (full_same g2.mh) (gt_test (gv_is (gv_gt (gv_ixI (K := K) (i := 1) (gv_var rfl st2.sq) (gv_c rfl) rfl) (gv_c rfl)) fun M v h => h)) (fun hb3 H3 hh3 => ?_) (fun hb3 H3 hh3 => ?_)
      · have st3 := st2.same hh3
        have g3 : Gr M (S.cut H) M2 (S.cut H3) := g2.trans (.idle g2.mh fun y u e => by rw [cut_on (on_of e)]; exact hh3 y u (of_cut e))
        refine q_asg (M := S.full M2 H3) (P := It' (x % many)) (full_same g3.mh) (gv_mod (gv_int1 (gv_ixI (K := K) (i := 1) (gv_var rfl st3.sq) (gv_c rfl) rfl)) (gv_var rfl rfl) hm1) fun v4 M4 H4 g4 r4 => ?_
        cases r4
        have st4 := st3.same g4.hh
        have G4 := g3.trans (unfull g3.mh g4)
        refine z_sub (j := 1) (jn := 1) (z := x / many) rfl G4.mh st4 rfl (gv_fdiv (gv_ixI (K := K) (i := 1) (gv_var rfl st4.sq) (gv_c rfl) rfl) (gv_var rfl rfl) ⟨hm1, hm2⟩) fun M5 H5 g5 ha5 hb5 => ?_
        refine ⟨.int (x % many), rfl, q _ M5 H5 (G4.trans g5) ⟨hne, cells, x / many, n + 1, m, ha5, hb5, Int.ediv_nonneg hx (by omega), by omega, hk', hm0, hm⟩ ⟨x % many, ⟨Int.emod_nonneg _ (by omega), Int.emod_lt_of_pos _ hm1⟩, rfl⟩⟩
      · have st3 := st2.same hh3
        have g3 : Gr M (S.cut H) M2 (S.cut H3) := g2.trans (.idle g2.mh fun y u e => by rw [cut_on (on_of e)]; exact hh3 y u (of_cut e))
        refine q_asg (M := S.full M2 H3) (P := It' ((m + 104729 * (n + 1) + 17) ^ (5 : Int).toNat % 2147483629)) (full_same g3.mh) (gv_mod (gv_pow (gv_addIn (K := K) (gv_addIn (K := K) (gv_ixI (K := K) (i := 3) (gv_var rfl st3.sq) (gv_c rfl) rfl) (gv_mul (gv_c rfl) (gv_ixI (K := K) (i := 2) (gv_var rfl st3.sq) (gv_c rfl) rfl) (.inl ⟨by decide, by decide⟩))) (gv_c rfl)) (gv_c rfl) ⟨by decide, by decide, by omega⟩) (gv_c rfl) (by decide)) fun v4 M4 H4 g4 r4 => ?_
        have st4 := st3.same g4.hh
        have G4 := g3.trans (unfull g3.mh g4)
        have hz0 := Int.emod_nonneg ((m + 104729 * (n + 1) + 17) ^ (5 : Int).toNat) (show (2147483629 : Int) ≠ 0 by decide)
        have hz1 := Int.emod_lt_of_pos ((m + 104729 * (n + 1) + 17) ^ (5 : Int).toNat) (show (0 : Int) < 2147483629 by decide)
        revert r4 hz0 hz1
        generalize (m + 104729 * (n + 1) + 17) ^ (5 : Int).toNat % 2147483629 = z
        intro r4 hz0 hz1
        have hnn : (n + 1) * (n + 1) ≤ 10000000 * 10000000 := Int.mul_le_mul (by omega) (by omega) (by omega) (by omega)
        have hnn0 : 0 ≤ (n + 1) * (n + 1) := Int.mul_nonneg (by omega) (by omega)
        have hass : 40503 * (n + 1) * (n + 1) = 40503 * ((n + 1) * (n + 1)) := Int.mul_assoc _ _ _
        refine s_ret (M := S.full (S.cut M4) H4) (P := It' ((z * 48271 + 40503 * (n + 1) * (n + 1) + 13) ^ (3 : Int).toNat % 1000000007 % many)) (full_same G4.mh) (gv_mod (gv_mod (gv_pow (gv_addIn (K := K) (gv_addIn (K := K) (gv_mul (gv_var rfl r4) (gv_c rfl) (.inr ⟨by decide, by decide⟩)) (gv_mul (gv_mul (gv_c rfl) (gv_ixI (K := K) (i := 2) (gv_var rfl st4.sq) (gv_c rfl) rfl) (.inl ⟨by decide, by decide⟩)) (gv_ixI (K := K) (i := 2) (gv_var rfl st4.sq) (gv_c rfl) rfl) (.inr ⟨by omega, by omega⟩))) (gv_c rfl)) (gv_c rfl) ⟨by decide, by decide, by omega⟩) (gv_c rfl) (by decide)) (gv_var rfl rfl) hm1) fun v5 M5 H5 g5 r5 => ?_
        have st5 := st4.same g5.hh
        exact q _ _ H5 (G4.trans (unfull G4.mh g5)) ⟨hne, cells, x, n + 1, m, st5.a, st5.b, hx, by omega, hk', hm0, hm⟩ ⟨_, ⟨Int.emod_nonneg _ (by omega), Int.emod_lt_of_pos _ hm1⟩, r5⟩
end
end My

set_option Elab.async false
set_option linter.all false
set_option maxRecDepth 100000
set_option maxHeartbeats 4000000
namespace My
open PySem PySem.Spec PyProof.Rows L2 L3
open L3.Strm
theorem rv_ix {K : PySem.W.Frag} {α : Type} {R : Rl α} [Mon R] {xs : List α} {i : Int} {x : α} {M : Hp} {u w : V} (hu : SqR K R xs M u) (hw : It' i M w) (hx : atI xs i = some x) : RV (rIxX K u w) M (R x) :=
  fun H mh Q q => gv_ix (K := K) (σ := []) (M := M) (ta := tC u) (tb := tC w) (gv_c hu) (gv_c hw) hx H mh Q q
theorem rv_ixS {K : PySem.W.Frag} {x : Str} {i : Int} {c : Nat} {M : Hp} {u w : V} (hu : Tx x M u) (hw : It' i M w) (hz : x.length ≤ sizeLine) (hx : atI x.cps.toList i = some c) : RV (rIxX K u w) M (Tx ⟨#[c]⟩) :=
  fun H mh Q q => gv_ixS (K := K) (σ := []) (M := M) (ta := tC u) (tb := tC w) (gv_c hu) (gv_c hw) hz hx H mh Q q
theorem atI_in {α : Type} {xs : List α} {i : Int} (h0 : 0 ≤ i) (h1 : i < xs.length) : ∃ x ∈ xs, atI xs i = some x := by
  have hi : i.toNat < xs.length := by omega
  refine ⟨xs[i.toNat], List.getElem_mem _, ?_⟩
  have := atI_nat (xs := xs) (j := i.toNat) (List.getElem?_eq_getElem hi)
  rw [Int.toNat_of_nonneg h0] at this
  exact this
theorem erase_map {α β : Type} (f : α → β) : ∀ (l : List α) (i : Nat), (l.map f).eraseIdx i = (l.eraseIdx i).map f
  | [], _ => rfl
  | _ :: _, 0 => rfl
  | a :: l, i + 1 => by show f a :: (l.map f).eraseIdx i = f a :: (l.eraseIdx i).map f; rw [erase_map f l i]
theorem erase_perm {α : Type} : ∀ {l : List α} {i : Nat} (h : i < l.length), (l[i] :: l.eraseIdx i).Perm l
  | _ :: _, 0, _ => List.Perm.refl _
  | a :: l, i + 1, h => (List.Perm.swap _ _ _).trans (List.Perm.cons a (erase_perm (l := l) (i := i) (Nat.lt_of_succ_lt_succ h)))
section
variable {P : Program} {w : World} {K : PySem.W.Frag} {mg : Str → Option Value} {base : Heap}
abbrev s__law_pick : Stmt := topS 24
theorem sc__law_pick : FnScope ["_law_stream", "_law_things"] ["_law_stream", "_law_things"] (defScope s__law_pick) := ⟨rfl, rfl, rfl, by decide +kernel, rfl, by decide +kernel, by decide +kernel⟩
def sp__law_pick (K : PySem.W.Frag) : Sp := spS1 (SqR K Tx) (fun xs => 0 < xs.length ∧ xs.length ≤ 1000000) (fun _ => 1) fun xs => Ex Tx fun x => x ∈ xs
theorem ok__law_pick {f : Addr} {fd : FuncData} (F : Fun K "_law_pick" "_law_pick" s__law_pick f fd) (T : Gc mg) (c__law_draw : Cal P w K mg base 1 "_law_draw" ["_law_stream", "_law_many"] (sp__law_draw K)) : FnOk P w K mg base CX0 2 f fd ["_law_stream", "_law_things"] (sp__law_pick K) := by
  refine F.ok sc__law_pick (fun vs H Q E h => ?_) (fun cdv A outer s H vs Q E hr h => ?_)
  · obtain ⟨S, x, M, v, k, rfl, _⟩ := h
    rfl
  · obtain ⟨S, xs, M, v, k, rfl, mh, at_, r1, ⟨h1, h2⟩, q⟩ := h
    refine ⟨_, (pss_one (ps_ret (pe_ix ix_X (pv 1) (pe_f c__law_draw (hr.mono (by decide)) (pa_cons (pv 0) (pa_cons (pe_callB call_lenA (by rfl) T.len boot_len (pa_cons (pv 1) pa_nil)) pa_nil))) (fun _ _ => rfl)))), ?_⟩
    refine z_ret (S := S) (c := 0 + 1) mh at_ (gs_op (P := SqR K Tx xs) (P1 := Ex It' fun i => 0 ≤ i ∧ i < (xs.length : Int)) (gv_var rfl r1).s (gs_call1 (S := S) (R1 := It') (pre := fun n => 0 < n ∧ n < 1073741824) (cs := fun _ => 1) (R := fun n => Ex It' fun i => 0 ≤ i ∧ i < n) (x := (xs.length : Int)) rfl (gv_lenA (K := K) (R := Tx) (gv_var rfl r1)) ⟨by omega, by omega⟩) fun M' u w pu ⟨i, hi, pw⟩ => ?_) q
    obtain ⟨x, hx, ha⟩ := atI_in hi.1 hi.2
    exact fun H mh Q q => rv_ix pu pw ha H mh Q fun v M' H' g r => q v M' H' g ⟨x, hx, r⟩
abbrev s__law_mixed : Stmt := topS 25
theorem sc__law_mixed : FnScope ["_law_stream", "_law_things", "_law_left", "_law_k"] ["_law_stream", "_law_things"] (defScope s__law_mixed) := ⟨rfl, rfl, rfl, by decide +kernel, rfl, by decide +kernel, by decide +kernel⟩
def sp__law_mixed (K : PySem.W.Frag) : Sp := slS1 (SqR K Tx) (fun xs => xs.length ≤ 1000000) (fun xs => xs.length) fun xs M ws => ∃ ys : List Str, ys.Perm xs ∧ Pd Tx M ys ws
theorem ok__law_mixed {f : Addr} {fd : FuncData} (F : Fun K "_law_mixed" "_law_mixed" s__law_mixed f fd) (T : Gc mg) (c__law_draw : Cal P w K mg base 1 "_law_draw" ["_law_stream", "_law_many"] (sp__law_draw K)) : FnOk P w K mg base CX0 2 f fd ["_law_stream", "_law_things"] (sp__law_mixed K) := by
  refine F.ok sc__law_mixed (fun vs H Q E h => ?_) (fun cdv A outer s H vs Q E hr h => ?_)
  · obtain ⟨S, x, M, v, k, rfl, _⟩ := h
    rfl
  · obtain ⟨S, xs, M, v, k, rfl, mh, at_, r1, h1, q⟩ := h
    refine ⟨_, (pss_cons (ps_set (i := 2) sc__law_mixed.nd rfl (by first | exact .inl rfl | exact .inr rfl) (pe_callTy call_lstA (by rfl) T.list boot_list (pa_cons (pv 1) pa_nil)))
      (pss_one (ps_ret (pe_lc (own := [("_law_k", 3)]) (g := (gName 3)) (tt := tYes) (te := (tBM K "list" rPopAt (tVar 2) (tCons (tCall (sp__law_draw K) [] E0 (tCons (tVar 0) (tCons (tCB (rLenA K) (tCons (tVar 2) tNil)) tNil))) tNil))) (by rfl) sc__law_mixed.nd (pi_range1 (by rfl) T.range (pa_cons (pe_callB call_lenA (by rfl) T.len boot_len (pa_cons (pv 2) pa_nil)) pa_nil)) (blkOk_by (by rfl)) (fun _ _ _ _ _ => (pg_name (i := 3) sc__law_mixed.nd rfl (by first | exact .inl rfl | exact .inr rfl))) (fun _ _ _ _ _ => pts_nil) (fun _ _ _ _ _ => (pe_bm PySem.F.plainAttrs_list PySem.F.slot_list_pop PySem.F.type_list_pop mt_popAt (pv 2) (pa_cons (pe_f c__law_draw (hr.mono (by decide)) (pa_cons (pv 0) (pa_cons (pe_callB call_lenA (by rfl) T.len boot_len (pa_cons (pv 2) pa_nil)) pa_nil))) pa_nil))))))), ?_⟩
    refine z_asgL (S := S) (c := 0) mh at_ (gl_lstOf (K := K) (R1 := Tx) (gv_var rfl r1)).s fun p vs M1 H1 g1 a1 hp0 hpm hpw hpd => ?_
    have evs := pd_tx hpd
    subst evs
    -- the comprehension
    have hlen : Gv (tCB (rLenA K) (tCons (tVar 2) tNil)) [some (.ref S.a), some v, some (.ref p), none] (upd M1 p (.lst (xs.map V.str))) (It' (xs.length : Nat)) := gv_lenA (K := K) (R := Tx) (gv_var rfl (.inl ⟨p, _, rfl, .inl (.inl upd_same), pd_of_tx xs⟩))
    have hdis : ∀ {D : Addr} {H2 : Hp} {o : HO}, H2 D = none → S.cut H2 p = some o → p ≠ D := fun hD hp z => by subst z; have := of_cut hp; rw [hD] at this; cases this
    refine lc_rngL hlen hpm (g1.mh.trans cut_same) (of_cut hpw) (Nat.le_trans h1 (by decide)) ls_nt
      (fun D i M' H' => ∃ L zs : List Str, Gr M (S.cut H) M' (S.cut H') ∧ S.At (k + (xs.length - i)) H' ∧ S.cut H D = none ∧ M' D = none ∧ M' p = none ∧ p ≠ D ∧ S.cut H' D = some (.lst (zs.map V.str)) ∧ S.cut H' p = some (.lst (L.map V.str)) ∧ (zs ++ L).Perm xs ∧ zs.length = i) (fun M2 H2 D g2 hD => ?_) (fun D i M' H' hi => ?_) (fun D M' H' => ?_)
    · have g2' := lift g1.mh a1 g2
      have a2 := a1.same g2.hh
      have nD := a2.fresh hD
      have hp2 := g2'.hh _ _ hpw
      have hpD := hdis hD hp2
      have G2 := g1.trans g2'
      refine ⟨xs, [], by rw [cut_upd nD]; exact G2.trans (.own G2.mh (a2.cutn hD)), a2.upd nD, G2.hh.free (a2.cutn hD), G2.mh.free (a2.cutn hD), g2'.keep hpm hpw, hpD, by rw [cut_upd nD, upd_same]; rfl, by rw [cut_upd nD, upd_ne hpD]; exact hp2, List.Perm.refl _, rfl⟩
    · rintro ⟨L, zs, g, a', hD0, mD, mp, hpD, hwD, hwp, hper, hzl⟩
      have hLl : L.length = xs.length - i := by have := hper.length_eq; rw [List.length_append] at this; omega
      have e1 : k + (xs.length - i) = (k + (xs.length - (i + 1))) + 1 := by omega
      rw [e1] at a'
      refine ⟨.ref p, rfl, .inl ⟨rfl, _, .inl (.inl (of_cut hwp))⟩, ?_⟩
      refine GvS.lend (S := S) (c := 1) (P := Ex It' fun z => 0 ≤ z ∧ z < (L.length : Int)) (gs_call1 (S := S) (R1 := It') (pre := fun n => 0 < n ∧ n < 1073741824) (cs := fun _ => 1) (R := fun n => Ex It' fun i => 0 ≤ i ∧ i < n) (x := (L.length : Int)) rfl
        (gv_lenA (K := K) (R := Tx) (gv_var rfl (.inl ⟨p, _, rfl, .inl (.inl upd_same), pd_of_tx L⟩))) ⟨by omega, by omega⟩) mp g.mh a' hwp ls_nt fun v3 M3 H3 g3 a3 ⟨z, hz, rz⟩ => ?_
      cases rz
      have hp3 := g3.hh _ _ hwp
      have hD3 := g3.hh _ _ hwD
      have hzn : z.toNat < L.length := by omega
      refine ⟨p, L.map V.str, z, z.toNat, .str L[z.toNat], rfl, rfl, of_cut hp3, by omega, by omega, ?_, ?_, ?_⟩
      · unfold seqIndex?
        rw [List.length_map]
        simp only [if_neg (show ¬ z < 0 by omega)]
        rw [if_pos (by simp; omega)]
      · rw [List.getElem?_map, List.getElem?_eq_getElem hzn]; rfl
      · have np := on_of hp3
        have nD := on_of hD3
        refine ⟨zs.map V.str, by rw [upd_ne (Ne.symm hpD)]; exact of_cut hD3, szL (by rw [List.length_map]; omega), M3, L.eraseIdx z.toNat, zs ++ [L[z.toNat]], ?_, (a3.upd np).upd nD, hD0, g3.keep mD hwD, g3.keep mp hwp, hpD, ?_, ?_, ?_, by rw [List.length_append, hzl]; rfl⟩
        · rw [cut_upd nD, cut_upd np]
          exact ((g.trans g3).mut hp0 (g3.keep mp hwp)).mut hD0 (g3.keep mD hwD)
        · rw [cut_upd nD, upd_same, List.map_append]; rfl
        · rw [cut_upd nD, cut_upd np, upd_ne hpD, upd_same, erase_map]
        · refine List.Perm.trans ?_ hper
          rw [List.append_assoc]
          exact List.Perm.append_left zs (erase_perm hzn)
    · rintro ⟨L, zs, g, a', hD0, mD, mp, hpD, hwD, hwp, hper, hzl⟩
      have hL : L = [] := by
        have := hper.length_eq; rw [List.length_append] at this
        exact List.eq_nil_of_length_eq_zero (by omega)
      subst hL
      rw [List.append_nil] at hper
      exact q D _ M' H' g (a'.le (by omega)) hD0 mD hwD ⟨zs, hper, pd_of_tx zs⟩
end
end My

set_option Elab.async false
set_option linter.all false
set_option maxRecDepth 100000
set_option maxHeartbeats 4000000
namespace My
open PySem PySem.Spec PyProof.Rows L2 L3
open L3.Strm
section
variable {K : PySem.W.Frag} {S : Strm} {σ : Sl} {M : Hp} {te : TE} {i : Nat} {n : Int}
theorem gs_draw (hi : σ[i]? = some (some (.ref S.a))) (h : Gv te σ M (It' n)) (h0 : 0 < n) (h1 : n < 1073741824) : GvS S 1 (tCall (sp__law_draw K) [] E0 (tCons (tVar i) (tCons te tNil))) σ M (Ex It' fun z => 0 ≤ z ∧ z < n) :=
  gs_call1 (S := S) (R1 := It') (pre := fun n => 0 < n ∧ n < 1073741824) (cs := fun _ => 1) (R := fun n => Ex It' fun i => 0 ≤ i ∧ i < n) (x := n) hi h ⟨h0, h1⟩
theorem gts_zero (hi : σ[i]? = some (some (.ref S.a))) (h : Gv te σ M (It' n)) (h0 : 0 < n) (h1 : n < 1073741824) : GvTS S 1 (tTest (tOp (rEqP K false) (tCall (sp__law_draw K) [] E0 (tCons (tVar i) (tCons te tNil))) (tC (.int 0)))) σ M fun _ => True :=
  (gts_test (P := fun _ v => ∃ b, v = .bl b) (gs_op (c2 := 0) (P1 := It' 0) (gs_draw (K := K) hi h h0 h1) (gv_c rfl).s fun M' x y ⟨z, _, rz⟩ py => fun H mh Q q =>
    gv_eqT (K := K) (neg := false) (σ := []) (M := M') (ta := tC x) (tb := tC y) py_int inj_int (gv_c rz) (gv_c py) (by simp [PyData.depth]) H mh Q fun v M' H' g r => q v M' H' g ⟨_, r⟩) fun M v ⟨b, e⟩ => ⟨b, e, trivial⟩)
end
def sgn (c : Nat) : Str := ⟨#[c]⟩
theorem join_sgn (cs : List Nat) : Txt.join "" (cs.map sgn) = ⟨cs.toArray⟩ := by
  have h := SX.join_S [] (cs.map fun c => [c])
  rw [List.map_map] at h
  have e : ∀ cs : List Nat, TL.joinL [] (cs.map fun c => [c]) = cs := fun cs => by
    induction cs with
    | nil => rfl
    | cons c r ih =>
      cases r with
      | nil => rfl
      | cons d r => show [c] ++ ([] ++ TL.joinL [] ((d :: r).map fun c => [c])) = c :: d :: r; rw [ih]; rfl
  rw [e] at h
  exact h
theorem letter_at : ∀ j, j < 26 → g_LETTERS.cps.toList[j]? = some (97 + j) := by decide +kernel
theorem atI_letter {z : Int} (h0 : 0 ≤ z) (h1 : z < 26) : atI g_LETTERS.cps.toList z = some (97 + z.toNat) := by
  have := atI_nat (letter_at z.toNat (by omega))
  rw [Int.toNat_of_nonneg h0] at this
  exact this
theorem isNm_of {cs : List Nat} (h1 : 1 ≤ cs.length) (h2 : cs.length ≤ 8) (h : ∀ c ∈ cs, ∃ j, j < 26 ∧ c = 97 + j) : isNm ⟨cs.toArray⟩ = true := by
  simp only [isNm, Bool.and_eq_true, decide_eq_true_eq, List.all_eq_true]
  refine ⟨⟨by simpa [Str.length] using h1, by simpa [Str.length] using h2⟩, fun c hc => ?_⟩
  obtain ⟨j, hj, rfl⟩ := h c (by simpa using hc)
  exact List.mem_of_getElem? (letter_at j hj)
def words : List Str := ["sign", "helper", "clause", "dead", "forced", "all", "found"]
theorem words_nm : ∀ x ∈ words, isNm x = true := by decide +kernel
def spare (i : Nat) : Str := ⟨#[113, 97 + i / 26, 97 + i % 26]⟩
theorem spare_nm {i : Nat} (h : i < 676) : isNm (spare i) = true := isNm_of (cs := [113, 97 + i / 26, 97 + i % 26]) (by simp) (by simp) fun c hc => by
  simp only [List.mem_cons, List.not_mem_nil, or_false] at hc
  rcases hc with rfl | rfl | rfl
  · exact ⟨16, by decide, rfl⟩
  · exact ⟨i / 26, by omega, rfl⟩
  · exact ⟨i % 26, by omega, rfl⟩
theorem spare_inj {i j : Nat} (h : spare i = spare j) : i = j := by
  have h1 := congrArg (fun x : Str => x.cps.toList) h
  simp only [spare, List.cons.injEq, and_true, true_and] at h1
  omega
theorem spare_eq (i : Nat) : ("q" : Str) ++ sgn (97 + i / 26) ++ sgn (97 + i % 26) = spare i := rfl
theorem nodup_le {ys : List Str} : ∀ {xs : List Str}, xs.Nodup → (∀ x ∈ xs, x ∈ ys) → xs.length ≤ ys.length := by
  intro xs
  induction xs generalizing ys with
  | nil => intro _ _; exact Nat.zero_le _
  | cons x xs ih =>
    intro nd h
    obtain ⟨hx, nd⟩ := List.nodup_cons.mp nd
    have h1 := ih (ys := ys.filter fun y => decide (y ≠ x)) nd fun z hz => List.mem_filter.mpr ⟨h z (List.mem_cons_of_mem _ hz), decide_eq_true fun e => hx (e ▸ hz)⟩
    have h2 := filter_lt (l := x) (p := fun _ => true) (q := fun y => decide (y ≠ x)) (xs := ys) (fun _ _ => rfl) (h x (List.mem_cons_self ..)) rfl (by simp)
    rw [List.filter_eq_self.mpr fun _ _ => rfl] at h2
    rw [List.length_cons]
    omega
theorem spare_free {taken : List Str} (h : ∀ i, i < 676 → spare i ∈ taken) : 676 ≤ taken.length := by
  have nd : ((List.range 676).map spare).Nodup := by
    show List.Pairwise _ _
    rw [List.pairwise_map]
    exact List.Pairwise.imp (fun hne e => hne (spare_inj e)) (List.nodup_range (n := 676))
  have := nodup_le nd fun x hx => by
    obtain ⟨i, hi, rfl⟩ := List.mem_map.mp hx
    exact h i (List.mem_range.mp hi)
  simpa using this
theorem sgns_of {α : Type} {xs : List α} {ys : List Str} (h : Paired (fun _ x => ∃ j, j < 26 ∧ x = sgn (97 + j)) xs ys) : ∃ cs : List Nat, ys = cs.map sgn ∧ cs.length = xs.length ∧ ∀ c ∈ cs, ∃ j, j < 26 ∧ c = 97 + j := by
  induction h with
  | nil => exact ⟨[], rfl, rfl, fun c h => nomatch h⟩
  | cons q _ ih =>
    obtain ⟨j, hj, e⟩ := q
    obtain ⟨cs, h1, h2, h3⟩ := ih
    refine ⟨(97 + j) :: cs, by rw [e, h1]; rfl, by simp [h2], fun c hc => ?_⟩
    rcases List.mem_cons.mp hc with rfl | hc
    · exact ⟨j, hj, rfl⟩
    · exact h3 c hc
theorem sgn_sum (cs : List Nat) : ((cs.map sgn).map (·.length)).sum = cs.length := by
  induction cs with
  | nil => rfl
  | cons c r ih => simp only [List.map_cons, List.sum_cons, ih, List.length_cons]; show 1 + r.length = _; omega
section
variable {P : Program} {w : World} {K : PySem.W.Frag} {mg : Str → Option Value} {base : Heap}
abbrev s__law_fresh : Stmt := topS 27
theorem sc__law_fresh : FnScope ["_law_stream", "_law_taken", "_law_name", "_law_k", "_law_letters", "_law_words", "_law_spare"] ["_law_stream", "_law_taken"] (defScope s__law_fresh) := ⟨rfl, rfl, rfl, by decide +kernel, rfl, by decide +kernel, by decide +kernel⟩
def sp__law_fresh (K : PySem.W.Frag) : Sp := spS1 (SqR K Tx) (fun xs => xs.length ≤ 600) (fun _ => 12) fun xs => Ex Tx fun x => isNm x = true ∧ x ∉ xs
theorem ok__law_fresh {f : Addr} {fd : FuncData} (F : Fun K "_law_fresh" "_law_fresh" s__law_fresh f fd) (T : Gc mg) (c__law_draw : Cal P w K mg base 1 "_law_draw" ["_law_stream", "_law_many"] (sp__law_draw K)) (c__law_pick : Cal P w K mg base 2 "_law_pick" ["_law_stream", "_law_things"] (sp__law_pick K)) :
    FnOk P w K mg base CX0 3 f fd ["_law_stream", "_law_taken"] (sp__law_fresh K) := by
  refine F.ok sc__law_fresh (fun vs H Q E h => ?_) (fun cdv A outer s H vs Q E hr h => ?_)
  · obtain ⟨S, x, M, v, k, rfl, _⟩ := h
    rfl
  · obtain ⟨S, tk, M, v, k, rfl, mh, at_, r1, h1, q⟩ := h
    have hu := hr.units
    refine ⟨_, (pss_cons (ps_asg (pe_tup (pa_cons pe_str (pa_cons (pe_lst (pa_cons pe_str (pa_cons pe_str (pa_cons pe_str (pa_cons pe_str (pa_cons pe_str (pa_cons pe_str (pa_cons pe_str pa_nil)))))))) pa_nil))) (pg_tup (by rfl) (pgs_cons (pg_name (i := 4) sc__law_fresh.nd rfl (by first | exact .inl rfl | exact .inr rfl)) (pgs_cons (pg_name (i := 5) sc__law_fresh.nd rfl (by first | exact .inl rfl | exact .inr rfl)) pgs_nil))))
      (pss_cons (ps_set (i := 2) sc__law_fresh.nd rfl (by first | exact .inl rfl | exact .inr rfl) (pe_join pe_str (pe_lc (own := [("_law_k", 3)]) (g := (gName 3)) (tt := tYes) (te := (tOp (rIxX K) (tVar 4) (tCall (sp__law_draw K) [] E0 (tCons (tVar 0) (tCons (tC (.int 26)) tNil))))) (by rfl) sc__law_fresh.nd (pi_range1 (by rfl) T.range (pa_cons (pe_ix ix_X (pe_lst (pa_cons pe_int (pa_cons pe_int (pa_cons pe_int (pa_cons pe_int (pa_cons pe_int (pa_cons pe_int pa_nil))))))) (pe_f c__law_draw (hr.mono (by decide)) (pa_cons (pv 0) (pa_cons pe_int pa_nil))) (fun _ _ => rfl)) pa_nil)) (blkOk_by (by rfl)) (fun _ _ _ _ _ => (pg_name (i := 3) sc__law_fresh.nd rfl (by first | exact .inl rfl | exact .inr rfl))) (fun _ _ _ _ _ => pts_nil) (fun _ _ _ _ _ => (pe_ix ix_X (pv 4) (pe_f c__law_draw (hr.mono (by decide)) (pa_cons (pv 0) (pa_cons pe_int pa_nil))) (fun _ _ => rfl))))))
      (pss_cons (ps_set (i := 2) sc__law_fresh.nd rfl (by first | exact .inl rfl | exact .inr rfl) (pe_ifExp (pt_cmpR (op_eqP hu) (pe_f c__law_draw (hr.mono (by decide)) (pa_cons (pv 0) (pa_cons pe_int pa_nil))) pe_int (nomark _)) (pe_f c__law_pick (hr.mono (by decide)) (pa_cons (pv 0) (pa_cons (pv 5) pa_nil))) (pv 2)))
      (pss_cons (ps_for PassesOwn.never (by rfl) (pi_range1 (by rfl) T.range (pa_cons (pe_op op_mul pe_int (pe_callTy call_int1 (by rfl) T.int boot_int (pa_cons (pe_cmpR (op_inA hu) (pv 2) (pv 1) (by rfl)) pa_nil))) pa_nil)) (pg_name (i := 3) sc__law_fresh.nd rfl (by first | exact .inl rfl | exact .inr rfl)) (pss_cons (ps_set (i := 6) sc__law_fresh.nd rfl (by first | exact .inl rfl | exact .inr rfl) (pe_op op_addA (pe_op op_addA pe_str (pe_ix ix_X (pv 4) (pe_op op_fdiv (pv 3) pe_int) (fun _ _ => rfl))) (pe_ix ix_X (pv 4) (pe_op op_mod (pv 3) pe_int) (fun _ _ => rfl))))
      (pss_one (ps_if (pt_cmpR (op_niA hu) (pv 6) (pv 1) (by rfl)) (pss_one (ps_ret (pv 6))) pss_nil))))
      (pss_one (ps_ret (pv 2))))))), ?_⟩
    refine z_asgT (S := S) (k := k + 12) (c := 0) (R := PrR K Tx (LiR Tx)) (x := (g_LETTERS, words)) mh at_ (gv_pair (gv_c rfl) (gv_strs words (by decide))).s tg_2 fun σ1 M1 H1 g1 a1 ⟨vl, vw, rl, rw', e⟩ => ?_
    cases rl
    subst e
    -- name = "".join([..])
    refine z_asg (S := S) (k := k + 3) (c := 9) (P := Ex Tx fun x => isNm x = true) g1.mh a1 ((gs_join (K := K) (good := fun ys => ∃ cs : List Nat, ys = cs.map sgn ∧ 1 ≤ cs.length ∧ cs.length ≤ 8 ∧ ∀ c ∈ cs, ∃ j, j < 26 ∧ c = 97 + j) ((gls_m1 (R := fun i : Nat => It' (i : Nat)) (T := Tx) (n := 8) (c1 := 1) (c2 := 1) (G := fun xs => ∃ n, (1 ≤ n ∧ n ≤ 8) ∧ xs = List.range n) (good := fun _ x => ∃ j, j < 26 ∧ x = sgn (97 + j)) ?_ ?_ (by decide) ?_).is ?_) ?_).is ?_) fun v2 M2 H2 g2 a2 ⟨nm, hnm, r2⟩ => ?_
    · refine gis_rng1 (good := fun n => 1 ≤ n ∧ n ≤ 8) (gs_op (c1 := 0) (c2 := 1) (P := SqR K It' [1, 1, 1, 2, 3, 8]) (gv_is (gv_ints [1, 1, 1, 2, 3, 8] (by decide)) fun _ _ h => h.sq).s (gs_draw (K := K) rfl (gv_c rfl) (by decide) (by decide)) fun M' u w pu ⟨z, hz, pw⟩ => ?_) fun n hn => by omega
      obtain ⟨x, hx, ha⟩ := atI_in (xs := ([1, 1, 1, 2, 3, 8] : List Int)) hz.1 hz.2
      refine fun H mh Q q => rv_ix pu pw ha H mh Q fun v M' H' g r => q v M' H' g ⟨x.toNat, ?_, ?_⟩
      · simp only [List.mem_cons, List.not_mem_nil, or_false] at hx
        omega
      · have : ((x.toNat : Nat) : Int) = x := by simp only [List.mem_cons, List.not_mem_nil, or_false] at hx; omega
        show v = .int _
        rw [this]; exact r
    · rintro xs ⟨n, hn, rfl⟩
      rw [List.length_range]; exact hn.2
    · intro xs _ i _ M2 v2 sm ri
      refine gs_op (c1 := 0) (c2 := 1) (P := Tx g_LETTERS) (gv_var rfl rfl).s (gs_draw (K := K) rfl (gv_c rfl) (by decide) (by decide)) fun M' u w pu ⟨z, hz, pw⟩ => ?_
      exact fun H mh Q q => rv_ixS pu pw (by decide) (atI_letter hz.1 hz.2) H mh Q fun v M' H' g r => q v M' H' g ⟨_, ⟨z.toNat, by omega, rfl⟩, r⟩
    · rintro M2 ws ⟨xs, ys, ⟨n, hn, rfl⟩, hp, hpd⟩
      obtain ⟨cs, h2, h3, h4⟩ := sgns_of hp
      rw [List.length_range] at h3
      exact ⟨ys, ⟨cs, h2, by omega, by omega, h4⟩, hpd⟩
    · rintro ys ⟨cs, rfl, h2, h3, h4⟩
      rw [sgn_sum]
      have e0 : (Str.ofString "").length = 0 := rfl
      rw [e0]
      omega
    · rintro M2 v2 ⟨ys, ⟨cs, rfl, h2, h3, h4⟩, r⟩
      rw [join_sgn] at r
      exact ⟨_, isNm_of h2 h3 h4, r⟩
    -- name = pick(..) if draw(9) == 0 else name
    cases r2
    have G2 := g1.trans g2
    have rw2 : LiR Tx words M2 vw := Mon.mono g2.mm rw'
    refine z_asg (S := S) (k := k + 1) (c := 1 + 1) (P := Ex Tx fun x => isNm x = true) g2.mh a2 (gs_if (c1 := 1) (c2 := 1) (gts_zero (K := K) rfl (gv_c rfl) (by decide) (by decide)) (fun _ => (gs_call1 (S := S) (R1 := SqR K Tx) (pre := fun xs => 0 < xs.length ∧ xs.length ≤ 1000000) (cs := fun _ => 1) (R := fun xs => Ex Tx fun x => x ∈ xs) (x := words) rfl (gv_var rfl (rw2.sq (K := K))) ⟨by decide, by decide⟩).is fun M v ⟨x, hx, r⟩ => ⟨x, words_nm x hx, r⟩) fun _ => (gv_var (P := Ex Tx fun x => isNm x = true) rfl ⟨nm, hnm, rfl⟩).s.cost (Nat.zero_le _)) fun v3 M3 H3 g3 a3 ⟨nm3, hnm3, r3⟩ => ?_
    cases r3
    have G3 := G2.trans g3
    have r1' : SqR K Tx tk M3 v := Mon.mono G3.mm r1
    have fin : ∀ (x : Str) (M' H' : Hp), isNm x = true → x ∉ tk → Gr M3 H3 M' H' → Q (.str x) H' := fun x M' H' hx ht g => q _ M' H' (G3.trans (lift G3.mh a3 g)) ((a3.same g.hh).le (by omega)) ⟨x, ⟨hx, ht⟩, rfl⟩
    have hmul : (676 : Int) * (if decide (nm3 ∈ tk) = true then 1 else 0) = ((if nm3 ∈ tk then 676 else 0 : Nat) : Int) := by by_cases h : nm3 ∈ tk <;> simp [h]
    refine q_forG (M := M3) (xs := List.range (if nm3 ∈ tk then 676 else 0)) (R := fun i : Nat => It' (i : Nat)) (G3.mh.trans cut_same) (gi_rng1 (n := if nm3 ∈ tk then 676 else 0) (gv_is (gv_mul (gv_c rfl) (gv_int1b (gv_inA (K := K) (neg := false) (gv_var rfl rfl) (gv_var rfl (.inl r1')))) (.inl ⟨by decide, by decide⟩)) fun M v h => by
        rw [show v = _ from h]; rw [Bool.false_xor]; show V.int _ = V.int _; rw [hmul]) (by split <;> decide)) tg_1
      (fun M1' i σ' M' H' => ∃ y3 y6, Gr M3 H3 M' H' ∧ Same M1' M' ∧ Same M3 M' ∧ σ' = [some (.ref S.a), some v, some (.str nm3), y3, some (.str g_LETTERS), some vw, y6] ∧ ∀ j, j < i → spare j ∈ tk)
      (fun M4 H4 g4 => ⟨_, _, g4, Same.refl _, g4.mm, rfl, fun j h => nomatch h⟩) (fun M4 i σ' M' H' ⟨_, _, g, s1, _⟩ => ⟨s1, g.mh⟩) ?_ ?_
    · rintro M4 i x σ' M' H' M5 H5 σ2 sM hx ⟨y3, y6, g, s1, s2, rfl, hall⟩ g5 ⟨v5, r5, rfl⟩
      cases r5
      have hix : i < (if nm3 ∈ tk then 676 else 0) := by have := (List.getElem?_eq_some_iff.mp hx).1; rwa [List.length_range] at this
      obtain rfl : i = x := by rw [List.getElem?_range hix] at hx; exact Option.some.inj hx
      have hi : i < 676 := by split at hix; exact hix; omega
      have G5 := g.trans g5
      refine q_asg (P := Tx (spare i)) G5.mh (gv_is (gv_addSt (K := K) (gv_addSt (K := K) (gv_c rfl) (gv_ixS (K := K) (i := (i : Int) / 26) (c := 97 + i / 26) (x := g_LETTERS) (gv_var rfl rfl) (gv_fdiv (gv_var rfl rfl) (gv_c rfl) ⟨by decide, by decide⟩) (by decide) ?_) (by show 1 + 1 ≤ sizeLine; decide))
        (gv_ixS (K := K) (i := (i : Int) % 26) (c := 97 + i % 26) (x := g_LETTERS) (gv_var rfl rfl) (gv_mod (gv_var rfl rfl) (gv_c rfl) (by decide)) (by decide) ?_) (by show 2 + 1 ≤ sizeLine; decide)) fun M v h => by rw [show v = _ from h]; exact congrArg V.str (spare_eq i)) fun v6 M6 H6 g6 r6 => ?_
      · have := atI_letter (z := (i : Int) / 26) (by omega) (by omega)
        rw [this]; congr 2
      · have := atI_letter (z := (i : Int) % 26) (by omega) (by omega)
        rw [this]; congr 2
      cases r6
      have G6 := G5.trans g6
      refine s_if0 G6.mh (gt_test (gv_inA (K := K) (neg := true) (gv_var rfl rfl) (gv_var rfl (.inl (Mon.mono (s2.trans (g5.mm.trans g6.mm)) r1'))))) (fun hb H7 hh7 => ?_) (fun hb H7 hh7 => ?_)
      · exact ⟨_, rfl, fin _ _ _ (spare_nm hi) (by simpa using hb) (G6.trans (.idle G6.mh hh7))⟩
      · refine ⟨M6, _, _, G6.trans (.idle G6.mh hh7), s1.trans (g5.mm.trans g6.mm), s2.trans (g5.mm.trans g6.mm), rfl, fun j hj => ?_⟩
        by_cases e : j = i
        · subst e; simpa using hb
        · exact hall j (by omega)
    · rintro M4 σ' M' H' sM ⟨y3, y6, g, s1, s2, rfl, hall⟩
      rw [List.length_range] at hall
      refine ⟨_, rfl, fin nm3 M' H' hnm3 (fun ht => ?_) g⟩
      rw [if_pos ht] at hall
      have := spare_free hall
      omega
end
end My

set_option Elab.async false
set_option linter.all false
set_option maxRecDepth 100000
set_option maxHeartbeats 4000000
namespace My
open PySem PySem.Spec PyProof.Rows L2 L3
open L3.Strm
/-- unlike names -/
structure NmL (ns : List Str) : Prop where
  nd : ns.Nodup
  nm : ∀ n ∈ ns, isNm n = true
  n : ns.length ≤ 500
/-- literals of names, no name twice -/
structure Lits (ns ys : List Str) : Prop where
  nd : (ys.map nameOf).Nodup
  of : ∀ y ∈ ys, ∃ n ∈ ns, y = n ∨ y = ("-" : Str) ++ n
section
variable {P : Program} {w : World} {K : PySem.W.Frag} {mg : Str → Option Value} {base : Heap}
abbrev s__law_names : Stmt := topS 28
theorem sc__law_names : FnScope ["_law_stream", "_law_many", "_law_found", "_law_k"] ["_law_stream", "_law_many"] (defScope s__law_names) := ⟨rfl, rfl, rfl, by decide +kernel, rfl, by decide +kernel, by decide +kernel⟩
def sp__law_names (K : PySem.W.Frag) : Sp := slS1 It' (fun n => 0 ≤ n ∧ n ≤ 500) (fun n => 12 * n.toNat) fun n M ws => ∃ ys : List Str, NmL ys ∧ ys.length = n.toNat ∧ Pd Tx M ys ws
theorem ok__law_names {f : Addr} {fd : FuncData} (F : Fun K "_law_names" "_law_names" s__law_names f fd) (T : Gc mg) (c__law_fresh : Cal P w K mg base 3 "_law_fresh" ["_law_stream", "_law_taken"] (sp__law_fresh K)) : FnOk P w K mg base CX0 4 f fd ["_law_stream", "_law_many"] (sp__law_names K) := by
  refine F.ok sc__law_names (fun vs H Q E h => ?_) (fun cdv A outer s H vs Q E hr h => ?_)
  · obtain ⟨S, x, M, v, k, rfl, _⟩ := h
    rfl
  · obtain ⟨S, n, M, v, k, rfl, mh, at_, r1, ⟨h1, h2⟩, q⟩ := h
    obtain ⟨n, rfl⟩ : ∃ m : Nat, n = (m : Int) := ⟨n.toNat, by omega⟩
    cases r1
    have at_ : S.At (k + 12 * n) H := at_
    refine ⟨_, (pss_cons (ps_set (i := 2) sc__law_names.nd rfl (by first | exact .inl rfl | exact .inr rfl) (pe_lst pa_nil))
      (pss_cons (ps_for PassesOwn.never (by rfl) (pi_range1 (by rfl) T.range (pa_cons (pv 1) pa_nil)) (pg_name (i := 3) sc__law_names.nd rfl (by first | exact .inl rfl | exact .inr rfl)) (pss_one (ps_expr (pe_bm PySem.F.plainAttrs_list PySem.F.slot_list_append PySem.F.type_list_append mt_append (pv 2) (pa_cons (pe_f c__law_fresh (hr.mono (by decide)) (pa_cons (pv 0) (pa_cons (pv 2) pa_nil))) pa_nil)))))
      (pss_one (ps_ret (pv 2))))), ?_⟩
    refine z_asgL (S := S) (k := k + 12 * n) (c := 0) mh at_ gl_nil.s fun p vs M1 H1 g1 a1 hp0 hpm hpw ev => ?_
    subst ev
    refine z_for (S := S) (k := k + 12 * n) (c := 0) (G := (· = List.range n)) (R := fun i : Nat => It' (i : Nat)) g1.mh a1 (gi_rng1 (n := n) (gv_var rfl rfl) (by omega)).s tg_1
      (fun _ M1' i σ' M' H' => ∃ ys y3, Gr M (S.cut H) M' (S.cut H') ∧ S.At (k + 12 * (n - i)) H' ∧ Same M1' M' ∧ OwS S H M' H' p (ys.map V.str) ∧ NmL ys ∧ ys.length = i ∧ σ' = [some (.ref S.a), some (.int (n : Nat)), some (.ref p), y3])
      (fun xs M2 H2 _ g2 a2 => ⟨[], _, g1.trans g2, a2, Same.refl _, OwS.step ⟨⟨hp0, hpm, hpw⟩⟩ g2, ⟨List.nodup_nil, (fun _ h => nomatch h), by simp⟩, rfl, rfl⟩)
      (fun xs M2 i σ' M' H' ⟨ys, y3, g, a, s1, _⟩ => ⟨s1, g.mh, a.le (Nat.zero_le _)⟩) ?_ ?_
    · rintro xs M2 i x σ' M' H' M3 H3 σ2 rfl sM hx ⟨ys, y3, g, a, s1, ow, hn, hl, rfl⟩ g3 ⟨v3, r3, rfl⟩
      have hi : i < n := by have := (List.getElem?_eq_some_iff.mp hx).1; rwa [List.length_range] at this
      have g3' := lift g.mh a g3
      have a3 := a.same g3.hh
      have ow3 := ow.step g3'
      have G3 := g.trans g3'
      have e1 : k + 12 * (n - i) = (k + 12 * (n - (i + 1))) + 12 := by omega
      rw [e1] at a3
      have hn5 := hn.n
      refine z_appL (S := S) (c := 12) (P := Ex Tx fun x => isNm x = true ∧ x ∉ ys) G3.mh a3 rfl ow3.o.m ow3.o.h (szL (by rw [List.length_map]; omega)) (gs_call1 (S := S) (R1 := SqR K Tx) (pre := fun xs => xs.length ≤ 600) (cs := fun _ => 12) (R := fun xs => Ex Tx fun x => isNm x = true ∧ x ∉ xs) (x := ys) rfl (gv_var rfl (.inl ⟨p, _, rfl, .inl (.inl upd_same), pd_of_tx ys⟩)) (by omega)) fun v4 M4 H4 g4 a4 ⟨x4, ⟨h4, h5⟩, r4⟩ => ?_
      cases r4
      have ow4 := ow3.step g4
      refine ⟨M4, ys ++ [x4], _, ow4.mut (G3.trans g4), a4.upd ow4.on, s1.trans (g3.mm.trans g4.mm), ?_, ⟨?_, ?_, ?_⟩, by rw [List.length_append, hl]; rfl, rfl⟩
      · rw [List.map_append]; exact ow4.put
      · rw [List.nodup_append]
        exact ⟨hn.nd, by simp, fun a ha b hb => by rw [List.mem_singleton] at hb; subst hb; exact fun e => h5 (e ▸ ha)⟩
      · intro z hz
        rcases List.mem_append.mp hz with hz | hz
        · exact hn.nm z hz
        · rw [List.mem_singleton] at hz; subst hz; exact h4
      · rw [List.length_append, List.length_singleton]; omega
    · rintro xs M2 σ' M' H' rfl sM ⟨ys, y3, g, a, s1, ow, hn, hl, rfl⟩
      rw [List.length_range] at hl
      exact ⟨.ref p, rfl, q p _ M' H' g (a.le (by omega)) ow.o.h0 ow.o.m ow.o.h ⟨ys, hn, hl, pd_of_tx ys⟩⟩
end
end My

set_option Elab.async false
set_option linter.all false
set_option maxRecDepth 100000
set_option maxHeartbeats 4000000
namespace My
open PySem PySem.Spec PyProof.Rows L2 L3
open L3.Strm
theorem Lits.perm {ns ys zs : List Str} (h : Lits ns ys) (p : zs.Perm ys) : Lits ns zs := ⟨(p.map nameOf).nodup_iff.mpr h.nd, fun y hy => h.of y (p.mem_iff.mp hy)⟩
theorem Lits.sub {ns ys zs : List Str} (h : Lits ns ys) (p : zs.Sublist ys) : Lits ns zs := ⟨h.nd.sublist (p.map nameOf), fun y hy => h.of y (p.subset hy)⟩
theorem Lits.nil {ns : List Str} : Lits ns [] := ⟨List.nodup_nil, fun _ h => nomatch h⟩
/-! texts by their signs -/
theorem head1 (c : Nat) (r : List Nat) : cutS (SX.S (c :: r)) none (some 1) = SX.S [c] := by
  show SX.S _ = SX.S _
  have e : HT.sIx (SX.S (c :: r)).length (SX.S (c :: r)).length (some ((1 : Nat) : Int)) = 1 := by rw [HT.sIx_nat, SX.S_len, List.length_cons]; omega
  have e' : HT.sIx (SX.S (c :: r)).length (SX.S (c :: r)).length (some 1) = 1 := e
  rw [e']
  rfl
theorem tail1 (c : Nat) (r : List Nat) : cutS (SX.S (c :: r)) (some 1) none = SX.S r := by
  have e : HT.sIx (SX.S (c :: r)).length 0 (some ((1 : Nat) : Int)) = 1 := by rw [HT.sIx_nat, SX.S_len, List.length_cons]; omega
  have e' : HT.sIx (SX.S (c :: r)).length 0 (some 1) = 1 := e
  have e2 : HT.sIx (SX.S (c :: r)).length (SX.S (c :: r)).length none = r.length + 1 := by rw [HT.sIx_none, SX.S_len, List.length_cons]
  show SX.S _ = SX.S _
  rw [e', e2]
  congr 1
  show (r.take (r.length + 1 - 1)) = r
  simp
theorem minus : ("-" : Str) = SX.S [45] := rfl
theorem neg_S (l : List Nat) : ("-" : Str) ++ SX.S l = SX.S (45 :: l) := SX.S_cat [45] l
theorem nm_S {n : Str} (h : isNm n = true) : ∃ c r, n = SX.S (c :: r) ∧ c ≠ 45 := by
  simp only [isNm, Bool.and_eq_true, decide_eq_true_eq, List.all_eq_true] at h
  obtain ⟨⟨h1, h2⟩, h3⟩ := h
  cases hl : n.cps.toList with
  | nil =>
    have : n.length = 0 := by rw [show n.length = n.cps.toList.length from rfl, hl]; rfl
    exact absurd h1 (by omega)
  | cons c r =>
    refine ⟨c, r, by rw [← hl], fun e => ?_⟩
    have := h3 c (by rw [hl]; exact List.mem_cons_self ..)
    subst e
    revert this
    decide +kernel
theorem nameOf_nm {n : Str} (h : isNm n = true) : nameOf n = n := by
  obtain ⟨c, r, rfl, hc⟩ := nm_S h
  unfold nameOf
  rw [head1, minus, if_neg (fun e => hc (by have := SX.S_inj e; simpa using this))]
theorem nameOf_neg {n : Str} (h : isNm n = true) : nameOf (("-" : Str) ++ n) = n := by
  obtain ⟨c, r, rfl, hc⟩ := nm_S h
  unfold nameOf
  rw [neg_S, head1, minus, if_pos rfl, tail1]
theorem opp_nm {n : Str} (h : isNm n = true) : opp n = ("-" : Str) ++ n := by
  obtain ⟨c, r, rfl, hc⟩ := nm_S h
  unfold opp
  rw [head1, minus, if_neg (fun e => hc (by have := SX.S_inj e; simpa using this))]
theorem opp_neg {n : Str} (h : isNm n = true) : opp (("-" : Str) ++ n) = n := by
  obtain ⟨c, r, rfl, hc⟩ := nm_S h
  unfold opp
  rw [neg_S, head1, minus, if_pos rfl, tail1]
theorem neg_ne {n m : Str} (h : isNm n = true) : n ≠ ("-" : Str) ++ m := fun e => by
  obtain ⟨c, r, rfl, hc⟩ := nm_S h
  rw [← SX.S_tl m, neg_S] at e
  have := SX.S_inj e
  simp at this
  exact hc this.1
theorem neg_inj {n m : Str} (e : ("-" : Str) ++ n = ("-" : Str) ++ m) : n = m := by
  rw [← SX.S_tl m, ← SX.S_tl n, neg_S, neg_S] at e
  have := SX.S_inj e
  simp at this
  exact congrArg (fun x : Array Nat => (⟨x⟩ : Str)) this
theorem nm_ne {n : Str} (h : isNm n = true) : n ≠ "" := fun e => by
  obtain ⟨c, r, rfl, hc⟩ := nm_S h
  have : SX.S (c :: r) = SX.S [] := e
  have := SX.S_inj this
  cases this
theorem neg_ne0 {n : Str} : ("-" : Str) ++ n ≠ "" := fun e => by
  rw [← SX.S_tl n, neg_S] at e
  have : SX.S (45 :: n.cps.toList) = SX.S [] := e
  have := SX.S_inj this
  cases this
def nonE (y : Str) : Bool := decide (y ≠ ("" : Str))
/-- a selection of literals -/
theorem lits_of {ns : List Str} (hn : NmL ns) : ∀ {ms ys : List Str}, ms.Nodup → (∀ m ∈ ms, m ∈ ns) → Paired (fun n y => y = n ∨ y = ("-" : Str) ++ n ∨ y = "") ms ys → Lits ns (ys.filter nonE) ∧ ∀ z ∈ (ys.filter nonE).map nameOf, z ∈ ms := by
  intro ms ys nd hm h
  induction h with
  | nil => exact ⟨.nil, fun z h => by cases h⟩
  | @cons m y ms ys q _ ih =>
    obtain ⟨hx, nd⟩ := List.nodup_cons.mp nd
    obtain ⟨ih1, ih2⟩ := ih nd fun z hz => hm z (List.mem_cons_of_mem _ hz)
    have hmn := hm m (List.mem_cons_self ..)
    have hnm := hn.nm m hmn
    have key : ∀ y : Str, nameOf y = m → (y = m ∨ y = ("-" : Str) ++ m) → y ≠ "" → Lits ns ((y :: ys).filter nonE) ∧ ∀ z ∈ ((y :: ys).filter nonE).map nameOf, z ∈ m :: ms := by
      intro y e1 e2 e3
      rw [List.filter_cons, if_pos (show nonE y = true from decide_eq_true e3), List.map_cons, e1]
      refine ⟨⟨?_, fun z hz => ?_⟩, fun z hz => ?_⟩
      · rw [List.map_cons, e1]
        exact List.nodup_cons.mpr ⟨fun z => hx (ih2 m z), ih1.nd⟩
      · rcases List.mem_cons.mp hz with rfl | hz
        · exact ⟨m, hmn, e2⟩
        · exact ih1.of z hz
      · rcases List.mem_cons.mp hz with rfl | hz
        · exact List.mem_cons_self ..
        · exact List.mem_cons_of_mem _ (ih2 z hz)
    rcases q with rfl | rfl | rfl
    · exact key _ (nameOf_nm hnm) (.inl rfl) (nm_ne hnm)
    · exact key _ (nameOf_neg hnm) (.inr rfl) neg_ne0
    · rw [List.filter_cons, if_neg (by simp [nonE])]
      exact ⟨ih1, fun z hz => List.mem_cons_of_mem _ (ih2 z hz)⟩
theorem all_nonE {α : Type} {F : α → Str → Prop} {xs : List α} {ys : List Str} (h : Paired (fun n y => F n y ∧ nonE y = true) xs ys) : ∀ y ∈ ys, nonE y = true := by
  induction h with
  | nil => intro y hy; cases hy
  | cons q _ ih =>
    intro y hy
    rcases List.mem_cons.mp hy with rfl | hy
    · exact q.2
    · exact ih y hy
section
variable {P : Program} {w : World} {K : PySem.W.Frag} {mg : Str → Option Value} {base : Heap}
def sp__law_half (K : PySem.W.Frag) : Sp := slS1 (SqR K Tx) NmL (fun ns => 2 * ns.length) fun ns M ws => ∃ ys : List Str, Lits ns ys ∧ ys.length ≤ ns.length ∧ Pd Tx M ys ws
theorem nm_len {n : Str} (h : isNm n = true) : n.length ≤ 8 := isNm_len h
def sp__law_sided (K : PySem.W.Frag) : Sp := slS1 (SqR K Tx) NmL (fun ns => 2 * ns.length) fun ns M ws => ∃ ys : List Str, Lits ns ys ∧ Pd Tx M ys ws
end
end My

set_option Elab.async false
set_option linter.all false
set_option maxRecDepth 100000
set_option maxHeartbeats 4000000
namespace My
open PySem PySem.Spec PyProof.Rows L2 L3
open L3.Strm
section
variable {P : Program} {w : World} {K : PySem.W.Frag} {mg : Str → Option Value} {base : Heap}
def sp__law_neg (K : PySem.W.Frag) : Sp := sp1 Tx (fun x => x.length ≤ 1000) fun x => Tx (opp x)
abbrev s__law_up : Stmt := topS 29
theorem sc__law_up : FnScope ["_law_some", "_law_names_here", "_law_found", "_law_name", "_law_one"] ["_law_some", "_law_names_here"] (defScope s__law_up) := ⟨rfl, rfl, rfl, by decide +kernel, rfl, by decide +kernel, by decide +kernel⟩
def sp__law_up (K : PySem.W.Frag) : Sp := sp2 (CtR K) (SqR K Tx) (fun _ ns => Shorts ns) fun ls ns => TT (asc ls ns)
theorem ok__law_up {f : Addr} {fd : FuncData} (F : Fun K "_law_up" "_law_up" s__law_up f fd) (T : Bi mg) : FnOk P w K mg base CX0 1 f fd ["_law_some", "_law_names_here"] (sp__law_up K) := by
  refine F.ok sc__law_up (fun vs H Q E h => ?_) (fun cdv A outer s H vs Q E hr h => ?_)
  · obtain ⟨x, y, M, v, w, rfl, _⟩ := h
    rfl
  · obtain ⟨ls, ns, M, v, w, rfl, mh, r1, r2, hp, q⟩ := h
    have hu := hr.units
    refine ⟨_, (pss_cons (ps_set (i := 2) sc__law_up.nd rfl (by first | exact .inl rfl | exact .inr rfl) (pe_lst pa_nil))
      (pss_cons (ps_for PassesOwn.never (by rfl) (pi_sq (pv 1)) (pg_name (i := 3) sc__law_up.nd rfl (by first | exact .inl rfl | exact .inr rfl)) (pss_one (ps_expr (pe_bm PySem.F.plainAttrs_list PySem.F.slot_list_extend PySem.F.type_list_extend mt_extend (pv 2) (pa_cons (pe_lc (own := [("_law_one", 4)]) (g := (gName 4)) (tt := (tTest (tOp (rInA K false) (tVar 4) (tVar 0)))) (te := (tVar 4)) (by rfl) sc__law_up.nd (pi_sq (pe_tup (pa_cons (pv 3) (pa_cons (pe_op op_addA pe_str (pv 3)) pa_nil)))) (blkOk_by (by rfl)) (fun _ _ _ _ _ => (pg_name (i := 4) sc__law_up.nd rfl (by first | exact .inl rfl | exact .inr rfl))) (fun _ _ _ _ _ => (pts_one (pt_cmpR (op_inA hu) (pv 4) (pv 0) (by rfl)))) (fun _ _ _ _ _ => (pv 4))) pa_nil)))))
      (pss_one (ps_ret (pe_callTy call_tupA (by rfl) T.tuple boot_tuple (pa_cons (pv 2) pa_nil)))))), ?_⟩
    refine q_asgL mh gl_nil fun p vs M2 H2 g2 h0 m0 hp2 hv => ?_
    subst hv
    refine q_for (R1 := Tx) (xs := ns) g2.mh (gv_var rfl (Mon.mono g2.mm r2))
      (fun M1' i σ' M' H' => ∃ y3 y4, Gr M H M' H' ∧ Same M1' M' ∧ Same M M' ∧ Own H M' H' p ((asc ls (ns.take i)).map V.str) ∧ σ' = [some v, some w, some (.ref p), y3, y4])
      (fun M3 H3 g3 => ⟨none, none, g2.trans g3, Same.refl _, (g2.trans g3).mm, Own.step ⟨h0, m0, hp2⟩ g3, rfl⟩)
      (fun M3 i σ' M' H' ⟨_, _, g, s1, _⟩ => ⟨s1, g.mh⟩) ?_ ?_
    · rintro M3 i n v' σ' M' H' sM hx ⟨y3, y4, g, s1, s2, ow, rfl⟩ rx
      cases rx
      have hn : n.length ≤ 900 := hp.2 n (List.mem_of_getElem? hx)
      have hil : i < ns.length := (List.getElem?_eq_some_iff.mp hx).1
      have et : ns.take (i + 1) = ns.take i ++ [n] := by rw [List.take_add_one, hx]; rfl
      refine s_ext g.mh rfl ow.h (gl_lc (R := Tx) (S := Tx) (gv_is (gv_tup2 (K := K) (gv_var rfl rfl) (gv_addSt (gv_c rfl) (gv_var rfl rfl) (szM (by show 1 + n.length ≤ _; omega)))) fun _ _ h => .inr h) (by show 2 ≤ sizeLine; decide) (fun l => decide (l ∈ ls)) id
        (fun l _ M1 vl sm hl => gt_is (gt_test (gv_inA (K := K) (gv_var rfl hl) (gv_var rfl (Mon.mono (s2.trans sm) r1)))) (by simp)) (fun l _ _ M1 vl sm hl => gv_var rfl hl)) (fun M4 ws h => ?_) fun ws M4 H4 g4 h => ?_
      · have l1 := h.length
        have l2 := asc_len ls (ns.take i)
        have l3 := List.length_filter_le (fun l => decide (l ∈ ls)) [n, ("-" : Str) ++ n]
        have l4 := hp.1
        rw [List.length_map] at l1 ⊢
        rw [List.length_take] at l2
        simp only [List.length_cons, List.length_nil] at l3
        exact szM (by omega)
      · have e4 := pd_tx h
        subst e4
        have ow4 := ow.step g4
        refine ⟨M4, _, _, (g.trans g4).mut ow4.h0 ow4.m, s1.trans g4.mm, s2.trans g4.mm, ?_, rfl⟩
        have e5 : asc ls (ns.take (i + 1)) = asc ls (ns.take i) ++ ([n, ("-" : Str) ++ n].filter fun l => decide (l ∈ ls)).map id := by
          rw [et, List.map_id]; unfold asc; rw [List.flatMap_append]; simp
        rw [e5, List.map_append]
        exact ow4.put
    · rintro M3 σ' M' H' sM ⟨y3, y4, g, s1, s2, ow, rfl⟩
      rw [List.take_length] at ow
      exact s_retTup g.mh rfl ow.h fun l nl => q _ _ _ (g.trans (.new g.mh nl)) (TT.new _)
def sp__law_clause (K : PySem.W.Frag) : Sp := slS2 (LstR K Tx) It' (fun ns m => NmL ns ∧ 0 < m ∧ m < 1000) (fun ns _ => 2 + 2 * ns.length) fun ns _ M ws => ∃ ys : List Str, Lits ns ys ∧ Pd Tx M ys ws
def onceUp (cs : List (List Str)) (ns : List Str) : List (List Str) := once (cs.map fun c => asc c ns)
def sp__law_once (K : PySem.W.Frag) : Sp := sl2 (SqR K (CtR K)) (SqR K Tx) (fun cs ns => Shorts ns ∧ cs.length ≤ 1000000) fun cs ns M ws => Pd TT M (onceUp cs ns) ws
end
end My

set_option Elab.async false
set_option linter.all false
set_option maxRecDepth 100000
set_option maxHeartbeats 4000000
namespace My
open PySem PySem.Spec PyProof.Rows L2 L3
open L3.Strm
/-- the law's own code: a dict -/
def LawR (c : CodeD) : Pr := Dc3F "signs" "helpers" "clauses" (LiR Tx c.signs) (LiR Tx c.helpers) (LiR TT c.clauses)
instance : Mon LawR := ⟨fun e ⟨p, o, u1, u2, u3, h1, h2, h3, h4, h5⟩ => ⟨p, o, u1, u2, u3, h1, e _ _ h2, Mon.mono e h3, Mon.mono e h4, Mon.mono e h5⟩⟩
theorem once_len7 {α : Type} [DecidableEq α] (hs : List α) : (once hs).length ≤ hs.length := by
  have go : ∀ (hs acc : List α), (hs.foldl onceP acc).length ≤ acc.length + hs.length := by
    intro hs
    induction hs with
    | nil => intro acc; simp
    | cons h hs ih =>
      intro acc
      rw [List.foldl_cons, List.length_cons]
      refine Nat.le_trans (ih _) ?_
      unfold onceP
      split
      · omega
      · rw [List.length_append, List.length_singleton]; omega
  have h := go hs []
  rw [List.length_nil, Nat.zero_add] at h
  exact h
structure Good (c : CodeD) : Prop where
  nm : NmL c.names
  n : c.names.length ≤ 60
  cl : ∃ cs, c.clauses = onceUp cs c.names ∧ (∀ x ∈ cs, Lits c.names x) ∧ cs.length ≤ 100
section
variable {K : PySem.W.Frag} {σ : Sl} {M : Hp} {td : TE} {c : CodeD}
theorem gv_cS (h : Gv td σ M (LawR c)) : Gv (tDGet td (tC (.str "signs"))) σ M (LiR Tx c.signs) := gv_dgetF h fun M v ⟨p, o, u1, u2, u3, h1, h2, h3, h4, h5⟩ => ⟨p, o, _, u1, h1, h2, rfl, h3⟩
theorem gv_cH (h : Gv td σ M (LawR c)) : Gv (tDGet td (tC (.str "helpers"))) σ M (LiR Tx c.helpers) := gv_dgetF h fun M v ⟨p, o, u1, u2, u3, h1, h2, h3, h4, h5⟩ => ⟨p, o, _, u2, h1, h2, rfl, h4⟩
theorem gv_cC (h : Gv td σ M (LawR c)) : Gv (tDGet td (tC (.str "clauses"))) σ M (LiR TT c.clauses) := gv_dgetF h fun M v ⟨p, o, u1, u2, u3, h1, h2, h3, h4, h5⟩ => ⟨p, o, _, u3, h1, h2, rfl, h5⟩
end
section
variable {P : Program} {w : World} {K : PySem.W.Frag} {mg : Str → Option Value} {base : Heap}
def codeCost (s h m : Nat) : Nat := 3 + 12 * (s + h) + m * (2 + 2 * (s + h))
def sp__law_code (K : PySem.W.Frag) : Sp := fun vs H Q _ => ∃ (S : Strm) (s h m : Nat) (M : Hp) (k : Nat), vs = [.ref S.a, .int (s : Nat), .int (h : Nat), .int (m : Nat)] ∧ Same M (S.cut H) ∧ S.At (k + codeCost s h m) H ∧ (0 < s ∧ s + h ≤ 60 ∧ m ≤ 100) ∧
  ∀ c v M' H', Gr M (S.cut H) M' (S.cut H') → S.At k H' → Good c ∧ c.names.length ≤ s + h ∧ c.clauses.length ≤ m ∧ c.signs.length ≤ s ∧ 1 ≤ c.signs.length ∧ c.helpers.length ≤ h → LawR c M' v → Q v H'
theorem paired_lits {ns : List Str} {xs : List Nat} {cs : List (List Str)} (h : Paired (fun (_ : Nat) y => Lits ns y) xs cs) : cs.length = xs.length ∧ ∀ c ∈ cs, Lits ns c := by
  induction h with
  | nil => exact ⟨rfl, fun c hc => by cases hc⟩
  | cons q _ ih =>
    refine ⟨by rw [List.length_cons, List.length_cons, ih.1], fun c hc => ?_⟩
    rcases List.mem_cons.mp hc with rfl | hc
    · exact q
    · exact ih.2 c hc
theorem nm_shorts {ns : List Str} (h : NmL ns) : Shorts ns := ⟨Nat.le_trans h.n (by decide), fun n hn => Nat.le_trans (nm_len (h.nm n hn)) (by decide)⟩
end
end My

set_option Elab.async false
set_option linter.all false
set_option maxRecDepth 100000
set_option maxHeartbeats 4000000
namespace My
open PySem PySem.Spec PyProof.Rows L2 L3
theorem mem_asc {l ns : List Str} {x : Str} : x ∈ asc l ns ↔ ∃ n ∈ ns, (x = n ∨ x = ("-" : Str) ++ n) ∧ x ∈ l := by
  unfold asc
  rw [List.mem_flatMap]
  constructor
  · rintro ⟨n, hn, h⟩
    obtain ⟨h1, h2⟩ := List.mem_filter.mp h
    exact ⟨n, hn, by simpa using h1, by simpa using h2⟩
  · rintro ⟨n, hn, h1, h2⟩
    exact ⟨n, hn, List.mem_filter.mpr ⟨by simpa using h1, by simpa using h2⟩⟩
theorem asc_congr {l l' ns : List Str} (h : ∀ n ∈ ns, ∀ x, (x = n ∨ x = ("-" : Str) ++ n) → (x ∈ l ↔ x ∈ l')) : asc l ns = asc l' ns := by
  unfold asc
  induction ns with
  | nil => rfl
  | cons n ns ih =>
    rw [List.flatMap_cons, List.flatMap_cons, ih fun m hm => h m (List.mem_cons_of_mem _ hm)]
    congr 1
    refine List.filter_congr fun x hx => ?_
    have := h n (List.mem_cons_self ..) x (by simpa using hx)
    simp [this]
theorem asc_asc (l ns : List Str) : asc (asc l ns) ns = asc l ns := asc_congr fun n hn x hx => by
  rw [mem_asc]
  exact ⟨fun ⟨_, _, _, h⟩ => h, fun h => ⟨n, hn, hx, h⟩⟩
theorem Lits.name {ns ys : List Str} (hn : NmL ns) (h : Lits ns ys) {y : Str} (hy : y ∈ ys) : nameOf y ∈ ns ∧ (y = nameOf y ∨ y = ("-" : Str) ++ nameOf y) ∧ isNm (nameOf y) = true := by
  obtain ⟨n, hnn, h1 | h1⟩ := h.of y hy
  · subst h1
    have e := nameOf_nm (hn.nm y hnn)
    rw [e]
    exact ⟨hnn, .inl rfl, hn.nm y hnn⟩
  · subst h1
    rw [nameOf_neg (hn.nm n hnn)]
    exact ⟨hnn, .inr rfl, hn.nm n hnn⟩
theorem nodup_inj {α β : Type} {f : α → β} : ∀ {xs : List α}, (xs.map f).Nodup → ∀ x ∈ xs, ∀ y ∈ xs, f x = f y → x = y
  | [], _, _, h, _, _, _ => by cases h
  | a :: xs, nd, x, hx, y, hy, e => by
    rw [List.map_cons] at nd
    obtain ⟨h1, h2⟩ := List.nodup_cons.mp nd
    rcases List.mem_cons.mp hx with ex | hx'
    · rcases List.mem_cons.mp hy with ey | hy'
      · rw [ex, ey]
      · exact absurd (List.mem_map.mpr ⟨y, hy', by rw [← e, ex]⟩) h1
    · rcases List.mem_cons.mp hy with ey | hy'
      · exact absurd (List.mem_map.mpr ⟨x, hx', by rw [e, ey]⟩) h1
      · exact nodup_inj h2 x hx' y hy' e
/-- literals in the order of the names are literals -/
theorem Lits.asc {ns ys : List Str} (hn : NmL ns) (h : Lits ns ys) : Lits ns (asc ys ns) := by
  refine ⟨?_, fun y hy => let ⟨n, h1, h2, _⟩ := mem_asc.mp hy; ⟨n, h1, h2⟩⟩
  have sub : ∀ ms : List Str, (∀ m ∈ ms, m ∈ ns) → ((My.asc ys ms).map nameOf).Sublist ms := by
    intro ms
    induction ms with
    | nil => intro _; exact List.Sublist.refl _
    | cons m ms ih =>
      intro hm
      have ih := ih fun z hz => hm z (List.mem_cons_of_mem _ hz)
      have hnm := hn.nm m (hm m (List.mem_cons_self ..))
      have e1 := nameOf_nm hnm
      have e2 := nameOf_neg hnm
      have hboth : ¬ (m ∈ ys ∧ ("-" : Str) ++ m ∈ ys) := fun ⟨a, b⟩ => neg_ne hnm (nodup_inj h.nd m a _ b (by rw [e1, e2]))
      show (((m :: ms).flatMap fun n => [n, ("-" : Str) ++ n].filter fun l => decide (l ∈ ys)).map nameOf).Sublist (m :: ms)
      rw [List.flatMap_cons, List.map_append]
      have : (([m, ("-" : Str) ++ m].filter fun l => decide (l ∈ ys)).map nameOf).Sublist [m] := by
        by_cases ha : m ∈ ys
        · have hb : ¬ ("-" : Str) ++ m ∈ ys := fun b => hboth ⟨ha, b⟩
          simp [ha, hb, e1]
        · by_cases hb : ("-" : Str) ++ m ∈ ys
          · simp [ha, hb, e2]
          · simp [ha, hb]
      exact List.Sublist.append this ih
  exact hn.nd.sublist (sub ns fun _ h => h)
theorem fw_lits {ns : List Str} : ∀ {ys met : List Str} {i : Nat}, (∀ y ∈ ys, nameOf y ∈ ns) → (ys.map nameOf).Nodup → (∀ y ∈ ys, nameOf y ∉ met) → fwGo ns (ys.map PyData.str) met i = none
  | [], _, _, _, _, _ => rfl
  | y :: ys, met, i, h1, h2, h3 => by
    rw [List.map_cons] at h2
    obtain ⟨h4, h5⟩ := List.nodup_cons.mp h2
    rw [List.map_cons, fwGo, if_neg]
    · refine fw_lits (fun z hz => h1 z (List.mem_cons_of_mem _ hz)) h5 fun z hz hm => ?_
      rcases List.mem_append.mp hm with hm | hm
      · exact h3 z (List.mem_cons_of_mem _ hz) hm
      · rw [List.mem_singleton] at hm
        exact h4 (List.mem_map.mpr ⟨z, hz, hm⟩)
    · rintro (h | h)
      · simp [isLit, h1 y (List.mem_cons_self ..)] at h
      · exact h3 y (List.mem_cons_self ..) h
theorem lits_len {ns ys : List Str} (h : Lits ns ys) (hn : NmL ns) : ys.length ≤ ns.length := by
  have := nodup_le h.nd (ys := ns) fun z hz => by
    obtain ⟨y, hy, rfl⟩ := List.mem_map.mp hz
    exact (h.name hn hy).1
  rwa [List.length_map] at this
theorem lits_short {ns ys : List Str} (h : Lits ns ys) (hn : NmL ns) : ∀ l ∈ ys, l.length ≤ 9 := fun l hl => by
  obtain ⟨h1, h2, h3⟩ := h.name hn hl
  have h4 := nm_len h3
  rcases h2 with e | e
  · rw [e]; omega
  · rw [e]
    show (("-" : Str) ++ nameOf l).length ≤ 9
    rw [← SX.S_tl (nameOf l), neg_S, SX.S_len, List.length_cons]
    have : (nameOf l).cps.toList.length = (nameOf l).length := rfl
    omega
theorem clOk_lits {ns ys : List Str} (hn : NmL ns) (h : Lits ns ys) : ClOk ns ys := ⟨fw_lits (fun y hy => (h.name hn hy).1) h.nd (fun _ _ z => by cases z), Nat.le_trans (lits_len h hn) (Nat.le_trans hn.n (by decide)), fun l hl => Nat.le_trans (lits_short h hn l hl) (by decide)⟩
section
variable {α : Type} [DecidableEq α]
theorem once_inv : ∀ (xs acc : List α), acc.Nodup → (xs.foldl onceP acc).Nodup ∧ ∀ x, x ∈ xs.foldl onceP acc ↔ x ∈ acc ∨ x ∈ xs
  | [], acc, h => ⟨h, fun x => by simp⟩
  | y :: xs, acc, h => by
    rw [List.foldl_cons]
    by_cases hy : y ∈ acc
    · have e : onceP acc y = acc := by unfold onceP; rw [if_pos hy]
      rw [e]
      obtain ⟨h1, h2⟩ := once_inv xs acc h
      refine ⟨h1, fun x => ?_⟩
      rw [h2, List.mem_cons]
      constructor
      · rintro (h | h)
        · exact .inl h
        · exact .inr (.inr h)
      · rintro (h | rfl | h)
        · exact .inl h
        · exact .inl hy
        · exact .inr h
    · have e : onceP acc y = acc ++ [y] := by unfold onceP; rw [if_neg hy]
      rw [e]
      obtain ⟨h1, h2⟩ := once_inv xs (acc ++ [y]) (List.nodup_append.mpr ⟨h, by simp, fun a ha b hb => by rw [List.mem_singleton] at hb; subst hb; exact fun e => hy (e ▸ ha)⟩)
      refine ⟨h1, fun x => ?_⟩
      rw [h2, List.mem_cons, List.mem_append, List.mem_singleton]
      constructor
      · rintro ((h | h) | h)
        · exact .inl h
        · exact .inr (.inl h)
        · exact .inr (.inr h)
      · rintro (h | h | h)
        · exact .inl (.inl h)
        · exact .inl (.inr h)
        · exact .inr h
theorem once_nodup (xs : List α) : (once xs).Nodup := (once_inv xs [] List.nodup_nil).1
theorem mem_once {xs : List α} {x : α} : x ∈ once xs ↔ x ∈ xs := by unfold once; rw [(once_inv xs [] List.nodup_nil).2]; simp
theorem once_self {xs : List α} (h : xs.Nodup) : once xs = xs := by
  have go : ∀ (xs acc : List α), (acc ++ xs).Nodup → xs.foldl onceP acc = acc ++ xs := by
    intro xs
    induction xs with
    | nil => intro acc _; simp
    | cons y xs ih =>
      intro acc h
      have hy : y ∉ acc := fun hy => (List.nodup_append.mp h).2.2 y hy y (List.mem_cons_self ..) rfl
      rw [List.foldl_cons, onceP, if_neg hy, ih (acc ++ [y]) (by simpa using h)]
      simp
  have := go xs [] (by simpa using h)
  simpa [once] using this
end
theorem onceUp_idem (cs : List (List Str)) (ns : List Str) : once ((onceUp cs ns).map fun c => asc c ns) = onceUp cs ns := by
  have e : (onceUp cs ns).map (fun c => asc c ns) = onceUp cs ns := by
    have : ∀ c ∈ onceUp cs ns, asc c ns = c := fun c hc => by
      obtain ⟨d, _, rfl⟩ := List.mem_map.mp (mem_once.mp hc)
      exact asc_asc d ns
    have h2 := List.map_congr_left (l := onceUp cs ns) (f := fun c => asc c ns) (g := id) this
    rw [h2, List.map_id]
  rw [e]
  exact once_self (once_nodup _)
theorem Good.lits {c : CodeD} (g : Good c) : ∀ x ∈ c.clauses, Lits c.names x := fun x hx => by
  obtain ⟨cs, e, h, _⟩ := g.cl
  rw [e] at hx
  obtain ⟨d, hd, rfl⟩ := List.mem_map.mp (mem_once.mp hx)
  exact (h d hd).asc g.nm
theorem Good.made {c : CodeD} (g : Good c) : mkCode c.signs c.helpers c.clauses = c := by
  obtain ⟨cs, e, h, _⟩ := g.cl
  obtain ⟨ss, hs, cl⟩ := c
  have e : cl = onceUp cs (ss ++ hs) := e
  unfold mkCode
  rw [e]
  show CodeD.mk ss hs (once ((onceUp cs (ss ++ hs)).map fun c => asc c (ss ++ hs))) = _
  rw [onceUp_idem]
theorem once_len2 {α : Type} [DecidableEq α] (hs : List α) : (once hs).length ≤ hs.length := by
  have go : ∀ (xs acc : List α), (xs.foldl onceP acc).length ≤ acc.length + xs.length := by
    intro xs
    induction xs with
    | nil => intro acc; exact Nat.le_refl _
    | cons x xs ih =>
      intro acc
      have h1 := ih (onceP acc x)
      have h2 := onceP_len acc x
      rw [List.foldl_cons, List.length_cons]
      omega
  simpa [once] using go hs []
theorem Good.few {c : CodeD} (g : Good c) : c.clauses.length ≤ 100 := by
  obtain ⟨cs, e, h, hl⟩ := g.cl
  rw [e]
  exact Nat.le_trans (once_len2 _) (by rw [List.length_map]; exact hl)
theorem Good.ok {c : CodeD} (g : Good c) : CodeOk c.signs c.helpers c.clauses := by
  have nd := g.nm.nd
  have hn := g.n
  have hl : c.names.length = c.signs.length + c.helpers.length := List.length_append
  obtain ⟨n1, n2, n3⟩ := List.nodup_append.mp (show (c.signs ++ c.helpers).Nodup from nd)
  refine ⟨⟨n1, fun x hx => ⟨g.nm.nm x (List.mem_append_left _ hx), fun h => by cases h⟩, by omega⟩, ⟨n2, fun x hx => ⟨g.nm.nm x (List.mem_append_right _ hx), fun h => n3 x h x hx rfl⟩, by omega⟩, Nat.le_trans g.few (by decide), fun x hx => clOk_lits g.nm (g.lits x hx), ?_⟩
  show c.names.length ≤ 1000
  omega
theorem flat_len : ∀ {xs : List (List Str)} {n : Nat}, (∀ x ∈ xs, x.length ≤ n) → xs.flatten.length ≤ xs.length * n
  | [], _, _ => by simp
  | x :: xs, n, h => by
    rw [List.flatten_cons, List.length_append, List.length_cons, Nat.succ_mul]
    have h1 := h x (List.mem_cons_self ..)
    have h2 := flat_len (xs := xs) fun y hy => h y (List.mem_cons_of_mem _ hy)
    omega
theorem Good.w {c : CodeD} (g : Good c) : CodeW c := by
  have h1 : ∀ x ∈ c.clauses, x.length ≤ 60 := fun x hx => Nat.le_trans (lits_len (g.lits x hx) g.nm) g.n
  have h2 := flat_len h1
  have h3 := g.few
  have h4 : c.clauses.length * 60 ≤ 100 * 60 := Nat.mul_le_mul_right _ h3
  exact ⟨fun x hx => ⟨Nat.le_trans (h1 x hx) (by decide), fun l hl => Nat.le_trans (lits_short (g.lits x hx) g.nm l hl) (by decide)⟩, by omega, by omega, nm_shorts g.nm⟩
end My

set_option Elab.async false
set_option linter.all false
set_option maxRecDepth 100000
set_option maxHeartbeats 4000000
namespace My
open PySem PySem.Spec PyProof.Rows L2 L3
open L3.Strm
structure Gd (mg : Str → Option Value) : Prop extends Gc mg where
  dict : mg "dict" = none
def lpass : List (List Str) → List Str → Option (List Str)
  | [], so => some so
  | c :: r, so => match c.filter (fun l => decide (opp l ∉ so)) with
    | [] => none
    | [l] => lpass r (onceP so l)
    | _ => lpass r so
inductive LChase (cs : List (List Str)) : List Str → Option (List Str) → Prop
  | dead {so} : lpass cs so = none → LChase cs so none
  | done {so so'} : lpass cs so = some so' → ¬ so.length < so'.length → LChase cs so (some so')
  | more {so so' r} : lpass cs so = some so' → so.length < so'.length → LChase cs so' r → LChase cs so r
section
variable {P : Program} {w : World} {K : PySem.W.Frag} {mg : Str → Option Value} {base : Heap}
def sp__law_made (K : PySem.W.Frag) (C : Addr) : Sp := sp1 LawR Good fun c => CodeR C c
end
end My

set_option Elab.async false
set_option linter.all false
set_option maxRecDepth 100000
set_option maxHeartbeats 4000000
namespace My
open PySem PySem.Spec PyProof.Rows L2 L3
open L3.Strm
/-- a pair (text, True) in a tuple -/
def PtR : Rl Str := fun x M v => ∃ a, v = .ref a ∧ M a = some (.tup [.str x, .bl true])
instance : Mon PtR := ⟨fun e ⟨a, h, r⟩ => ⟨a, h, e _ _ r⟩⟩
theorem merge_kvT : ∀ (xs acc : List Str), mergeK (kvT acc) (xs.map fun x => ((Sum.inr x : Key), V.bl true)) = kvT (xs.foldl onceP acc)
  | [], acc => rfl
  | x :: xs, acc => by
    have := merge_kvT xs (onceP acc x)
    rw [List.foldl_cons, ← this, ← putK_kvT]
    rfl
/-- dict of a new list of pairs -/
theorem pd_refs {xs : List Str} {M : Hp} {vs : List V} (h : Pd PtR M xs vs) : ∃ ps : List Addr, vs = ps.map V.ref ∧ Paired (fun p x => M p = some (.tup [V.str x, V.bl true])) ps xs := by
  induction h with
  | nil => exact ⟨[], rfl, .nil⟩
  | cons q _ ih =>
    obtain ⟨a, e, r⟩ := q
    obtain ⟨ps, h1, h2⟩ := ih
    exact ⟨a :: ps, by rw [e, h1]; rfl, .cons r h2⟩
section
variable {K : PySem.W.Frag} {σ : Sl} {M : Hp} {te : TE}
theorem gk_dict {xs : List Str} (h : GvL te σ M fun M vs => Pd PtR M xs vs) : GvK (tCB (fun xs H Q => ∃ (a : Addr) (ps : List Addr) (kvs : List (Key × V)), xs = [V.ref a] ∧ SqL K H a (ps.map V.ref) ∧ Paired (fun p kv => SqT K H p [kV kv.1, kv.2]) ps kvs ∧
    ∀ p, H p = none → Q (.ref p) (upd H p (.dK (mergeK [] kvs)))) (tCons te tNil)) σ M (once xs) := fun H mh Q q => h H mh _ fun p vs M' H' g h0 m0 hw r => by
  obtain ⟨ps, e, hp⟩ := pd_refs r
  refine ⟨p, ps, xs.map fun x => ((Sum.inr x : Key), V.bl true), rfl, .inl (.inl (by rw [← e]; exact hw)), ?_, fun D hD => ?_⟩
  · clear q r hw e h
    induction hp with
    | nil => exact .nil
    | cons q _ ih => exact .cons (.inl (.inl (g.mh _ _ q))) ih
  · have e1 := merge_kvT xs []
    have e2 : kvT [] = [] := rfl
    rw [e2] at e1
    rw [e1]
    exact q D M' _ (g.trans (.own g.mh hD)) (g.hh.free hD) (g.mh.free hD) upd_same
theorem gv_neg {i : Int} (h : Gv te σ M (It' i)) : Gv (tUn (rU fun i => .int (-i)) te) σ M (It' (-i)) := fun H mh Q q => h H mh _ fun v M1 H1 g1 p1 => ⟨i, p1, q _ M1 H1 g1 rfl⟩
theorem gv_pt {x : Str} (h : Gv te σ M (Tx x)) : Gv (tTup (tCons te (tCons (tC (.bl true)) tNil))) σ M (PtR x) := fun H mh Q q => h H mh _ fun v M1 H1 g1 p1 => ⟨by show 2 ≤ sizeLine; decide, fun p np => q _ _ _ (g1.trans (.new g1.mh np)) ⟨p, rfl, by rw [upd_same, show v = _ from p1]⟩⟩
theorem gv_lenK {ks : List Str} {p : Addr} {i : Nat} (hi : σ[i]? = some (some (.ref p))) (hp : M p = some (.dK (kvT ks))) : Gv (tCB (rLenA K) (tCons (tVar i) tNil)) σ M (It' (ks.length : Nat)) := fun H mh Q q => ⟨_, hi, .inr (.inr ⟨p, _, rfl, mh _ _ hp, by rw [kvT_len]; exact q _ M H (.refl mh) rfl⟩)⟩
end
theorem boot_dict : bootBuiltins "dict" = some (.type "dict") := by decide +kernel
def leftOf (so c : List Str) : List Str := c.filter fun l => decide (opp l ∉ so)
section
variable {P : Program} {w : World} {K : PySem.W.Frag} {mg : Str → Option Value} {base : Heap}
def sp__law_chase (K : PySem.W.Frag) : Sp := sp2 (SqR K (SqR K Tx)) (SqR K Tx) ChOk fun cs hs M v => ∃ r, LChase cs (once hs) r ∧ OpR' (LiR Tx) r M v
end
end My

set_option Elab.async false
set_option linter.all false
set_option maxRecDepth 100000
set_option maxHeartbeats 4000000
namespace My
open PySem PySem.Spec PyProof.Rows L2 L3
/-! following as a least closed set -/
inductive Der (cs : List (List Str)) (hs : List Str) : Str → Prop
  | base {x} : x ∈ hs → Der cs hs x
  | step {c l} : c ∈ cs → l ∈ c → (∀ m ∈ c, m ≠ l → Der cs hs (opp m)) → Der cs hs l
def Dead (cs : List (List Str)) (hs : List Str) : Prop := ∃ c ∈ cs, ∀ m ∈ c, Der cs hs (opp m)
/-- a literal of names -/
def LitN (ns : List Str) (x : Str) : Prop := ∃ n ∈ ns, x = n ∨ x = ("-" : Str) ++ n
theorem opp_opp {ns : List Str} (hn : NmL ns) {x : Str} (h : LitN ns x) : opp (opp x) = x ∧ opp x ≠ x := by
  obtain ⟨n, hnn, h | h⟩ := h
  · subst h
    have hm := hn.nm x hnn
    rw [opp_nm hm, opp_neg hm]
    exact ⟨rfl, fun e => neg_ne hm e.symm⟩
  · subst h
    have hm := hn.nm n hnn
    rw [opp_neg hm, opp_nm hm]
    exact ⟨rfl, fun e => neg_ne hm e⟩
structure Ctx (ns : List Str) (cs : List (List Str)) (hs : List Str) : Prop where
  nm : NmL ns
  c : ∀ c ∈ cs, Lits ns c
  h : Lits ns hs
theorem lits_nodup {ns ys : List Str} (h : Lits ns ys) : ys.Nodup := by
  have := h.nd
  rw [List.Nodup, List.pairwise_map] at this
  exact List.Pairwise.imp (fun hne e => hne (by rw [e])) this
/-- what is so -/
structure So (ns : List Str) (cs : List (List Str)) (hs so : List Str) : Prop where
  sub : ∀ x ∈ hs, x ∈ so
  snd : ∀ x ∈ so, Der cs hs x
  lit : ∀ x ∈ so, LitN ns x
  con : ∀ x ∈ so, opp x ∉ so
  nd : so.Nodup
variable {ns : List Str} {cs : List (List Str)} {hs so c : List Str} {l : Str}
theorem So.init (X : Ctx ns cs hs) : So ns cs hs hs := by
  refine ⟨fun _ h => h, fun _ h => .base h, fun x hx => X.h.of x hx, fun x hx ho => ?_, lits_nodup X.h⟩
  obtain ⟨h1, h2, h3⟩ := X.h.name X.nm hx
  obtain ⟨h4, h5, h6⟩ := X.h.name X.nm ho
  have hne := (opp_opp X.nm (X.h.of x hx)).2
  have e : nameOf (opp x) = nameOf x := by
    rcases h2 with e | e
    · rw [e, opp_nm h3, nameOf_neg h3, nameOf_nm h3]
    · rw [e, opp_neg h3, nameOf_nm h3, nameOf_neg h3]
  exact hne (nodup_inj X.h.nd _ ho _ hx e)
theorem mem_left {so c : List Str} {l : Str} : l ∈ leftOf so c ↔ l ∈ c ∧ opp l ∉ so := by unfold leftOf; rw [List.mem_filter]; simp
theorem left_one (X : Ctx ns cs hs) (S : ∀ x ∈ so, Der cs hs x) (hc : c ∈ cs) (h : leftOf so c = [l]) : Der cs hs l := by
  have hl : l ∈ leftOf so c := by rw [h]; simp
  refine .step hc (mem_left.mp hl).1 fun m hm hne => ?_
  by_cases ho : opp m ∈ so
  · exact S _ ho
  · have : m ∈ leftOf so c := mem_left.mpr ⟨hm, ho⟩
    rw [h, List.mem_singleton] at this
    exact absurd this hne
theorem left_none (S : ∀ x ∈ so, Der cs hs x) (hc : c ∈ cs) (h : leftOf so c = []) : Dead cs hs := ⟨c, hc, fun m hm => by
  by_cases ho : opp m ∈ so
  · exact S _ ho
  · have : m ∈ leftOf so c := mem_left.mpr ⟨hm, ho⟩
    rw [h] at this
    cases this⟩
theorem So.put (X : Ctx ns cs hs) (S : So ns cs hs so) (hc : c ∈ cs) (h : leftOf so c = [l]) (hl : l ∉ so) : So ns cs hs (so ++ [l]) := by
  have hm : l ∈ leftOf so c := by rw [h]; simp
  obtain ⟨h1, h2⟩ := mem_left.mp hm
  have hlit : LitN ns l := (X.c c hc).of l h1
  have hoo := opp_opp X.nm hlit
  refine ⟨fun x hx => List.mem_append_left _ (S.sub x hx), fun x hx => ?_, fun x hx => ?_, fun x hx ho => ?_, ?_⟩
  · rcases List.mem_append.mp hx with hx | hx
    · exact S.snd x hx
    · rw [List.mem_singleton] at hx; subst hx; exact left_one X S.snd hc h
  · rcases List.mem_append.mp hx with hx | hx
    · exact S.lit x hx
    · rw [List.mem_singleton] at hx; subst hx; exact hlit
  · rcases List.mem_append.mp hx with hx | hx
    · rcases List.mem_append.mp ho with ho | ho
      · exact S.con x hx ho
      · rw [List.mem_singleton] at ho
        have := (opp_opp X.nm (S.lit x hx)).1
        rw [ho] at this
        exact h2 (by rw [this]; exact hx)
    · rw [List.mem_singleton] at hx
      subst hx
      rcases List.mem_append.mp ho with ho | ho
      · exact h2 ho
      · rw [List.mem_singleton] at ho; exact hoo.2 ho
  · exact List.nodup_append.mpr ⟨S.nd, by simp, fun a ha b hb => by rw [List.mem_singleton] at hb; subst hb; exact fun e => hl (e ▸ ha)⟩
/-- closed -/
def Closed (cs : List (List Str)) (so : List Str) : Prop := ∀ c ∈ cs, leftOf so c ≠ [] ∧ ∀ l, leftOf so c = [l] → l ∈ so
theorem nodup_one {l : Str} : ∀ {xs : List Str}, xs.Nodup → (∀ x ∈ xs, x = l) → xs = [] ∨ xs = [l]
  | [], _, _ => .inl rfl
  | [x], _, h => .inr (by rw [h x (by simp)])
  | x :: y :: r, nd, h => by
    have h1 := h x (by simp)
    have h2 := h y (by simp)
    rw [h1, h2] at nd
    simp at nd
theorem der_in (X : Ctx ns cs hs) (hsub : ∀ x ∈ hs, x ∈ so) (hcl : Closed cs so) {x : Str} (h : Der cs hs x) : x ∈ so := by
  induction h with
  | base h => exact hsub _ h
  | @step c l hc hl _ ih =>
    obtain ⟨h1, h2⟩ := hcl c hc
    have : ∀ m ∈ leftOf so c, m = l := fun m hm => by
      obtain ⟨h3, h4⟩ := mem_left.mp hm
      by_cases e : m = l
      · exact e
      · exact absurd (ih m h3 e) h4
    have nd : (leftOf so c).Nodup := (lits_nodup (X.c c hc)).sublist List.filter_sublist
    rcases nodup_one nd this with e | e
    · exact absurd e h1
    · exact h2 l e
theorem not_dead (X : Ctx ns cs hs) (hsub : ∀ x ∈ hs, x ∈ so) (hcl : Closed cs so) : ¬ Dead cs hs := fun ⟨c, hc, h⟩ => by
  refine (hcl c hc).1 ?_
  have : ∀ m, m ∉ leftOf so c := fun m hm => by
    obtain ⟨h3, h4⟩ := mem_left.mp hm
    exact h4 (der_in X hsub hcl (h m h3))
  exact List.eq_nil_iff_forall_not_mem.mpr this
/-! the law's following -/
theorem lpass_ok (X : Ctx ns cs hs) : ∀ (rest : List (List Str)) (so : List Str), (∀ c ∈ rest, c ∈ cs) → So ns cs hs so → match lpass rest so with
    | none => Dead cs hs
    | some so' => So ns cs hs so' ∧ so.length ≤ so'.length ∧ (¬ so.length < so'.length → so' = so ∧ ∀ c ∈ rest, leftOf so c ≠ [] ∧ ∀ l, leftOf so c = [l] → l ∈ so)
  | [], so, _, S => ⟨S, Nat.le_refl _, fun _ => ⟨rfl, fun c hc => by cases hc⟩⟩
  | c :: rest, so, hr, S => by
    have hc := hr c (List.mem_cons_self ..)
    have hr' := fun d hd => hr d (List.mem_cons_of_mem _ hd)
    rw [lpass]
    match hl : c.filter (fun l => decide (opp l ∉ so)) with
    | [] => exact left_none S.snd hc hl
    | [l] =>
      have hl' : leftOf so c = [l] := hl
      by_cases hin : l ∈ so
      · have e : onceP so l = so := if_pos hin
        simp only [e]
        have ih := lpass_ok X rest so hr' S
        revert ih
        cases lpass rest so with
        | none => exact fun h => h
        | some so' =>
          rintro ⟨h1, h2, h3⟩
          refine ⟨h1, h2, fun h => ⟨(h3 h).1, fun d hd => ?_⟩⟩
          rcases List.mem_cons.mp hd with rfl | hd
          · rw [hl']; exact ⟨by simp, fun m hm => by cases hm; exact hin⟩
          · exact (h3 h).2 d hd
      · have e : onceP so l = so ++ [l] := if_neg hin
        simp only [e]
        have ih := lpass_ok X rest (so ++ [l]) hr' (S.put X hc hl' hin)
        revert ih
        cases lpass rest (so ++ [l]) with
        | none => exact fun h => h
        | some so' =>
          rintro ⟨h1, h2, _⟩
          rw [List.length_append, List.length_singleton] at h2
          exact ⟨h1, by omega, fun h => absurd (by omega) h⟩
    | a :: b :: r =>
      have hl' : leftOf so c = a :: b :: r := hl
      simp only
      have ih := lpass_ok X rest so hr' S
      revert ih
      cases lpass rest so with
      | none => exact fun h => h
      | some so' =>
        rintro ⟨h1, h2, h3⟩
        refine ⟨h1, h2, fun h => ⟨(h3 h).1, fun d hd => ?_⟩⟩
        rcases List.mem_cons.mp hd with rfl | hd
        · rw [hl']; exact ⟨by simp, fun m hm => by simp at hm⟩
        · exact (h3 h).2 d hd
/-- how a following ends -/
def EndsOk (ns : List Str) (cs : List (List Str)) (hs : List Str) : Option (List Str) → Prop
  | none => Dead cs hs
  | some so => ¬ Dead cs hs ∧ (∀ x, x ∈ so ↔ Der cs hs x) ∧ So ns cs hs so
theorem ends_some (X : Ctx ns cs hs) (S : So ns cs hs so) (hcl : Closed cs so) : EndsOk ns cs hs (some so) := ⟨not_dead X S.sub hcl, fun x => ⟨S.snd x, der_in X S.sub hcl⟩, S⟩
theorem lchase_ok (X : Ctx ns cs hs) {r : Option (List Str)} (h : LChase cs so r) (S : So ns cs hs so) : EndsOk ns cs hs r := by
  induction h with
  | @dead so e =>
    have := lpass_ok X cs so (fun _ h => h) S
    rw [e] at this
    exact this
  | @done so so' e hn =>
    have := lpass_ok X cs so (fun _ h => h) S
    rw [e] at this
    obtain ⟨h1, h2, h3⟩ := this
    obtain ⟨e1, h4⟩ := h3 hn
    rw [e1]
    exact ends_some X S h4
  | @more so so' r e _ _ ih =>
    have := lpass_ok X cs so (fun _ h => h) S
    rw [e] at this
    exact ih this.1
/-! the program's following -/
theorem open_left {ls : List Str} (h : openOnes so c = some ls) : leftOf so c = ls ∧ ∀ l ∈ c, l ∉ so := by
  rw [openOnes_eq] at h
  split at h
  · cases h
  · rename_i hn
    refine ⟨Option.some.inj h, fun l hl hs => hn ?_⟩
    rw [List.any_eq_true]
    exact ⟨l, hl, by simpa using hs⟩
theorem open_none (h : openOnes so c = none) : ∃ l ∈ c, l ∈ so := by
  rw [openOnes_eq] at h
  split at h
  · rename_i hn
    rw [List.any_eq_true] at hn
    obtain ⟨l, hl, hs⟩ := hn
    exact ⟨l, hl, by simpa using hs⟩
  · cases h
/-- steps that are right one behind the other -/
inductive Steps (cs : List (List Str)) : List Str → List Stp → List Str → Prop
  | nil {so : List Str} : Steps cs so [] so
  | cons {so : List Str} {i : Nat} {l : Str} {r : List Stp} {so' : List Str} : i < cs.length → openOnes so (cs.getD i []) = some [l] → Steps cs (so ++ [l]) r so' → Steps cs so ((i, some l) :: r) so'
theorem Steps.snoc {so so' : List Str} {st : List Stp} {i : Nat} (h : Steps cs so st so') (hi : i < cs.length) (ho : openOnes so' (cs.getD i []) = some [l]) : Steps cs so (st ++ [(i, some l)]) (so' ++ [l]) := by
  induction h with
  | nil => exact .cons hi ho .nil
  | cons h1 h2 _ ih => exact .cons h1 h2 (ih ho)
theorem Steps.take {so so' : List Str} {st : List Stp} (h : Steps cs so st so') : ∀ n, ∃ so'', Steps cs so (st.take n) so'' := by
  induction h with
  | nil => intro n; exact ⟨_, by rw [List.take_nil]; exact .nil⟩
  | cons h1 h2 _ ih =>
    intro n
    cases n with
    | zero => exact ⟨_, .nil⟩
    | succ n => obtain ⟨s, hs⟩ := ih n; exact ⟨s, .cons h1 h2 hs⟩
/-- right drawings to a result -/
def RightTo (cs : List (List Str)) (hs : List Str) : Res → Prop
  | (some so, st) => Steps cs hs st so
  | (none, st) => ∃ st0 i so, st = st0 ++ [(i, none)] ∧ Steps cs hs st0 so ∧ i < cs.length ∧ openOnes so (cs.getD i []) = some []
theorem pass_ok (X : Ctx ns cs hs) : ∀ (rest : List (List Str)) (i : Nat) (so : List Str) (st : List Stp) (mv : Bool), cs.drop i = rest → So ns cs hs so → Steps cs hs st so → match passGo rest i so st mv with
    | .error st' => Dead cs hs ∧ RightTo cs hs (none, st')
    | .ok (so', st', mv') => So ns cs hs so' ∧ Steps cs hs st' so' ∧ (mv' = false → mv = false ∧ so' = so ∧ st' = st ∧ ∀ c ∈ rest, leftOf so c ≠ [] ∧ ∀ l, leftOf so c = [l] → l ∈ so)
  | [], i, so, st, mv, _, S, T => ⟨S, T, fun h => ⟨h, rfl, rfl, fun c hc => by cases hc⟩⟩
  | c :: rest, i, so, st, mv, hd, S, T => by
    have hil : i < cs.length := by
      by_cases h : i < cs.length
      · exact h
      · rw [List.drop_of_length_le (by omega)] at hd; cases hd
    have hgd : cs.getD i [] = c := by
      rw [List.drop_eq_getElem_cons hil] at hd
      rw [List.getD_eq_getElem?_getD, List.getElem?_eq_getElem hil]
      exact (List.cons.inj hd).1
    have hdr : cs.drop (i + 1) = rest := by
      rw [List.drop_eq_getElem_cons hil] at hd
      exact (List.cons.inj hd).2
    have hc : c ∈ cs := by rw [← hgd, List.getD_eq_getElem?_getD, List.getElem?_eq_getElem hil]; exact List.getElem_mem _
    rw [passGo]
    have other : (leftOf so c ≠ [] ∧ ∀ l, leftOf so c = [l] → l ∈ so) → match passGo rest (i + 1) so st mv with
        | .error st' => Dead cs hs ∧ RightTo cs hs (none, st')
        | .ok (so', st', mv') => So ns cs hs so' ∧ Steps cs hs st' so' ∧ (mv' = false → mv = false ∧ so' = so ∧ st' = st ∧ ∀ d ∈ c :: rest, leftOf so d ≠ [] ∧ ∀ l, leftOf so d = [l] → l ∈ so) := by
      intro hcl
      have ih := pass_ok X rest (i + 1) so st mv hdr S T
      revert ih
      cases passGo rest (i + 1) so st mv with
      | error st' => exact fun h => h
      | ok x =>
        obtain ⟨so', st', mv'⟩ := x
        rintro ⟨h1, h2, h3⟩
        refine ⟨h1, h2, fun h => ?_⟩
        obtain ⟨h4, h5, h6, h7⟩ := h3 h
        refine ⟨h4, h5, h6, fun d hd => ?_⟩
        rcases List.mem_cons.mp hd with rfl | hd
        · exact hcl
        · exact h7 d hd
    match ho : openOnes so c with
    | none =>
      refine other ?_
      obtain ⟨l, hl, hls⟩ := open_none ho
      have hm : l ∈ leftOf so c := mem_left.mpr ⟨hl, S.con l hls⟩
      refine ⟨(fun e => by rw [e] at hm; cases hm), fun m e => ?_⟩
      rw [e, List.mem_singleton] at hm
      rw [← hm]; exact hls
    | some [] => exact ⟨left_none S.snd hc (open_left ho).1, st, i, so, rfl, T, hil, by rw [hgd]; exact ho⟩
    | some [l] =>
      have hl := (open_left ho).1
      obtain ⟨h1, h2⟩ := open_one ho
      have ih := pass_ok X rest (i + 1) (so ++ [l]) (st ++ [(i, some l)]) true hdr (S.put X hc hl h2) (T.snoc hil (by rw [hgd]; exact ho))
      simp only
      revert ih
      cases passGo rest (i + 1) (so ++ [l]) (st ++ [(i, some l)]) true with
      | error st' => exact fun h => h
      | ok x =>
        obtain ⟨so', st', mv'⟩ := x
        rintro ⟨h1, h2, h3⟩
        exact ⟨h1, h2, fun h => by have := (h3 h).1; cases this⟩
    | some (a :: b :: r) =>
      refine other ?_
      have hl := (open_left ho).1
      rw [hl]
      exact ⟨by simp, fun l e => by simp at e⟩
theorem chase_ok (X : Ctx ns cs hs) {st : List Stp} {r : Res} (h : Chase cs so st r) (S : So ns cs hs so) (T : Steps cs hs st so) : EndsOk ns cs hs r.1 ∧ RightTo cs hs r := by
  induction h with
  | @dead so st st' e =>
    have := pass_ok X cs 0 so st false rfl S T
    rw [e] at this
    exact this
  | @done so st so' st' e =>
    have := pass_ok X cs 0 so st false rfl S T
    rw [e] at this
    obtain ⟨h1, h2, h3⟩ := this
    obtain ⟨_, e1, e2, h4⟩ := h3 rfl
    exact ⟨by rw [e1]; exact ends_some X S h4, h2⟩
  | @more so st so' st' r e _ ih =>
    have := pass_ok X cs 0 so st false rfl S T
    rw [e] at this
    exact ih this.1 this.2.1
end My

set_option Elab.async false
set_option linter.all false
set_option maxRecDepth 100000
set_option maxHeartbeats 4000000
namespace My
open PySem PySem.Spec PyProof.Rows L2 L3
structure Ge (mg : Str → Option Value) : Prop extends Gc mg where
  g_MOST_SIGNS : ∃ t, mg "MOST_SIGNS" = some (.int 6 t)
/-! the plain functions -/
def fullP (acc : List (List Str)) (n : Str) : List (List Str) := acc.flatMap fun s => [n, ("-" : Str) ++ n].map fun l => s ++ [l]
def fulls (ns : List Str) : List (List Str) := ns.foldl fullP [[]]
def liesIn (p c : List Str) : Bool := p.all fun l => decide (l ∈ c)
def meets (c s : List Str) : Bool := c.any fun l => decide (l ∈ s)
def isCons (c : List Str) (ss : List (List Str)) : Bool := ss.all fun s => meets c s
def fits (ss : List (List Str)) (h : List Str) : List (List Str) := ss.filter fun s => liesIn h s
def forcedL (ss : List (List Str)) (h : List Str) : Option (List Str) := match fits ss h with
  | [] => none
  | s :: r => some (s.filter fun l => decide (l ∉ h) && (s :: r).all fun z => decide (l ∈ z))
def stepH (ns : List Str) (p : List Str × Nat) : List (List Str × Nat) := (List.range' p.2 (ns.length - p.2)).flatMap fun a => [ns.getD a "", ("-" : Str) ++ ns.getD a ""].map fun l => (p.1 ++ [l], a + 1)
def nextH (ns : List Str) (lv : List (List Str × Nat)) : List (List Str × Nat) := lv.flatMap (stepH ns)
def halfGo (ns : List Str) : Nat → List (List Str × Nat) → List (List Str) → List (List Str)
  | 0, _, found => found
  | m + 1, lv, found => halfGo ns m (nextH ns lv) (found ++ (nextH ns lv).map (·.1))
def halves (ns : List Str) : List (List Str) := halfGo ns ns.length [([], 0)] [[]]
def shortP (ss : List (List Str)) (found : List (List Str)) (c : List Str) : List (List Str) := if (!found.any fun o => liesIn o c) && isCons c ss then found ++ [c] else found
def shortestL (ns : List Str) (ss : List (List Str)) : List (List Str) := (halves ns).foldl (shortP ss) []
section
variable {K : PySem.W.Frag} {σ : Sl} {M : Hp} {te ta tb : TE} {α : Type} {R : Rl α}
theorem _root_.L3.GvL.li [Mon R] {xs : List α} (h : GvL te σ M fun M ws => Pd R M xs ws) : Gv te σ M (LiR R xs) := h.gv fun M vs p r m => ⟨p, vs, rfl, upd_same, r.mono (same_new m)⟩
theorem _root_.L3.GvK.gv {ks : List Str} (h : GvK te σ M ks) : Gv te σ M (DcR ks) := fun H mh Q q => h H mh Q fun p M' H' g h0 m0 hw => q _ _ H' (g.freeze h0 m0 hw) ⟨p, rfl, .inl upd_same⟩
theorem gl_one [Mon R] {x : α} (h : Gv te σ M (R x)) : GvL (tLst (tCons te tNil)) σ M fun M ws => Pd R M [x] ws := fun H mh Q q =>
  h H mh _ fun v M1 H1 g1 p1 => ⟨by show 1 ≤ sizeLine; decide, fun p np => q p [v] M1 _ (g1.trans (.own g1.mh np)) (g1.hh.free np) (g1.mh.free np) upd_same (.cons p1 .nil)⟩
theorem gl_twoL [Mon R] {x y : α} (h1 : Gv ta σ M (R x)) (h2 : Gv tb σ M (R y)) : GvL (tLst (tCons ta (tCons tb tNil))) σ M fun M ws => Pd R M [x, y] ws := fun H mh Q q =>
  h1 H mh _ fun v M1 H1 g1 p1 => h2.le g1.mm H1 g1.mh _ fun u M2 H2 g2 p2 => ⟨by show 2 ≤ sizeLine; decide, fun p np => q p [v, u] M2 _ ((g1.trans g2).trans (.own g2.mh np)) ((g1.trans g2).hh.free np) (g2.mh.free np) upd_same (.cons (Mon.mono g2.mm p1) (.cons p2 .nil))⟩
theorem gv_tup1 {x : Str} (h : Gv te σ M (Tx x)) : Gv (tTup (tCons te tNil)) σ M (TT [x]) := fun H mh Q q =>
  h H mh _ fun v M1 H1 g1 p1 => ⟨by show 1 ≤ sizeLine; decide, fun p np => q _ _ _ (g1.trans (.new g1.mh np)) (by cases (show v = _ from p1); exact TT.new [x])⟩
theorem szK {n : Nat} (h : n ≤ 1000000) : n ≤ sizeLine := szM (Nat.le_trans h (by decide))
theorem flat2_len {α β : Type} (xs : List α) (f : α → β) (g : α → β) : (xs.flatMap fun x => [f x, g x]).length = 2 * xs.length := by
  induction xs with
  | nil => rfl
  | cons x xs ih => rw [List.flatMap_cons, List.length_append, ih]; simp only [List.length_cons, List.length_nil]; omega
theorem py_LTT {K : PySem.W.Frag} : PyR K (LiR TT) fun xs => .list (xs.map fun c => .tuple (c.map .str)) := fun xs M v h => py_lst py_TT _ _ _ h.lst
theorem inj_LTT : Inj fun xs : List (List Str) => PyData.list (xs.map fun c => .tuple (c.map .str)) := inj_lst inj_TT
theorem gv_nilL {R : Rl α} : Gv (tLst tNil) σ M (LiR R []) := gl_nil.gv fun M vs p h m => by subst h; exact ⟨p, [], rfl, upd_same, .nil⟩
theorem pd_all {α : Type} {R : Rl α} {M : Hp} {xs : List α} {vs : List V} (h : Pd R M xs vs) : vs.length = xs.length := h.length.symm
end
end My

set_option Elab.async false
set_option linter.all false
set_option maxRecDepth 100000
set_option maxHeartbeats 4000000
namespace My
open PySem PySem.Spec PyProof.Rows L2 L3
theorem depthT : ∀ xs : List (List Str), PyData.depthAll (xs.map fun c => .tuple (c.map .str)) ≤ 1
  | [] => by simp [PyData.depthAll]
  | c :: r => by
    have := depthT r
    simp only [List.map_cons, PyData.depthAll, PyData.depth, depthS]
    omega
theorem depth_LTT (xs : List (List Str)) : (PyData.list (xs.map fun c => .tuple (c.map .str))).depth ≤ 60 := by
  have := depthT xs
  simp only [PyData.depth]
  omega
section
variable {P : Program} {w : World} {K : PySem.W.Frag} {mg : Str → Option Value} {base : Heap}
def sp_lies_in (K : PySem.W.Frag) : Sp := sp2 (SqR K Tx) (CtR K) (fun p _ => p.length ≤ 1000000) fun p c => Bl (liesIn p c)
def sp_is_consequence (K : PySem.W.Frag) : Sp := sp2 (SqR K Tx) (SqR K (CtR K)) (fun c ss => c.length ≤ 1000000 ∧ ss.length ≤ 1000000) fun c ss => Bl (isCons c ss)
abbrev s_full_settings : Stmt := topS 16
theorem sc_full_settings : FnScope ["names", "found", "name", "setting", "literal"] ["names"] (defScope s_full_settings) := ⟨rfl, rfl, rfl, by decide +kernel, rfl, by decide +kernel, by decide +kernel⟩
def sp_full_settings (K : PySem.W.Frag) : Sp := sp1 (SqR K Tx) (fun ns => ns.length ≤ 6 ∧ Shorts ns) fun ns => LiR TT (fulls ns)
theorem fulls_len (ns : List Str) : (fulls ns).length = 2 ^ ns.length := by
  have go : ∀ (ns : List Str) (acc : List (List Str)), (ns.foldl fullP acc).length = acc.length * 2 ^ ns.length := by
    intro ns
    induction ns with
    | nil => intro acc; simp
    | cons n ns ih =>
      intro acc
      rw [List.foldl_cons, ih, List.length_cons, Nat.pow_succ]
      have : (fullP acc n).length = acc.length * 2 := by
        unfold fullP
        induction acc with
        | nil => rfl
        | cons a acc ih => rw [List.flatMap_cons, List.length_append, ih, List.length_cons]; simp; omega
      rw [this, Nat.mul_assoc, Nat.mul_comm 2]
  have := go ns [[]]
  simpa [fulls] using this
theorem fulls_take {ns : List Str} {i : Nat} {n : Str} (h : ns[i]? = some n) : fulls (ns.take (i + 1)) = fullP (fulls (ns.take i)) n := by
  unfold fulls
  rw [List.take_add_one, h, List.foldl_append]
  rfl
theorem fulls_each : ∀ (ns : List Str), ∀ s ∈ fulls ns, s.length = ns.length := by
  have go : ∀ (ns : List Str) (acc : List (List Str)) (k : Nat), (∀ s ∈ acc, s.length = k) → ∀ s ∈ ns.foldl fullP acc, s.length = k + ns.length := by
    intro ns
    induction ns with
    | nil => intro acc k h s hs; exact h s hs
    | cons n ns ih =>
      intro acc k h s hs
      rw [List.foldl_cons] at hs
      have := ih (fullP acc n) (k + 1) (fun z hz => by
        obtain ⟨y, hy, hz⟩ := List.mem_flatMap.mp hz
        obtain ⟨l, _, rfl⟩ := List.mem_map.mp hz
        rw [List.length_append, h y hy]; rfl) s hs
      rw [this, List.length_cons]; omega
  intro ns s hs
  have := go ns [[]] 0 (by simp) s hs
  omega
theorem ok_full_settings {f : Addr} {fd : FuncData} (F : Fun K "full_settings" "full_settings" s_full_settings f fd) (T : Gc mg) : FnOk P w K mg base CX0 1 f fd ["names"] (sp_full_settings K) := by
  refine F.ok sc_full_settings (fun vs H Q E h => ?_) (fun cdv A outer s H vs Q E hr h => ?_)
  · obtain ⟨x, M, v, rfl, _⟩ := h
    rfl
  · obtain ⟨ns, M, v, rfl, mh, r1, ⟨h6, hsh⟩, q⟩ := h
    have hu := hr.units
    refine ⟨_, (pss_cons (ps_set (i := 1) sc_full_settings.nd rfl (by first | exact .inl rfl | exact .inr rfl) (pe_lst (pa_cons (pe_tup pa_nil) pa_nil)))
      (pss_cons (ps_for PassesOwn.never (by rfl) (pi_sq (pv 0)) (pg_name (i := 2) sc_full_settings.nd rfl (by first | exact .inl rfl | exact .inr rfl)) (pss_one (ps_setLc2 (i := 1) (own := [("setting", 3), ("literal", 4)]) (vs1 := [4]) (g := (gName 3)) (tt := tYes) (wi1 := (iSq K (tTup (tCons (tVar 2) (tCons (tOp (rAddA K) (tC (.str "-")) (tVar 2)) tNil))))) (g1 := (gName 4)) (tt1 := tYes) (te := (tOp (rAddA K) (tVar 3) (tTup (tCons (tVar 4) tNil)))) (by rfl) sc_full_settings.nd rfl rfl (sw_true rfl rfl rfl (by decide +kernel)) (pi_sq (pv 1)) (blkOk_by (by rfl)) (by decide) (fun _ _ _ _ _ => (pg_name (i := 3) sc_full_settings.nd rfl (by first | exact .inl rfl | exact .inr rfl))) (fun _ _ _ _ _ => pts_nil) (fun _ _ _ _ _ => (pi_sq (pe_tup (pa_cons (pv 2) (pa_cons (pe_op op_addA pe_str (pv 2)) pa_nil))))) (fun _ _ _ _ _ => (pg_name (i := 4) sc_full_settings.nd rfl (by first | exact .inl rfl | exact .inr rfl))) (fun _ _ _ _ _ => pts_nil) (fun _ _ _ _ _ => (pe_op op_addA (pv 3) (pe_tup (pa_cons (pv 4) pa_nil)))))))
      (pss_one (ps_ret (pv 1))))), ?_⟩
    refine q_asg (P := LiR TT [[]]) mh (gl_one gv_nilT).li fun v1 M1 H1 g1 p1 => ?_
    refine q_for (R1 := Tx) (xs := ns) g1.mh (gv_var rfl (Mon.mono g1.mm r1))
      (fun M1' i σ' M' H' => ∃ y2 u, Gr M H M' H' ∧ Same M1' M' ∧ LiR TT (fulls (ns.take i)) M' u ∧ σ' = [some v, some u, y2, none, none])
      (fun M2 H2 g2 => ⟨none, v1, g1.trans g2, Same.refl _, Mon.mono g2.mm p1, rfl⟩) (fun M2 i σ' M' H' ⟨_, _, g, s1, _⟩ => ⟨s1, g.mh⟩) ?_ ?_
    · rintro M2 i n u σ' M' H' sM hx ⟨y2, v2, g, s1, p2, rfl⟩ rx
      cases rx
      have hi : i < ns.length := (List.getElem?_eq_some_iff.mp hx).1
      have hn : n.length ≤ 900 := hsh.2 n (List.mem_of_getElem? hx)
      have hle : (fulls (ns.take i)).length ≤ 64 := by
        rw [fulls_len, List.length_take]
        exact Nat.le_trans (Nat.pow_le_pow_right (by decide) (show min i ns.length ≤ 6 by omega)) (by decide)
      refine s_asg (P := LiR TT (fulls (ns.take (i + 1)))) g.mh (gv_is (gl_two (R := TT) (R1 := Tx) (T := TT) (xs := fulls (ns.take i)) (ys := fun _ => [n, ("-" : Str) ++ n]) (f := fun z l => z ++ [l]) (gi_sq (K := K) (gv_var rfl p2.sq)) (szM (by rw [flat2_len]; omega))
        (fun z _ M3 u3 sm r3 => gi_sq (K := K) (gv_is (gv_tup2 (K := K) (gv_var rfl rfl) (gv_addSt (K := K) (gv_c rfl) (gv_var rfl rfl) (szM (by show 1 + n.length ≤ _; omega)))) fun _ _ h => .inr h))
        fun z hz l _ M3 u3 w3 sm r3 q3 => gv_addTT (K := K) (gv_var rfl r3) (gv_tup1 (gv_var rfl q3)) (szM (by have := fulls_each _ z hz; rw [List.length_take] at this; simp only [List.length_cons, List.length_nil]; omega))).li fun M' v' h => by rw [fulls_take hx]; exact h) fun u4 M4 H4 g4 p4 => ?_
      exact ⟨M4, _, u4, g.trans g4, s1.trans g4.mm, p4, rfl⟩
    · rintro M2 σ' M' H' sM ⟨y2, u, g, s1, p2, rfl⟩
      rw [List.take_length] at p2
      exact ⟨u, rfl, q _ _ _ g p2⟩
abbrev s_forced_literals : Stmt := topS 21
theorem sc_forced_literals : FnScope ["settings", "setting", "some", "one", "literal"] ["settings", "setting"] (defScope s_forced_literals) := ⟨rfl, rfl, rfl, by decide +kernel, rfl, by decide +kernel, by decide +kernel⟩
def sp_forced_literals (K : PySem.W.Frag) : Sp := sp2 (SqR K TT) (SqR K Tx) (fun ss h => ss.length ≤ 1000000 ∧ h.length ≤ 1000000 ∧ ∀ s ∈ ss, s.length ≤ 1000000) fun ss h => OpR' (LiR Tx) (forcedL ss h)
theorem ok_forced_literals {f : Addr} {fd : FuncData} (F : Fun K "forced_literals" "forced_literals" s_forced_literals f fd) (T : Gc mg) : FnOk P w K mg base CX0 1 f fd ["settings", "setting"] (sp_forced_literals K) := by
  refine F.ok sc_forced_literals (fun vs H Q E h => ?_) (fun cdv A outer s H vs Q E hr h => ?_)
  · obtain ⟨x, y, M, v, w, rfl, _⟩ := h
    rfl
  · obtain ⟨ss, h, M, v, w, rfl, mh, r1, r2, ⟨h1, h2, h3⟩, q⟩ := h
    have hu := hr.units
    refine ⟨_, (pss_cons (ps_set (i := 2) sc_forced_literals.nd rfl (by first | exact .inl rfl | exact .inr rfl) (pe_lc (own := [("one", 3)]) (g := (gName 3)) (tt := (tB (tCB (rAll K) (tCons (tLc (iSq K (tVar 1)) (gName 4) tYes (tOp (rInA K false) (tVar 4) (tVar 3)) [4]) tNil)))) (te := (tVar 3)) (by rfl) sc_forced_literals.nd (pi_sq (pv 0)) (blkOk_by (by rfl)) (fun _ _ _ _ _ => (pg_name (i := 3) sc_forced_literals.nd rfl (by first | exact .inl rfl | exact .inr rfl))) (fun _ _ _ _ _ => (pts_one (pt_val (pe_callB (cr_all rfl) (by rfl) T.all boot_all (pa_cons (pe_lc (own := [("literal", 4)]) (g := (gName 4)) (tt := tYes) (te := (tOp (rInA K false) (tVar 4) (tVar 3))) (by rfl) sc_forced_literals.nd (pi_sq (pv 1)) (blkOk_by (by rfl)) (fun _ _ _ _ _ => (pg_name (i := 4) sc_forced_literals.nd rfl (by first | exact .inl rfl | exact .inr rfl))) (fun _ _ _ _ _ => pts_nil) (fun _ _ _ _ _ => (pe_cmpR (op_inA hu) (pv 4) (pv 3) (by rfl)))) pa_nil))))) (fun _ _ _ _ _ => (pv 3))))
      (pss_cons (ps_if (pt_cmpR (op_eqP hu) (pv 2) (pe_lst pa_nil) (nomark _)) (pss_one (ps_ret pe_non)) pss_nil)
      (pss_one (ps_ret (pe_lc (own := [("literal", 4)]) (g := (gName 4)) (tt := (tAnd (tTest (tOp (rInA K true) (tVar 4) (tVar 1))) (tB (tCB (rAll K) (tCons (tLc (iSq K (tVar 2)) (gName 3) tYes (tOp (rInA K false) (tVar 4) (tVar 3)) [3]) tNil))))) (te := (tVar 4)) (by rfl) sc_forced_literals.nd (pi_sq (pe_ix ix_X (pv 2) pe_int (fun _ _ => rfl))) (blkOk_by (by rfl)) (fun _ _ _ _ _ => (pg_name (i := 4) sc_forced_literals.nd rfl (by first | exact .inl rfl | exact .inr rfl))) (fun _ _ _ _ _ => (pts_one (PW.pt (pw_and (pt_cmpR (op_niA hu) (pv 4) (pv 1) (by rfl)) (pw_and1 (pt_val (pe_callB (cr_all rfl) (by rfl) T.all boot_all (pa_cons (pe_lc (own := [("one", 3)]) (g := (gName 3)) (tt := tYes) (te := (tOp (rInA K false) (tVar 4) (tVar 3))) (by rfl) sc_forced_literals.nd (pi_sq (pv 2)) (blkOk_by (by rfl)) (fun _ _ _ _ _ => (pg_name (i := 3) sc_forced_literals.nd rfl (by first | exact .inl rfl | exact .inr rfl))) (fun _ _ _ _ _ => pts_nil) (fun _ _ _ _ _ => (pe_cmpR (op_inA hu) (pv 4) (pv 3) (by rfl)))) pa_nil)))))))) (fun _ _ _ _ _ => (pv 4))))))), ?_⟩
    refine q_asg (P := LiR TT (fits ss h)) mh (gv_is (gl_c1 (S := TT) (R := TT) (xs := ss) (gi_sq (K := K) (gv_var rfl r1)) (szK h1) (fun z => liesIn h z) id (fun z _ M1 u sm ru => gt_B (gv_is (gv_all (K := K) (gl_m1 (S := Bl) (R := Tx) (xs := h) (gi_sq (K := K) (gv_var rfl (Mon.mono sm r2))) (szK h2) (fun l => decide (l ∈ z))
      fun l _ M2 u2 sm2 ru2 => gv_is (gv_inA (K := K) (gv_var rfl ru2) (gv_var rfl (.inl (Mon.mono sm2 ru).sq))) fun _ _ h => by simpa using h)) fun M' v h => by rw [show v = _ from h, List.all_map]; rfl)) fun z _ _ M1 u sm ru => gv_var rfl ru).li fun M' v' h => by rw [List.map_id] at h; exact h) fun v1 M1 H1 g1 p1 => ?_
    have fl : (fits ss h).length ≤ 1000000 := Nat.le_trans (List.length_filter_le _ _) h1
    refine q_if0 (b := decide (fits ss h = [])) g1.mh (gt_is (gt_test (gv_eqT (K := K) (R := LiR TT) (neg := false) py_LTT inj_LTT (gv_var rfl p1) gv_nilL (depth_LTT _))) (by simp)) (fun hb H2 hh => ?_) fun hb H2 hh => ?_
    · have e : forcedL ss h = none := by unfold forcedL; rw [of_decide_eq_true hb]
      exact s_ret (P := fun _ u => u = .non) (g1.mh.trans hh) (gv_c rfl) fun u M' H' g r => q u M' H' ((g1.trans (.idle g1.mh hh)).trans g) (by show OpR' (LiR Tx) (forcedL ss h) M' u; rw [e]; exact r)
    · cases ef : fits ss h with
      | nil => rw [ef] at hb; simp at hb
      | cons s0 r0 =>
        rw [ef] at p1
        have hs0 : s0 ∈ ss := (List.mem_filter.mp (show s0 ∈ fits ss h by rw [ef]; simp)).1
        have e : forcedL ss h = some (s0.filter fun l => decide (l ∉ h) && (s0 :: r0).all fun z => decide (l ∈ z)) := by unfold forcedL; rw [ef]
        have mh2 := g1.mh.trans hh
        refine s_ret mh2 (gv_is (gl_c1 (S := Tx) (R := Tx) (xs := s0) (gi_sq (K := K) (gv_is (gv_ix (K := K) (R := TT) (xs := s0 :: r0) (i := 0) (x := s0) (gv_var rfl p1.sq) (gv_c rfl) (atI_nat (j := 0) rfl)) fun _ _ h => h.sq)) (szK (h3 s0 hs0)) (fun l => decide (l ∉ h) && (s0 :: r0).all fun z => decide (l ∈ z)) id
          (fun l _ M2 u sm ru => gt_and (b := decide (l ∉ h)) (c := (s0 :: r0).all fun z => decide (l ∈ z)) (gt_is (gt_test (gv_inA (K := K) (neg := true) (gv_var rfl ru) (gv_var rfl (.inl (Mon.mono (g1.mm.trans sm) r2))))) (by simp)) fun _ => gt_B (gv_is (gv_all (K := K) (gl_m1 (S := Bl) (R := TT) (xs := s0 :: r0) (gi_sq (K := K) (gv_var rfl (Mon.mono sm p1).sq)) (szK (by rw [← ef]; exact fl)) (fun z => decide (l ∈ z))
            fun z _ M3 u3 sm3 ru3 => gv_is (gv_inA (K := K) (x := l) (gv_var rfl (by exact ru)) (gv_var rfl (.inl ru3.sq))) fun _ _ h => by simpa using h)) fun M' v h => by rw [show v = _ from h, List.all_map]; rfl)) fun l _ _ M2 u sm ru => gv_var rfl ru).li fun M' v' hv => ?_) fun u M' H' g r => q u M' H' ((g1.trans (.idle g1.mh hh)).trans g) r
        rw [List.map_id] at hv
        show OpR' (LiR Tx) (forcedL ss h) M' v'
        rw [e]
        exact hv
end
end My

set_option Elab.async false
set_option linter.all false
set_option maxRecDepth 100000
set_option maxHeartbeats 8000000
namespace My
open PySem PySem.Spec PyProof.Rows L2 L3
abbrev NtR : Rl Nat := fun i => It' (i : Nat)
instance : Mon NtR := ⟨fun _ h => h⟩
abbrev LvR (K : PySem.W.Frag) : Rl (List Str × Nat) := PrR K TT NtR
/-- the state between two levels; m levels are still to come -/
structure HvI (ns : List Str) (lv : List (List Str × Nat)) (found : List (List Str)) (m : Nat) : Prop where
  lo : ∀ p ∈ lv, ns.length ≤ p.2 + m
  up : ∀ p ∈ lv, p.2 ≤ ns.length ∧ p.1.length ≤ p.2
  go : halfGo ns m lv found = halves ns
  sz : lv.length * 12 ^ m ≤ 2985984
  fz : 11 * found.length * 12 ^ m ≤ 35831808
theorem mem_stepH {ns : List Str} {p q : List Str × Nat} (h : q ∈ stepH ns p) : ∃ a l, p.2 ≤ a ∧ a < ns.length ∧ (l = ns.getD a "" ∨ l = ("-" : Str) ++ ns.getD a "") ∧ q = (p.1 ++ [l], a + 1) := by
  obtain ⟨a, ha, hq⟩ := List.mem_flatMap.mp h
  obtain ⟨l, hl, rfl⟩ := List.mem_map.mp hq
  have := List.mem_range'_1.mp ha
  exact ⟨a, l, this.1, by omega, by simpa using hl, rfl⟩
theorem flat_le {α β : Type} {f : α → List β} {c : Nat} : ∀ {xs : List α}, (∀ x ∈ xs, (f x).length ≤ c) → (xs.flatMap f).length ≤ c * xs.length
  | [], _ => Nat.zero_le _
  | x :: xs, h => by
    have h1 := h x (List.mem_cons_self ..)
    have h2 := flat_le (xs := xs) fun z hz => h z (List.mem_cons_of_mem _ hz)
    rw [List.flatMap_cons, List.length_append, List.length_cons, Nat.mul_succ]
    omega
theorem stepH_len (ns : List Str) (p : List Str × Nat) : (stepH ns p).length = 2 * (ns.length - p.2) := by
  unfold stepH
  have := flat2_len (List.range' p.2 (ns.length - p.2)) (fun a => (p.1 ++ [ns.getD a ""], a + 1)) (fun a => (p.1 ++ [("-" : Str) ++ ns.getD a ""], a + 1))
  rw [List.length_range'] at this
  exact this
theorem nextH_len {ns : List Str} {lv : List (List Str × Nat)} (n6 : ns.length ≤ 6) : (nextH ns lv).length ≤ 12 * lv.length := flat_le fun p _ => by rw [stepH_len]; omega
theorem HvI.init {ns : List Str} (n6 : ns.length ≤ 6) : HvI ns [([], 0)] [[]] ns.length := by
  have h : 12 ^ ns.length ≤ 12 ^ 6 := Nat.pow_le_pow_right (by decide) n6
  refine ⟨fun p hp => ?_, fun p hp => ?_, rfl, ?_, ?_⟩
  · rw [List.mem_singleton.mp hp]; exact Nat.le_of_eq (Nat.zero_add _).symm
  · rw [List.mem_singleton.mp hp]; exact ⟨Nat.zero_le _, Nat.le_refl _⟩
  · simp only [List.length_singleton]; omega
  · simp only [List.length_singleton]; omega
theorem HvI.step1 {ns : List Str} {lv : List (List Str × Nat)} {found : List (List Str)} {m : Nat} (n6 : ns.length ≤ 6) (h : HvI ns lv found (m + 1)) : HvI ns (nextH ns lv) (found ++ (nextH ns lv).map (·.1)) m := by
  have up : ∀ p ∈ nextH ns lv, p.2 ≤ ns.length ∧ p.1.length ≤ p.2 := fun p hp => by
    obtain ⟨r, hr, hp⟩ := List.mem_flatMap.mp hp
    obtain ⟨a, l, h1, h2, _, rfl⟩ := mem_stepH hp
    have := (h.up r hr).2
    refine ⟨h2, ?_⟩
    show (r.1 ++ [l]).length ≤ a + 1
    rw [List.length_append]
    show r.1.length + 1 ≤ a + 1
    omega
  have l1 := nextH_len (lv := lv) n6
  have s1 := h.sz
  have f1 := h.fz
  rw [Nat.pow_succ] at s1 f1
  have s2 : (nextH ns lv).length * 12 ^ m ≤ 2985984 := by
    refine Nat.le_trans (Nat.mul_le_mul_right _ l1) ?_
    rw [Nat.mul_comm 12, Nat.mul_assoc, Nat.mul_comm 12]
    exact s1
  refine ⟨fun p hp => ?_, up, h.go, s2, ?_⟩
  · obtain ⟨r, hr, hp⟩ := List.mem_flatMap.mp hp
    obtain ⟨a, l, h1, h2, _, rfl⟩ := mem_stepH hp
    have := h.lo r hr
    show ns.length ≤ a + 1 + m
    omega
  · rw [List.length_append, List.length_map, Nat.mul_add, Nat.add_mul]
    have f2 : 11 * found.length * 12 ^ m * 12 ≤ 35831808 := by rw [Nat.mul_assoc]; exact f1
    have f3 : 11 * (nextH ns lv).length * 12 ^ m ≤ 11 * 2985984 := by rw [Nat.mul_assoc]; exact Nat.mul_le_mul_left _ s2
    omega
theorem HvI.step {ns : List Str} {lv : List (List Str × Nat)} {found : List (List Str)} {m : Nat} (n6 : ns.length ≤ 6) (h : HvI ns lv found m) :
    ∃ m', (m' < m ∨ nextH ns lv = []) ∧ HvI ns (nextH ns lv) (found ++ (nextH ns lv).map (·.1)) m' := by
  cases m with
  | zero =>
    have e : nextH ns lv = [] := List.flatMap_eq_nil_iff.mpr fun p hp => by
      have := h.lo p hp
      apply List.eq_nil_of_length_eq_zero
      rw [stepH_len]
      omega
    refine ⟨0, .inr e, ?_⟩
    rw [e]
    refine ⟨fun p hp => (List.not_mem_nil hp).elim, fun p hp => (List.not_mem_nil hp).elim, ?_, by simp, ?_⟩
    · rw [List.map_nil, List.append_nil]; exact h.go
    · rw [List.map_nil, List.append_nil]; exact h.fz
  | succ m => exact ⟨m, .inl (Nat.lt_succ_self m), h.step1 n6⟩
theorem HvI.end_ {ns : List Str} {found : List (List Str)} {m : Nat} (h : HvI ns [] found m) : found = halves ns := by
  have go : ∀ m found, halfGo ns m [] found = found := by
    intro m
    induction m with
    | zero => intro f; rfl
    | succ m ih => intro f; rw [halfGo]; show halfGo ns m [] (f ++ []) = f; rw [List.append_nil, ih]
  rw [← h.go, go]
theorem eqv_nil (ds : List PyData) : PyData.eqv (.list ds) (.list []) = decide (ds = []) := by cases ds <;> simp [PyData.eqv, PyData.eqvAll]
def lvD (p : List Str × Nat) : PyData := .tuple [.tuple (p.1.map .str), .int (p.2 : Nat)]
theorem py_lv {K : PySem.W.Frag} : PyR K (LvR K) lvD := fun p M v ⟨a, u, w, h1, h2, h3, h4⟩ => by
  subst h1
  exact .tup h2 (.cons (py_TT _ _ _ h3) (.cons (by cases (show w = _ from h4); exact .int _) .nil))
theorem depth_lv : ∀ xs : List (List Str × Nat), PyData.depthAll (xs.map lvD) ≤ 2
  | [] => by simp [PyData.depthAll]
  | c :: r => by
    have := depth_lv r
    simp only [List.map_cons, PyData.depthAll, lvD, PyData.depth, depthS]
    omega
theorem s_forG {K : PySem.W.Frag} {σ : Sl} {M : Hp} {α : Type} {R : Rl α} {wi : TI} {g : TG} {tbd : TS} {D : Ends} {U : α → Hp → Sl → Sl → Prop} {xs : List α} {H : Hp} (mh : Same M H) (hsrc : GvI wi σ M xs R) (htg : TgOk g R U) (Pv : Hp → Nat → Sl → Hp → Hp → Prop)
    (h0 : ∀ M1 H1, Gr M H M1 H1 → Pv M1 0 σ M1 H1) (hk : ∀ M1 i σ' M' H', Pv M1 i σ' M' H' → Same M1 M' ∧ Same M' H')
    (hs : ∀ M1 i x σ' M' H' M2 H2 σ2, Same M M1 → xs[i]? = some x → Pv M1 i σ' M' H' → Gr M' H' M2 H2 → U x M2 σ' σ2 →
      tbd { D with nx := fun σ2 H2 => ∃ M2, Pv M1 (i + 1) σ2 M2 H2, ct := fun σ2 H2 => ∃ M2, Pv M1 (i + 1) σ2 M2 H2, bk := D.nx } σ2 H2)
    (hd : ∀ M1 σ' M' H', Same M M1 → Pv M1 xs.length σ' M' H' → D.nx σ' H') : tFor wi g tbd D σ H := q_forG (tz := fun D => D.nx) (D := D) mh hsrc htg Pv h0 hk hs hd
theorem q_ext {K : PySem.W.Frag} {σ : Sl} {M H : Hp} {te : TE} {D : Ends} {tz : TS} {i : Nat} {p : Addr} {vs : List V} {P : Hp → List V → Prop} (mh : Same M H) (hi : σ[i]? = some (some (.ref p))) (hp : H p = some (.lst vs)) (h : GvL te σ M P) (hz : ∀ M' ws, P M' ws → vs.length + ws.length ≤ sizeLine)
    (k : ∀ ws M' H', Gr M H M' H' → P M' ws → tz D σ (upd H' p (.lst (vs ++ ws)))) : tSeq (tDrop (tBM K "list" rExtend (tVar i) (tCons te tNil))) tz D σ H := s_ext (D := { D with nx := tz D }) mh hi hp h hz k
theorem gl_m2 {K : PySem.W.Frag} {σ : Sl} {M : Hp} {te : TE} {wi : TI} {α β γ : Type} {R : Rl α} {S : Rl β} {T : Rl γ} [Mon T] {j k : Nat} {xs : List (α × β)} (hsrc : GvI wi σ M xs (PrR K R S)) (hz : xs.length ≤ sizeLine) (f : α × β → γ)
    (he : ∀ x ∈ xs, ∀ M1 u w, Same M M1 → R x.1 M1 u → S x.2 M1 w → Gv te (((wipe σ [j, k]).set j (some u)).set k (some w)) M1 (T (f x))) : GvL (tLc wi (gTup K 2 (gCons (gName j) (gCons (gName k) gNil))) tYes te [j, k]) σ M fun M ws => Pd T M (xs.map f) ws := by
  have h := gl_comp (S := T) (U := U2 R S j k) (vs := [j, k]) (te := te) (tt := tYes) hsrc tg_2 (fun x M' σ' ⟨u, w, _, _, e⟩ => by subst e; exact wipe2) hz (fun _ => true) f (fun _ _ _ _ _ _ => gt_yes) (fun x hx _ M1 σ' sm ⟨u, w, ru, rw, e⟩ => by subst e; exact he x hx M1 u w sm ru rw)
  rw [List.filter_eq_self.mpr fun _ _ => rfl] at h
  exact h
section
variable {P : Program} {w : World} {K : PySem.W.Frag} {mg : Str → Option Value} {base : Heap}
def sp_half_settings (K : PySem.W.Frag) : Sp := sp1 (SqR K Tx) (fun ns => ns.length ≤ 6 ∧ Shorts ns) fun ns => LiR TT (halves ns)
end
end My

set_option Elab.async false
set_option linter.all false
set_option maxRecDepth 100000
set_option maxHeartbeats 8000000
namespace My
open PySem PySem.Spec PyProof.Rows L2 L3
/-- a rule: names, allowed settings -/
structure RuleD where
  names : List Str
  allowed : List (List Str)
def RuleD.settings (r : RuleD) : List (List Str) := (fulls r.names).filter fun s => decide (s ∈ r.allowed)
def mkRule (ns : List Str) (ss : List (List Str)) : RuleD := ⟨ns, once (ss.map fun s => asc s ns)⟩
def ruleF (vn va : V) : List (Str × V) := putF "allowed" va (putF "names" vn [])
def RuleR (C : Addr) : Rl RuleD := fun r M v => ∃ a dx vn va, v = .ref a ∧ M a = some (.ins C dx (ruleF vn va)) ∧ TT r.names M vn ∧ DtF r.allowed M va
instance {C : Addr} : Mon (RuleR C) := ⟨fun e ⟨a, dx, vn, va, h1, h2, h3, h4⟩ => ⟨a, dx, vn, va, h1, e _ _ h2, Mon.mono e h3, Mon.mono e h4⟩⟩
structure RuleT (K : PySem.W.Frag) (mg : Str → Option Value) (C : Addr) : Prop where
  cl : Cls K C
  nN : NoAttr K C "names"
  nA : NoAttr K C "allowed"
theorem ruleF_names (vn va : V) : (ruleF vn va).lookup ("names" : Str) = some vn := by
  unfold ruleF
  rw [lookup_putF, if_neg (by decide +kernel), lookup_putF, if_pos rfl]
theorem ruleF_allowed (vn va : V) : (ruleF vn va).lookup ("allowed" : Str) = some va := by
  unfold ruleF
  rw [lookup_putF, if_pos rfl]
theorem ruleF_no {m : Str} (vn va : V) (h1 : ¬ m = ("allowed" : Str)) (h2 : ¬ m = ("names" : Str)) : (ruleF vn va).lookup m = none := by
  unfold ruleF
  rw [lookup_putF, if_neg h1, lookup_putF, if_neg h2]
  rfl
theorem insR_rule {C : Addr} {m : Str} {r : RuleD} (h1 : ¬ m = ("allowed" : Str)) (h2 : ¬ m = ("names" : Str)) : InsR C m (RuleR C r) := fun M v ⟨a, dx, vn, va, e, h, _, _⟩ => ⟨a, dx, _, e, h, ruleF_no vn va h1 h2⟩
section
variable {K : PySem.W.Frag} {mg : Str → Option Value} {σ : Sl} {M : Hp} {te : TE} {C : Addr} {r : RuleD}
theorem gv_rnames (T : RuleT K mg C) (h : Gv te σ M (RuleR C r)) : Gv (tFld K te "names") σ M (TT r.names) := gv_fld h fun M' v ⟨a, dx, vn, va, h1, h2, h3, h4⟩ => ⟨a, C, dx, _, vn, h1, h2, T.cl, T.nN, ruleF_names .., h3⟩
theorem gv_rallowed (T : RuleT K mg C) (h : Gv te σ M (RuleR C r)) : Gv (tFld K te "allowed") σ M (DtF r.allowed) := gv_fld h fun M' v ⟨a, dx, vn, va, h1, h2, h3, h4⟩ => ⟨a, C, dx, _, va, h1, h2, T.cl, T.nA, ruleF_allowed .., h4⟩
end
theorem halves_len {ns : List Str} (n6 : ns.length ≤ 6) : (halves ns).length ≤ 3257437 := by
  have fin : ∀ {lv : List (List Str × Nat)} {found : List (List Str)} {m : Nat}, HvI ns lv found m → found.length ≤ 3257437 := fun {lv found m} h => by
    have := h.fz
    have h1 : 1 ≤ 12 ^ m := Nat.one_le_pow _ _ (by decide)
    have : 11 * found.length * 1 ≤ 11 * found.length * 12 ^ m := Nat.mul_le_mul_left _ h1
    omega
  have go : ∀ (m : Nat) (lv : List (List Str × Nat)) (found : List (List Str)), HvI ns lv found m → (halves ns).length ≤ 3257437 := by
    intro m
    induction m using Nat.strongRecOn with
    | ind m ih =>
      intro lv found h
      obtain ⟨m', h1, h2⟩ := h.step n6
      rcases h1 with h1 | h1
      · exact ih m' h1 _ _ h2
      · rw [h1] at h2
        rw [← h2.end_]
        exact fin h2
  exact go _ _ _ (HvI.init n6)
theorem meets_once (c s : List Str) : meets c (once s) = meets c s := by
  unfold meets
  congr 1
  funext l
  simp [mem_once]
theorem isCons_once (c : List Str) (ss : List (List Str)) : isCons c (ss.map once) = isCons c ss := by
  unfold isCons
  rw [List.all_map]
  congr 1
  funext s
  exact meets_once c s
section
variable {P : Program} {w : World} {K : PySem.W.Frag} {mg : Str → Option Value} {base : Heap}
abbrev s_checked_settings : Stmt := topS 20
theorem sc_checked_settings : FnScope ["settings", "names", "found", "index", "thing"] ["settings", "names"] (defScope s_checked_settings) := ⟨rfl, rfl, rfl, by decide +kernel, rfl, by decide +kernel, by decide +kernel⟩
def sp_checked_settings (K : PySem.W.Frag) : Sp := sl2 (SqR K (SqR K Tx)) (SqR K Tx) (fun cs ns => Shorts ns ∧ cs.length ≤ 1000000 ∧ ∀ c ∈ cs, ClOk ns c ∧ c.length = ns.length) fun cs ns M ws => Pd TT M (cs.map fun c => asc c ns) ws
theorem ok_checked_settings {f : Addr} {fd : FuncData} (F : Fun K "checked_settings" "checked_settings" s_checked_settings f fd) (T : Gc mg) (c_first_wrong : Cal P w K mg base 3 "first_wrong" ["things", "names"] (sp_first_wrong K)) (c_ascending : Cal P w K mg base 1 "ascending" ["literals", "names"] (sp_ascending K)) :
    FnOk P w K mg base CX0 4 f fd ["settings", "names"] (sp_checked_settings K) := by
  refine F.ok sc_checked_settings (fun vs H Q E h => ?_) (fun cdv A outer s H vs Q E hr h => ?_)
  · obtain ⟨x, y, M, v, w, rfl, _⟩ := h
    rfl
  · obtain ⟨cs, ns, M, v, w, rfl, mh, r1, r2, ⟨hsh, hcl, hok⟩, q⟩ := h
    have hu := hr.units
    refine ⟨_, (pss_cons (ps_set (i := 2) sc_checked_settings.nd rfl (by first | exact .inl rfl | exact .inr rfl) (pe_lst pa_nil))
      (pss_cons (ps_for PassesOwn.never (by rfl) (pi_en (by rfl) T.enumerate (pa_cons (pv 0) pa_nil)) (pg_tup (by rfl) (pgs_cons (pg_name (i := 3) sc_checked_settings.nd rfl (by first | exact .inl rfl | exact .inr rfl)) (pgs_cons (pg_name (i := 4) sc_checked_settings.nd rfl (by first | exact .inl rfl | exact .inr rfl)) pgs_nil))) (pss_cons (ps_if (PW.pt (pw_or (pt_cmp (pc_notN (pe_f c_first_wrong (hr.mono (by decide)) (pa_cons (pv 4) (pa_cons (pv 1) pa_nil))))) (pw_or1 (pt_cmpR (op_neP hu) (pe_callB call_lenA (by rfl) T.len boot_len (pa_cons (pv 4) pa_nil)) (pe_callB call_lenA (by rfl) T.len boot_len (pa_cons (pv 1) pa_nil)) (nomark _))))) (pss_one ps_never) pss_nil)
      (pss_one (ps_expr (pe_bm PySem.F.plainAttrs_list PySem.F.slot_list_append PySem.F.type_list_append mt_append (pv 2) (pa_cons (pe_f c_ascending (hr.mono (by decide)) (pa_cons (pv 4) (pa_cons (pv 1) pa_nil))) pa_nil))))))
      (pss_one (ps_ret (pv 2))))), ?_⟩
    refine q_asgL mh gl_nil fun p vs M2 H2 g2 h0 m0 hp2 hv => ?_
    subst hv
    refine q_forE (R1 := SqR K Tx) (xs := cs) g2.mh (gv_var rfl (Mon.mono g2.mm r1))
      (fun M1' i σ' M' H' => ∃ y3 y4 ws, Gr M H M' H' ∧ Same M1' M' ∧ Own H M' H' p ws ∧ Pd TT M' ((cs.take i).map fun c => asc c ns) ws ∧ σ' = [some v, some w, some (.ref p), y3, y4])
      (fun M3 H3 g3 => ⟨none, none, [], g2.trans g3, Same.refl _, Own.step ⟨h0, m0, hp2⟩ g3, .nil, rfl⟩) (fun M3 i σ' M' H' ⟨_, _, _, g, s1, _⟩ => ⟨s1, g.mh⟩) ?_ ?_
    · rintro M3 i c v' σ' M' H' H'' sM hx ⟨y3, y4, ws, g, s1, ow, hpd, rfl⟩ gE rx
      have hxm := List.mem_of_getElem? hx
      have hil : i < cs.length := (List.getElem?_eq_some_iff.mp hx).1
      obtain ⟨d, hd, hshd, hfw⟩ := cl_d rx (hok c hxm).1
      have g' := g.trans gE
      have ow' := ow.step gE
      have r2' : SqR K Tx ns M' w := Mon.mono g.mm r2
      refine q_if0 (b := false) g'.mh (gt_is (gt_or (b := false) (c := false) (gt_B (gv_is (gv_notN (b := true) (gv_call2 (R1 := Dd K) (R2 := SqR K Tx) (gv_var rfl hd) (gv_var rfl r2') hshd) fun M4 v4 h4 => ?_) fun _ _ h => h)) fun _ => gt_is (gt_test (gv_eqT (K := K) (neg := true) py_int inj_int (gv_lenA (K := K) (R := Tx) (gv_var rfl rx)) (gv_lenA (K := K) (R := Tx) (gv_var rfl r2')) (by simp [PyData.depth]))) (by rw [(hok c hxm).2]; simp)) rfl) (fun hb => nomatch hb) (fun _ H4 hh4 => ?_)
      · have h4' : v4 = match firstWrong ns d with | none => V.non | some i => V.int (i : Nat) := h4
        rw [hfw] at h4'
        rw [h4']
        rfl
      · have g4 := g'.trans (.idle g'.mh hh4)
        have ow4 := ow'.idle hh4
        have hwl : ws.length = i := by rw [← hpd.length, List.length_map, List.length_take]; omega
        refine s_app (P := TT (asc c ns)) g4.mh rfl ow4.h (szL (by omega)) (gv_call2 (R1 := CtR K) (R2 := SqR K Tx) (gv_var rfl (.inl rx)) (gv_var rfl r2') hsh) fun v5 M5 H5 g5 r5 => ?_
        have ow5 := ow4.step g5
        refine ⟨M5, _, _, ws ++ [v5], (g4.trans g5).mut ow5.h0 ow5.m, s1.trans g5.mm, ow5.put, ?_, rfl⟩
        rw [List.take_add_one, hx, List.map_append]
        exact pd_app (hpd.mono g5.mm) (.cons r5 .nil)
    · rintro M3 σ' M' H' sM ⟨y3, y4, ws, g, s1, ow, hpd, rfl⟩
      rw [List.take_length] at hpd
      exact ⟨.ref p, rfl, q p ws M' H' g ow.h0 ow.m ow.h hpd⟩
abbrev s_Rule_init : Stmt := inClass (topS 19) 0
theorem sc_Rule_init : FnScope ["self", "signs", "settings", "setting"] ["self", "signs", "settings"] (defScope s_Rule_init) := ⟨rfl, rfl, rfl, by decide +kernel, rfl, by decide +kernel, by decide +kernel⟩
structure RuleOk (ns : List Str) (ss : List (List Str)) : Prop where
  s : NamesOk ns []
  k : ns.length ≤ 6
  n : ss.length ≤ 1000000
  c : ∀ c ∈ ss, ClOk ns c ∧ c.length = ns.length
def sp_Rule_init (K : PySem.W.Frag) (C : Addr) : Sp := fun vs H Q _ => ∃ ns ss M Hb x dx v1 v2, vs = [.ref x, v1, v2] ∧ Gr M Hb M H ∧ Hb x = none ∧ M x = none ∧ H x = some (.ins C dx []) ∧
  SqR K Tx ns M v1 ∧ SqR K (SqR K Tx) ss M v2 ∧ RuleOk ns ss ∧ ∀ M' H', Gr M Hb M' H' → RuleR C (mkRule ns ss) M' (.ref x) → Q .non H'
theorem ok_Rule_init {f C : Addr} {fd : FuncData} (F : Fun K "__init__" "Rule.__init__" s_Rule_init f fd) (T : Ge mg) (TC : RuleT K mg C) (c_checked_names : Cal P w K mg base 2 "checked_names" ["things", "known"] (sp_checked_names K)) (c_checked_settings : Cal P w K mg base 4 "checked_settings" ["settings", "names"] (sp_checked_settings K)) :
    FnOk P w K mg base CX0 5 f fd ["self", "signs", "settings"] (sp_Rule_init K C) := by
  refine F.ok sc_Rule_init (fun vs H Q E h => ?_) (fun cdv A outer s H vs Q E hr h => ?_)
  · obtain ⟨_, _, _, _, _, _, _, _, rfl, _⟩ := h
    rfl
  · obtain ⟨ns, ss, M, Hb, x, dx, v1, v2, rfl, g0, hb, hm, hx, r1, r2, ok, q⟩ := h
    have hu := hr.units
    obtain ⟨tk, hL⟩ := T.g_MOST_SIGNS
    refine ⟨_, (pss_cons (ps_fld (pv 0) (pe_f c_checked_names (hr.mono (by decide)) (pa_cons (pv 1) (pa_cons (pe_tup pa_nil) pa_nil))) rfl)
      (pss_cons (ps_if (pt_cmpR op_gt (pe_callB call_lenA (by rfl) T.len boot_len (pa_cons (pe_fld (pv 0) rfl) pa_nil)) (pe_glob (v := .int 6) (by rfl) hL ⟨_, rfl⟩) (nomark _)) (pss_one ps_never) pss_nil)
      (pss_one (ps_fld (pv 0) (pe_frz (pe_dcT (own := [("setting", 3)]) (g := (gName 3)) (tt := tYes) (tk := (tVar 3)) (tv := (tC (.bl true))) hu (by rfl) sc_Rule_init.nd (pi_sq (pe_f c_checked_settings (hr.mono (by decide)) (pa_cons (pv 2) (pa_cons (pe_fld (pv 0) rfl) pa_nil)))) (blkOk_by (by rfl)) (fun _ _ _ _ _ => (pg_name (i := 3) sc_Rule_init.nd rfl (by first | exact .inl rfl | exact .inr rfl))) (fun _ _ _ _ _ => pts_nil) (fun _ _ _ _ _ => (pv 3)) (fun _ _ _ _ _ => pe_bl))) rfl)))), ?_⟩
    refine q_fld (P := TT ns) g0.mh hm hx rfl TC.cl TC.nN (by decide) (gv_call2 (R1 := SqR K Tx) (R2 := SqR K Tx) (x := ns) (y := []) (gv_var rfl (Mon.mono (same_new hm) r1)) (gv_is gv_nilT fun _ _ h => h.sq) ok.s) fun vn M1 H1 g1 m1 rn => ?_
    have G1 := (g0.trans g1).mut (o := .ins C dx (putF "names" vn [])) hb m1
    have z1 : (putF "names" vn []).length ≤ 1 := putF_len (Nat.le_refl 0)
    have e1 := same_new (o := .ins C dx (putF "names" vn [])) m1
    have self1 : ∀ {M' : Hp}, Same (upd M1 x (.ins C dx (putF "names" vn []))) M' → Gv (tFld K (tVar 0) "names") (start ["self", "signs", "settings", "setting"] [.ref x, v1, v2]) M' (TT ns) := fun sm => gv_self (P := TT ns) rfl (sm _ _ upd_same) TC.cl TC.nN (by rw [lookup_putF, if_pos rfl]) (Mon.mono (e1.trans sm) rn)
    refine q_if0 (b := false) (same_lent G1.mh upd_same) (gt_is (gt_test (gv_gt (g := fun i j => .bl (decide (j < i))) (i := (ns.length : Int)) (j := 6) (gv_lenA (K := K) (R := Tx) (gv_is (self1 (Same.refl _)) fun _ _ h => h.sq)) (gv_c rfl))) (by have := ok.k; simp; omega)) (fun h => nomatch h) fun _ H2 hh2 => ?_
    have G2 := G1.trans (.idle G1.mh hh2)
    have hx2 := hh2 _ _ (upd_same (H := H1) (a := x) (o := .ins C dx (putF "names" vn [])))
    have hshort : Shorts ns := ⟨Nat.le_trans ok.k (by decide), fun n hn => Nat.le_trans (isNm_len (ok.s.2.1 n hn).1) (by decide)⟩
    refine s_fldF (ks := once (ss.map fun c => asc c ns)) G2.mh m1 hx2 rfl TC.cl TC.nA (lt1000 z1) (gv_frzT (gk_dcT (by show 3 < 4; decide) (gi_sq (K := K) (gv_is (gl_call2 (R1 := SqR K (SqR K Tx)) (R2 := SqR K Tx) (x := ss) (y := ns)
      (gv_var rfl (Mon.mono (g1.mm.trans e1) r2)) (gv_is (self1 (Same.refl _)) fun _ _ h => h.sq) ⟨hshort, ok.n, ok.c⟩).li fun _ _ h => h.sq)) (by rw [List.length_map]; exact szK ok.n))) fun va M3 H3 g3 m3 ra => ?_
    have G3 := ((G2.trans g3).mut (o := .ins C dx (ruleF vn va)) hb m3).freeze hb m3 upd_same
    have e3 := same_new (o := .ins C dx (ruleF vn va)) m3
    exact q _ _ G3 ⟨x, dx, vn, va, rfl, upd_same, Mon.mono (g3.mm.trans e3) rn, Mon.mono e3 ra⟩
structure RuleW (r : RuleD) : Prop where
  k : r.names.length ≤ 6
  s : Shorts r.names
abbrev s_Rule_settings : Stmt := inClass (topS 19) 2
theorem sc_Rule_settings : FnScope ["self", "setting"] ["self"] (defScope s_Rule_settings) := ⟨rfl, rfl, rfl, by decide +kernel, rfl, by decide +kernel, by decide +kernel⟩
def sp_Rule_settings (K : PySem.W.Frag) (C : Addr) : Sp := sp1 (RuleR C) RuleW fun r => LiR TT r.settings
theorem ok_Rule_settings {f C : Addr} {fd : FuncData} (F : Fun K "settings" "Rule.settings" s_Rule_settings f fd) (T : Ge mg) (TC : RuleT K mg C) (c_full_settings : Cal P w K mg base 1 "full_settings" ["names"] (sp_full_settings K)) : FnOk P w K mg base CX0 2 f fd ["self"] (sp_Rule_settings K C) := by
  refine F.ok sc_Rule_settings (fun vs H Q E h => ?_) (fun cdv A outer s H vs Q E hr h => ?_)
  · obtain ⟨x, M, v, rfl, _⟩ := h
    rfl
  · obtain ⟨r, M, v, rfl, mh, r1, hw, q⟩ := h
    have hu := hr.units
    refine ⟨_, (pss_one (ps_ret (pe_lc (own := [("setting", 1)]) (g := (gName 1)) (tt := (tTest (tOp (rInA K false) (tVar 1) (tFld K (tVar 0) "allowed")))) (te := (tVar 1)) (by rfl) sc_Rule_settings.nd (pi_sq (pe_f c_full_settings (hr.mono (by decide)) (pa_cons (pe_fld (pv 0) rfl) pa_nil))) (blkOk_by (by rfl)) (fun _ _ _ _ _ => (pg_name (i := 1) sc_Rule_settings.nd rfl (by first | exact .inl rfl | exact .inr rfl))) (fun _ _ _ _ _ => (pts_one (pt_cmpR (op_inA hu) (pv 1) (pe_fld (pv 0) rfl) (by rfl)))) (fun _ _ _ _ _ => (pv 1))))), ?_⟩
    refine s_ret mh (gv_is (gl_c1 (S := TT) (R := TT) (xs := fulls r.names) (gi_sq (K := K) (gv_is (gv_call1 (R1 := SqR K Tx) (pre := fun ns => ns.length ≤ 6 ∧ Shorts ns) (R := fun ns => LiR TT (fulls ns)) (gv_is (gv_rnames TC (gv_var rfl r1)) fun _ _ h => h.sq) ⟨hw.k, hw.s⟩) fun _ _ h => h.sq)) ?_ (fun s => decide (s ∈ r.allowed)) id
      (fun s _ M1 u sm ru => gt_is (gt_test (gv_inDtF (K := K) (gv_var rfl ru) (gv_rallowed TC (gv_var rfl (Mon.mono sm r1))))) (by simp)) fun s _ _ M1 u sm ru => gv_var rfl ru).li fun M' v' h => by rw [List.map_id] at h; exact h) q
    rw [fulls_len]
    exact szM (Nat.le_trans (Nat.pow_le_pow_right (by decide) hw.k) (by decide))
abbrev s_Rule_forced : Stmt := inClass (topS 19) 17
theorem sc_Rule_forced : FnScope ["self", "setting", "wrong"] ["self", "setting"] (defScope s_Rule_forced) := ⟨rfl, rfl, rfl, by decide +kernel, rfl, by decide +kernel, by decide +kernel⟩
def sp_Rule_forced (K : PySem.W.Frag) (C : Addr) : Sp := sp2 (RuleR C) (SqR K Tx) (fun r h => RuleW r ∧ ClOk r.names h) fun r h => OpR' (LiR Tx) (forcedL r.settings h)
theorem settings_len {r : RuleD} (h : RuleW r) : r.settings.length ≤ 64 := by
  refine Nat.le_trans (List.length_filter_le _ _) ?_
  rw [fulls_len]
  exact Nat.le_trans (Nat.pow_le_pow_right (by decide) h.k) (by decide)
theorem settings_each {r : RuleD} (h : RuleW r) : ∀ s ∈ r.settings, s.length ≤ 6 := fun s hs => by rw [fulls_each _ s (List.mem_filter.mp hs).1]; exact h.k
theorem ok_Rule_forced {f C : Addr} {fd : FuncData} (F : Fun K "forced" "Rule.forced" s_Rule_forced f fd) (T : Ge mg) (TC : RuleT K mg C) (c_first_wrong : Cal P w K mg base 3 "first_wrong" ["things", "names"] (sp_first_wrong K)) (c_forced_literals : Cal P w K mg base 1 "forced_literals" ["settings", "setting"] (sp_forced_literals K))
    (m_settings : Met P w K mg base 2 C "settings" ["self"] (sp_Rule_settings K C)) : FnOk P w K mg base CX0 4 f fd ["self", "setting"] (sp_Rule_forced K C) := by
  refine F.ok sc_Rule_forced (fun vs H Q E h => ?_) (fun cdv A outer s H vs Q E hr h => ?_)
  · obtain ⟨x, y, M, v, w, rfl, _⟩ := h
    rfl
  · obtain ⟨r, h, M, v, w, rfl, mh, r1, r2, ⟨hw, hok⟩, q⟩ := h
    have hu := hr.units
    refine ⟨_, (pss_cons (ps_set (i := 2) sc_Rule_forced.nd rfl (by first | exact .inl rfl | exact .inr rfl) (pe_f c_first_wrong (hr.mono (by decide)) (pa_cons (pv 1) (pa_cons (pe_fld (pv 0) rfl) pa_nil))))
      (pss_cons (ps_if (pt_cmp (pc_notN (pv 2))) (pss_one ps_never) pss_nil)
      (pss_one (ps_ret (pe_f c_forced_literals (hr.mono (by decide)) (pa_cons (pe_m0 m_settings (hr.mono (by decide)) (pv 0)) (pa_cons (pv 1) pa_nil))))))), ?_⟩
    obtain ⟨d, hd, hsd, hfw⟩ := cl_d r2 hok
    refine q_asg (P := OpN none) mh (gv_is (gv_call2 (R1 := Dd K) (R2 := SqR K Tx) (gv_var rfl hd) (gv_is (gv_rnames TC (gv_var rfl r1)) fun _ _ h => h.sq) hsd) fun M v h => by rw [← hfw]; exact h) fun v1 M1 H1 g1 h1 => ?_
    refine q_if0 (b := false) g1.mh (gt_B (gv_notN (b := true) (gv_var (P := OpN none) rfl h1) fun M v h => by rw [show v = .non from h]; rfl)) (fun h => nomatch h) fun _ H2 hh2 => ?_
    have g2 := g1.trans (.idle g1.mh hh2)
    refine s_ret g2.mh (gv_call2 (R1 := SqR K TT) (R2 := SqR K Tx) (x := r.settings) (y := h) (gv_is (gv_met1 (R1 := RuleR C) (pre := RuleW) (R := fun r => LiR TT r.settings) (insR_rule (by decide +kernel) (by decide +kernel)) (gv_var rfl (Mon.mono g1.mm r1)) hw) fun _ _ h => h.sq) (gv_var rfl (Mon.mono g1.mm r2)) ⟨?_, hok.2.1, fun s hs => ?_⟩) fun u M' H' g r => q u M' H' (g2.trans g) r
    · exact Nat.le_trans (settings_len hw) (by decide)
    · exact Nat.le_trans (settings_each hw s hs) (by decide)
abbrev s_Rule_shortest : Stmt := inClass (topS 19) 18
theorem sc_Rule_shortest : FnScope ["self"] ["self"] (defScope s_Rule_shortest) := ⟨rfl, rfl, rfl, by decide +kernel, rfl, by decide +kernel, by decide +kernel⟩
def sp_Rule_shortest (K : PySem.W.Frag) (C : Addr) : Sp := sl1 (RuleR C) RuleW fun r M ws => Pd TT M (shortestL r.names r.settings) ws
theorem shortP_len (ss found : List (List Str)) (c : List Str) : (shortP ss found c).length ≤ found.length + 1 := by
  unfold shortP
  split
  · simp
  · omega
theorem short_take {ss : List (List Str)} {xs : List (List Str)} {i : Nat} {c : List Str} (h : xs[i]? = some c) : (xs.take (i + 1)).foldl (shortP ss) [] = shortP ss ((xs.take i).foldl (shortP ss) []) c := by
  rw [List.take_add_one, h, List.foldl_append]
  rfl
theorem short_len (ss xs : List (List Str)) : (xs.foldl (shortP ss) []).length ≤ xs.length := by
  have go : ∀ (xs acc : List (List Str)), (xs.foldl (shortP ss) acc).length ≤ acc.length + xs.length := by
    intro xs
    induction xs with
    | nil => intro acc; exact Nat.le_refl _
    | cons x xs ih =>
      intro acc
      have h1 := ih (shortP ss acc x)
      have h2 := shortP_len ss acc x
      rw [List.foldl_cons, List.length_cons]
      omega
  simpa using go xs []
theorem short_sub (ss xs : List (List Str)) : ∀ c ∈ xs.foldl (shortP ss) [], c ∈ xs := by
  have go : ∀ (xs acc : List (List Str)), ∀ c ∈ xs.foldl (shortP ss) acc, c ∈ acc ∨ c ∈ xs := by
    intro xs
    induction xs with
    | nil => intro acc c h; exact .inl h
    | cons x xs ih =>
      intro acc c h
      rw [List.foldl_cons] at h
      rcases ih _ c h with h | h
      · unfold shortP at h
        split at h
        · rcases List.mem_append.mp h with h | h
          · exact .inl h
          · rw [List.mem_singleton.mp h]; exact .inr (List.mem_cons_self ..)
        · exact .inl h
      · exact .inr (List.mem_cons_of_mem _ h)
  intro c h
  rcases go xs [] c h with h | h
  · cases h
  · exact h
theorem halves_each {ns : List Str} (n6 : ns.length ≤ 6) : ∀ c ∈ halves ns, c.length ≤ 6 := by
  have go : ∀ (m : Nat) (lv : List (List Str × Nat)) (found : List (List Str)), HvI ns lv found m → (∀ c ∈ found, c.length ≤ 6) → ∀ c ∈ halves ns, c.length ≤ 6 := by
    intro m
    induction m using Nat.strongRecOn with
    | ind m ih =>
      intro lv found h hf
      obtain ⟨m', h1, h2⟩ := h.step n6
      have hf' : ∀ c ∈ found ++ (nextH ns lv).map (·.1), c.length ≤ 6 := fun c hc => by
        rcases List.mem_append.mp hc with hc | hc
        · exact hf c hc
        · obtain ⟨p, hp, rfl⟩ := List.mem_map.mp hc
          have := h2.up p hp
          omega
      rcases h1 with h1 | h1
      · exact ih m' h1 _ _ h2 hf'
      · rw [h1] at h2 hf'
        rw [← h2.end_]
        exact hf'
  exact go _ _ _ (HvI.init n6) (by simp)
end
end My

set_option Elab.async false
set_option linter.all false
set_option maxRecDepth 100000
set_option maxHeartbeats 8000000
namespace My
open PySem PySem.Spec PyProof.Rows L2 L3
def isDrawn (due : List (List Str)) (h : List Str) (l : Str) : Bool := due.any fun c => liesIn c (h.map opp ++ [l])
/-- where the walk of a setting goes on: behind its last name -/
def LastI (ns : List Str) (p : List Str × Nat) : Prop := (p.1 = [] ∧ p.2 = 0) ∨ ∃ s l a, p.1 = s ++ [l] ∧ p.2 = a + 1 ∧ a < ns.length ∧ nameOf l = ns.getD a "" ∧ l.length ≤ 9
theorem neg_len (n : Str) : (("-" : Str) ++ n).length = n.length + 1 := by
  rw [← SX.S_tl n, neg_S, SX.S_len, List.length_cons, SX.S_len]
theorem getD_at {ns : List Str} {a : Nat} (h : a < ns.length) : ns[a]? = some (ns.getD a "") := by rw [List.getD_eq_getElem?_getD, List.getElem?_eq_getElem h]; rfl
theorem last_next {ns : List Str} {lv : List (List Str × Nat)} (nm : NmL ns) : ∀ p ∈ nextH ns lv, LastI ns p := fun p hp => by
  obtain ⟨r, hr, hp⟩ := List.mem_flatMap.mp hp
  obtain ⟨a, l, h1, h2, h3, rfl⟩ := mem_stepH hp
  have hn := nm.nm _ (List.mem_of_getElem? (getD_at h2))
  have hl := nm_len hn
  refine .inr ⟨r.1, l, a, rfl, rfl, h2, ?_⟩
  rcases h3 with e | e
  · rw [e, nameOf_nm hn]; exact ⟨rfl, by omega⟩
  · rw [e, nameOf_neg hn]; exact ⟨rfl, by rw [neg_len]; omega⟩
theorem drop_map (ns : List Str) (k : Nat) : ns.drop k = (List.range' k (ns.length - k)).map fun a => ns.getD a "" := by
  apply List.ext_getElem
  · simp
  · intro j h1 h2
    rw [List.length_drop] at h1
    rw [List.getElem_drop, List.getElem_map, List.getElem_range', Nat.one_mul, List.getD_eq_getElem?_getD, List.getElem?_eq_getElem (by omega)]
    rfl
theorem step_drop (ns : List Str) (p : List Str × Nat) : (stepH ns p).map (·.1) = (ns.drop p.2).flatMap fun n => [p.1 ++ [n], p.1 ++ [("-" : Str) ++ n]] := by
  unfold stepH
  rw [drop_map, List.map_flatMap, List.flatMap_map]
  rfl
section
variable {P : Program} {w : World} {K : PySem.W.Frag} {mg : Str → Option Value} {base : Heap}
def sp__law_bare (K : PySem.W.Frag) : Sp := sp1 Tx (fun x => x.length ≤ 1000) fun x => Tx (nameOf x)
def sp__law_within (K : PySem.W.Frag) : Sp := sp2 (SqR K Tx) (CtR K) (fun p _ => p.length ≤ 1000000) fun p c => Bl (liesIn p c)
def sp__law_meets (K : PySem.W.Frag) : Sp := sp2 (SqR K Tx) (CtR K) (fun p _ => p.length ≤ 1000000) fun p c => Bl (meets p c)
def sp__law_forced (K : PySem.W.Frag) : Sp := sp2 (SqR K TT) (SqR K Tx) (fun ss h => ss.length ≤ 1000000 ∧ h.length ≤ 1000000 ∧ ∀ s ∈ ss, s.length ≤ 1000000) fun ss h => OpR' (LiR Tx) (forcedL ss h)
def sp__law_is_drawn (K : PySem.W.Frag) : Sp := sp3 (LiR TT) (SqR K Tx) Tx (fun due h l => due.length ≤ 16000000 ∧ (∀ c ∈ due, c.length ≤ 1000000) ∧ h.length ≤ 1000000 ∧ (∀ x ∈ h, x.length ≤ 1000)) fun due h l => Bl (isDrawn due h l)
end
end My

set_option Elab.async false
set_option linter.all false
set_option maxRecDepth 100000
set_option maxHeartbeats 8000000
namespace My
open PySem PySem.Spec PyProof.Rows L2 L3
theorem fullP_take {acc : List (List Str)} {i : Nat} {s n : Str} {z : List Str} (h : acc[i]? = some z) : fullP (acc.take (i + 1)) n = fullP (acc.take i) n ++ [z ++ [n], z ++ [("-" : Str) ++ n]] := by
  unfold fullP
  rw [take_flat _ h]
  rfl
theorem fullP_len (acc : List (List Str)) (n : Str) : (fullP acc n).length = 2 * acc.length := flat2_len acc (fun s => s ++ [n]) (fun s => s ++ [("-" : Str) ++ n])
section
variable {K : PySem.W.Frag} {σ : Sl} {M : Hp} {ta tb : TE}
/-- [z + (n,), z + ("-" + n,)] -/
theorem gl_both {i j : Nat} {z : List Str} {n : Str} (hz : Gv (tVar i) σ M (TT z)) (hn : Gv (tVar j) σ M (Tx n)) (l1 : z.length ≤ 1000000) (l2 : n.length ≤ 1000000) :
    GvL (tLst (tCons (tOp (rAddA K) (tVar i) (tTup (tCons (tVar j) tNil))) (tCons (tOp (rAddA K) (tVar i) (tTup (tCons (tOp (rAddA K) (tC (.str "-")) (tVar j)) tNil))) tNil))) σ M fun M ws => Pd TT M [z ++ [n], z ++ [("-" : Str) ++ n]] ws :=
  gl_twoL (R := TT) (gv_addTT (K := K) hz (gv_tup1 hn) (szM (by simp only [List.length_cons, List.length_nil]; omega))) (gv_addTT (K := K) hz (gv_tup1 (gv_addSt (K := K) (gv_c rfl) hn (szM (by show 1 + n.length ≤ _; omega)))) (szM (by simp only [List.length_cons, List.length_nil]; omega)))
theorem gv_minus {i : Int} (h : Gv ta σ M (It' i)) : Gv (tUn (rU fun i => .int (-i)) ta) σ M (It' (-i)) := fun H mh Q q => h H mh _ fun v M1 H1 g1 e => ⟨i, e, q _ M1 H1 g1 rfl⟩
theorem s_par2 {H : Hp} {D : Ends} {ta : TA} {i j : Nat} (h : ta σ H fun vs H1 => ∃ u v, vs = [u, v] ∧ D.nx ((σ.set i (some u)).set j (some v)) H1) : tPar i j ta D σ H := h
/-- names.index(x) -/
theorem gv_index {ns : List Str} {x : Str} {a : Nat} (h : Gv ta σ M (LstR K Tx ns)) (hx : Gv tb σ M (Tx x)) (nd : ns.Nodup) (ha : ns[a]? = some x) : Gv (tBM K "list" (rIndex K) ta (tCons tb tNil)) σ M (NtR a) := fun H mh Q q =>
  h H mh _ fun v M1 H1 g1 ⟨p, vs, e, hs, hp⟩ => by
    subst e
    refine ⟨.inl ⟨rfl, _, sl_mono g1.mh hs⟩, hx.le g1.mm H1 g1.mh _ fun y M2 H2 g2 e2 => ?_⟩
    cases (show y = _ from e2)
    have ev := pd_tx hp
    subst ev
    refine ⟨p, ns.map V.str, .str x, a, .str x, rfl, rfl, sl_mono (g1.mh.trans g2.hh) hs, rfl, ?_, by rw [List.getElem?_map, ha]; rfl, ?_, fun m z' hm hz' => ?_, q _ M2 H2 (g1.trans g2) rfl⟩
    · rw [List.all_map]; exact List.all_eq_true.mpr fun _ _ => rfl
    · simp [eqV]
    · rw [List.getElem?_map] at hz'
      obtain ⟨y, hy, rfl⟩ := Option.map_eq_some_iff.mp hz'
      have hne : ¬ y = x := fun e => by
        subst e
        have h1 := (List.getElem?_eq_some_iff.mp hy)
        have h2 := (List.getElem?_eq_some_iff.mp ha)
        exact absurd (List.getElem_inj nd |>.mp (h1.2.trans h2.2.symm)) (by omega)
      simp [eqV, hne]
end
section
variable {P : Program} {w : World} {K : PySem.W.Frag} {mg : Str → Option Value} {base : Heap}
abbrev s__law_fulls : Stmt := topS 30
theorem sc__law_fulls : FnScope ["_law_names_here", "_law_found", "_law_name", "_law_longer", "_law_one"] ["_law_names_here"] (defScope s__law_fulls) := ⟨rfl, rfl, rfl, by decide +kernel, rfl, by decide +kernel, by decide +kernel⟩
def sp__law_fulls (K : PySem.W.Frag) : Sp := sp1 (SqR K Tx) (fun ns => ns.length ≤ 6 ∧ Shorts ns) fun ns => LiR TT (fulls ns)
theorem ok__law_fulls {f : Addr} {fd : FuncData} (F : Fun K "_law_fulls" "_law_fulls" s__law_fulls f fd) (T : Gc mg) : FnOk P w K mg base CX0 1 f fd ["_law_names_here"] (sp__law_fulls K) := by
  refine F.ok sc__law_fulls (fun vs H Q E h => ?_) (fun cdv A outer s H vs Q E hr h => ?_)
  · obtain ⟨x, M, v, rfl, _⟩ := h
    rfl
  · obtain ⟨ns, M, v, rfl, mh, r1, ⟨h6, hsh⟩, q⟩ := h
    have hu := hr.units
    refine ⟨_, (pss_cons (ps_set (i := 1) sc__law_fulls.nd rfl (by first | exact .inl rfl | exact .inr rfl) (pe_lst (pa_cons (pe_tup pa_nil) pa_nil)))
      (pss_cons (ps_for PassesOwn.never (by rfl) (pi_sq (pv 0)) (pg_name (i := 2) sc__law_fulls.nd rfl (by first | exact .inl rfl | exact .inr rfl)) (pss_cons (ps_set (i := 3) sc__law_fulls.nd rfl (by first | exact .inl rfl | exact .inr rfl) (pe_lst pa_nil))
      (pss_cons (ps_for PassesOwn.never (by rfl) (pi_sq (pv 1)) (pg_name (i := 4) sc__law_fulls.nd rfl (by first | exact .inl rfl | exact .inr rfl)) (pss_one (ps_expr (pe_bm PySem.F.plainAttrs_list PySem.F.slot_list_extend PySem.F.type_list_extend mt_extend (pv 3) (pa_cons (pe_lst (pa_cons (pe_op op_addA (pv 4) (pe_tup (pa_cons (pv 2) pa_nil))) (pa_cons (pe_op op_addA (pv 4) (pe_tup (pa_cons (pe_op op_addA pe_str (pv 2)) pa_nil))) pa_nil))) pa_nil)))))
      (pss_one (ps_set (i := 1) sc__law_fulls.nd rfl (by first | exact .inl rfl | exact .inr rfl) (pv 3))))))
      (pss_one (ps_ret (pv 1))))), ?_⟩
    refine q_asg (P := LiR TT [[]]) mh (gl_one gv_nilT).li fun v1 M1 H1 g1 p1 => ?_
    refine q_for (R1 := Tx) (xs := ns) g1.mh (gv_var rfl (Mon.mono g1.mm r1))
      (fun M1' i σ' M' H' => ∃ y2 y3 y4 u, Gr M H M' H' ∧ Same M1' M' ∧ LiR TT (fulls (ns.take i)) M' u ∧ σ' = [some v, some u, y2, y3, y4])
      (fun M2 H2 g2 => ⟨_, _, _, v1, g1.trans g2, Same.refl _, Mon.mono g2.mm p1, rfl⟩) (fun M2 i σ' M' H' ⟨_, _, _, _, g, s1, _⟩ => ⟨s1, g.mh⟩) ?_ ?_
    · rintro M2 i n u0 σ' M' H' sM hx ⟨y2, y3, y4, u, g, s1, p2, rfl⟩ rx
      cases rx
      have hi : i < ns.length := (List.getElem?_eq_some_iff.mp hx).1
      have hn : n.length ≤ 900 := hsh.2 n (List.mem_of_getElem? hx)
      have hle : (fulls (ns.take i)).length ≤ 64 := by
        rw [fulls_len, List.length_take]
        exact Nat.le_trans (Nat.pow_le_pow_right (by decide) (show min i ns.length ≤ 6 by omega)) (by decide)
      refine q_asgL g.mh gl_nil fun p3 vs3 M3 H3 g3 h03 m03 hw3 e3 => ?_
      subst e3
      have G3 := g.trans g3
      refine q_for (R1 := TT) (xs := fulls (ns.take i)) g3.mh (gv_var rfl (Mon.mono g3.mm p2).sq)
        (fun M1' j σ' M'' H'' => ∃ y4 ws, Gr M H M'' H'' ∧ Same M1' M'' ∧ Same M3 M'' ∧ Own H M'' H'' p3 ws ∧ Pd TT M'' (fullP ((fulls (ns.take i)).take j) n) ws ∧ σ' = [some v, some u, some (.str n), some (.ref p3), y4])
        (fun M4 H4 g4 => ⟨_, [], G3.trans g4, Same.refl _, g4.mm, Own.step ⟨g.hh.free h03, m03, hw3⟩ g4, .nil, rfl⟩) (fun M4 j σ' M' H' ⟨_, _, g, s1, _⟩ => ⟨s1, g.mh⟩) ?_ ?_
      · rintro M4 j z uz σ' M'' H'' sM4 hxz ⟨y4, ws, g4, s4, s3, ow, hpd, rfl⟩ rz
        have hzl := fulls_each _ z (List.mem_of_getElem? hxz)
        rw [List.length_take] at hzl
        have hjl : j < (fulls (ns.take i)).length := (List.getElem?_eq_some_iff.mp hxz).1
        have hwl : ws.length ≤ 128 := by rw [← hpd.length, fullP_len, List.length_take]; omega
        refine s_ext (K := K) (P := fun M ws => Pd TT M [z ++ [n], z ++ [("-" : Str) ++ n]] ws) g4.mh rfl ow.h (gl_both (K := K) (gv_var rfl rz) (gv_var rfl rfl) (by omega) (by omega)) (fun M5 ws5 h => ?_) fun ws5 M5 H5 g5 h5 => ?_
        · have := h.length
          simp only [List.length_cons, List.length_nil] at this
          exact szM (by omega)
        · have ow5 := ow.step g5
          refine ⟨M5, _, ws ++ ws5, (g4.trans g5).mut ow5.h0 ow5.m, s4.trans g5.mm, s3.trans g5.mm, ow5.put, ?_, rfl⟩
          rw [fullP_take (s := n) hxz]
          exact pd_app (hpd.mono g5.mm) h5
      · rintro M4 σ' M'' H'' sM4 ⟨y4, ws, g4, s4, s3, ow, hpd, rfl⟩
        rw [List.take_length] at hpd
        have G4 := g4.freeze ow.h0 ow.m ow.h
        refine s_asg (P := LiR TT (fulls (ns.take (i + 1)))) G4.mh (gv_var rfl ⟨p3, ws, rfl, upd_same, by rw [fulls_take hx]; exact hpd.mono ow.up⟩) fun u5 M5 H5 g5 p5 => ?_
        exact ⟨M5, _, _, _, u5, G4.trans g5, s1.trans (g3.mm.trans (s3.trans (ow.up.trans g5.mm))), p5, rfl⟩
    · rintro M2 σ' M' H' sM ⟨y2, y3, y4, u, g, s1, p2, rfl⟩
      rw [List.take_length] at p2
      exact ⟨u, rfl, q _ _ _ g p2⟩
def sp__law_halves (K : PySem.W.Frag) : Sp := sp1 (LstR K Tx) (fun ns => ns.length ≤ 6 ∧ NmL ns) fun ns => LiR TT (halves ns)
end
end My

set_option Elab.async false
set_option linter.all false
set_option maxRecDepth 100000
set_option maxHeartbeats 8000000
namespace My
open PySem PySem.Spec PyProof.Rows L2 L3
open L3.Strm
/-- a value as it is -/
abbrev VR : Rl V := fun x _ v => v = x
instance : Mon VR := ⟨fun _ h => h⟩
theorem pd_vr {M : Hp} : ∀ vs : List V, Pd VR M vs vs
  | [] => .nil
  | _ :: r => .cons rfl (pd_vr r)
theorem pd_perm {α : Type} {R : Rl α} {M : Hp} {vs us : List V} (h : us.Perm vs) : ∀ {xs : List α}, Pd R M xs vs → ∃ ys, ys.Perm xs ∧ Pd R M ys us := by
  induction h with
  | nil => intro xs h; cases h; exact ⟨[], .nil, .nil⟩
  | cons a _ ih =>
    intro xs h
    cases h with
    | cons r t =>
      obtain ⟨ys, h1, h2⟩ := ih t
      exact ⟨_ :: ys, h1.cons _, .cons r h2⟩
  | swap a b l =>
    intro xs h
    cases h with
    | cons r t =>
      cases t with
      | cons r' t' => exact ⟨_ :: _ :: _, .swap .., .cons r' (.cons r t')⟩
  | trans _ _ ih1 ih2 =>
    intro xs h
    obtain ⟨ys, h1, h2⟩ := ih2 h
    obtain ⟨zs, h3, h4⟩ := ih1 h2
    exact ⟨zs, h3.trans h1, h4⟩
section
variable {K : PySem.W.Frag} {S : Strm} {c c1 c2 k : Nat} {σ : Sl} {M H : Hp} {te t1 : TE} {tt : L2.TT} {tr : TA} {QA : List V → Hp → Prop} {P : Pr} {α : Type} {R : Rl α} {R1 : Rl α} {i : Nat}
theorem gls_call1d {good : α → Prop} {pre : α → Prop} {cs : α → Nat} {R : α → Hp → List V → Prop} (hi : σ[i]? = some (some (.ref S.a))) (h1 : GvS S c1 t1 σ M (Ex R1 good)) (hp : ∀ x, good x → pre x) (hc : ∀ x, good x → cs x ≤ c2) :
    GvLS S (c1 + c2) (tCall (slS1 R1 pre cs R) [] E0 (tCons (tVar i) (tCons t1 tNil))) σ M fun M ws => ∃ x, good x ∧ R x M ws := fun H k mh a Q q =>
  ⟨_, hi, h1 H (k + c2) mh (a.le (by omega)) _ fun v M1 H1 g1 a1 ⟨x, gx, rx⟩ => ⟨S, x, M1, v, k, rfl, g1.mh, a1.le (by have := hc x gx; omega), rx, hp x gx, fun p ws M' H' g a' h0 m0 hw r => q p ws M' H' (g1.trans g) a' (g1.hh.free h0) m0 hw ⟨x, gx, r⟩⟩⟩
/-- [x for x in xs if a drawn test] -/
theorem gls_sub [Mon R] {j n : Nat} {wi : TI} {G : List α → Prop} (hj : j < σ.length) (hsrc : GvIS S c1 wi σ M G R) (hn : ∀ xs, G xs → xs.length ≤ n) (hz : n ≤ sizeLine)
    (ht : ∀ xs, G xs → ∀ x ∈ xs, ∀ M1 v, Same M M1 → R x M1 v → GvTS S c2 tt ((wipe σ [j]).set j (some v)) M1 fun _ => True) :
    GvLS S (c1 + n * c2) (tLc wi (gName j) tt (tVar j) [j]) σ M fun M ws => ∃ xs ys, G xs ∧ ys.Sublist xs ∧ Pd R M ys ws := by
  intro H k mh at_ Q q
  refine hsrc H (k + n * c2) mh (at_.le (by omega)) _ fun J xs M1 H1 g1 a1 gx ⟨GG, Y, w, hG, hY⟩ D hD => ?_
  have hxn := hn xs gx
  have nD := a1.fresh hD
  refine turns_of w (fun i H' => ∃ M' ys ws, Gr M1 (S.cut H1) M' (S.cut H') ∧ S.At (k + (n - i) * c2) H' ∧ M' D = none ∧ S.cut H' D = some (.lst ws) ∧ ws.length ≤ i ∧ ys.Sublist (xs.take i) ∧ Pd R M' ys ws)
    ⟨M1, [], [], by rw [cut_upd nD]; exact .own g1.mh (a1.cutn hD), a1.upd nD, g1.mh.free (a1.cutn hD), by rw [cut_upd nD, upd_same], Nat.le_refl _, .slnil, .nil⟩ (fun i H' _ ⟨M', ys, ws, g, _⟩ => hG M' H' g.mm (g.mh.trans cut_same)) ?_ ?_
  · rintro i y H' H'' hi ⟨M', ys, ws, g, a', m0, hw', hl, hg, hpd⟩ hy
    obtain ⟨x, M0, hx, g0, rx⟩ := hY i M' H' y H'' g.mm (g.mh.trans cut_same) hi hy
    have hxm := List.mem_of_getElem? hx
    have et : xs.take (i + 1) = xs.take i ++ [x] := by rw [List.take_add_one, hx]; rfl
    have L0 := lift g.mh a' g0
    have gg := g.trans L0
    have ag := a'.same g0.hh
    have k0 : S.cut H'' D = some (.lst ws) := L0.hh _ _ hw'
    have m0' : M0 D = none := L0.keep m0 hw'
    have hni : n - i = (n - (i + 1)) + 1 := by omega
    refine ⟨wipe1, ht xs gx x hxm M0 y (g1.mm.trans gg.mm) rx H'' (k + (n - (i + 1)) * c2) gg.mh (ag.le (by rw [hni, Nat.add_mul]; omega)) _ fun b M3 H3 g3 a3 _ => ?_⟩
    have m3 : M3 D = none := g3.keep m0' k0
    have k3 := g3.hh _ _ k0
    have n3 := on_of k3
    have up3 : Same M' M3 := L0.mm.trans g3.mm
    cases b with
    | true =>
      rw [if_pos rfl]
      refine ⟨y, List.getElem?_set_self (by rw [wipe_length]; exact hj), ws, of_cut k3, Nat.lt_of_lt_of_le (Nat.lt_of_le_of_lt hl hi) (Nat.le_trans hxn hz), M3, ys ++ [x], ws ++ [y], by rw [cut_upd n3]; exact (gg.trans g3).mut (a1.cutn hD) m3, a3.upd n3, m3, by rw [cut_upd n3, upd_same], by rw [List.length_append]; exact Nat.succ_le_succ hl, ?_, ?_⟩
      · rw [et]; exact hg.append (.refl _)
      · exact pd_app (hpd.mono up3) (.cons (Mon.mono g3.mm rx) .nil)
    | false =>
      rw [if_neg (by simp)]
      refine ⟨M3, ys, ws, gg.trans g3, a3, m3, k3, Nat.le_succ_of_le hl, ?_, hpd.mono up3⟩
      rw [et]
      exact hg.trans (List.sublist_append_left _ _)
  · rintro H' ⟨M', ys, ws, g, a', m0, hw', hl, hg, hpd⟩
    rw [List.take_length] at hg
    exact q D ws M' H' (g1.trans g) (a'.le (by omega)) (g1.hh.free (a1.cutn hD)) m0 hw' ⟨xs, ys, gx, hg, hpd⟩
theorem tup_in {ta : TA} {Q : VK} (h : ta σ H fun vs H1 => vs.length ≤ sizeLine ∧ ∀ p, H1 p = none → Q (.ref p) (upd H1 p (.tup vs))) : tTup ta σ H Q := h
theorem q_asgG {D : Ends} {tz : TS} {g : TG} (h : te σ H fun v H1 => g v σ H1 fun σ' H2 => tz D σ' H2) : tSeq (tAsg te g) tz D σ H := h
end
section
variable {P : Program} {w : World} {K : PySem.W.Frag} {mg : Str → Option Value} {base : Heap}
def sp__law_shortest (K : PySem.W.Frag) : Sp := sp2 (LstR K Tx) (SqR K TT) (fun ns ss => (ns.length ≤ 6 ∧ NmL ns) ∧ ss.length ≤ 1000000) fun ns ss => LiR TT (shortestL ns ss)
/-- the things in a drawn order, whatever they are -/
def sp_mixG (K : PySem.W.Frag) {α : Type} (R : Rl α) : Sp := slS1 (SqR K R) (fun xs => xs.length ≤ 1000000) (fun xs => xs.length) fun xs M ws => ∃ ys, ys.Perm xs ∧ Pd R M ys ws
theorem ok_mixG {α : Type} {R : Rl α} [Mon R] {f : Addr} {fd : FuncData} (F : Fun K "_law_mixed" "_law_mixed" s__law_mixed f fd) (T : Gc mg) (c__law_draw : Cal P w K mg base 1 "_law_draw" ["_law_stream", "_law_many"] (sp__law_draw K)) : FnOk P w K mg base CX0 2 f fd ["_law_stream", "_law_things"] (sp_mixG K R) := by
  refine F.ok sc__law_mixed (fun vs H Q E h => ?_) (fun cdv A outer s H vs Q E hr h => ?_)
  · obtain ⟨S, x, M, v, k, rfl, _⟩ := h
    rfl
  · obtain ⟨S, xs, M, v, k, rfl, mh, at_, r1, h1, q⟩ := h
    refine ⟨_, (pss_cons (ps_set (i := 2) sc__law_mixed.nd rfl (by first | exact .inl rfl | exact .inr rfl) (pe_callTy call_lstA (by rfl) T.list boot_list (pa_cons (pv 1) pa_nil)))
      (pss_one (ps_ret (pe_lc (own := [("_law_k", 3)]) (g := (gName 3)) (tt := tYes) (te := (tBM K "list" rPopAt (tVar 2) (tCons (tCall (sp__law_draw K) [] E0 (tCons (tVar 0) (tCons (tCB (rLenA K) (tCons (tVar 2) tNil)) tNil))) tNil))) (by rfl) sc__law_mixed.nd (pi_range1 (by rfl) T.range (pa_cons (pe_callB call_lenA (by rfl) T.len boot_len (pa_cons (pv 2) pa_nil)) pa_nil)) (blkOk_by (by rfl)) (fun _ _ _ _ _ => (pg_name (i := 3) sc__law_mixed.nd rfl (by first | exact .inl rfl | exact .inr rfl))) (fun _ _ _ _ _ => pts_nil) (fun _ _ _ _ _ => (pe_bm PySem.F.plainAttrs_list PySem.F.slot_list_pop PySem.F.type_list_pop mt_popAt (pv 2) (pa_cons (pe_f c__law_draw (hr.mono (by decide)) (pa_cons (pv 0) (pa_cons (pe_callB call_lenA (by rfl) T.len boot_len (pa_cons (pv 2) pa_nil)) pa_nil))) pa_nil))))))), ?_⟩
    refine z_asgL (S := S) (c := 0) mh at_ (gl_lstOf (K := K) (R1 := R) (gv_var rfl r1)).s fun p vs M1 H1 g1 a1 hp0 hpm hpw hpd => ?_
    have hvl : vs.length = xs.length := hpd.length.symm
    have at1 : S.At (k + vs.length) H1 := by rw [hvl]; exact a1
    have hlen : Gv (tCB (rLenA K) (tCons (tVar 2) tNil)) [some (.ref S.a), some v, some (.ref p), none] (upd M1 p (.lst vs)) (It' (vs.length : Nat)) := gv_lenA (K := K) (R := VR) (gv_var rfl (.inl ⟨p, _, rfl, .inl (.inl upd_same), pd_vr vs⟩))
    have hdis : ∀ {D : Addr} {H2 : Hp} {o : HO}, H2 D = none → S.cut H2 p = some o → p ≠ D := fun hD hp z => by subst z; have := of_cut hp; rw [hD] at this; cases this
    refine lc_rngL hlen hpm (g1.mh.trans cut_same) (of_cut hpw) (by omega) ls_nt
      (fun D i M' H' => ∃ L zs : List V, Gr M (S.cut H) M' (S.cut H') ∧ Same M1 M' ∧ S.At (k + (vs.length - i)) H' ∧ S.cut H D = none ∧ M' D = none ∧ M' p = none ∧ p ≠ D ∧ S.cut H' D = some (.lst zs) ∧ S.cut H' p = some (.lst L) ∧ (zs ++ L).Perm vs ∧ zs.length = i) (fun M2 H2 D g2 hD => ?_) (fun D i M' H' hi => ?_) (fun D M' H' => ?_)
    · have g2' := lift g1.mh at1 g2
      have a2 := at1.same g2.hh
      have nD := a2.fresh hD
      have hp2 := g2'.hh _ _ hpw
      have hpD := hdis hD hp2
      have G2 := g1.trans g2'
      exact ⟨vs, [], by rw [cut_upd nD]; exact G2.trans (.own G2.mh (a2.cutn hD)), g2.mm, a2.upd nD, G2.hh.free (a2.cutn hD), G2.mh.free (a2.cutn hD), g2'.keep hpm hpw, hpD, by rw [cut_upd nD, upd_same], by rw [cut_upd nD, upd_ne hpD]; exact hp2, List.Perm.refl _, rfl⟩
    · rintro ⟨L, zs, g, s1, a', hD0, mD, mp, hpD, hwD, hwp, hper, hzl⟩
      have hLl : L.length = vs.length - i := by have := hper.length_eq; rw [List.length_append] at this; omega
      have e1 : k + (vs.length - i) = (k + (vs.length - (i + 1))) + 1 := by omega
      rw [e1] at a'
      refine ⟨.ref p, rfl, .inl ⟨rfl, _, .inl (.inl (of_cut hwp))⟩, ?_⟩
      refine GvS.lend (S := S) (c := 1) (P := Ex It' fun z => 0 ≤ z ∧ z < (L.length : Int)) (gs_call1 (S := S) (R1 := It') (pre := fun n => 0 < n ∧ n < 1073741824) (cs := fun _ => 1) (R := fun n => Ex It' fun i => 0 ≤ i ∧ i < n) (x := (L.length : Int)) rfl
        (gv_lenA (K := K) (R := VR) (gv_var rfl (.inl ⟨p, _, rfl, .inl (.inl upd_same), pd_vr L⟩))) ⟨by omega, by omega⟩) mp g.mh a' hwp ls_nt fun v3 M3 H3 g3 a3 ⟨z, hz, rz⟩ => ?_
      cases rz
      have hp3 := g3.hh _ _ hwp
      have hD3 := g3.hh _ _ hwD
      have hzn : z.toNat < L.length := by omega
      refine ⟨p, L, z, z.toNat, L[z.toNat], rfl, rfl, of_cut hp3, by omega, by omega, ?_, List.getElem?_eq_getElem hzn, ?_⟩
      · unfold seqIndex?
        simp only [if_neg (show ¬ z < 0 by omega)]
        rw [if_pos (by simp; omega)]
      · have np := on_of hp3
        have nD := on_of hD3
        refine ⟨zs, by rw [upd_ne (Ne.symm hpD)]; exact of_cut hD3, szL (by omega), M3, L.eraseIdx z.toNat, zs ++ [L[z.toNat]], ?_, s1.trans g3.mm, (a3.upd np).upd nD, hD0, g3.keep mD hwD, g3.keep mp hwp, hpD, ?_, ?_, ?_, by rw [List.length_append, hzl]; rfl⟩
        · rw [cut_upd nD, cut_upd np]
          exact ((g.trans g3).mut hp0 (g3.keep mp hwp)).mut hD0 (g3.keep mD hwD)
        · rw [cut_upd nD, upd_same]
        · rw [cut_upd nD, cut_upd np, upd_ne hpD, upd_same]
        · refine List.Perm.trans ?_ hper
          rw [List.append_assoc]
          exact List.Perm.append_left zs (erase_perm hzn)
    · rintro ⟨L, zs, g, s1, a', hD0, mD, mp, hpD, hwD, hwp, hper, hzl⟩
      have hL : L = [] := by
        have := hper.length_eq; rw [List.length_append] at this
        exact List.eq_nil_of_length_eq_zero (by omega)
      subst hL
      rw [List.append_nil] at hper
      exact q D _ M' H' g (a'.le (by omega)) hD0 mD hwD (pd_perm hper (hpd.mono s1))
end
end My

set_option Elab.async false
set_option linter.all false
set_option maxRecDepth 100000
set_option maxHeartbeats 8000000
namespace My
open PySem PySem.Spec PyProof.Rows L2 L3
open L3.Strm
section
variable {P : Program} {w : World} {K : PySem.W.Frag} {mg : Str → Option Value} {base : Heap}
abbrev s__law_drawn_rule : Stmt := topS 31
theorem sc__law_drawn_rule : FnScope ["_law_stream", "_law_most", "_law_signs", "_law_share", "_law_one"] ["_law_stream", "_law_most"] (defScope s__law_drawn_rule) := ⟨rfl, rfl, rfl, by decide +kernel, rfl, by decide +kernel, by decide +kernel⟩
def DrawnRule (m : Int) (x : List Str × List (List Str)) : Prop := NmL x.1 ∧ (x.1.length : Int) ≤ m ∧ x.2.Sublist (fulls x.1)
def sp__law_drawn_rule (K : PySem.W.Frag) : Sp := spS1 It' (fun m => 0 ≤ m ∧ m ≤ 6) (fun _ => 150) fun m => Ex (PrR K (LiR Tx) (LiR TT)) (DrawnRule m)
theorem ok__law_drawn_rule {f : Addr} {fd : FuncData} (F : Fun K "_law_drawn_rule" "_law_drawn_rule" s__law_drawn_rule f fd) (T : Gc mg) (c__law_draw : Cal P w K mg base 1 "_law_draw" ["_law_stream", "_law_many"] (sp__law_draw K)) (c__law_names : Cal P w K mg base 4 "_law_names" ["_law_stream", "_law_many"] (sp__law_names K))
    (c__law_fulls : Cal P w K mg base 1 "_law_fulls" ["_law_names_here"] (sp__law_fulls K)) : FnOk P w K mg base CX0 5 f fd ["_law_stream", "_law_most"] (sp__law_drawn_rule K) := by
  refine F.ok sc__law_drawn_rule (fun vs H Q E h => ?_) (fun cdv A outer s H vs Q E hr h => ?_)
  · obtain ⟨S, x, M, v, k, rfl, _⟩ := h
    rfl
  · obtain ⟨S, m, M, v, k, rfl, mh, at_, r1, ⟨m0, m6⟩, q⟩ := h
    have at_ : S.At (k + 150) H := at_
    cases (show v = _ from r1)
    have hu := hr.units
    refine ⟨_, (pss_cons (ps_asg (pe_tup (pa_cons (pe_f c__law_names (hr.mono (by decide)) (pa_cons (pv 0) (pa_cons (pe_f c__law_draw (hr.mono (by decide)) (pa_cons (pv 0) (pa_cons (pe_op op_addA (pv 1) pe_int) pa_nil))) pa_nil))) (pa_cons (pe_op op_addA pe_int (pe_f c__law_draw (hr.mono (by decide)) (pa_cons (pv 0) (pa_cons pe_int pa_nil)))) pa_nil))) (pg_tup (by rfl) (pgs_cons (pg_name (i := 2) sc__law_drawn_rule.nd rfl (by first | exact .inl rfl | exact .inr rfl)) (pgs_cons (pg_name (i := 3) sc__law_drawn_rule.nd rfl (by first | exact .inl rfl | exact .inr rfl)) pgs_nil))))
      (pss_one (ps_ret (pe_tup (pa_cons (pv 2) (pa_cons (pe_lc (own := [("_law_one", 4)]) (g := (gName 4)) (tt := (tTest (tOp (rI0 fun i j => .bl (decide (i < j))) (tCall (sp__law_draw K) [] E0 (tCons (tVar 0) (tCons (tC (.int 5)) tNil))) (tVar 3)))) (te := (tVar 4)) (by rfl) sc__law_drawn_rule.nd (pi_sq (pe_f c__law_fulls (hr.mono (by decide)) (pa_cons (pv 2) pa_nil))) (blkOk_by (by rfl)) (fun _ _ _ _ _ => (pg_name (i := 4) sc__law_drawn_rule.nd rfl (by first | exact .inl rfl | exact .inr rfl))) (fun _ _ _ _ _ => (pts_one (pt_cmpR op_lt (pe_f c__law_draw (hr.mono (by decide)) (pa_cons (pv 0) (pa_cons pe_int pa_nil))) (pv 3) (nomark _)))) (fun _ _ _ _ _ => (pv 4))) pa_nil)))))), ?_⟩
    refine q_asgG (tup_in (z_V (S := S) (k := k + 70) (c := 1 + 72) (P := Ex (LiR Tx) fun ns => NmL ns ∧ (ns.length : Int) ≤ m) mh (at_.le (by omega)) ((gls_call1d (S := S) (R1 := It') (good := fun z => 0 ≤ z ∧ z < m + 1) (pre := fun n => 0 ≤ n ∧ n ≤ 500) (cs := fun n => 12 * n.toNat) (R := fun n M ws => ∃ ys : List Str, NmL ys ∧ ys.length = n.toNat ∧ Pd Tx M ys ws) rfl (gs_draw (K := K) (n := m + 1) rfl (gv_addIn (K := K) (gv_var rfl rfl) (gv_c rfl)) (by omega) (by omega)) (fun z hz => ⟨hz.1, by omega⟩) (fun z hz => by omega)).gv
      fun M' vs p ⟨z, hz, ys, hp, hl, hpd⟩ mp => ⟨ys, ⟨hp, by omega⟩, p, vs, rfl, upd_same, hpd.mono (same_new mp)⟩) fun v1 M1 H1 g1 a1 ⟨ns, ⟨nm, hnl⟩, rn⟩ =>
      z_V (S := S) (k := k + 69) (c := 0 + 1) (P := Ex It' fun _ => True) g1.mh (a1.le (by omega)) (gs_op (c1 := 0) (c2 := 1) (P := It' 1) (P1 := Ex It' fun z => 0 ≤ z ∧ z < 4) (gv_c rfl).s (gs_draw (K := K) (n := 4) rfl (gv_c rfl) (by omega) (by omega)) fun M' u w pu ⟨z, hz, pw⟩ => fun H mh Q q => gv_addIn (K := K) (σ := []) (M := M') (ta := tC u) (tb := tC w) (gv_c pu) (gv_c pw) H mh Q fun v M' H' g r => q v M' H' g ⟨_, trivial, r⟩) fun v2 M2 H2 g2 a2 ⟨sh, _, r2⟩ =>
      a_nil ⟨by show 2 ≤ sizeLine; decide, fun p np => ⟨p, [v1, v2], rfl, .inl (.inl upd_same), rfl, v1, _, rfl, v2, _, rfl, rfl, ?_⟩⟩))
    cases (show v2 = _ from r2)
    have nD := a2.fresh np
    have G2 := g1.trans g2
    have G3 : Gr M (S.cut H) M2 (S.cut (upd H2 p (.tup [v1, .int sh]))) := by rw [cut_upd nD]; exact G2.trans (.own G2.mh (a2.cutn np))
    have a3 : S.At (k + 69) (upd H2 p (.tup [v1, .int sh])) := a2.upd nD
    have rn2 : LiR Tx ns M2 v1 := Mon.mono g2.mm rn
    revert G3 a3
    generalize upd H2 p (.tup [v1, .int sh]) = H3
    intro G3 a3
    have n6 : ns.length ≤ 6 := by omega
    have f64 : (fulls ns).length ≤ 64 := by
      rw [fulls_len]
      exact Nat.le_trans (Nat.pow_le_pow_right (by decide) n6) (by decide)
    refine tup_in (a_V (P := LiR Tx ns) (G3.mh.trans cut_same) (gv_var rfl rn2) fun v4 M4 H4 g4 p4 => z_V (S := S) (k := k) (c := 0 + 64 * (1 + 0)) (P := Ex (LiR TT) fun ss => ss.Sublist (fulls ns)) (lift G3.mh a3 g4).mh ((a3.same g4.hh).le (by omega)) ((gls_sub (S := S) (R := TT) (j := 4) (n := 64) (c1 := 0) (c2 := 1 + 0) (G := (· = fulls ns)) (by show 4 < 5; decide)
      (gis_sq (K := K) (R := TT) ((gv_call1 (R1 := SqR K Tx) (pre := fun ns => ns.length ≤ 6 ∧ Shorts ns) (R := fun ns => LiR TT (fulls ns)) (gv_var rfl (Mon.mono g4.mm rn2).sq) ⟨n6, nm_shorts nm⟩).s.is fun M v h => ⟨_, rfl, h.sq⟩)) (fun xs e => by rw [e]; exact f64) (by decide)
      fun xs _ x _ M5 v5 sm5 r5 => gts_test (P := fun _ v => ∃ b, v = .bl b) (gs_op (P := Ex It' fun z => 0 ≤ z ∧ z < 5) (P1 := It' sh) (gs_draw (K := K) (n := 5) rfl (gv_c rfl) (by omega) (by omega)) (gv_var rfl rfl).s fun M' u w ⟨z, _, pu⟩ pw => fun H mh Q q => gv_lt (σ := []) (M := M') (ta := tC u) (tb := tC w) (gv_c pu) (gv_c pw) H mh Q fun v M' H' g r => q v M' H' g ⟨_, r⟩) fun M v ⟨b, e⟩ => ⟨b, e, trivial⟩).gv
      fun M' vs p ⟨xs, ys, e, hs, hpd⟩ mp => ⟨ys, by rw [e] at hs; exact hs, p, vs, rfl, upd_same, hpd.mono (same_new mp)⟩) fun v6 M6 H6 g6 a6 ⟨ss, hss, r6⟩ => a_nil ⟨by show 2 ≤ sizeLine; decide, fun p6 np6 => ?_⟩)
    have nD6 := a6.fresh np6
    have G6 := (G3.trans (lift G3.mh a3 g4)).trans g6
    have up6 := same_new (o := .tup [v4, v6]) (G6.mh.free (a6.cutn np6))
    refine q _ (upd M6 p6 (.tup [v4, v6])) _ (by rw [cut_upd nD6]; exact G6.trans (.new G6.mh (a6.cutn np6))) (a6.upd nD6) ⟨(ns, ss), ⟨nm, hnl, hss⟩, p6, v4, v6, rfl, .inl (.inl upd_same), Mon.mono (g6.mm.trans up6) p4, Mon.mono up6 r6⟩
end
end My

set_option Elab.async false
set_option linter.all false
set_option maxRecDepth 100000
set_option maxHeartbeats 4000000
namespace My
open PySem PySem.Spec PyProof.Rows L2 L3
/-! full settings -/
def Side (n l : Str) : Prop := l = n ∨ l = ("-" : Str) ++ n
theorem fulls_paired {ns s : List Str} (h : s ∈ fulls ns) : Paired Side ns s := by
  have go : ∀ (ns : List Str) (acc : List (List Str)) (done : List Str), (∀ s ∈ acc, Paired Side done s) → ∀ s ∈ ns.foldl fullP acc, Paired Side (done ++ ns) s := by
    intro ns
    induction ns with
    | nil => intro acc done h s hs; rw [List.append_nil]; exact h s hs
    | cons n ns ih =>
      intro acc done h s hs
      rw [List.foldl_cons] at hs
      have := ih (fullP acc n) (done ++ [n]) (fun z hz => by
        obtain ⟨y, hy, hz⟩ := List.mem_flatMap.mp hz
        obtain ⟨l, hl, rfl⟩ := List.mem_map.mp hz
        exact pd_app (h y hy) (.cons (by show l = _ ∨ l = _; simpa using hl) .nil)) s hs
      rwa [List.append_assoc] at this
  exact go ns [[]] [] (fun s hs => by rw [List.mem_singleton.mp hs]; exact .nil) s h
theorem fulls_nodup {ns : List Str} (hn : ∀ n ∈ ns, isNm n = true) : (fulls ns).Nodup := by
  have go : ∀ (ns : List Str) (acc : List (List Str)), (∀ n ∈ ns, isNm n = true) → acc.Nodup → (ns.foldl fullP acc).Nodup := by
    intro ns
    induction ns with
    | nil => intro acc _ h; exact h
    | cons n ns ih =>
      intro acc hn h
      rw [List.foldl_cons]
      refine ih _ (fun m hm => hn m (List.mem_cons_of_mem _ hm)) ?_
      have hne := neg_ne (m := n) (hn n (List.mem_cons_self ..))
      unfold fullP
      induction acc with
      | nil => exact List.nodup_nil
      | cons a acc ih2 =>
        obtain ⟨h1, h2⟩ := List.nodup_cons.mp h
        rw [List.flatMap_cons, List.nodup_append]
        refine ⟨by simp [hne], ih2 h2, fun x hx y hy e => ?_⟩
        subst e
        obtain ⟨b, hb, hy⟩ := List.mem_flatMap.mp hy
        obtain ⟨l, _, e1⟩ := List.mem_map.mp hx
        obtain ⟨l', _, e2⟩ := List.mem_map.mp hy
        have := List.append_inj_left' (e1.trans e2.symm) rfl
        rw [this] at h1
        exact h1 hb
  exact go ns [[]] hn (by simp)
/-- what a setting says of each name -/
theorem side_name {n l : Str} (hn : isNm n = true) (h : Side n l) : nameOf l = n := by
  rcases h with e | e
  · rw [e, nameOf_nm hn]
  · rw [e, nameOf_neg hn]
theorem paired_side {ns s : List Str} (hn : ∀ n ∈ ns, isNm n = true) (h : Paired Side ns s) : s.map nameOf = ns := by
  induction h with
  | nil => rfl
  | cons r t ih =>
    rw [List.map_cons, side_name (hn _ (List.mem_cons_self ..)) r, ih fun m hm => hn m (List.mem_cons_of_mem _ hm)]
theorem side_lits {ns s : List Str} (nm : NmL ns) (h : Paired Side ns s) : Lits ns s := by
  refine ⟨by rw [paired_side nm.nm h]; exact nm.nd, ?_⟩
  have : ∀ {ms s : List Str}, Paired Side ms s → ∀ y ∈ s, ∃ n ∈ ms, y = n ∨ y = ("-" : Str) ++ n := by
    intro ms s h
    induction h with
    | nil => intro y hy; cases hy
    | cons r t ih =>
      intro y hy
      rcases List.mem_cons.mp hy with rfl | hy
      · exact ⟨_, List.mem_cons_self .., r⟩
      · obtain ⟨n, h1, h2⟩ := ih y hy
        exact ⟨n, List.mem_cons_of_mem _ h1, h2⟩
  exact this h
/-- one side of each name -/
theorem paired_mem {ns s : List Str} (h : Paired Side ns s) {n : Str} (hn : n ∈ ns) : n ∈ s ∨ ("-" : Str) ++ n ∈ s := by
  induction h with
  | nil => cases hn
  | cons r t ih =>
    rcases List.mem_cons.mp hn with e | hn
    · subst e
      rcases r with e | e
      · exact .inl (by rw [e]; exact List.mem_cons_self ..)
      · exact .inr (by rw [e]; exact List.mem_cons_self ..)
    · rcases ih hn with h | h
      · exact .inl (List.mem_cons_of_mem _ h)
      · exact .inr (List.mem_cons_of_mem _ h)
theorem lits_one {ns s : List Str} (nm : NmL ns) (h : Lits ns s) {n : Str} (hn : n ∈ ns) : ¬ (n ∈ s ∧ ("-" : Str) ++ n ∈ s) := fun ⟨a, b⟩ => by
  have hm := nm.nm n hn
  exact neg_ne hm (nodup_inj h.nd _ a _ b (by rw [nameOf_nm hm, nameOf_neg hm]))
theorem full_opp {ns s : List Str} (nm : NmL ns) (h : Paired Side ns s) {x : Str} (hx : ∃ n ∈ ns, x = n ∨ x = ("-" : Str) ++ n) : opp x ∈ s ↔ x ∉ s := by
  obtain ⟨n, hn, e⟩ := hx
  have hm := nm.nm n hn
  have one := lits_one nm (side_lits nm h) hn
  have two := paired_mem h hn
  rcases e with e | e
  · rw [e, opp_nm hm]
    exact ⟨fun a b => one ⟨b, a⟩, fun a => two.resolve_left a⟩
  · rw [e, opp_neg hm]
    exact ⟨fun a b => one ⟨a, b⟩, fun a => two.resolve_right a⟩
/-- literals in their order stay -/
theorem asc_paired {ns s : List Str} (nm : NmL ns) (h : Paired Side ns s) : asc s ns = s := by
  have L := side_lits nm h
  have go : ∀ {ms t : List Str}, Paired Side ms t → (∀ m ∈ ms, m ∈ ns) → (∀ x ∈ t, x ∈ s) → asc s ms = t := by
    intro ms t h
    induction h with
    | nil => intro _ _; rfl
    | @cons m l ms t r _ ih =>
      intro hm ht
      have ih := ih (fun z hz => hm z (List.mem_cons_of_mem _ hz)) fun z hz => ht z (List.mem_cons_of_mem _ hz)
      have hl := ht l (List.mem_cons_self ..)
      have one := lits_one nm L (hm m (List.mem_cons_self ..))
      show ((m :: ms).flatMap fun n => [n, ("-" : Str) ++ n].filter fun l => decide (l ∈ s)) = _
      rw [List.flatMap_cons]
      have e : ([m, ("-" : Str) ++ m].filter fun l => decide (l ∈ s)) = [l] := by
        rcases r with e | e
        · subst e
          have : ¬ ("-" : Str) ++ l ∈ s := fun b => one ⟨hl, b⟩
          simp [hl, this]
        · subst e
          have : ¬ m ∈ s := fun b => one ⟨b, hl⟩
          simp [hl, this]
      rw [e]
      exact congrArg (l :: ·) ih
  exact go h (fun _ h => h) fun _ h => h
theorem sub_filter {α : Type} [DecidableEq α] : ∀ {xs ys : List α}, ys.Sublist xs → xs.Nodup → (xs.filter fun x => decide (x ∈ ys)) = ys
  | _, _, .slnil, _ => rfl
  | _, ys, .cons a (l₂ := xs) h, nd => by
    obtain ⟨h1, h2⟩ := List.nodup_cons.mp nd
    have : a ∉ ys := fun z => h1 (h.subset z)
    rw [List.filter_cons, if_neg (by simpa using this)]
    exact sub_filter h h2
  | _, _, .cons₂ a (l₁ := ys) (l₂ := xs) h, nd => by
    obtain ⟨h1, h2⟩ := List.nodup_cons.mp nd
    rw [List.filter_cons, if_pos (by simp)]
    congr 1
    rw [← sub_filter h h2]
    refine List.filter_congr fun x hx => ?_
    have : x ≠ a := fun e => h1 (e ▸ hx)
    have e2 := sub_filter h h2
    simp [this, e2]
/-! half-filled settings -/
structure HalfOk (ns : List Str) (p : List Str × Nat) : Prop where
  le : p.2 ≤ ns.length
  nm : ∀ x ∈ p.1, ∃ a, a < p.2 ∧ Side (ns.getD a "") x
  nd : (p.1.map nameOf).Nodup
theorem half_next {ns : List Str} (nm : NmL ns) {lv : List (List Str × Nat)} (h : ∀ p ∈ lv, HalfOk ns p) : ∀ p ∈ nextH ns lv, HalfOk ns p := fun q hq => by
  obtain ⟨p, hp, hq⟩ := List.mem_flatMap.mp hq
  obtain ⟨a, l, h1, h2, h3, rfl⟩ := mem_stepH hq
  have hok := h p hp
  have han := nm.nm _ (List.mem_of_getElem? (getD_at h2))
  refine ⟨h2, fun x hx => ?_, ?_⟩
  · rcases List.mem_append.mp hx with hx | hx
    · obtain ⟨b, hb, hs⟩ := hok.nm x hx
      exact ⟨b, by show b < a + 1; omega, hs⟩
    · rw [List.mem_singleton.mp hx]
      exact ⟨a, Nat.lt_succ_self a, h3⟩
  · show ((p.1 ++ [l]).map nameOf).Nodup
    rw [List.map_append, List.nodup_append]
    refine ⟨hok.nd, by simp, fun x hx y hy e => ?_⟩
    have hy' : y = nameOf l := by simpa using hy
    rw [hy', side_name han h3] at e
    obtain ⟨z, hz, rfl⟩ := List.mem_map.mp hx
    obtain ⟨b, hb, hs⟩ := hok.nm z hz
    have hbn : b < ns.length := by omega
    rw [side_name (nm.nm _ (List.mem_of_getElem? (getD_at hbn))) hs] at e
    have i1 := List.getElem?_eq_some_iff.mp (getD_at hbn)
    have i2 := List.getElem?_eq_some_iff.mp (getD_at h2)
    have := (List.getElem_inj nm.nd).mp (i1.2.trans (e.trans i2.2.symm))
    omega
theorem HalfOk.lits {ns : List Str} {p : List Str × Nat} (nm : NmL ns) (h : HalfOk ns p) : Lits ns p.1 :=
  ⟨h.nd, fun x hx => let ⟨a, ha, hs⟩ := h.nm x hx; ⟨_, List.mem_of_getElem? (getD_at (show a < ns.length by have := h.le; omega)), hs⟩⟩
theorem halves_lits {ns : List Str} (nm : NmL ns) : ∀ c ∈ halves ns, Lits ns c := by
  have go : ∀ (m : Nat) (lv : List (List Str × Nat)) (found : List (List Str)), (∀ p ∈ lv, HalfOk ns p) → (∀ c ∈ found, Lits ns c) → ∀ c ∈ halfGo ns m lv found, Lits ns c := by
    intro m
    induction m with
    | zero => intro lv found _ hf; exact hf
    | succ m ih =>
      intro lv found hl hf
      have hn := half_next nm hl
      refine ih _ _ hn fun c hc => ?_
      rcases List.mem_append.mp hc with hc | hc
      · exact hf c hc
      · obtain ⟨p, hp, rfl⟩ := List.mem_map.mp hc
        exact (hn p hp).lits nm
  refine go _ _ _ (fun p hp => ?_) fun c hc => ?_
  · rw [List.mem_singleton.mp hp]
    exact ⟨Nat.zero_le _, fun x hx => (List.not_mem_nil hx).elim, List.nodup_nil⟩
  · rw [List.mem_singleton.mp hc]
    exact ⟨List.nodup_nil, fun x hx => (List.not_mem_nil hx).elim⟩
/-- found is not lost -/
theorem halfGo_sub (ns : List Str) : ∀ (m : Nat) (lv : List (List Str × Nat)) (found : List (List Str)), ∀ c ∈ found, c ∈ halfGo ns m lv found
  | 0, _, _, _, h => h
  | m + 1, lv, found, c, h => halfGo_sub ns m _ _ c (List.mem_append_left _ h)
/-- the first literal of an ascending list: its place, and what is behind it -/
theorem asc_split {d : List Str} {ns : List Str} (one : ∀ n ∈ ns, ¬ (n ∈ d ∧ ("-" : Str) ++ n ∈ d)) : ∀ (k st : Nat), st + k = ns.length → ∀ {l : Str} {t : List Str}, asc d (ns.drop st) = l :: t → ∃ a, st ≤ a ∧ a < ns.length ∧ Side (ns.getD a "") l ∧ asc d (ns.drop (a + 1)) = t
  | 0, st, e, l, t, h => by
    rw [List.drop_of_length_le (by omega)] at h
    cases h
  | k + 1, st, e, l, t, h => by
    have hst : st < ns.length := by omega
    have hd : ns.drop st = ns.getD st "" :: ns.drop (st + 1) := by
      rw [List.drop_eq_getElem_cons hst]
      congr 1
      rw [List.getD_eq_getElem?_getD, List.getElem?_eq_getElem hst]
      rfl
    have hm := List.mem_of_getElem? (getD_at hst)
    have on := one _ hm
    rw [hd] at h
    have h' : ([ns.getD st "", ("-" : Str) ++ ns.getD st ""].filter fun l => decide (l ∈ d)) ++ asc d (ns.drop (st + 1)) = l :: t := h
    by_cases h1 : ns.getD st "" ∈ d
    · have h2 : ¬ ("-" : Str) ++ ns.getD st "" ∈ d := fun b => on ⟨h1, b⟩
      have e1 : ([ns.getD st "", ("-" : Str) ++ ns.getD st ""].filter fun l => decide (l ∈ d)) = [ns.getD st ""] := by
        rw [List.filter_cons, if_pos (by simpa using h1), List.filter_cons, if_neg (by simpa using h2)]; rfl
      rw [e1] at h'
      have h' := List.cons.inj h'
      exact ⟨st, Nat.le_refl _, hst, .inl h'.1.symm, h'.2⟩
    · by_cases h2 : ("-" : Str) ++ ns.getD st "" ∈ d
      · have e1 : ([ns.getD st "", ("-" : Str) ++ ns.getD st ""].filter fun l => decide (l ∈ d)) = [("-" : Str) ++ ns.getD st ""] := by
          rw [List.filter_cons, if_neg (by simpa using h1), List.filter_cons, if_pos (by simpa using h2)]; rfl
        rw [e1] at h'
        have h' := List.cons.inj h'
        exact ⟨st, Nat.le_refl _, hst, .inr h'.1.symm, h'.2⟩
      · have e1 : ([ns.getD st "", ("-" : Str) ++ ns.getD st ""].filter fun l => decide (l ∈ d)) = [] := by
          rw [List.filter_cons, if_neg (by simpa using h1), List.filter_cons, if_neg (by simpa using h2)]; rfl
        rw [e1] at h'
        obtain ⟨a, h3, h4⟩ := asc_split one k (st + 1) (by omega) h'
        exact ⟨a, by omega, h4⟩
/-- every set of literals without both sides of a name is met -/
theorem halves_all {ns d : List Str} (one : ∀ n ∈ ns, ¬ (n ∈ d ∧ ("-" : Str) ++ n ∈ d)) : asc d ns ∈ halves ns := by
  have go : ∀ (t : List Str) (m : Nat) (lv : List (List Str × Nat)) (found : List (List Str)) (s : List Str) (st : Nat), (s, st) ∈ lv → s ∈ found → st ≤ ns.length → ns.length ≤ st + m → asc d (ns.drop st) = t → s ++ t ∈ halfGo ns m lv found := by
    intro t
    induction t with
    | nil =>
      intro m lv found s st _ hf _ _ _
      rw [List.append_nil]
      exact halfGo_sub ns m lv found s hf
    | cons l t ih =>
      intro m lv found s st hl hf hst hm ht
      obtain ⟨a, h1, h2, h3, h4⟩ := asc_split one (ns.length - st) st (by omega) ht
      cases m with
      | zero => omega
      | succ m =>
        have hq : (s ++ [l], a + 1) ∈ nextH ns lv := by
          refine List.mem_flatMap.mpr ⟨(s, st), hl, List.mem_flatMap.mpr ⟨a, List.mem_range'_1.mpr ⟨h1, ?_⟩, List.mem_map.mpr ⟨l, ?_, rfl⟩⟩⟩
          · show a < st + (ns.length - st); omega
          · rcases h3 with e | e
            · rw [e]; simp
            · rw [e]; simp
        have := ih m (nextH ns lv) (found ++ (nextH ns lv).map (·.1)) (s ++ [l]) (a + 1) hq (List.mem_append_right _ (List.mem_map.mpr ⟨_, hq, rfl⟩)) h2 (by omega) h4
        rw [List.append_assoc] at this
        exact this
  exact go (asc d ns) ns.length [([], 0)] [[]] [] 0 (by simp) (by simp) (Nat.zero_le _) (by omega) rfl
/-! shortest consequences -/
theorem liesIn_iff {p c : List Str} : liesIn p c = true ↔ ∀ l ∈ p, l ∈ c := by unfold liesIn; simp
theorem isCons_iff {c : List Str} {ss : List (List Str)} : isCons c ss = true ↔ ∀ s ∈ ss, ∃ l ∈ c, l ∈ s := by unfold isCons meets; simp
theorem short_ok (ss xs : List (List Str)) : (∀ c ∈ xs.foldl (shortP ss) [], isCons c ss = true) ∧ ∀ c ∈ xs, isCons c ss = true → ∃ o ∈ xs.foldl (shortP ss) [], liesIn o c = true := by
  have go : ∀ (xs acc : List (List Str)), (∀ c ∈ acc, isCons c ss = true) → (∀ c ∈ xs.foldl (shortP ss) acc, isCons c ss = true) ∧ (∀ c ∈ acc, c ∈ xs.foldl (shortP ss) acc) ∧ ∀ c ∈ xs, isCons c ss = true → ∃ o ∈ xs.foldl (shortP ss) acc, liesIn o c = true := by
    intro xs
    induction xs with
    | nil => intro acc h; exact ⟨h, fun _ h => h, fun c hc => by cases hc⟩
    | cons x xs ih =>
      intro acc h
      rw [List.foldl_cons]
      have hs : ∀ c ∈ shortP ss acc x, isCons c ss = true := fun c hc => by
        unfold shortP at hc
        split at hc
        · rename_i hb
          rcases List.mem_append.mp hc with hc | hc
          · exact h c hc
          · rw [List.mem_singleton.mp hc]
            simp only [Bool.and_eq_true] at hb
            exact hb.2
        · exact h c hc
      have hk : ∀ c ∈ acc, c ∈ shortP ss acc x := fun c hc => by
        unfold shortP
        split
        · exact List.mem_append_left _ hc
        · exact hc
      obtain ⟨h1, h2, h3⟩ := ih (shortP ss acc x) hs
      refine ⟨h1, fun c hc => h2 c (hk c hc), fun c hc hcs => ?_⟩
      rcases List.mem_cons.mp hc with e | hc
      · subst e
        by_cases ha : (acc.any fun o => liesIn o c) = true
        · obtain ⟨o, ho, hl⟩ := List.any_eq_true.mp ha
          exact ⟨o, h2 o (hk o ho), hl⟩
        · refine ⟨c, h2 c ?_, liesIn_iff.mpr fun _ h => h⟩
          unfold shortP
          rw [if_pos (by simp only [Bool.and_eq_true]; exact ⟨by simpa using ha, hcs⟩)]
          simp
      · exact h3 c hc hcs
  have := go xs [] (fun c hc => by cases hc)
  exact ⟨this.1, this.2.2⟩
theorem short_any {ns : List Str} {ss : List (List Str)} {d : List Str} (hd : ∀ s ∈ ss, ∀ l ∈ s, l ∈ d → ∃ n ∈ ns, Side n l) (one : ∀ n ∈ ns, ¬ (n ∈ d ∧ ("-" : Str) ++ n ∈ d)) : ((shortestL ns ss).any fun c => liesIn c d) = isCons d ss := by
  obtain ⟨h1, h2⟩ := short_ok ss (halves ns)
  rw [Bool.eq_iff_iff]
  constructor
  · intro h
    obtain ⟨c, hc, hl⟩ := List.any_eq_true.mp h
    have := isCons_iff.mp (h1 c hc)
    refine isCons_iff.mpr fun s hs => ?_
    obtain ⟨l, hl1, hl2⟩ := this s hs
    exact ⟨l, liesIn_iff.mp hl l hl1, hl2⟩
  · intro h
    have h' := isCons_iff.mp h
    have hcs : isCons (asc d ns) ss = true := isCons_iff.mpr fun s hs => by
      obtain ⟨l, hl1, hl2⟩ := h' s hs
      obtain ⟨n, hn, e⟩ := hd s hs l hl2 hl1
      exact ⟨l, mem_asc.mpr ⟨n, hn, e, hl1⟩, hl2⟩
    obtain ⟨o, ho, hl⟩ := h2 _ (halves_all one) hcs
    refine List.any_eq_true.mpr ⟨o, ho, liesIn_iff.mpr fun l hl' => ?_⟩
    exact (mem_asc.mp (liesIn_iff.mp hl l hl')).choose_spec.2.2
/-! what is forced -/
structure Set_ (ns : List Str) (ss : List (List Str)) (h : List Str) : Prop where
  nm : NmL ns
  s : ∀ s ∈ ss, Paired Side ns s
  h : Lits ns h
theorem opp_side {ns : List Str} (nm : NmL ns) {x : Str} (hx : ∃ n ∈ ns, x = n ∨ x = ("-" : Str) ++ n) : opp (opp x) = x ∧ opp x ≠ x ∧ ∃ n ∈ ns, opp x = n ∨ opp x = ("-" : Str) ++ n := by
  obtain ⟨n, hn, e⟩ := hx
  have hm := nm.nm n hn
  rcases e with e | e
  · subst e
    rw [opp_nm hm, opp_neg hm]
    exact ⟨rfl, fun e => neg_ne hm e.symm, x, hn, .inr rfl⟩
  · subst e
    rw [opp_neg hm, opp_nm hm]
    exact ⟨rfl, fun e => neg_ne hm e, n, hn, .inl rfl⟩
theorem mem_opp {ns h : List Str} (nm : NmL ns) (L : Lits ns h) {x : Str} (hx : ∃ n ∈ ns, x = n ∨ x = ("-" : Str) ++ n) : x ∈ h.map opp ↔ opp x ∈ h := by
  rw [List.mem_map]
  constructor
  · rintro ⟨y, hy, e⟩
    rw [← e, (opp_side nm (L.of y hy)).1]; exact hy
  · intro h
    exact ⟨opp x, h, (opp_side nm hx).1⟩
theorem fits_iff {ss : List (List Str)} {h s : List Str} : s ∈ fits ss h ↔ s ∈ ss ∧ ∀ l ∈ h, l ∈ s := by unfold fits; rw [List.mem_filter, liesIn_iff]
theorem one_opp {ns h : List Str} (nm : NmL ns) (L : Lits ns h) {n : Str} (hn : n ∈ ns) : ¬ (n ∈ h.map opp ∧ ("-" : Str) ++ n ∈ h.map opp) := fun ⟨a, b⟩ => by
  have hm := nm.nm n hn
  have a' := (mem_opp nm L ⟨n, hn, .inl rfl⟩).mp a
  have b' := (mem_opp nm L ⟨n, hn, .inr rfl⟩).mp b
  rw [opp_nm hm] at a'
  rw [opp_neg hm] at b'
  exact lits_one nm L hn ⟨b', a'⟩
theorem forced_none {ns : List Str} {ss : List (List Str)} {h : List Str} (X : Set_ ns ss h) : (forcedL ss h).isNone = ((shortestL ns ss).any fun c => liesIn c (h.map opp)) := by
  rw [short_any (fun s hs l hl _ => (side_lits X.nm (X.s s hs)).of l hl) fun n hn => one_opp X.nm X.h hn, Bool.eq_iff_iff, isCons_iff]
  have e : (forcedL ss h).isNone = true ↔ fits ss h = [] := by
    unfold forcedL
    cases fits ss h <;> simp
  rw [e]
  constructor
  · intro hf s hs
    have : ¬ ∀ l ∈ h, l ∈ s := fun z => by
      have := fits_iff.mpr ⟨hs, z⟩
      rw [hf] at this
      cases this
    obtain ⟨x, hx, hn⟩ : ∃ x ∈ h, x ∉ s := by
      apply Classical.byContradiction
      intro hc
      exact this fun l hl => Classical.byContradiction fun z => hc ⟨l, hl, z⟩
    exact ⟨opp x, List.mem_map.mpr ⟨x, hx, rfl⟩, (full_opp X.nm (X.s s hs) (X.h.of x hx)).mpr hn⟩
  · intro hc
    refine List.eq_nil_iff_forall_not_mem.mpr fun s hs => ?_
    obtain ⟨h1, h2⟩ := fits_iff.mp hs
    obtain ⟨l, hl, hls⟩ := hc s h1
    obtain ⟨x, hx, rfl⟩ := List.mem_map.mp hl
    exact (full_opp X.nm (X.s s h1) (X.h.of x hx)).mp hls (h2 x hx)
theorem forced_some {ns : List Str} {ss : List (List Str)} {h f : List Str} {l : Str} (X : Set_ ns ss h) (hf : forcedL ss h = some f) (hl : ∃ n ∈ ns, l = n ∨ l = ("-" : Str) ++ n) (h1 : l ∉ h) (h2 : opp l ∉ h) : isDrawn (shortestL ns ss) h l = decide (l ∈ f) := by
  have one : ∀ n ∈ ns, ¬ (n ∈ h.map opp ++ [l] ∧ ("-" : Str) ++ n ∈ h.map opp ++ [l]) := fun n hn ⟨a, b⟩ => by
    have hm := X.nm.nm n hn
    rcases List.mem_append.mp a with a | a
    · have a' := (mem_opp X.nm X.h ⟨n, hn, .inl rfl⟩).mp a
      rw [opp_nm hm] at a'
      rcases List.mem_append.mp b with b | b
      · exact one_opp X.nm X.h hn ⟨a, b⟩
      · rw [List.mem_singleton.mp b] at a'; exact h1 a'
    · rw [List.mem_singleton] at a
      rcases List.mem_append.mp b with b | b
      · have b' := (mem_opp X.nm X.h ⟨n, hn, .inr rfl⟩).mp b
        rw [opp_neg hm, a] at b'
        exact h1 b'
      · exact neg_ne hm (a.trans (List.mem_singleton.mp b).symm)
  unfold isDrawn
  rw [short_any (fun s hs l hl _ => (side_lits X.nm (X.s s hs)).of l hl) one, Bool.eq_iff_iff, isCons_iff, decide_eq_true_iff]
  unfold forcedL at hf
  cases ef : fits ss h with
  | nil => rw [ef] at hf; cases hf
  | cons s0 r =>
    rw [ef] at hf
    have hf : s0.filter (fun l => decide (l ∉ h) && (s0 :: r).all fun z => decide (l ∈ z)) = f := Option.some.inj hf
    have key : l ∈ f ↔ ∀ s ∈ s0 :: r, l ∈ s := by
      rw [← hf, List.mem_filter]
      simp only [Bool.and_eq_true, decide_eq_true_eq, List.all_eq_true]
      exact ⟨fun z => z.2.2, fun z => ⟨z s0 (List.mem_cons_self ..), h1, z⟩⟩
    rw [key, ← ef]
    constructor
    · intro hc s hs
      obtain ⟨q1, q2⟩ := fits_iff.mp hs
      obtain ⟨x, hx, hxs⟩ := hc s q1
      rcases List.mem_append.mp hx with hx | hx
      · obtain ⟨y, hy, rfl⟩ := List.mem_map.mp hx
        exact absurd (q2 y hy) ((full_opp X.nm (X.s s q1) (X.h.of y hy)).mp hxs)
      · rw [← List.mem_singleton.mp hx]; exact hxs
    · intro hc s hs
      by_cases hall : ∀ y ∈ h, y ∈ s
      · exact ⟨l, List.mem_append_right _ (List.mem_singleton.mpr rfl), hc s (fits_iff.mpr ⟨hs, hall⟩)⟩
      · obtain ⟨y, hy, hn⟩ : ∃ y ∈ h, y ∉ s := by
          apply Classical.byContradiction
          intro hcc
          exact hall fun l hl => Classical.byContradiction fun z => hcc ⟨l, hl, z⟩
        exact ⟨opp y, List.mem_append_left _ (List.mem_map.mpr ⟨y, hy, rfl⟩), (full_opp X.nm (X.s s hs) (X.h.of y hy)).mpr hn⟩
theorem forced_perm {ss : List (List Str)} {h h' : List Str} (p : h'.Perm h) : forcedL ss h' = forcedL ss h := by
  have e1 : fits ss h' = fits ss h := by
    unfold fits
    refine List.filter_congr fun s _ => ?_
    rw [Bool.eq_iff_iff, liesIn_iff, liesIn_iff]
    exact ⟨fun z l hl => z l (p.mem_iff.mpr hl), fun z l hl => z l (p.mem_iff.mp hl)⟩
  unfold forcedL
  rw [e1]
  cases fits ss h with
  | nil => rfl
  | cons s r =>
    simp only
    congr 1
    refine List.filter_congr fun l _ => ?_
    simp [p.mem_iff]
end My

set_option Elab.async false
set_option linter.all false
set_option maxRecDepth 100000
set_option maxHeartbeats 8000000
namespace My
open PySem PySem.Spec PyProof.Rows L2 L3
open L3.Strm
/-! sizes -/
def wH (n : Nat) (lv : List (List Str × Nat)) : Nat := (lv.map fun p => 3 ^ (n - p.2)).sum
theorem wH_app (n : Nat) (a b : List (List Str × Nat)) : wH n (a ++ b) = wH n a + wH n b := by unfold wH; rw [List.map_append, List.sum_append]
theorem wH_ge (n : Nat) : ∀ lv : List (List Str × Nat), lv.length ≤ wH n lv
  | [] => Nat.le_refl _
  | p :: r => by
    have h1 : 1 ≤ 3 ^ (n - p.2) := Nat.one_le_pow _ _ (by decide)
    have h2 := wH_ge n r
    unfold wH at h2 ⊢
    rw [List.length_cons, List.map_cons, List.sum_cons]
    omega
theorem wH_step (ns : List Str) (p : List Str × Nat) : wH ns.length (stepH ns p) + 1 = 3 ^ (ns.length - p.2) := by
  have go : ∀ (k s : Nat), s + k = ns.length → wH ns.length ((List.range' s k).flatMap fun a => [ns.getD a "", ("-" : Str) ++ ns.getD a ""].map fun l => (p.1 ++ [l], a + 1)) + 1 = 3 ^ k := by
    intro k
    induction k with
    | zero => intro s _; rfl
    | succ k ih =>
      intro s e
      rw [List.range'_succ, List.flatMap_cons, wH_app]
      have h1 := ih (s + 1) (by omega)
      have h2 : wH ns.length ([ns.getD s "", ("-" : Str) ++ ns.getD s ""].map fun l => (p.1 ++ [l], s + 1)) = 3 ^ k + 3 ^ k := by
        show 3 ^ (ns.length - (s + 1)) + (3 ^ (ns.length - (s + 1)) + 0) = _
        rw [show ns.length - (s + 1) = k by omega]
        omega
      rw [h2, Nat.pow_succ]
      omega
  by_cases h : p.2 ≤ ns.length
  · exact go (ns.length - p.2) p.2 (by omega)
  · have e : ns.length - p.2 = 0 := by omega
    unfold stepH
    rw [e]
    rfl
theorem wH_next (ns : List Str) : ∀ lv : List (List Str × Nat), wH ns.length (nextH ns lv) + lv.length = wH ns.length lv
  | [] => rfl
  | p :: r => by
    have h1 := wH_step ns p
    have h2 := wH_next ns r
    have e : nextH ns (p :: r) = stepH ns p ++ nextH ns r := rfl
    rw [e, wH_app, List.length_cons]
    have e2 : wH ns.length (p :: r) = 3 ^ (ns.length - p.2) + wH ns.length r := by unfold wH; rw [List.map_cons, List.sum_cons]
    omega
theorem halves_few (ns : List Str) : (halves ns).length ≤ 3 ^ ns.length := by
  have go : ∀ (m : Nat) (lv : List (List Str × Nat)) (found : List (List Str)), found.length + wH ns.length lv = 3 ^ ns.length + lv.length → (halfGo ns m lv found).length ≤ 3 ^ ns.length := by
    intro m
    induction m with
    | zero =>
      intro lv found h
      have := wH_ge ns.length lv
      show found.length ≤ _
      omega
    | succ m ih =>
      intro lv found h
      refine ih _ _ ?_
      have := wH_next ns lv
      rw [List.length_append, List.length_map]
      omega
  refine go _ _ _ ?_
  show 1 + (3 ^ (ns.length - 0) + 0) = _
  rw [Nat.sub_zero]
  show 1 + (3 ^ ns.length + 0) = 3 ^ ns.length + 1
  omega
theorem lit_signs {ns : List Str} (hn : NmL ns) {l : Str} (h : LitN ns l) : l.length ≤ 9 ∧ ∀ c ∈ l.cps.toList, c < 16 ^ 8 := by
  have nm : ∀ n : Str, isNm n = true → n.length ≤ 8 ∧ ∀ c ∈ n.cps.toList, c < 16 ^ 8 := fun n h => by
    refine ⟨nm_len h, fun c hc => ?_⟩
    simp only [isNm, Bool.and_eq_true, decide_eq_true_eq, List.all_eq_true] at h
    have h1 := h.2 c hc
    have : ∀ c ∈ g_LETTERS.cps.toList, c < 16 ^ 8 := by decide +kernel
    exact this c h1
  obtain ⟨n, hnn, h | h⟩ := h
  · subst h
    have := nm l (hn.nm l hnn)
    exact ⟨by omega, this.2⟩
  · subst h
    have := nm n (hn.nm n hnn)
    rw [← SX.S_tl n, neg_S]
    refine ⟨by rw [SX.S_len, List.length_cons]; have : n.cps.toList.length = n.length := rfl; omega, fun c hc => ?_⟩
    have hc : c ∈ 45 :: n.cps.toList := hc
    rcases List.mem_cons.mp hc with rfl | hc
    · decide
    · exact this.2 c hc
def FitD (d : PyData) : Prop := d.showable = true ∧ d.depth ≤ 64 ∧ d.shown.length ≤ sizeLine
theorem strs_small {ns : List Str} (hn : NmL ns) : ∀ ls : List Str, (∀ l ∈ ls, LitN ns l) → PyData.leavesShortAll 13 (ls.map .str) = true ∧ PyData.showableAll (ls.map .str) = true ∧ PyData.weightAll (ls.map .str) ≤ 10 * ls.length
  | [], _ => by simp [PyData.leavesShortAll, PyData.showableAll, PyData.weightAll]
  | l :: ls, h => by
    obtain ⟨h1, h2, h3⟩ := strs_small hn ls fun x hx => h x (List.mem_cons_of_mem _ hx)
    obtain ⟨h4, h5⟩ := lit_signs hn (h l (List.mem_cons_self ..))
    have h4' : l.cps.size ≤ 9 := h4
    rw [List.map_cons]
    refine ⟨?_, ?_, ?_⟩
    · simp only [PyData.leavesShortAll, PyData.leavesShort, h1, Bool.and_true, List.all_eq_true, decide_eq_true_eq]
      exact fun c hc => h5 c hc
    · simp only [PyData.showableAll, PyData.showable, h2, Bool.and_true]
    · simp only [PyData.weightAll, PyData.weight, List.length_cons]
      omega
theorem tups_small {ns : List Str} (hn : NmL ns) : ∀ cs : List (List Str), (∀ c ∈ cs, c.length ≤ 6 ∧ ∀ l ∈ c, LitN ns l) → PyData.leavesShortAll 13 (cs.map fun c => .tuple (c.map .str)) = true ∧ PyData.showableAll (cs.map fun c => .tuple (c.map .str)) = true ∧ PyData.weightAll (cs.map fun c => .tuple (c.map .str)) ≤ 61 * cs.length
  | [], _ => by simp [PyData.leavesShortAll, PyData.showableAll, PyData.weightAll]
  | c :: cs, h => by
    obtain ⟨h1, h2, h3⟩ := tups_small hn cs fun x hx => h x (List.mem_cons_of_mem _ hx)
    have hc := h c (List.mem_cons_self ..)
    obtain ⟨k1, k2, k3⟩ := strs_small hn c hc.2
    rw [List.map_cons]
    refine ⟨?_, ?_, ?_⟩
    · rw [PyData.leavesShortAll, PyData.leavesShort, k1, h1]; rfl
    · rw [PyData.showableAll, PyData.showable, k2, h2]; rfl
    · rw [PyData.weightAll, PyData.weight, List.length_cons]
      omega
theorem fit_lits {ns ls : List Str} (hn : NmL ns) (h : ∀ l ∈ ls, LitN ns l) (hl : ls.length ≤ 1000) : FitD (.list (ls.map .str)) := by
  obtain ⟨h1, h2, h3⟩ := strs_small hn ls h
  refine ⟨by rw [PyData.showable]; exact h2, by rw [PyData.depth, depthS]; decide, PyData.shown_fits (B := 13) (by decide) (by decide) (by rw [PyData.leavesShort]; exact h1) (by rw [PyData.weight]; omega)⟩
theorem fit_tups {ns : List Str} {cs : List (List Str)} (hn : NmL ns) (h : ∀ c ∈ cs, c.length ≤ 6 ∧ ∀ l ∈ c, LitN ns l) (hl : cs.length ≤ 1000) : FitD (.list (cs.map fun c => .tuple (c.map .str))) := by
  obtain ⟨h1, h2, h3⟩ := tups_small hn cs h
  have h4 := depthT cs
  refine ⟨by rw [PyData.showable]; exact h2, by rw [PyData.depth]; omega, PyData.shown_fits (B := 13) (by decide) (by decide) (by rw [PyData.leavesShort]; exact h1) (by rw [PyData.weight]; omega)⟩
theorem fit_none : FitD .none := ⟨rfl, by simp [PyData.depth], by
  have : (PyData.none).shown.length = 4 := rfl
  rw [this]; decide⟩
theorem gv_repr {K : PySem.W.Frag} {σ : Sl} {M : Hp} {te : TE} {d : PyData} (h : Gv te σ M (Dd K d)) (h1 : d.showable = true) (h2 : d.depth ≤ 64) (h3 : d.shown.length ≤ sizeLine) : Gv (tCB (rRepr K) (tCons te tNil)) σ M (Tx d.shown) := gv_cb1 h fun M' v hv H mh Q q => ⟨v, d, rfl, dp_mono mh hv, h1, h2, h3, q _ M' H (.refl mh) rfl⟩
section
variable {P : Program} {w : World} {K : PySem.W.Frag} {mg : Str → Option Value} {base : Heap}
abbrev s__law_same : Stmt := topS 26
theorem sc__law_same : FnScope ["_law_found", "_law_due"] ["_law_found", "_law_due"] (defScope s__law_same) := ⟨rfl, rfl, rfl, by decide +kernel, rfl, by decide +kernel, by decide +kernel⟩
def sp__law_same (K : PySem.W.Frag) : Sp := sp2 (Dd K) (Dd K) (fun d e => FitD d ∧ FitD e) fun d e => Bl (decide (d.shown = e.shown))
theorem ok__law_same {f : Addr} {fd : FuncData} (F : Fun K "_law_same" "_law_same" s__law_same f fd) (T : Gc mg) : FnG P w K mg base CX0 1 f fd ["_law_found", "_law_due"] (sp__law_same K) := by
  refine fun_okG F sc__law_same (fun vs H Q E h => ?_) (fun cdv A outer s H vs Q E hgu hr h => ?_)
  · obtain ⟨x, y, M, v, w, rfl, _⟩ := h
    rfl
  · obtain ⟨d, e, M, v, w, rfl, mh, r1, r2, ⟨⟨h1, h2, h3⟩, h4, h5, h6⟩, q⟩ := h
    have hu := hr.units
    have hgu : (A.deeper (envOfC "_law_same" (defScope s__law_same) s.heap.objs.size f cdv)).guards = some [] := hgu
    have hu7 : (A.deeper (envOfC "_law_same" (defScope s__law_same) s.heap.objs.size f cdv)).units + 70 < cLine := by have := hr.un; omega
    refine ⟨_, (pss_one (ps_ret (pe_cmpR (op_eqP hu) (pe_callB (call_repr hgu hu7) (by rfl) T.repr boot_repr (pa_cons (pv 0) pa_nil)) (pe_callB (call_repr hgu hu7) (by rfl) T.repr boot_repr (pa_cons (pv 1) pa_nil)) (nomark _)))), ?_⟩
    exact s_ret mh (gv_is (gv_eqT (K := K) (neg := false) py_str inj_str (gv_repr (K := K) (gv_var rfl r1) h1 h2 h3) (gv_repr (K := K) (gv_var rfl r2) h4 h5 h6) (by simp [PyData.depth])) fun M v h => by simpa using h) q
end
end My

set_option Elab.async false
set_option linter.all false
set_option maxRecDepth 100000
set_option maxHeartbeats 1000000
namespace L3
open PySem PySem.Spec PyProof.Rows L2 MeetsSeq
open AutoSeq1 (wpAny_loadPart')
/-! an empty dict beside texts: not in a tuple of texts; repr of (text, thing) -/
theorem emptyd_no_str (l : Addr) (o : Obj) (es : Array DictEntry) (ep : Nat) (hc : o.ExactDict) (hd : o.data = .dict es ep) (b : Str) (u : Tok) :
    PySem.Meets (Builtin.«dict.__eq__» ⟨[.ref l, .str b u], []⟩) (fun _ R s => s.heap.get? l = some o ∧ R (.ok (.ret .notImplemented)) s) := by
  obtain ⟨cls, dd, data, sl⟩ := o
  obtain ⟨h1, h2, h3⟩ := hc
  simp only at h1 h2 h3 hd
  subst h1 h2 h3 hd
  exact .of_wp fun prog w A R s h => by obtain ⟨hp, g, d, tk, os⟩ := s; obtain ⟨hl, h⟩ := h; have f1 := F.sub_str_dict; wp_walk using wpAny_loadPart' hl; exact ⟨_, rfl, h⟩
theorem str_no_emptyd (b : Str) (u : Tok) (l : Addr) (o : Obj) (es : Array DictEntry) (ep : Nat) (hc : o.ExactDict) (hd : o.data = .dict es ep) :
    PySem.Meets (Builtin.«str.__eq__» ⟨[.str b u, .ref l], []⟩) (fun _ R s => s.heap.get? l = some o ∧ R (.ok (.ret .notImplemented)) s) := by
  obtain ⟨cls, dd, data, sl⟩ := o
  obtain ⟨h1, h2, h3⟩ := hc
  simp only at h1 h2 h3 hd
  subst h1 h2 h3 hd
  exact .of_wp fun prog w A R s h => by obtain ⟨hp, g, d, tk, os⟩ := s; obtain ⟨hl, h⟩ := h; wp_walk using wpAny_loadPart' hl, wpAny_load hl; exact ⟨_, rfl, h⟩
theorem str_emptyd_at {A : Around} {s : Shared} {l : Addr} {o : Obj} {es : Array DictEntry} {ep : Nat} (b : Str) (u : Tok) (ho : s.heap.get? l = some o) (hc : o.ExactDict) (hd : o.data = .dict es ep) (hu : A.units < cLine) : SeqAt.EqAt A s (.str b u) (.ref l) false := fun prog w E Q h => by
  unfold eqBool
  refine wpAny_holding ?_
  refine wpAny_ite_split (fun hab => absurd (eq_of_beq hab) nofun) (fun _ => ?_)
  exact wpAny_bind (SeqAt.rc_eq_decline_or (k := false) (typeIs_str s b u) ⟨_, ho, hc.1⟩ (by decide) F.sub_dict_str F.slot_str_eq F.slot_dict_eq_refl
    (fun _ hq => call_meets F.slot_str_eq (typeIs_str s b u) F.entry_str_eq (F.args_str_eq_2 _ _) (str_no_emptyd b u l o es ep hc hd) ⟨ho, hq⟩)
    (fun _ hq => call_meets F.slot_dict_eq_refl ⟨_, ho, hc.1⟩ F.entry_dict_eq (F.args_dict_eq_2 _ _) (emptyd_no_str l o es ep hc hd b u) ⟨ho, hq⟩)
    (fun _ hq => wpAny_of_eq (rfl : isSame (.str b u) (.ref l) = pure false) hq) (.inr hu) (wpAny_truthy_bool h))
theorem vals_strs : ∀ {xs : List Str} {us : List Value}, Vals (xs.map V.str) us → ∀ y ∈ us, ∃ b t, y = Value.str b t
  | [], _, h, y, hy => by cases h; cases hy
  | x :: xs, _, h, y, hy => by
    cases h with
    | cons r t =>
      rcases List.mem_cons.mp hy with rfl | hy
      · obtain ⟨t, e⟩ := r
        exact ⟨x, t, e⟩
      · exact vals_strs t y hy
/-- not in a tuple of texts: data, or an empty dict -/
def rNiF (K : PySem.W.Frag) : R2 := fun x y H Q => rInA K true x y H Q ∨ ∃ a b, ∃ xs : List Str, x = V.ref a ∧ H a = some (.dK []) ∧ y = V.ref b ∧ H b = some (.tup (xs.map V.str)) ∧ Q (.bl true) H
section
variable {X : Cx}
theorem op_niF (hu : X.A.units + 64 < cLine) : OpR X (compareOp .NotIn) (rNiF X.K) := (op_niA hu).or (by
  intro pins s σ H x y u v Q I rx ry ⟨a, b, xs, ex, ha, ey, hb, q⟩
  subst ex ey
  cases (show u = Value.ref a from rx)
  cases (show v = Value.ref b from ry)
  obtain ⟨its, r, ht, hz⟩ := I.tuple (show SqT X.K H b (xs.map V.str) from .inl (.inl hb))
  obtain ⟨_, _, vs, rk, o, es, ep, ho, hc, hd, _, _, _⟩ := dk_of I.hok ha
  refine SeqAt.notIn_tupleAt (fun _ => false) ht (fun z hz => ?_) ⟨.bl true, H, I, ?_, q⟩
  · obtain ⟨c, t, rfl⟩ := vals_strs r z (by simpa using hz)
    exact str_emptyd_at c t ho hc hd (by show X.A.units + 1 < cLine; omega)
  · rw [show its.toArray.any (fun _ => false) = false by simp]
    rfl)
end
/-- a tuple of a text and a thing -/
def TxF (K : PySem.W.Frag) : Rl (Str × PyData) := fun t M v => ∃ p w, v = .ref p ∧ M p = some (.tup [.str t.1, w]) ∧ DdF K t.2 M w
instance {K : PySem.W.Frag} : Mon (TxF K) := ⟨fun e ⟨p, w, h1, h2, h3⟩ => ⟨p, w, h1, e _ _ h2, Mon.mono e h3⟩⟩
def txD (t : Str × PyData) : PyData := .tuple [.str t.1, t.2]
def rReprF (K : PySem.W.Frag) : List V → Hp → VK → Prop := fun xs H Q => ∃ v t, xs = [v] ∧ TxF K t H v ∧ (txD t).showable = true ∧ (txD t).depth ≤ 64 ∧ (txD t).shown.length ≤ sizeLine ∧ Q (.str (txD t).shown) H
theorem call_reprF {X : Cx} (hgu : X.A.guards = some []) (hu : X.A.units + 70 < cLine) : CallR X (.builtin "repr") (rReprF X.K) := by
  rintro pins s σ H _ us Q I r ⟨v, ⟨x, d⟩, rfl, ⟨p, w, rfl, hp, hw⟩, hs, hdp, hz, q⟩
  have ⟨u, eu, ru⟩ := vals1 r
  subst eu
  cases (show u = Value.ref p from ru)
  obtain ⟨its, rv, ⟨o, ho, hc, n, hd⟩, _⟩ := I.tuple (show SqT X.K H p [.str x, w] from .inl (.inl hp))
  have fin : ∀ h' u' tk, (∀ b o, s.heap.get? b = some o → h'.get? b = some o) → EP X pins σ Q (.str (txD (x, d)).shown u') { s with heap := h', toks := tk } :=
    fun h' u' tk k => ⟨.str (txD (x, d)).shown, H, I.kept k, ⟨_, rfl⟩, q⟩
  cases rv with
  | @cons _ u1 _ _ r1 rv =>
    cases rv with
    | @cons _ u2 _ _ r2 rv =>
      cases rv
      obtain ⟨t1, rfl⟩ := r1
      obtain ⟨as, rd, hsm⟩ : ∃ as, Reads s.heap u2 d as ∧ (d.hasDict = true → sysModules ∉ as) := by
        rcases (show Dp X.K H w d ∨ (d = .dict [] ∧ ∃ a, w = .ref a ∧ H a = some (.dK [])) from hw) with hw | ⟨ed, a, ew, ha⟩
        · obtain ⟨as, rd⟩ := Dp.reads I d w _ hw r2
          exact ⟨as, rd, PyData.noDict_hsm (dp_nodict hw)⟩
        · subst ed ew
          cases (show _ = Value.ref a from r2)
          obtain ⟨_, hn, vs, rk, o2, es, ep, ho2, hc2, hd2, _, pp, _⟩ := dk_of I.hok ha
          cases rk
          have ees : es.toList = [] := by cases h : es.toList with
            | nil => rfl
            | cons e r => rw [h] at pp; cases pp
          refine ⟨_, Reads.dict (kvs := []) ho2 hc2.1 hd2 (by rw [ees]; exact .nil) (by rw [ees]; exact .nil), fun _ z => ?_⟩
          have : sysModules = a := by simpa using z
          rw [← this] at hn
          simp at hn
      have rt : Reads s.heap (.ref p) (txD (x, d)) ([] ++ (as ++ [])) := Reads.tuple ho hc hd (.cons (.str x t1) (.cons rd .nil))
      refine repr_of_reads' rt hs (fun h => ?_) hgu (by omega) (fun _ _ e => e) fin hz
      have h : d.hasDict = true := by simpa [txD, PyData.hasDict, PyData.hasDictAll] using h
      simpa using hsm h
section
variable {K : PySem.W.Frag} {σ : Sl} {M : Hp} {ta tb te : TE}
theorem gv_reprF {t : Str × PyData} (h : Gv te σ M (TxF K t)) (h1 : (txD t).showable = true) (h2 : (txD t).depth ≤ 64) (h3 : (txD t).shown.length ≤ sizeLine) : Gv (tCB (rReprF K) (tCons te tNil)) σ M (Tx (txD t).shown) :=
  gv_cb1 h fun M' v hv H mh Q q => ⟨v, t, rfl, Mon.mono mh hv, h1, h2, h3, q _ M' H (.refl mh) rfl⟩
/-- a thing is not among some texts -/
theorem gv_niF {d : PyData} {xs : List Str} (ha : Gv ta σ M (DdF K d)) (hb : Gv tb σ M (TT xs)) (hd : d.depth ≤ 60) (hn : ∀ x ∈ xs, d ≠ .str x) : Gv (tOp (rNiF K) ta tb) σ M (Bl true) := fun H mh Q q =>
  ha H mh _ fun v M1 H1 g1 p1 => hb.le g1.mm H1 g1.mh _ fun w M2 H2 g2 p2 => by
    have fin := q (.bl true) M2 H2 (g1.trans g2) rfl
    rcases p1 with p1 | ⟨rfl, a, rfl, h1⟩
    · refine .inl (.inl ?_)
      have hs : Sq K (xs.map .str) H2 w := .inr (dp_mono g2.mh (py_tup (K := K) py_str xs M2 w p2.tup))
      refine ⟨d, xs.map .str, dp_mono (g2.mm.trans g2.mh) p1, hs, hd, ?_⟩
      have : ((xs.map PyData.str).any fun z => PyData.eqv z d) = false := by
        rw [List.any_eq_false]
        rintro z hz e
        obtain ⟨x, hx, rfl⟩ := List.mem_map.mp hz
        refine hn x hx ?_
        cases d <;> simp_all [PyData.eqv]
      rw [this]
      exact fin
    · obtain ⟨b, rfl, h2⟩ := p2
      exact .inr ⟨a, b, xs, rfl, g2.mh _ _ (g2.mm _ _ h1), rfl, g2.mh _ _ h2, fin⟩
/-- (text, thing) -/
theorem gv_tupF {x : Str} {d : PyData} (h1 : Gv ta σ M (Tx x)) (h2 : Gv tb σ M (DdF K d)) : Gv (tTup (tCons ta (tCons tb tNil))) σ M (TxF K (x, d)) := fun H mh Q q =>
  h1 H mh _ fun v M1 H1 g1 p1 => h2.le g1.mm H1 g1.mh _ fun w M2 H2 g2 p2 => ⟨by show 2 ≤ sizeLine; decide, fun l nl => by
    cases (show v = _ from p1)
    exact q _ _ _ ((g1.trans g2).trans (.new g2.mh nl)) ⟨l, w, rfl, upd_same, Mon.mono (same_new (g2.mh.free nl)) p2⟩⟩
end
end L3

set_option Elab.async false
set_option linter.all false
set_option maxRecDepth 100000
set_option maxHeartbeats 8000000
namespace My
open PySem PySem.Spec PyProof.Rows L2 L3 LamX
open L3.Strm
/-! statement rules that carry the state of a law with a table; lists of data among which an empty dict may stand -/
section
variable {S : Strm} {Pt : Addr} {q : Str} {M H : Hp} {k j c : Nat} {σ : Sl} {te : TE} {P : Pr} {D : Ends} {tz tb : TS} {tt : L2.TT}
theorem _root_.L3.LS.plain {M' H' : Hp} (L : LS S Pt q M H k) (g : Gr M H M' H') : LS S Pt q M' H' k := L.step (lift L.mh L.at_ g) (L.at_.same g.hh)
/-- a list of ours is known from now on -/
theorem _root_.L3.LS.freeze {p : Addr} {vs : List V} (L : LS S Pt q M H k) (hp : S.cut H p = some (.lst vs)) : LS S Pt q (upd M p (.lst vs)) H k := by
  obtain ⟨ps, hP, ok, h3⟩ := L.tb
  have n : Pt ≠ p := fun z => by rw [z, of_cut hp] at hP; cases hP
  refine ⟨same_lent L.mh hp, L.at_, L.tb, by rw [upd_ne n]; exact L.mp, fun a qs e => ?_⟩
  by_cases z : a = p
  · subst z; rw [upd_same] at e; cases e
  · rw [upd_ne z] at e; exact L.nt a qs e
/-- a new list -/
theorem _root_.L3.LS.new {p : Addr} {o : HO} (L : LS S Pt q M H k) (np : H p = none) : LS S Pt q M (upd H p o) k ∧ M p = none ∧ S.cut (upd H p o) p = some o := by
  have no := L.at_.fresh np
  have nc := L.at_.cutn np
  exact ⟨L.step (by rw [cut_upd no]; exact .own L.mh nc) (L.at_.upd no), L.mh.free nc, by rw [cut_upd no, upd_same]⟩
theorem l_asg {i : Nat} (L : LS S Pt q M H (k + c)) (h : GvS S c te σ M P) (go : ∀ v M' H', Same M M' → LS S Pt q M' H' k → P M' v → tz D (σ.set i (some v)) H') : tSeq (tAsg te (gName i)) tz D σ H :=
  z_asg L.mh L.at_ h fun v M' H' g a r => go v M' H' g.mm (L.step g a) r
theorem l_if {b : Bool} (L : LS S Pt q M H k) (h : GvT tt σ M b) (h1 : b = true → ∀ H', LS S Pt q M H' k → tb { D with nx := tz D } σ H') (h2 : b = false → ∀ H', LS S Pt q M H' k → tz D σ H') : tSeq (tIfS tt tb tNext) tz D σ H :=
  q_if0 (L.mh.trans cut_same) h (fun e H' hh => h1 e H' (L.idle hh)) fun e H' hh => h2 e H' (L.idle hh)
theorem l_ifN (L : LS S Pt q M H k) (h : GvT tt σ M false) (go : ∀ H', LS S Pt q M H' k → tz D σ H') : tSeq (tIfS tt tb tNext) tz D σ H := l_if L h (fun e => nomatch e) fun _ H' L' => go H' L'
theorem l_for {α : Type} {R : Rl α} {wi : TI} {g : TG} {U : α → Hp → Sl → Sl → Prop} {xs : List α} (cost : Nat → Nat) (J : Hp → Nat → Sl → Prop) (L : LS S Pt q M H (cost 0)) (hsrc : GvI wi σ M xs R) (htg : TgOk g R U) (hJ : ∀ M M' i σ, Same M M' → J M i σ → J M' i σ) (h0 : J M 0 σ)
    (hs : ∀ i x σ' M' H' σ2 (nx : Sl → Hp → Prop), (∀ M2 H2 σ3, Same M' M2 → J M2 (i + 1) σ3 → LS S Pt q M2 H2 (cost (i + 1)) → nx σ3 H2) → xs[i]? = some x → Same M M' → J M' i σ' → LS S Pt q M' H' (cost i) → U x M' σ' σ2 → tb { D with nx := nx, ct := nx, bk := tz D } σ2 H')
    (hd : ∀ σ' M' H', Same M M' → J M' xs.length σ' → LS S Pt q M' H' (cost xs.length) → tz D σ' H') : tSeq (tFor wi g tb) tz D σ H := by
  refine z_for (S := S) (k := cost 0) (c := 0) (G := (· = xs)) L.mh L.at_ hsrc.s htg (fun ys M1 i σ' M' H' => Same M1 M' ∧ J M' i σ' ∧ LS S Pt q M' H' (cost i)) (fun ys M1 H1 e g a => ?_) (fun ys M1 i σ' M' H' ⟨s, _, l⟩ => ⟨s, l.mh, l.at_.le (Nat.zero_le _)⟩) ?_ ?_
  · exact ⟨Same.refl _, hJ _ _ _ _ g.mm h0, L.step g a⟩
  · rintro ys M1 i x σ' M' H' M2 H2 σ2 rfl sM hx ⟨s1, j1, l1⟩ g hU
    exact hs i x σ' M2 H2 σ2 _ (fun M3 H3 σ3 s3 j3 l3 => ⟨M3, (s1.trans g.mm).trans s3, j3, l3⟩) hx ((sM.trans s1).trans g.mm) (hJ _ _ _ _ g.mm j1) (l1.plain g) hU
  · rintro ys M1 σ' M' H' rfl sM ⟨s1, j1, l1⟩
    exact hd σ' M' H' (sM.trans s1) j1 l1
end
theorem s_ifN {S : Strm} {Pt : Addr} {q : Str} {M H : Hp} {k : Nat} {σ : Sl} {D : Ends} {tb : TS} {tt : L2.TT} (L : LS S Pt q M H k) (h : GvT tt σ M false) (go : ∀ H', LS S Pt q M H' k → D.nx σ H') : tIfS tt tb tNext D σ H := s_if0 (L.mh.trans cut_same) h (fun e => nomatch e) fun _ H' hh => go H' (L.idle hh)
section
variable {S : Strm} {Pt : Addr} {q : Str} {M H : Hp} {k c : Nat} {σ : Sl} {D : Ends} {tz tb : TS} {tt : L2.TT}
theorem s_ifS (L : LS S Pt q M H (k + c)) (h : GvTS S c tt σ M (· = false)) (go : ∀ M' H', Same M M' → LS S Pt q M' H' k → D.nx σ H') : tIfS tt tb tNext D σ H := h H k L.mh L.at_ _ fun b M' H' g a e => by
  subst e
  show (if false = true then _ else _)
  rw [if_neg (by decide)]
  exact go M' H' g.mm (L.step g a)
theorem l_forS {α : Type} {R : Rl α} {wi : TI} {g : TG} {U : α → Hp → Sl → Sl → Prop} {G : List α → Prop} (cost : Nat → Nat) (J : Hp → Nat → Sl → Prop) (L : LS S Pt q M H (cost 0 + c)) (hsrc : GvIS S c wi σ M G R) (htg : TgOk g R U) (hJ : ∀ M M' i σ, Same M M' → J M i σ → J M' i σ) (h0 : J M 0 σ)
    (hs : ∀ xs i x σ' M' H' σ2 (nx : Sl → Hp → Prop), G xs → (∀ M2 H2 σ3, Same M' M2 → J M2 (i + 1) σ3 → LS S Pt q M2 H2 (cost (i + 1)) → nx σ3 H2) → xs[i]? = some x → Same M M' → J M' i σ' → LS S Pt q M' H' (cost i) → U x M' σ' σ2 → tb { D with nx := nx, ct := nx, bk := D.nx } σ2 H')
    (hd : ∀ xs σ' M' H', G xs → Same M M' → J M' xs.length σ' → LS S Pt q M' H' (cost xs.length) → D.nx σ' H') : tFor wi g tb D σ H := by
  refine z_forE (S := S) (k := cost 0) (c := c) (G := G) L.mh L.at_ hsrc htg (fun ys M1 i σ' M' H' => Same M1 M' ∧ Same M M' ∧ J M' i σ' ∧ LS S Pt q M' H' (cost i)) (fun ys M1 H1 e g a => ?_) (fun ys M1 i σ' M' H' ⟨s, _, _, l⟩ => ⟨s, l.mh, l.at_.le (Nat.zero_le _)⟩) ?_ ?_
  · exact ⟨Same.refl _, g.mm, hJ _ _ _ _ g.mm h0, L.step g a⟩
  · rintro ys M1 i x σ' M' H' M2 H2 σ2 gy sM hx ⟨s1, s0, j1, l1⟩ g hU
    exact hs ys i x σ' M2 H2 σ2 _ gy (fun M3 H3 σ3 s3 j3 l3 => ⟨M3, (s1.trans g.mm).trans s3, (s0.trans g.mm).trans s3, j3, l3⟩) hx (s0.trans g.mm) (hJ _ _ _ _ g.mm j1) (l1.plain g) hU
  · rintro ys M1 σ' M' H' gy sM ⟨s1, s0, j1, l1⟩
    exact hd ys σ' M' H' gy s0 j1 l1
/-- if not x(lambda: ..): return False -/
theorem l_lamIf {TT : (XK → Hp → VK → Prop) → Hp → VK → Prop} {t : XK → TE} (L : LS S Pt q M H k) (h : Gv (fun σ H Q => TT (fun E H' Q' => t E σ H' Q') H Q) σ M (Bl true)) (go : ∀ M' H', Same M M' → LS S Pt q M' H' k → tz D σ H') : tSeq (tIfS (tNot (tB (tLam [(Pt, q)] TT t))) tb tNext) tz D σ H :=
  lam_step L h fun v M' H' sm L' _ r => ⟨true, r, by
    show (if (!true) = true then _ else _)
    rw [if_neg (by decide)]
    exact go M' H' sm L'⟩
theorem s_lamIf {TT : (XK → Hp → VK → Prop) → Hp → VK → Prop} {t : XK → TE} (L : LS S Pt q M H k) (h : Gv (fun σ H Q => TT (fun E H' Q' => t E σ H' Q') H Q) σ M (Bl true)) (go : ∀ M' H', Same M M' → LS S Pt q M' H' k → D.nx σ H') : tIfS (tNot (tB (tLam [(Pt, q)] TT t))) tb tNext D σ H :=
  lam_step L h fun v M' H' sm L' _ r => ⟨true, r, by
    show (if (!true) = true then _ else _)
    rw [if_neg (by decide)]
    exact go M' H' sm L'⟩
end
/-! the law's own def that takes a lambda: its suite calls a def -/
theorem takes_len {X : Cx} {W : WX} (tk : Takes X W) : Takes X (fun c d σ H => σ.length = X.N.length → W c d σ H) := fun u s' ⟨a, B, sI, pins, σ, H, cls, d, e, I, nb, up, sky, na, os, ag, w⟩ =>
  tk u s' ⟨a, B, sI, pins, σ, H, cls, d, e, I, nb, up, sky, na, os, ag, w I.len⟩
section
variable {α : Type} {R : Rl α} [Mon R] {σ : Sl} {M : Hp} {ta : TA}
theorem ga_rl0 : GvA tNil σ M fun M vs => Pd R M ([] : List α) vs := fun H mh Q q => q [] M H (.refl mh) .nil
theorem ga_rl {t : TE} {x : α} {xs : List α} (h : Gv t σ M (R x)) (hr : ∀ M1, Same M M1 → GvA ta σ M1 fun M vs => Pd R M xs vs) : GvA (tCons t ta) σ M fun M vs => Pd R M (x :: xs) vs := fun H mh Q q =>
  h H mh _ fun v M1 H1 g1 p => hr M1 g1.mm H1 g1.mh _ fun vs M2 H2 g2 ps => q (v :: vs) M2 H2 (g1.trans g2) (.cons (Mon.mono g2.mm p) ps)
theorem gv_lstG {xs : List α} (h : GvA ta σ M fun M vs => Pd R M xs vs) (hz : xs.length ≤ 1000) : Gv (tLst ta) σ M (LiR R xs) := (gl_lst h fun M vs p => by rw [← p.length]; exact Nat.le_trans hz (by decide)).li
end
section
variable {K : PySem.W.Frag} {σ : Sl} {M : Hp} {t : TE}
theorem gf_str {x : Str} (h : Gv t σ M (Tx x)) : Gv t σ M (DdF K (.str x)) := gv_is h fun M v e => by
  cases (show v = _ from e)
  exact .inl (.str x)
theorem gf_dnew : Gv tDNewK σ M (DdF K (.dict [])) := fun H mh Q q p np => q (.ref p) _ _ ((Gr.own mh np).freeze np (mh.free np) upd_same) (.inr ⟨rfl, p, rfl, upd_same⟩)
theorem gf_lst {x : Str} (h : Gv t σ M (Tx x)) : Gv (tLst (tCons t tNil)) σ M (DdF K (.list [.str x])) := gv_is (gl_one h).li fun M v r => .inl (py_lst py_str [x] _ _ r.lst)
theorem gf_tup {x : Str} (h : Gv t σ M (Tx x)) : Gv (tTup (tCons t tNil)) σ M (DdF K (.tuple [.str x])) := gv_is (gv_tup1 h) fun M v r => .inl (py_TT [x] _ _ r)
theorem s_asgS {D : Ends} {H : Hp} {i : Nat} (h : t σ H fun v H1 => D.nx (σ.set i (some v)) H1) : tAsg t (gName i) D σ H := h
end
end My

set_option Elab.async false
set_option linter.all false
set_option maxRecDepth 100000
set_option maxHeartbeats 1000000
namespace L3
open PySem PySem.Spec PyProof.Rows L2
/-! several except clauses, each with a name or without -/
/-- an exception that has come down to the frame of its try -/
structure Ld (X : Cx) (pins : List (Addr × Obj)) (σ : L2.St) (H : Hp) (e : Addr) (cls : Value) (d : Option Addr) (z : Shared) : Prop where
  st : X.stack = X.env :: X.outer
  fr : X.env.frame = some X.env.locals
  un : H e = none
  fl : ∃ (B : Heap) (y : Shared), L2.Inv X pins σ H y ∧ (∀ b o, y.heap.get? b = some o → b ∉ frs X.stack → B.get? b = some o) ∧ y.heap.UpToSlots z.heap ∧ z.os = y.os ∧ AllBare z.gens ∧ HandSPX.FlyingZ B (X.env :: X.outer) e (Zc cls d) z.heap
section
variable {X : Cx} {pins : List (Addr × Obj)} {σ : L2.St} {H : Hp} {e : Addr} {cls : Value} {d : Option Addr} {z : Shared}
theorem Ld.inv (L : Ld X pins σ H e cls d z) : L2.Inv X pins σ H z := let ⟨_, _, J, nb, u, o, g, f⟩ := L.fl; J.landed nb f.1 u o g
/-- its object stands apart from the frames -/
theorem Ld.obj (L : Ld X pins σ H e cls d z) : ∃ ob us, z.heap.get? e = some ob ∧ Zc cls d ob ∧ ob.data = .fields us ∧ e ≠ X.env.locals ∧ e ∉ X.fs := by
  obtain ⟨B, y, _, _, _, _, _, f⟩ := L.fl
  obtain ⟨ob, us, h1, h2, h3⟩ := f.there
  have apart : e ∉ frs (X.env :: X.outer) := by
    intro hm
    obtain ⟨_, o2, h4, h5⟩ := f.2.2.1.mem hm
    cases h1.symm.trans h4
    exact h5 _ h3
  refine ⟨ob, us, h1, h2, h3, fun q => ?_, fun q => ?_⟩
  · exact apart (List.mem_filterMap.mpr ⟨_, List.mem_cons_self .., q ▸ L.fr⟩)
  · obtain ⟨v, h6, h7⟩ := List.mem_filterMap.mp q
    exact apart (List.mem_filterMap.mpr ⟨v, List.mem_cons_of_mem _ h6, h7⟩)
/-- the state in which a clause's suite begins -/
theorem Ld.in (L : Ld X pins σ H e cls d z) : ∃ ob us, z.heap.get? e = some ob ∧ Zc cls d ob ∧ ob.data = .fields us ∧ L2.Inv (X.suite e ((e, ob) :: (X.pn ++ pins))) [] σ H z :=
  let ⟨ob, us, h1, h2, h3, h4, h5⟩ := L.obj
  ⟨ob, us, h1, h2, h3, L.inv.suite h1 h3 L.un h4 h5⟩
/-- the flight is set to none once more -/
theorem Ld.again (L : Ld X pins σ H e cls d z) {A : Around} {Q : Unit → Shared → Prop} {E : Value → Shared → Prop} (go : ∀ h, Ld X pins σ H e cls d { z with heap := h } → Q () { z with heap := h }) : wpAny (model X.prog X.w) A (setFlight (.ref e) none) Q E z := by
  obtain ⟨B, y, J, nb, u, o, g, f⟩ := L.fl
  exact HandSPX.lands_againZ f fun h f' u' => go h ⟨L.st, L.fr, L.un, B, y, J, nb, u.trans u', o, g, f'⟩
/-- no clause takes it -/
theorem Ld.on {W : WX} {D : Ends} (L : Ld X pins σ H e cls d z) (tk : Takes X W) (w : W cls d σ H) : wpAny (model X.prog X.w) X.A (handleBy (.ref e) X.env []) (SP X pins D) X.xe z := by
  obtain ⟨B, y, J, nb, u, o, g, f⟩ := L.fl
  have last : wpAny (model X.prog X.w) X.A (setFlight (.ref e) X.env.frame) (fun _ => wpAny (model X.prog X.w) X.A (throw (.ref e) : Sem Flow) (SP X pins D) X.xe) X.xe z := by
    rw [L.fr]
    exact HandSPX.setFlight_upZ f fun h hd u' => wpAny_throw (tk _ _ ⟨e, B, y, pins, σ, H, cls, d, rfl, J, nb, u.trans u', .inr (.inr (by rw [L.st]; exact hd)), L.un, o, g, w⟩)
  refine wpAny_handleBy_nil ?_
  obtain ⟨_, _, _, ob, us, t, _, _, h1, _, h3, h4, _⟩ := f
  unfold PySem.passOn
  refine wpAny_bind (wpAny_field h1 h3 h4 ?_)
  rw [if_neg (by simp : ¬ ((Value.ref t == Value.none) = true))]
  first
    | exact wpAny_bind (wpAny_pure (wpAny_bind last))
    | exact wpAny_bind last
/-- the class that a clause names is looked at -/
theorem Ld.asks {x : Str} {c : Value} {np : Pos} {b : Bool} {Q : Bool → Shared → Prop} {E E2 : Value → Shared → Prop} (L : Ld X pins σ H e cls d z) (hc : Names X x c) (hb : PySem.W.exmOne X.K cls c = some b) (q : Q b z) :
    wpAny (model X.prog X.w) (X.A.mark (some (.ref e))) (eval (.Name x np) X.env) (fun v s1 => wpAny (model X.prog X.w) (X.A.mark (some (.ref e))) (excMatches (.ref e) v) Q E s1) E2 z := by
  obtain ⟨ob, us, h1, h2, h3, S⟩ := L.in
  have ty : PySem.W.Looks (model X.prog X.w) z.heap (typeOf (.ref e)) cls := fun _ _ _ _ kp k => wpAny_typeOf_ref (kp _ _ h1) (h2.1.symm ▸ k)
  have lk := (PySem.W.exm_one (M := model X.prog X.w) L.inv.kIn ty hb).here (A := X.A.mark (some (.ref e))) (Q := Q) (E := E) (s := z) q
  obtain ⟨g, db, m | ⟨m, v, nn⟩⟩ := hc
  · exact ld_glob (X := X.suite e ((e, ob) :: (X.pn ++ pins))) S g m lk db
  · exact ld_blt (X := X.suite e ((e, ob) :: (X.pn ++ pins))) S g m v lk nn db
end
/-- class, slot of its name, suite -/
abbrev Clz := Value × Option Nat × (Addr → Value → Option Addr → TS)
def clG (o : Option Nat) (σ : L2.St) : L2.St := match o with
  | none => σ
  | some i => σ.set i none
def clD (o : Option Nat) (D : Ends) : Ends := ⟨fun σ H => D.nx (clG o σ) H, D.rt, fun σ H => D.bk (clG o σ) H, fun σ H => D.ct (clG o σ) H⟩
def clS (o : Option Nat) (a : Addr) (σ : L2.St) : L2.St := match o with
  | none => σ
  | some i => σ.set i (some (.ref a))
/-- what the clauses, one after the other, do of an exception -/
def wCl (K : PySem.W.Frag) (W : WX) (D : Ends) : List Clz → WX
  | [] => W
  | (c, o, ts) :: r => fun cls d σ H => ∃ b, PySem.W.exmOne K cls c = some b ∧ (b = true → ∀ a, H a = none → ts a cls d (clD o D) (clS o a σ) H) ∧ (b = false → wCl K W D r cls d σ H)
inductive ClOk (X : Cx) : List ExceptHandler → List Clz → Prop
  | nil : ClOk X [] []
  | plain {x : Str} {c : Value} {ts : Addr → Value → Option Addr → TS} {b₀ : Stmt} {su : List Stmt} {np p : Pos} {hs : List ExceptHandler} {l : List Clz} (hc : Names X x c)
      (go : ∀ (a : Addr) (ob : Obj) (cls : Value) (d : Option Addr) (pn : List (Addr × Obj)), Zc cls d ob → (∃ us, ob.data = .fields us) → PSs (X.suite a ((a, ob) :: pn)) (b₀ :: su) (ts a cls d)) (r : ClOk X hs l) :
      ClOk X (.ExceptHandler (some (.Name x np)) none (b₀ :: su) p :: hs) ((c, none, ts) :: l)
  | named {x n : Str} {i : Nat} {c : Value} {ts : Addr → Value → Option Addr → TS} {b₀ : Stmt} {su : List Stmt} {np p : Pos} {hs : List ExceptHandler} {l : List Clz} (hN : X.N.Nodup) (hi : X.N[i]? = some n) (hln : X.env.kindOf n = some .local) (hc : Names X x c)
      (go : ∀ (a : Addr) (ob : Obj) (cls : Value) (d : Option Addr) (pn : List (Addr × Obj)), Zc cls d ob → (∃ us, ob.data = .fields us) → PSs (X.suite a ((a, ob) :: pn)) (b₀ :: su) (ts a cls d)) (r : ClOk X hs l) :
      ClOk X (.ExceptHandler (some (.Name x np)) (some n) (b₀ :: su) p :: hs) ((c, some i, ts) :: l)
section
variable {X : Cx} {pins : List (Addr × Obj)} {σ : L2.St} {H : Hp} {e : Addr} {cls : Value} {d : Option Addr} {z : Shared} {W : WX} {D : Ends}
theorem ClOk.run {hs : List ExceptHandler} {l : List Clz} (k : ClOk X hs l) (ok : X.Ok) (tk : Takes X W) : ∀ {z : Shared}, Ld X pins σ H e cls d z → wCl X.K W D l cls d σ H → wpAny (model X.prog X.w) X.A (handleBy (.ref e) X.env hs) (SP X pins D) X.xe z := by
  induction k with
  | nil => exact fun L w => L.on tk w
  | plain hc go _ ih =>
    rintro z L ⟨b, hb, yes, no⟩
    refine wpAny_handleBy_cons (codeAny_handlers_test (L.asks hc hb ?_)) nofun
    cases b with
    | false => exact ih L (no rfl)
    | true =>
      refine codeAny_handlers_suite (L.again fun h L2 => ?_)
      obtain ⟨ob, us, h1, h2, h3, S⟩ := L2.in
      refine wpAny_mono ((go e ob cls d _ h2 ⟨us, h3⟩).run [] _ σ H (clD none D) S (yes rfl e L.un)) (fun f y q => ?_) fun _ _ q => q.elim
      cases f with
      | ret u => exact let ⟨v, s, G, J, r, q⟩ := q; ⟨v, s, G, J.unsuite ok, r, q⟩
      | next => exact let ⟨s, G, J, q⟩ := q; ⟨s, G, J.unsuite ok, q⟩
      | brk => exact let ⟨s, G, J, q⟩ := q; ⟨s, G, J.unsuite ok, q⟩
      | cont => exact let ⟨s, G, J, q⟩ := q; ⟨s, G, J.unsuite ok, q⟩
  | @named x n i c ts b₀ su np p hs l hN hi hln hc go _ ih =>
    rintro z L ⟨b, hb, yes, no⟩
    refine wpAny_handleBy_cons (codeAny_handlers_test (L.asks hc hb ?_)) nofun
    cases b with
    | false => exact ih L (no rfl)
    | true =>
      refine codeAny_handlers_suite_as (L.again fun h L2 => ?_)
      obtain ⟨ob, us, h1, h2, h3, S⟩ := L2.in
      refine store_ok (X := X.suite e ((e, ob) :: (X.pn ++ pins))) (v := .ref e) S hN hi (.inl hln) rfl (fun y T => ?_) (.inr hln)
      refine wpAny_mono ((go e ob cls d _ h2 ⟨us, h3⟩).run [] _ _ H (clD (some i) D) T (yes rfl e L.un)) (fun f y2 q => ?_) fun _ _ q => q.elim
      cases f with
      | ret u => exact let ⟨v, s, G, J, r, q⟩ := q; gone_ok (J.unsuite ok) hN hi hln fun y3 J3 => ⟨v, _, G, J3, r, q⟩
      | next => exact let ⟨s, G, J, q⟩ := q; gone_ok (J.unsuite ok) hN hi hln fun y3 J3 => ⟨_, G, J3, q⟩
      | brk => exact let ⟨s, G, J, q⟩ := q; gone_ok (J.unsuite ok) hN hi hln fun y3 J3 => ⟨_, G, J3, q⟩
      | cont => exact let ⟨s, G, J, q⟩ := q; gone_ok (J.unsuite ok) hN hi hln fun y3 J3 => ⟨_, G, J3, q⟩
end
section
variable {X : Cx} {body : List Stmt} {h₀ : ExceptHandler} {hs : List ExceptHandler} {l : List Clz} {pos : Pos} {tb : WX → TS} {W : WX}
/-- try: body, then clauses of any kind -/
theorem ps_try_cl (sk : X.stack = X.env :: X.outer) (fr : X.env.frame = some X.env.locals) (tk : Takes X W) (go : ∀ (Z : WX) (pn : List (Addr × Obj)) (xe : Value → Shared → Prop), Takes (X.tr pn xe) Z → PassesOwn (model X.prog X.w) X.A X.env xe → PSs (X.tr pn xe) body (tb Z))
    (k : ClOk X (h₀ :: hs) l) : PS X (.Try body (h₀ :: hs) [] [] pos) (fun D σ H => tb (wCl X.K W D l) D σ H) := by
  refine ⟨fun pins s σ H D I w => wpAny_Try_except ?_⟩
  have ok := I.ok
  refine wpAny_mono ((go (wCl X.K W D l) (X.pn ++ pins) _ (fun u y xx => ?ex) PassesOwn.looking).run [] s σ H D (I.toTry _) w) (fun f y q => ?en) fun _ _ q => q
  case ex =>
    obtain ⟨e, B, y0, ps, σ1, H1, cls, d, rfl, J, nb, up, sky, na, os, ag, w1⟩ := xx
    refine Sky.land Zc.steady (by rw [ok.frames, sk] : X.A.frames = some (X.env :: X.outer)) fr (sk ▸ sky) fun h f u2 => ?_
    exact k.run ok tk (pins := pins) ⟨sk, fr, na, B, y0, J.ofTry ok, nb, up.trans u2, os, ag, f⟩ w1
  cases f with
  | ret u => exact let ⟨v, s, G, J, r, q⟩ := q; ⟨v, s, G, J.ofTry ok, r, q⟩
  | next => exact let ⟨s, G, J, q⟩ := q; wpAny_execs_nil ⟨s, G, J.ofTry ok, q⟩
  | brk => exact let ⟨s, G, J, q⟩ := q; ⟨s, G, J.ofTry ok, q⟩
  | cont => exact let ⟨s, G, J, q⟩ := q; ⟨s, G, J.ofTry ok, q⟩
end
end L3

set_option Elab.async false
set_option linter.all false
set_option maxRecDepth 100000
set_option maxHeartbeats 1000000
namespace L3
open PySem PySem.Spec PyProof.Rows L2
/-! o - x by an own __sub__, x a text -/
theorem str_no_minus : fillsNumberSlot (.type "str") "sub" = pure false := by kernel_rfl
def rSubO (C : Addr) (sp : Sp) : R2 := fun x y H Q => ∃ a dx fs, ∃ z : Str, x = V.ref a ∧ y = V.str z ∧ H a = some (.ins C dx fs) ∧ sp [.ref a, .str z] H (fun v H' => (∃ p, v = .ref p) ∧ Q v H') E0
theorem op_subO {X : Cx} {C : Addr} {k : Nat} {ps : List Str} {sp : Sp} (o : OwnSp X.prog X.w X.K X.mg X.base k C "__sub__" ps sp) (hsf : PySem.W.selfFirst X.K C = true) (hr : Room k X.A) : OpR X (binaryOp .Sub) (rSubO C sp) := by
  rintro pins s σ H x y u v Q I rx ry ⟨a, dx, fs, z, rfl, rfl, ha, q⟩
  obtain ⟨f, fd, F, hs, hf, hb⟩ := o
  cases (show u = Value.ref a from rx)
  obtain ⟨t, ev⟩ := ry
  subst ev
  obtain ⟨ox, od, J⟩ := own_inst I ha
  obtain ⟨m, hF⟩ := I.fr
  have KX := I.ok.mod.kin.keeps hF.keep
  obtain ⟨cd, hcd, hm⟩ := PySem.W.any_some hsf
  obtain ⟨rest, hm⟩ : ∃ rest, cd.mro = .ref C :: rest := by
    cases e : cd.mro with
    | nil => rw [e] at hm; cases hm
    | cons c r => rw [e] at hm; exact ⟨r, by rw [List.head?_cons] at hm; cases (beq_iff_eq.mp hm); rfl⟩
  have body : wpAny (model X.prog X.w) X.A (call (.ref f) [.ref a, .str z t]) (fun w s' => ∃ p, w = Value.ref p ∧ EP X pins σ Q (.ref p) s') X.xe s :=
    wpAny_mono (run_deep (us := [.ref a, .str z t]) (vs := [.ref a, .str z]) F hr I.env0 hb pass0 I (.cons rfl (.cons ⟨t, rfl⟩ .nil)) q) (fun w s' zz => by
      obtain ⟨x', H', I', rz, ⟨p, e⟩, qz⟩ := zz
      subst e
      cases (show w = Value.ref p from rz)
      exact ⟨p, rfl, .ref p, H', I', rfl, qz⟩) fun _ _ e => e
  unfold binaryOp
  refine wpAny_holding (wpAny_bind ?_)
  unfold binaryOp1
  refine wpAny_bind (J.type.here (wpAny_bind (wpAny_typeOf (typeIs_str s z t) (wpAny_bind ((PySem.W.fills_K (nm := "sub") KX hcd hm hs).here ?_)))))
  rw [if_neg (by simp), str_no_minus]
  refine wpAny_bind (wpAny_pure ?_)
  simp only [Bool.and_false, Bool.false_eq_true, if_false, Bool.false_and]
  refine wpAny_bind (wpAny_pure ?_)
  simp only [Bool.false_eq_true, if_false]
  refine wpAny_bind (m := tryMethod (.ref a) _ (.str z t)) ?_
  unfold tryMethod
  refine wpAny_bind (PySem.W.special_fn KX J hs (beq_iff_eq.mp hf) (wpAny_mono body (fun w s' ⟨p, e, qz⟩ => ?_) fun _ _ e => e))
  subst e
  exact wpAny_pure (wpAny_pure (wpAny_pure qz))
section
variable {σ : Sl} {M : Hp} {ta tb : TE} {α : Type} {R1 : Rl α} {C : Addr}
theorem gv_subO [Mon R1] {pre : α → Str → Prop} {R : α → Str → Pr} {x : α} {z : Str} (ha : Gv ta σ M (R1 x)) (hb : Gv tb σ M (Tx z)) (hi : ∀ z M v, R1 z M v → ∃ a dx fs, v = .ref a ∧ M a = some (.ins C dx fs)) (hp : pre x z) (hr : ∀ M v, R x z M v → ∃ p, v = .ref p) :
    Gv (tOp (rSubO C (sp2 R1 Tx pre R)) ta tb) σ M (R x z) := fun H mh Q q =>
  ha H mh _ fun v M1 H1 g1 p1 => hb.le g1.mm H1 g1.mh _ fun w M2 H2 g2 p2 => by
    cases (show w = _ from p2)
    have p3 : R1 x M2 v := Mon.mono g2.mm p1
    obtain ⟨a, dx, fs, rfl, h1⟩ := hi x M2 v p3
    exact ⟨a, dx, fs, z, rfl, rfl, g2.mh _ _ h1, x, z, M2, _, _, rfl, g2.mh, p3, rfl, hp, fun u M' H' g r => ⟨hr _ _ r, q u M' H' ((g1.trans g2).trans g) r⟩⟩
end
end L3

set_option Elab.async false
set_option linter.all false
set_option maxRecDepth 100000
set_option maxHeartbeats 1000000
namespace L3
open PySem PySem.Spec PyProof.Rows L2
/-! a new list stands apart from sys.modules; repr of a list of one tuple (text, thing), the thing data or an empty dict -/
def tLstN (t : TA) : TE := fun σ H Q => t σ H fun xs H1 => xs.length ≤ sizeLine ∧ ∀ p, H1 p = none → p ≠ sysModules → Q (.ref p) (upd H1 p (.lst xs))
section
variable {X : Cx}
theorem pe_lstN {es : List Expr} {t : TA} {pos : Pos} (h : PA X es t) : PE X (.List es pos) (tLstN t) :=
  ⟨fun pins s σ H Q I hq => wpAny_List_spliced (thn (h.run pos pins s σ H _ I hq) fun us s1 ⟨xs, H1, I1, r, z, q⟩ =>
    ⟨r.length ▸ z, .ref _, _, I1.laid (o := .lst xs) (t' := s1.toks) (fun _ _ e => Heap.get?_push_of_some _ e) (Nat.le_refl _) ⟨z, us, 0, r, Heap.get?_push_size _ rfl⟩, rfl, q _ (I1.hok.fresh (Nat.le_refl _)) (Nat.ne_of_gt I1.big)⟩)⟩
theorem txf_reads {pins : List (Addr × Obj)} {s : Shared} {σ : L2.St} {H : Hp} {t : Str × PyData} {v : V} {u : Value} (I : L2.Inv X pins σ H s) (h : TxF X.K t H v) (ru : L2.RelV v u) : ∃ as, Reads s.heap u (txD t) as ∧ ((txD t).hasDict = true → sysModules ∉ as) := by
  obtain ⟨x, d⟩ := t
  obtain ⟨p, w, rfl, hp, hw⟩ := h
  cases (show u = Value.ref p from ru)
  obtain ⟨its, rv, ⟨o, ho, hc, n, hd⟩, _⟩ := I.tuple (show SqT X.K H p [.str x, w] from .inl (.inl hp))
  cases rv with
  | @cons _ u1 _ _ r1 rv =>
    cases rv with
    | @cons _ u2 _ _ r2 rv =>
      cases rv
      obtain ⟨t1, rfl⟩ := r1
      obtain ⟨as, rd, hsm⟩ : ∃ as, Reads s.heap u2 d as ∧ (d.hasDict = true → sysModules ∉ as) := by
        rcases (show Dp X.K H w d ∨ (d = .dict [] ∧ ∃ a, w = .ref a ∧ H a = some (.dK [])) from hw) with hw | ⟨ed, a, ew, ha⟩
        · obtain ⟨as, rd⟩ := Dp.reads I d w _ hw r2
          exact ⟨as, rd, PyData.noDict_hsm (dp_nodict hw)⟩
        · subst ed ew
          cases (show _ = Value.ref a from r2)
          obtain ⟨_, hn, vs, rk, o2, es, ep, ho2, hc2, hd2, _, pp, _⟩ := dk_of I.hok ha
          cases rk
          have ees : es.toList = [] := by cases h : es.toList with
            | nil => rfl
            | cons e r => rw [h] at pp; cases pp
          refine ⟨_, Reads.dict (kvs := []) ho2 hc2.1 hd2 (by rw [ees]; exact .nil) (by rw [ees]; exact .nil), fun _ z => ?_⟩
          have : sysModules = a := by simpa using z
          rw [← this] at hn
          simp at hn
      refine ⟨[] ++ (as ++ []), Reads.tuple ho hc hd (.cons (.str x t1) (.cons rd .nil)), fun h => ?_⟩
      have h : d.hasDict = true := by simpa [txD, PyData.hasDict, PyData.hasDictAll] using h
      simpa using hsm h
def LzF (K : PySem.W.Frag) : Rl (Str × PyData) := fun t M v => ∃ p w, v = .ref p ∧ p ≠ sysModules ∧ M p = some (.lst [w]) ∧ TxF K t M w
instance {K : PySem.W.Frag} : Mon (LzF K) := ⟨fun e ⟨p, w, h1, h2, h3, h4⟩ => ⟨p, w, h1, h2, e _ _ h3, Mon.mono e h4⟩⟩
def lzD (t : Str × PyData) : PyData := .list [txD t]
def rReprL (K : PySem.W.Frag) : List V → Hp → VK → Prop := fun xs H Q => ∃ v t, xs = [v] ∧ LzF K t H v ∧ (lzD t).showable = true ∧ (lzD t).depth ≤ 64 ∧ (lzD t).shown.length ≤ sizeLine ∧ Q (.str (lzD t).shown) H
theorem call_reprL (hgu : X.A.guards = some []) (hu : X.A.units + 70 < cLine) : CallR X (.builtin "repr") (rReprL X.K) := by
  rintro pins s σ H _ us Q I r ⟨v, t, rfl, ⟨p, w, rfl, np, hp, hw⟩, hs, hdp, hz, q⟩
  have ⟨u, eu, ru⟩ := vals1 r
  subst eu
  cases (show u = Value.ref p from ru)
  obtain ⟨its, rv, ⟨o, n, ho, hc, _, hd⟩, _⟩ := I.list (show SqL X.K H p [w] from .inl (.inl hp))
  cases rv with
  | @cons _ u1 _ _ r1 rv =>
    cases rv
    obtain ⟨as, rd, hsm⟩ := txf_reads I hw r1
    refine repr_of_reads' (d := lzD t) (Reads.list ho hc hd (.cons rd .nil)) hs (fun h z => ?_) hgu (by omega) (fun _ _ e => e) (fun h' u' tk k => ⟨.str (lzD t).shown, H, I.kept k, ⟨_, rfl⟩, q⟩) hz
    have h : (txD t).hasDict = true := by simpa [lzD, PyData.hasDict, PyData.hasDictAll] using h
    have z : sysModules = p ∨ sysModules ∈ as := by simpa using z
    exact z.elim (fun e => np e.symm) (hsm h)
end
section
variable {K : PySem.W.Frag} {σ : Sl} {M : Hp} {te : TE}
theorem gv_reprL {t : Str × PyData} (h : Gv te σ M (LzF K t)) (h1 : (lzD t).showable = true) (h2 : (lzD t).depth ≤ 64) (h3 : (lzD t).shown.length ≤ sizeLine) : Gv (tCB (rReprL K) (tCons te tNil)) σ M (Tx (lzD t).shown) :=
  gv_cb1 h fun M' v hv H mh Q q => ⟨v, t, rfl, Mon.mono mh hv, h1, h2, h3, q _ M' H (.refl mh) rfl⟩
theorem gv_lz {t : Str × PyData} (h : Gv te σ M (TxF K t)) : Gv (tLstN (tCons te tNil)) σ M (LzF K t) := fun H mh Q q =>
  h H mh _ fun v M1 H1 g1 r => ⟨by show 1 ≤ sizeLine; decide, fun p np ns => q (.ref p) _ _ (g1.trans ((Gr.own g1.mh np).freeze np (g1.mh.free np) upd_same)) ⟨p, v, rfl, ns, upd_same, Mon.mono (same_new (g1.mh.free np)) r⟩⟩
end
end L3

set_option Elab.async false
set_option linter.all false
set_option maxRecDepth 100000
set_option maxHeartbeats 1000000
namespace L3
open PySem PySem.Spec PyProof.Rows L2 LamX
open L3.Strm
/-! x(lambda: body, e); a method that raises -/
section
variable {X : Cx} {pins : List (Addr × Obj)} {σ : L2.St} {H : Hp} {s : Shared}
/-- one more object that stays as it is -/
theorem pin_more {f : Addr} {ob : Obj} (I : L2.Inv X pins σ H s) (h1 : s.heap.get? f = some ob) (h2 : H f = none) (h3 : f ≠ X.env.locals) (h4 : f ∉ X.fs) (h5 : ∀ v, ob.data ≠ .cell v) : L2.Inv X ((f, ob) :: pins) σ H s :=
  ⟨I.ok, I.os, I.bare, I.base, I.loc, I.cell, I.free, I.freeC, fun p hp => by
    rcases List.mem_append.mp hp with hp | hp
    · exact I.pin p (List.mem_append_left _ hp)
    · rcases List.mem_cons.mp hp with e | hp
      · rw [e]; exact ⟨h1, h2, h3, h4, h5⟩
      · exact I.pin p (List.mem_append_right _ hp), I.hok, I.len⟩
theorem pin_less {p : Addr × Obj} (I : L2.Inv X (p :: pins) σ H s) : L2.Inv X pins σ H s ∧ s.heap.get? p.1 = some p.2 ∧ H p.1 = none :=
  ⟨⟨I.ok, I.os, I.bare, I.base, I.loc, I.cell, I.free, I.freeC, fun q hq => I.pin q (by
    rcases List.mem_append.mp hq with hq | hq
    · exact List.mem_append_left _ hq
    · exact List.mem_append_right _ (List.mem_cons_of_mem _ hq)), I.hok, I.len⟩, let h := I.pin p (List.mem_append_right _ (List.mem_cons_self ..)); ⟨h.1, h.2.1⟩⟩
end
/-- the lambda's code, run where its maker's frame stood at σ, H -/
theorem lam_ran {X : Cx} {pins : List (Addr × Obj)} {σ : L2.St} {H HZ : Hp} {s s1 : Shared} {A : Around} {outer : List Env} {E : XK} {Q : VK} {f c' : Addr} {pm ctv : Value} {params : Arguments} {body : Expr} {scope : Scope} {k : Nat} {tb : TE}
    (I : L2.Inv X pins σ H s) (L : LamS X.env.scope scope) (un : Un (frs X.stack) [] H HZ s.heap s1.heap) (e0 : Env0 X.prog X.w X.K X.mg X.base A outer s1 HZ) (nl : s1.heap.NoLimit) (hok : L2.HOk X.prog X.w HZ s1.heap) (hr : Room (k + 1) A)
    (hf : s1.heap.get? f = some (PySem.W.kla_obj "<lambda>" (X.env.qual ++ "<lambda>") params body scope (cloFrom X.env.cells scope.names []) pm c' ctv)) (hc : HZ c' = some (CodeO c' (X.env.qual ++ "<lambda>")))
    (hbind : bindArgs (PySem.W.kla_fn "<lambda>" (X.env.qual ++ "<lambda>") params body scope (cloFrom X.env.cells scope.names []) pm (.ref c') ctv) ⟨[], []⟩ = pure [])
    (hb : PE (lamCx X A outer s1 HZ E scope f c') body tb) (h : tb σ HZ Q) : codeAny (model X.prog X.w) A (.call (.ref f) ⟨[], []⟩) (CR (L2.CX X.prog X.w) outer X.prog X.w HZ s1 Q E) s1 := by
  have rec_ : s1.heap.CodeRec (.ref c') (X.env.qual ++ "<lambda>") := by
    obtain ⟨⟨oc, vs, t, h1, h2, h3⟩, _⟩ := hok c' _ hc
    exact ⟨c', oc, vs, t, rfl, h1, h2, h3⟩
  apply PySem.W.kla_callFunE hr.depth hf rfl L.co L.gen rfl rec_
  rw [hbind]
  apply wpAny_pure
  apply wpAny_newFunctionEnv (fun y hy => (L.own y hy).2) (fun y hy => absurd hy (by simp)) _ L.kind
  intro h1 ns sb
  constructor
  · exact nl.fresh _ sb
  have J := lam_start2 (s1 := s1) (HZ := HZ) (A := A) (outer := outer) (E := E) (f := f) (c' := c') (h₁ := h1) (tk := s1.toks + ([] : List (Str × Value)).length) I L e0 hr.hd un ns fun b o e => sb.extBut b o (Nat.ne_of_lt (Heap.lt_size e)) (Heap.get?_push_of_some _ e)
  apply PySem.W.kla_codeExpr
  apply wpAny_mono (hb.run [] _ _ HZ Q J h)
  · rintro v s2 ⟨w, H2, J2, rv, q⟩
    exact ⟨w, H2, J2.os, J2.bare, J2.base, J2.hok, rv, q⟩
  · exact fun _ _ z => z
/-- x() in the def that got the lambda; what is raised is taken in the state of the call -/
theorem pe_act2 {X : Cx} {pins : List (Addr × Obj)} {σ : L2.St} {H : Hp} {s : Shared} {CXg : CXT} {Eg : XK} {Ng : List Str} {qg : Str} {sg : Scope} {g f c' : Addr} {cdg pm ctv : Value} {params : Arguments} {body : Expr} {scope : Scope} {k i : Nat} {a : Str} {pn : List (Addr × Obj)} {xe : Value → Shared → Prop} {W : WX} {E : XK} {tb : TE} {p1 p2 : Pos}
    (I : L2.Inv X pins σ H s) (L : LamS X.env.scope scope) (hf : s.heap.get? f = some (PySem.W.kla_obj "<lambda>" (X.env.qual ++ "<lambda>") params body scope (cloFrom X.env.cells scope.names []) pm c' ctv)) (hfn : H f = none) (hfr : f ∉ frs X.stack)
    (hbind : bindArgs (PySem.W.kla_fn "<lambda>" (X.env.qual ++ "<lambda>") params body scope (cloFrom X.env.cells scope.names []) pm (.ref c') ctv) ⟨[], []⟩ = pure [])
    (tk : Takes ((cxOf CXg X.prog X.w X.K X.mg X.base Ng qg sg g cdg X.A X.stack s H Eg).tr pn xe) W) (hr : Room (k + 1) (X.A.deeper (envOfC qg sg s.heap.objs.size g cdg)))
    (hbody : ∀ (A : Around) (outer : List Env) (s : Shared) (H : Hp), Room k (A.deeper (lamEnv X scope s.heap.objs.size f c')) → PE (lamCx X A outer s H E scope f c') body tb)
    (hN : Ng[i]? = some a) (hv : Vis sg a) (hd : (a == ("__debug__" : Str)) = false) (hcd : (a == ("__classdict__" : Str)) = false) :
    PE ((cxOf CXg X.prog X.w X.K X.mg X.base Ng qg sg g cdg X.A X.stack s H Eg).tr pn xe) (.Call (.Name a p1) [] [] p2)
      (fun σZ HZ Q => σZ[i]? = some (some (.ref f)) ∧ HZ c' = some (CodeO c' (X.env.qual ++ "<lambda>")) ∧ (∀ cls d H', E cls d H' → W cls d σZ H') ∧ tb σ HZ Q) := by
  constructor
  rintro pinsZ sZ σZ HZ Q IZ ⟨hs, hc, hW, ht⟩
  apply wpAny_Call_Name_kw
  apply thn ((pe_var (pos := p1) (i := i) hN hv hd hcd).run pinsZ sZ σZ HZ (fun v H1 => v = .ref f ∧ H1 = HZ) IZ ⟨.ref f, hs, rfl, rfl⟩)
  rintro u s1 ⟨v, H1, I1, r1, rfl, eH⟩
  rw [eH] at I1
  cases (show u = Value.ref f from r1)
  have stands := I1.base.keep f _ hf hfn hfr (fun z => nomatch (show f ∈ ([] : List Addr) from z))
  apply PySem.W.callWith_F0 ⟨_, _, _, _, stands⟩
  have ran := lam_ran (X := X) (A := X.A.deeper (envOfC qg sg s.heap.objs.size g cdg)) (E := E) (Q := Q) (tb := tb) (outer := envOfC qg sg s.heap.objs.size g cdg :: X.stack) I L I1.base I1.env0 I1.nolimit I1.hok hr stands hc hbind (hbody _ _ s1 HZ (hr.deeper _)) ht
  refine wpAny_call (codeAny_mono ran ?_)
  rintro (e | fl) s2 z
  · exact tk e s2 (XE.of_call I1 hW z)
  · cases fl with
    | ret u => exact I1.after z
    | next => exact z.elim
    | brk => exact z.elim
    | cont => exact z.elim
/-- the def that calls its first argument; TT: what it makes of the second one and the lambda's reading -/
def GivesTo2 (X : Cx) (Ng : List Str) (x : Str) (sg : Scope) (g : Addr) (cdg : Value) (bg : List Stmt) (a q : Str) (TT : V → (XK → Hp → VK → Prop) → Hp → VK → Prop) : Prop :=
  ∀ (f c' : Addr) (y : V) (s : Shared) (H : Hp) (Q : VK) (tl : XK → Hp → VK → Prop),
    (∀ (W : WX) (pn : List (Addr × Obj)) (xe : Value → Shared → Prop) (E : XK) (p1 p2 : Pos), Takes ((cxOf C8.CX0 X.prog X.w X.K X.mg X.base Ng x sg g cdg X.A X.stack s H C8.E0).tr pn xe) W →
      PE ((cxOf C8.CX0 X.prog X.w X.K X.mg X.base Ng x sg g cdg X.A X.stack s H C8.E0).tr pn xe) (.Call (.Name a p1) [] [] p2) (fun σZ HZ Q => σZ[0]? = some (some (.ref f)) ∧ HZ c' = some (CodeO c' q) ∧ (∀ cls d H', E cls d H' → W cls d σZ H') ∧ tl E HZ Q)) →
    H c' = some (CodeO c' q) → TT y tl H Q →
    ∃ t, PSs (cxOf C8.CX0 X.prog X.w X.K X.mg X.base Ng x sg g cdg X.A X.stack s H C8.E0).nox bg t ∧ t { nx := fun _ H' => Q .non H', rt := Q } (L2.start Ng [.ref f, y]) H
def tLam2 (T : List (Addr × Str)) (TT : V → (XK → Hp → VK → Prop) → Hp → VK → Prop) (t : XK → TE) (t2 : TE) : TE := fun σ H Q => Tabs T H ∧ ∀ H1, ExtN H H1 → Tabs T H1 → t2 σ H1 fun y H2 => H2 = H1 ∧ TT y (fun E H' Q' => t E σ H' Q') H1 Q
section
variable {X : Cx}
theorem pe_lam2 {TT : V → (XK → Hp → VK → Prop) → Hp → VK → Prop} {x a b : Str} {g c P : Addr} {k : Nat} {fd : FuncData} {st : Stmt} {Ng : List Str} {params : Arguments} {body e : Expr} {scope : Scope} {t : XK → TE} {t2 : TE} {p lpos pos : Pos}
    (F : Fun X.K x x st g fd) (hm : X.mg x = some (.ref g)) (hb : L2.Binds X.K fd [a, b] []) (Sg : FnScope Ng [a, b] (defScope st)) (hNg : Ng[0]? = some a) (hva : Vis (defScope st) a)
    (hG : ∀ cdv, GivesTo2 X Ng x (defScope st) g cdv (defBody st) a (X.env.qual ++ "<lambda>") TT) (TB : TabB X.base X.mg c P) (hcode : X.env.code = .ref c) (hst : X.stack = X.env :: X.outer) (hr : Room (k + 2) X.A) (L : LamS X.env.scope scope)
    (hbody : ∀ (A : Around) (outer : List Env) (s : Shared) (H : Hp) (E : XK) (f c' : Addr), Room k (A.deeper (lamEnv X scope s.heap.objs.size f c')) → PE (lamCx X A outer s H E scope f c') body (t E)) (h2 : PE X e t2)
    (hse : starEach [.Lambda params body scope lpos, e] X.env = (false, eval (.Lambda params body scope lpos) X.env) :: starEach [e] X.env := by rfl) (hpl : (backTo pos (starEach [e] X.env)).any (·.1) = false := by rfl) (hs2 : starEach [e] X.env = (false, eval e X.env) :: starEach [] X.env := by rfl)
    (hg : Gl X x := by rfl) (hdef : defaultsOf params X.env = ([], []) := by rfl) (hbind : ∀ (q : Str) (cl : List (Str × Addr)) (pm cv ctv : Value), bindArgs (PySem.W.kla_fn "<lambda>" q params body scope cl pm cv ctv) ⟨[], []⟩ = pure [] := by intros; rfl)
    (hdb : (x == ("__debug__" : Str)) = false := by decide) (hd : (a == ("__debug__" : Str)) = false := by decide) (hcd : (a == ("__classdict__" : Str)) = false := by decide) :
    PE X (.Call (.Name x p) [.Lambda params body scope lpos, e] [] pos) (tLam2 [(P, X.env.qual ++ "<lambda>")] TT t t2) := by
  obtain ⟨oc, od, kV, doc, pm, an, cdv, ct, osl, efd, lk, hc⟩ := F.ex
  subst efd
  refine ⟨fun pins s σ H Q I ⟨hT, h⟩ => wpAny_Call_Name_kw (ld_glob I hg hm (PySem.W.callWith_K (h₀ := X.base) I.ok.mod.kin F.kp ?_ hse hpl) hdb)⟩
  show wpAny _ _ (spliced ((false, eval (.Lambda params body scope lpos) X.env) :: backTo pos (starEach [e] X.env))) _ _ s
  refine Calls.spliced_cons (lam_make2 I TB hcode (List.mem_singleton.mpr rfl) (fun q hq _ => by rw [List.mem_singleton.mp hq]) hT hdef (L.has I.ok) fun f c' pm' ctv H1 s' I1 eN T1 hf hfn hfr hco => ?_)
  have off : f ∉ frs (X.env :: X.outer) := by rw [← hst]; exact hfr
  have nl : f ≠ X.env.locals := fun z => by
    obtain ⟨m, ⟨o, es, ep, ho, hd, _⟩, _⟩ := I1.loc
    rw [← z, hf] at ho
    cases ho
    cases hd
  have nf : f ∉ X.fs := fun z => by
    obtain ⟨v, h6, h7⟩ := List.mem_filterMap.mp z
    exact off (List.mem_filterMap.mpr ⟨v, List.mem_cons_of_mem _ h6, h7⟩)
  have I1p := pin_more I1 hf hfn nl nf nofun
  refine thn ((pa_cons h2 pa_nil hs2).run pos _ s' σ H1 (fun vs H2 => match vs with
    | [y] => H2 = H1 ∧ TT y (fun E H' Q' => t E σ H' Q') H1 Q
    | _ => False) I1p (h H1 eN T1)) fun us s2 ⟨vs, H2, I2p, r, q2⟩ => ?_
  match vs, q2, r with
  | [y], ⟨e2, q2⟩, r =>
    subst e2
    obtain ⟨u, eu, ru⟩ := vals1 r
    subst eu
    obtain ⟨I2, hf2, hfn2⟩ := pin_less I2p
    refine ⟨I2.kIn, ?_⟩
    have rc : codeAny (model X.prog X.w) X.A (.call (.ref g) ⟨[.ref f, u], []⟩) (CR C8.CX0 X.stack X.prog X.w H2 s2 Q C8.E0) s2 := by
      refine run_ofS (N := Ng) (ps := [a, b]) (us := [.ref f, u]) (vs := [.ref f, y]) lk hc Sg hr I2.env0 (hb s2 [.ref f, u] I2.kIn rfl) (.cons rfl (.cons ru .nil)) rfl fun hr' => ?_
      obtain ⟨t', ht', hq'⟩ := hG cdv f c' y s2 H2 Q (fun E H' Q' => t E σ H' Q') (fun W pn xe E p1 p2 tk => pe_act2 (i := 0) I2 L hf2 hfn2 hfr (hbind _ _ _ _ _) tk hr' (fun A outer s H hr2 => hbody A outer s H E f c' hr2) hNg hva hd hcd) hco q2
      exact ⟨t', ht'.nox, hq'⟩
    refine wpAny_call (codeAny_mono rc fun r s3 hq => ?_)
    match r, hq with
    | .ok (.ret u), hq => exact I2.after hq
    | .ok .next, hq => exact False.elim hq
    | .ok .brk, hq => exact False.elim hq
    | .ok .cont, hq => exact False.elim hq
    | .error e, hq => exact (show False from hq).elim
end
/-- a method that raises -/
def MetX (P : Program) (w : World) (K : PySem.W.Frag) (mg : Str → Option Value) (base : Heap) (k : Nat) (C : Addr) (m : Str) (ps : List Str) (sp : Sp) : Prop :=
  ∃ f fd, Cls K C ∧ Meth K C m f ∧ FnOk P w K mg base (L2.CX P w) k f fd ps sp ∧ L2.Binds K fd ps []
section
variable {X : Cx} {W : WX} {E : XK} {k : Nat} {C : Addr} {m : Str} {ps : List Str} {sp : Sp} {o : Expr} {to : TE} {pos apos : Pos} {pl : Sem Bool}
theorem pe_mX0 (c : MetX X.prog X.w X.K X.mg X.base k C m ps sp) (hr : Room k X.A) (tk : Takes X W) (hW : ∀ cls d σ H, E cls d H → W cls d σ H) (ho : PE X o to)
    (ht : eval (.Call (.Attribute o m apos) [] [] pos) X.env = (do let ov ← eval o X.env; standAt apos.atName; let (f, first) ← holding [ov] (getMethod ov m pl); callWith pos f first (backTo pos (starEach [] X.env)) (backToKw pos (keywordEach [] X.env))) := by rfl) :
    PE X (.Call (.Attribute o m apos) [] [] pos) (tMeth C m sp [] E to tNil) :=
  let ⟨_, _, cl, hm, F, hb⟩ := c
  pe_meth0 ho cl hm F hr hb .nil (passes_call tk hW) ht
end
/-- the two arguments' readings, then what follows -/
theorem lam_step2 {S : Strm} {Pt : Addr} {q : Str} {M H : Hp} {k : Nat} {σ : Sl} {P : Pr} {y : V} {TT : V → (XK → Hp → VK → Prop) → Hp → VK → Prop} {t : XK → TE} {t2 : TE} (L : LS S Pt q M H k) (h2 : ∀ H1 (Q : VK), Same M H1 → Q y H1 → t2 σ H1 Q) (h : Gv (fun σ H Q => TT y (fun E H' Q' => t E σ H' Q') H Q) σ M P) {Q : VK}
    (go : ∀ v M' H', Same M M' → LS S Pt q M' H' k → P M' v → Q v H') : tLam2 [(Pt, q)] TT t t2 σ H Q :=
  ⟨fun p hp => by rw [List.mem_singleton.mp hp]; exact L.tb, fun H1 eN T1 => by
    have m1 : Same M H1 := fun x o e => eN x o (cut_same _ _ (L.mh x o e)) fun ps z => L.nt x ps (z ▸ e)
    have a1 : S.At k H1 := L.at_.ext eN
    have c1 : Same M (S.cut H1) := fun x o e => by rw [cut_on (on_of (L.mh x o e))]; exact m1 x o e
    have L1 : LS S Pt q M H1 k := ⟨c1, a1, T1 _ (List.mem_singleton.mpr rfl), L.mp, L.nt⟩
    exact h2 H1 _ m1 ⟨rfl, h H1 m1 Q fun v M' H' g p => go v M' H' g.mm (L1.step (lift c1 a1 g) (a1.same g.hh)) p⟩⟩
end L3

set_option Elab.async false
set_option linter.all false
set_option maxRecDepth 100000
set_option maxHeartbeats 1000000
namespace L3
open PySem PySem.Spec PyProof.Rows L2
/-! a & b, a | b, a < b of two instances by own methods; every n-th item -/
/-- an own special method that may raise -/
def OwnX (P : Program) (w : World) (K : PySem.W.Frag) (mg : Str → Option Value) (base : Heap) (k : Nat) (C : Addr) (nm : Str) (ps : List Str) (sp : Sp) : Prop :=
  ∃ f fd, FnOk P w K mg base (L2.CX P w) k f fd ps sp ∧ PySem.W.findIn K (.ref C) nm = some (some (.ref f)) ∧ PySem.W.isFn K (.ref f) = true ∧ Binds K fd ps []
def rBinO (C : Addr) (sp : Sp) (E : XK) : R2 := fun x y H Q => ∃ a b dx dy fs gs, x = V.ref a ∧ y = V.ref b ∧ H a = some (.ins C dx fs) ∧ H b = some (.ins C dy gs) ∧ sp [.ref a, .ref b] H (fun v H' => (∃ p, v = .ref p) ∧ Q v H') E
section
variable {X : Cx} {C : Addr} {k : Nat} {ps : List Str} {sp : Sp} {CT : CXT} {E : XK}
theorem bin_own {nm : String} {f : Addr} {fd : FuncData} (F : FnOk X.prog X.w X.K X.mg X.base CT k f fd ps sp) (hs : PySem.W.findIn X.K (.ref C) (PySem.dunder nm) = some (some (.ref f))) (hf : PySem.W.isFn X.K (.ref f) = true) (hb : Binds X.K fd ps []) (hx : Passes CT X E)
    (hsf : PySem.W.selfFirst X.K C = true) (hr : Room k X.A) {pins : List (Addr × Obj)} {s : Shared} {σ : L2.St} {H : Hp} {Q : VK} (I : L2.Inv X pins σ H s) {a b dx dy : Addr} {fs gs : List (Str × V)} (ha : H a = some (.ins C dx fs)) (hb' : H b = some (.ins C dy gs))
    (q : sp [.ref a, .ref b] H (fun v H' => (∃ p, v = .ref p) ∧ Q v H') E) : wpAny (model X.prog X.w) X.A (binaryOp1 nm (.ref a) (.ref b)) (fun o s' => ∃ w, o = some w ∧ EP X pins σ Q w s') X.xe s := by
  obtain ⟨ox, od, J⟩ := own_inst I ha
  obtain ⟨oy, od', J'⟩ := own_inst I hb'
  obtain ⟨m, hF⟩ := I.fr
  have KX := I.ok.mod.kin.keeps hF.keep
  obtain ⟨cd, hcd, hm⟩ := PySem.W.any_some hsf
  obtain ⟨rest, hm⟩ : ∃ rest, cd.mro = .ref C :: rest := by
    cases e : cd.mro with
    | nil => rw [e] at hm; cases hm
    | cons c r => rw [e] at hm; exact ⟨r, by rw [List.head?_cons] at hm; cases (beq_iff_eq.mp hm); rfl⟩
  have body : wpAny (model X.prog X.w) X.A (call (.ref f) [.ref a, .ref b]) (fun w s' => ∃ p, w = Value.ref p ∧ EP X pins σ Q (.ref p) s') X.xe s :=
    wpAny_mono (run_deep (us := [.ref a, .ref b]) (vs := [.ref a, .ref b]) F hr I.env0 hb hx I (.cons rfl (.cons rfl .nil)) q) (fun w s' zz => by
      obtain ⟨x', H', I', rz, ⟨p, e⟩, qz⟩ := zz
      subst e
      cases (show w = Value.ref p from rz)
      exact ⟨p, rfl, .ref p, H', I', rfl, qz⟩) fun _ _ e => e
  unfold binaryOp1
  refine wpAny_bind (J.type.here (wpAny_bind (J'.type.here (wpAny_bind ((PySem.W.fills_K (nm := nm) KX hcd hm hs).here ?_)))))
  rw [if_pos (by simp)]
  refine wpAny_bind (wpAny_pure ?_)
  simp only [Bool.and_false, Bool.false_eq_true, if_false, Bool.false_and]
  refine wpAny_bind (wpAny_pure ?_)
  simp only [Bool.false_eq_true, if_false]
  refine wpAny_bind (m := tryMethod (.ref a) _ (.ref b)) ?_
  unfold tryMethod
  refine wpAny_bind (PySem.W.special_fn KX J hs (beq_iff_eq.mp hf) (wpAny_mono body (fun w s' ⟨p, e, qz⟩ => ?_) fun _ _ e => e))
  subst e
  exact wpAny_pure (wpAny_pure ⟨_, rfl, qz⟩)
theorem op_and_of {f : Addr} {fd : FuncData} (F : FnOk X.prog X.w X.K X.mg X.base CT k f fd ps sp) (hs : PySem.W.findIn X.K (.ref C) "__and__" = some (some (.ref f))) (hf : PySem.W.isFn X.K (.ref f) = true) (hb : Binds X.K fd ps []) (hx : Passes CT X E)
    (hsf : PySem.W.selfFirst X.K C = true) (hr : Room k X.A) : OpR X (binaryOp .BitAnd) (rBinO C sp E) := by
  rintro pins s σ H x y u v Q I rx ry ⟨a, b, dx, dy, fs, gs, rfl, rfl, ha, hb', q⟩
  cases (show u = Value.ref a from rx)
  cases (show v = Value.ref b from ry)
  unfold binaryOp
  refine wpAny_holding (wpAny_bind (wpAny_mono (bin_own (nm := "and") F hs hf hb hx hsf hr I ha hb' q) (fun o s' ⟨w, e, z⟩ => ?_) fun _ _ z => z))
  subst e
  exact wpAny_pure z
theorem op_or_of {f : Addr} {fd : FuncData} (F : FnOk X.prog X.w X.K X.mg X.base CT k f fd ps sp) (hs : PySem.W.findIn X.K (.ref C) "__or__" = some (some (.ref f))) (hf : PySem.W.isFn X.K (.ref f) = true) (hb : Binds X.K fd ps []) (hx : Passes CT X E)
    (hsf : PySem.W.selfFirst X.K C = true) (hr : Room k X.A) : OpR X (binaryOp .BitOr) (rBinO C sp E) := by
  rintro pins s σ H x y u v Q I rx ry ⟨a, b, dx, dy, fs, gs, rfl, rfl, ha, hb', q⟩
  cases (show u = Value.ref a from rx)
  cases (show v = Value.ref b from ry)
  unfold binaryOp
  refine wpAny_holding (wpAny_bind (wpAny_mono (bin_own (nm := "or") F hs hf hb hx hsf hr I ha hb' q) (fun o s' ⟨w, e, z⟩ => ?_) fun _ _ z => z))
  subst e
  exact wpAny_pure z
theorem op_andO (o : OwnSp X.prog X.w X.K X.mg X.base k C "__and__" ps sp) (hsf : PySem.W.selfFirst X.K C = true) (hr : Room k X.A) : OpR X (binaryOp .BitAnd) (rBinO C sp E0) := let ⟨_, _, F, hs, hf, hb⟩ := o; op_and_of F hs hf hb pass0 hsf hr
theorem op_orO (o : OwnSp X.prog X.w X.K X.mg X.base k C "__or__" ps sp) (hsf : PySem.W.selfFirst X.K C = true) (hr : Room k X.A) : OpR X (binaryOp .BitOr) (rBinO C sp E0) := let ⟨_, _, F, hs, hf, hb⟩ := o; op_or_of F hs hf hb pass0 hsf hr
theorem op_andX {W : WX} (o : OwnX X.prog X.w X.K X.mg X.base k C "__and__" ps sp) (hsf : PySem.W.selfFirst X.K C = true) (hr : Room k X.A) (tk : Takes X W) (hW : ∀ cls d σ H, E cls d H → W cls d σ H) : OpR X (binaryOp .BitAnd) (rBinO C sp E) := let ⟨_, _, F, hs, hf, hb⟩ := o; op_and_of F hs hf hb (passes_call tk hW) hsf hr
theorem op_orX {W : WX} (o : OwnX X.prog X.w X.K X.mg X.base k C "__or__" ps sp) (hsf : PySem.W.selfFirst X.K C = true) (hr : Room k X.A) (tk : Takes X W) (hW : ∀ cls d σ H, E cls d H → W cls d σ H) : OpR X (binaryOp .BitOr) (rBinO C sp E) := let ⟨_, _, F, hs, hf, hb⟩ := o; op_or_of F hs hf hb (passes_call tk hW) hsf hr
theorem op_ltO (o : OwnSp X.prog X.w X.K X.mg X.base k C "__lt__" ps sp) (hr : Room k X.A) : OpR X (compareOp .Lt) (rLeO C sp) := by
  rintro pins s σ H x y u v Q I rx ry ⟨a, b, dx, dy, fs, gs, rfl, rfl, ha, hb', q⟩
  obtain ⟨f, fd, F, hs, hf, hb⟩ := o
  cases (show u = Value.ref a from rx)
  cases (show v = Value.ref b from ry)
  obtain ⟨ox, od, J⟩ := own_inst I ha
  obtain ⟨oy, od', J'⟩ := own_inst I hb'
  obtain ⟨m, hF⟩ := I.fr
  have run := run_deep (us := [.ref a, .ref b]) (vs := [.ref a, .ref b]) (pins := pins) (σ := σ) F hr I.env0 hb pass0 I (.cons rfl (.cons rfl .nil)) q
  refine PySem.W.cmp_K (op := .Lt) (tb := .ref C) hr.units0 hF I.ok.mod.kin J J'.type (by simp [PySem.W.notFirst]) hs hf (wpAny_mono run (fun w s' z => ?_) fun _ _ x => x)
  obtain ⟨z', H', I', rz, c, e, qz⟩ := z
  subst e
  cases (show w = Value.bool c from rz)
  exact ⟨.bl c, H', I', rfl, qz⟩
end
section
variable {σ : Sl} {M : Hp} {ta tb : TE} {α : Type} {R1 : Rl α} {C : Addr}
theorem gv_binO [Mon R1] {pre : α → α → Prop} {R : α → α → Pr} {x y : α} (ha : Gv ta σ M (R1 x)) (hb : Gv tb σ M (R1 y)) (hi : ∀ z M v, R1 z M v → ∃ a dx fs, v = .ref a ∧ M a = some (.ins C dx fs)) (hp : pre x y) (hr : ∀ M v, R x y M v → ∃ p, v = .ref p) :
    Gv (tOp (rBinO C (sp2 R1 R1 pre R) E0) ta tb) σ M (R x y) := fun H mh Q q =>
  ha H mh _ fun v M1 H1 g1 p1 => hb.le g1.mm H1 g1.mh _ fun w M2 H2 g2 p2 => by
    have p3 : R1 x M2 v := Mon.mono g2.mm p1
    obtain ⟨a, dx, fs, rfl, h1⟩ := hi x M2 v p3
    obtain ⟨b, dy, gs, rfl, h2⟩ := hi y M2 w p2
    exact ⟨a, b, dx, dy, fs, gs, rfl, rfl, g2.mh _ _ h1, g2.mh _ _ h2, x, y, M2, _, _, rfl, g2.mh, p3, p2, hp, fun u M' H' g r => ⟨hr _ _ r, q u M' H' ((g1.trans g2).trans g) r⟩⟩
end
/-! every n-th item of a list -/
def nthIx (n : Int) (m : Nat) : List Nat := sliceRange (sliceBounds none none (some n) m).1 (sliceBounds none none (some n) m).2.1 (sliceBounds none none (some n) m).2.2
def nthL {α : Type} (n : Int) (xs : List α) : List α := (nthIx n xs.length).filterMap (xs[·]?)
def tNthL (K : PySem.W.Frag) (n : Int) (te : TE) : TE := fun σ H Q => te σ H fun x H1 => ∃ a xs, x = .ref a ∧ SqL K H1 a xs ∧ (nthL n xs).length ≤ sizeLine ∧ ∀ p, H1 p = none → Q (.ref p) (upd H1 p (.lst (nthL n xs)))
theorem vals_nth {vs : List V} {us : List Value} (r : Vals vs us) (n : Int) : Vals (nthL n vs) (nthL n us) := by
  unfold nthL
  rw [r.length]
  generalize nthIx n us.length = ix
  induction ix with
  | nil => exact .nil
  | cons i ix ih =>
    have key : ∀ {vs : List V} {us : List Value}, Vals vs us → ∀ i : Nat, (vs[i]? = none ∧ us[i]? = none) ∨ ∃ v u, vs[i]? = some v ∧ us[i]? = some u ∧ RelV v u := by
      intro vs us r
      induction r with
      | nil => intro i; exact .inl ⟨rfl, rfl⟩
      | @cons v u vs us h _ ih =>
        intro i
        cases i with
        | zero => exact .inr ⟨v, u, rfl, rfl, h⟩
        | succ i => simpa using ih i
    rcases key r i with ⟨e1, e2⟩ | ⟨v, u, e1, e2, h⟩
    · rw [List.filterMap_cons, List.filterMap_cons, e1, e2]; exact ih
    · rw [List.filterMap_cons, List.filterMap_cons, e1, e2]; exact .cons h ih
theorem pd_nth {α : Type} {R : Rl α} {M : Hp} {xs : List α} {vs : List V} (r : Pd R M xs vs) (n : Int) : Pd R M (nthL n xs) (nthL n vs) := by
  unfold nthL
  rw [r.length]
  generalize nthIx n vs.length = ix
  induction ix with
  | nil => exact .nil
  | cons i ix ih =>
    have key : ∀ {xs : List α} {vs : List V}, Pd R M xs vs → ∀ i : Nat, (xs[i]? = none ∧ vs[i]? = none) ∨ ∃ x v, xs[i]? = some x ∧ vs[i]? = some v ∧ R x M v := by
      intro xs vs r
      induction r with
      | nil => intro i; exact .inl ⟨rfl, rfl⟩
      | @cons x v xs vs h _ ih =>
        intro i
        cases i with
        | zero => exact .inr ⟨x, v, rfl, rfl, h⟩
        | succ i => simpa using ih i
    rcases key r i with ⟨e1, e2⟩ | ⟨x, v, e1, e2, h⟩
    · rw [List.filterMap_cons, List.filterMap_cons, e1, e2]; exact ih
    · rw [List.filterMap_cons, List.filterMap_cons, e1, e2]; exact .cons h ih
theorem nth_mem {α : Type} {n : Int} {xs : List α} {x : α} (h : x ∈ nthL n xs) : x ∈ xs := by
  obtain ⟨i, _, e⟩ := List.mem_filterMap.mp h
  exact List.mem_of_getElem? e
theorem pe_nthL {X : Cx} {n : Nat} (hn : n ≠ 0) {e : Expr} {te : TE} {k : Nat} {p1 p3 pos : Pos} (he : PE X e te) : PE X (.Subscript e (.Slice none none (some (.Constant (.int (n : Nat)) k p1)) p3) pos) (tNthL X.K (n : Nat) te) := by
  constructor
  intro pins s σ H Q I h
  apply Subscript_
  apply thn (he.run pins s σ H _ I h)
  rintro v s1 ⟨x, H1, I1, r1, a, xs, ex, hx, hz, q⟩
  subst ex
  cases r1
  have hst : PO X (some (.Constant (.int (n : Nat)) k p1)) (tPart (tC (.int (n : Nat)))) := po_some pe_int
  apply wpAny_Slice
  apply thn (po_none.run pins s1 σ H1 (fun o H2 => o = none ∧ H2 = H1) I1 ⟨rfl, rfl⟩)
  rintro vl s2 ⟨l, H2, I2, pl, rfl, eH⟩
  rw [eH] at I2
  apply thn (po_none.run pins s2 σ H1 (fun o H3 => o = none ∧ H3 = H1) I2 ⟨rfl, rfl⟩)
  rintro vu s3 ⟨u, H3, I3, pu, rfl, eH⟩
  rw [eH] at I3
  apply thn (hst.run pins s3 σ H1 (fun o H4 => o = some ((n : Nat) : Int) ∧ H4 = H1) I3 ⟨_, rfl, rfl, rfl⟩)
  rintro vs s4 ⟨o, H4, I4, ps, rfl, eH⟩
  rw [eH] at I4
  have I5 : L2.Inv X pins σ H1 { s4 with heap := s4.heap.push { cls := .type "slice", data := .fields #[vl, vu, vs] } } := I4.kept (t' := s4.toks) fun b ob q => Heap.get?_push_of_some _ q
  obtain ⟨its, r, ht, hz2⟩ := I5.list hx
  show wpAny (model X.prog X.w) X.A (subscriptTail e (.Slice none none (some (.Constant (.int (n : Nat)) k p1)) p3) (.ref a) (.ref s4.heap.objs.size)) (EP X pins σ Q) X.xe { s4 with heap := s4.heap.push { cls := .type "slice", data := .fields #[vl, vu, vs] } }
  apply tail_any (ops := [.ref a, .ref s4.heap.objs.size]) ht.isList.typeIs (PySem.slot_list_getitem.lookup) _ (by with_unfolding_all rfl)
  refine wpAny_getItem_list_slice ht.isList (Heap.IsSliceOf.new _ vl vu vs) pl pu ps (by intro z; injection z with z; omega) ?_ (by have := r.length; rw [List.size_toArray]; omega)
  have ep : slicePick its.toArray none none (some ((n : Nat) : Int)) = (nthL ((n : Nat) : Int) its).toArray := by
    unfold slicePick nthL nthIx
    simp
  rw [ep]
  exact ⟨.ref _, _, I5.laid (t' := s4.toks) (o := .lst (nthL ((n : Nat) : Int) xs)) (fun b ob q => Heap.get?_push_of_some _ q) (Nat.le_refl _) ⟨hz, _, 0, vals_nth r _, Heap.get?_push_size _ rfl⟩, rfl, q _ (I5.hok.fresh (Nat.le_refl _))⟩
theorem gl_nthL {K : PySem.W.Frag} {σ : Sl} {M : Hp} {te : TE} {n : Int} {α : Type} {R : Rl α} [Mon R] {xs : List α} (h : Gv te σ M (LstR K R xs)) (hz : (nthL n xs).length ≤ sizeLine) : GvL (tNthL K n te) σ M fun M ws => Pd R M (nthL n xs) ws := fun H mh Q q =>
  h H mh _ fun v M1 H1 g1 ⟨a, vs, e, hs, hp⟩ => ⟨a, vs, e, sl_mono g1.mh hs, by rw [← (pd_nth hp n).length]; exact hz, fun p np => q p _ M1 _ (g1.trans (.own g1.mh np)) (g1.hh.free np) (g1.mh.free np) upd_same (pd_nth hp n)⟩
end L3

set_option Elab.async false
set_option linter.all false
set_option maxRecDepth 100000
set_option maxHeartbeats 1000000
namespace L3
open PySem PySem.Spec PyProof.Rows L2
/-! t[::-1] of a tuple; [x] * n -/
theorem rev_items (items : Array Value) : ((List.range items.size).filterMap fun (k : Nat) => items[(((items.size : Int) - 1) + (k : Int) * (-1)).toNat]?).toArray = items.toList.reverse.toArray := by
  have e : (fun (k : Nat) => items[(((items.size : Int) - 1) + (k : Int) * (-1)).toNat]?) = (items[·]?) ∘ fun k => items.size - 1 - k := by
    funext k
    have : (((items.size : Int) - 1) + (k : Int) * (-1)).toNat = items.size - 1 - k := by omega
    simp only [Function.comp, this]
  rw [e, ← List.filterMap_map, PySem.W.krv_range, List.filterMap_reverse, PySem.W.krv_all]
section
variable {prog : Program} {w : World} {A : Around} {E : Value → Shared → Prop} {s : Shared}
theorem applied_rev {sl : Addr} {vl vu vs : Value} {n : Nat} {Q : Int × Int × Nat → Shared → Prop} (hs : s.heap.IsSliceOf sl vl vu vs) (pl : IsPart vl none) (pu : IsPart vu none) (ps : IsPart vs (some (-1))) (h : Q ((n : Int) - 1, -1, n) s) :
    wpAny (model prog w) A (Builtin.Slice.sliceApplied (.ref sl) (pure (n : Int))) Q E s := by
  have ⟨ob, hob, _, hda⟩ := hs
  unfold Builtin.Slice.sliceApplied Builtin.Slice.sliceFields
  apply wpAny_bind
  apply wpAny_bind
  apply wpAny_field hob hda (x := vl) rfl
  apply wpAny_bind
  apply wpAny_field hob hda (x := vu) rfl
  apply wpAny_bind
  apply wpAny_field hob hda (x := vs) rfl
  apply wpAny_pure
  apply wpAny_bind
  apply HT.slicePart_ ps
  have step : ¬ (((some (-1 : Int)).getD 1 == 0) = true) := by decide
  simp only [step, if_false]
  apply wpAny_bind
  apply HT.slicePart_ pl
  apply wpAny_bind
  apply HT.slicePart_ pu
  apply wpAny_bind
  apply wpAny_pure
  have e1 : Builtin.Slice.sliceAdjust none none (-1) (n : Int) = ((n : Int) - 1, -1) := rfl
  have e2 : Builtin.Slice.slicePlaces ((n : Int) - 1) (-1) (-1) = n := by
    unfold Builtin.Slice.slicePlaces
    rw [if_neg (by decide)]
    split
    · simp only [Int.neg_neg, Int.ediv_one]; omega
    · omega
  have e3 : (some (-1 : Int)).getD 1 = -1 := rfl
  simp only [e3, e1, e2]
  exact wpAny_pure h
theorem item_rev {t sl : Addr} {items : Array Value} {vl vu vs : Value} {Q : Value → Shared → Prop} (ht : IsTup s.heap t items) (hs : s.heap.IsSliceOf sl vl vu vs) (pl : IsPart vl none) (pu : IsPart vu none) (ps : IsPart vs (some (-1)))
    (h : Q (.ref s.heap.objs.size) { s with heap := s.heap.push { cls := .type "tuple", data := .seq items.toList.reverse.toArray } }) (hsz : items.size ≤ sizeLine) : wpAny (model prog w) A (getItem (.ref t) (.ref sl)) Q E s := by
  have fits : sizeOk (.seq items.toList.reverse.toArray) := by
    show items.toList.reverse.toArray.size ≤ sizeLine
    rw [List.size_toArray, List.length_reverse, Array.length_toList]
    exact hsz
  have sty : s.TypeIs (.ref sl) "slice" := let ⟨o, h1, h2, _⟩ := hs; ⟨o, h1, h2⟩
  unfold getItem
  try with_reducible apply wpAny_holding
  first | (apply wpAny_bind; apply wpAny_pure) | skip
  apply wpAny_bind
  apply wpAny_sequenceKey ht.typeIs (by decide)
  apply wpAny_bind
  apply wpAny_callSpecial?_slot (name := Str.ofString "__getitem__") ht.typeIs PyProof.Rows.slot_tuple_getitem
  refine wpAny_call_entry PyProof.Rows.slot_tuple_getitem ht.typeIs entry_tuple_getitem ?_ (args_tuple_getitem _ _)
  show wpAny _ _ (Builtin.Tuple.tupleItemsOf (.ref t) >>= _) _ _ s
  apply wpAny_bind
  apply tupleItemsOf_ ht
  apply wpAny_bind
  apply wpAny_typeOf sty
  rw [if_pos (by decide)]
  apply wpAny_bind
  apply applied_rev hs pl pu ps
  have other : ¬ ((((items.size : Int) - 1) == 0 && (-1 : Int) == 1 && items.size == items.size) = true) := by
    intro z
    rw [Bool.and_eq_true, Bool.and_eq_true] at z
    exact absurd z.1.2 (by decide)
  show wpAny _ _ (if (((items.size : Int) - 1) == 0 && (-1 : Int) == 1 && items.size == items.size) = true then _ else _) _ _ s
  rw [if_neg other, rev_items]
  first
    | exact wpAny_bind (m := Builtin.Tuple.tupleExact _) (wpAny_newObj_type (wpAny_pure ⟨_, rfl, wpAny_pure h⟩) fits)
    | exact wpAny_bind (m := Builtin.Tuple.tupleExact _) (wpAny_newObj_type (wpAny_bind (wpAny_pure (wpAny_pure ⟨_, rfl, wpAny_pure h⟩))) fits)
    | exact wpAny_bind (wpAny_bind (m := Builtin.Tuple.tupleExact _) (wpAny_newObj_type (wpAny_pure (wpAny_pure ⟨_, rfl, wpAny_pure h⟩)) fits))
    | exact wpAny_bind (wpAny_bind (m := Builtin.Tuple.tupleExact _) (wpAny_newObj_type (wpAny_pure ⟨_, rfl, wpAny_pure h⟩) fits))
end
def tRevT (K : PySem.W.Frag) (te : TE) : TE := fun σ H Q => te σ H fun x H1 => ∃ a xs, x = .ref a ∧ SqT K H1 a xs ∧ ∀ p, H1 p = none → Q (.ref p) (upd H1 p (.tup xs.reverse))
theorem pe_revT {X : Cx} {e : Expr} {te : TE} {k : Nat} {p1 p2 p3 pos : Pos} (he : PE X e te) : PE X (.Subscript e (.Slice none none (some (.UnaryOp .USub (.Constant (.int 1) k p1) p2)) p3) pos) (tRevT X.K te) := by
  constructor
  intro pins s σ H Q I h
  apply Subscript_
  apply thn (he.run pins s σ H _ I h)
  rintro v s1 ⟨x, H1, I1, r1, a, xs, ex, hx, q⟩
  subst ex
  cases r1
  have hst : PO X (some (.UnaryOp .USub (.Constant (.int 1) k p1) p2)) (tPart (tUn (rU fun i => .int (-i)) (tC (.int 1)))) := po_some (pe_un un_neg pe_int)
  apply wpAny_Slice
  apply thn (po_none.run pins s1 σ H1 (fun o H2 => o = none ∧ H2 = H1) I1 ⟨rfl, rfl⟩)
  rintro vl s2 ⟨l, H2, I2, pl, rfl, eH⟩
  rw [eH] at I2
  apply thn (po_none.run pins s2 σ H1 (fun o H3 => o = none ∧ H3 = H1) I2 ⟨rfl, rfl⟩)
  rintro vu s3 ⟨u, H3, I3, pu, rfl, eH⟩
  rw [eH] at I3
  apply thn (hst.run pins s3 σ H1 (fun o H4 => o = some (-1) ∧ H4 = H1) I3 ⟨1, rfl, -1, rfl, rfl, rfl⟩)
  rintro vs s4 ⟨o, H4, I4, ps, rfl, eH⟩
  rw [eH] at I4
  have I5 : L2.Inv X pins σ H1 { s4 with heap := s4.heap.push { cls := .type "slice", data := .fields #[vl, vu, vs] } } := I4.kept (t' := s4.toks) fun b ob q => Heap.get?_push_of_some _ q
  obtain ⟨its, r, ht, hz⟩ := I5.tuple hx
  have hl := r.length
  show wpAny (model X.prog X.w) X.A (subscriptTail e (.Slice none none (some (.UnaryOp .USub (.Constant (.int 1) k p1) p2)) p3) (.ref a) (.ref s4.heap.objs.size)) (EP X pins σ Q) X.xe { s4 with heap := s4.heap.push { cls := .type "slice", data := .fields #[vl, vu, vs] } }
  apply tail_any (ops := [.ref a, .ref s4.heap.objs.size]) ht.typeIs (PyProof.Rows.slot_tuple_getitem.lookup) _ (by with_unfolding_all rfl)
  refine item_rev ht (Heap.IsSliceOf.new _ vl vu vs) pl pu ps ?_ (by rw [List.size_toArray]; omega)
  exact ⟨.ref _, _, I5.laid (t' := s4.toks) (o := .tup xs.reverse) (fun b ob q => Heap.get?_push_of_some _ q) (Nat.le_refl _) ⟨by rw [List.length_reverse]; exact hz, _, r.reverse, ⟨_, Heap.get?_push_size _ rfl, rfl, 0, by simp⟩⟩, rfl, q _ (I5.hok.fresh (Nat.le_refl _))⟩
section
variable {K : PySem.W.Frag} {σ : Sl} {M : Hp} {te tb : TE}
theorem gv_revT {xs : List Str} (h : Gv te σ M (TT xs)) : Gv (tRevT K te) σ M (TT xs.reverse) := fun H mh Q q =>
  h H mh _ fun v M1 H1 g1 ⟨a, e, r⟩ => ⟨a, xs.map V.str, e, .inl (.inl (g1.mh _ _ r)), fun p np => q (.ref p) _ _ (g1.trans (.new g1.mh np)) ⟨p, rfl, by rw [upd_same, List.map_reverse]⟩⟩
end
end L3

set_option Elab.async false
set_option linter.all false
set_option maxRecDepth 100000
set_option maxHeartbeats 1000000
namespace L3
open PySem PySem.Spec PyProof.Rows L2
/-! a method with arguments that raises -/
section
variable {X : Cx} {W : WX} {E : XK} {k : Nat} {C : Addr} {m : Str} {ps : List Str} {sp : Sp} {o e : Expr} {es : List Expr} {to : TE} {t : TA} {pos apos : Pos} {pl : Sem Bool}
theorem pe_mX1 (c : MetX X.prog X.w X.K X.mg X.base k C m ps sp) (hr : Room k X.A) (tk : Takes X W) (hW : ∀ cls d σ H, E cls d H → W cls d σ H) (ho : PE X o to) (ha : PA X (e :: es) t) (hst : starEach (e :: es) X.env = (false, eval e X.env) :: starEach es X.env := by rfl) (hpl : (backTo pos (starEach es X.env)).any (·.1) = false := by rfl)
    (ht : eval (.Call (.Attribute o m apos) (e :: es) [] pos) X.env = (do let ov ← eval o X.env; standAt apos.atName; let (f, first) ← holding [ov] (getMethod ov m pl); callWith pos f first (backTo pos (starEach (e :: es) X.env)) (backToKw pos (keywordEach [] X.env))) := by rfl) :
    PE X (.Call (.Attribute o m apos) (e :: es) [] pos) (tMeth C m sp [] E to t) := by
  obtain ⟨_, _, cl, hm, F, hb⟩ := c
  exact pe_meth ho cl hm F hr hb .nil (passes_call tk hW) ha hst hpl ht
end
end L3

set_option Elab.async false
set_option linter.all false
set_option maxRecDepth 100000
set_option maxHeartbeats 1000000
namespace L3
open PySem PySem.Spec PyProof.Rows L2
/-! an instance whose __init__ may raise -/
def MakX (P : Program) (w : World) (K : PySem.W.Frag) (mg : Str → Option Value) (base : Heap) (k : Nat) (x : Str) (C : Addr) (ps : List Str) (sp : Sp) : Prop :=
  ∃ f fd, Mk K C f ∧ FnOk P w K mg base (L2.CX P w) k f fd ps sp ∧ mg x = some (.ref C) ∧ Binds K fd ps []
theorem pe_mkX {X : Cx} {W : WX} {E : XK} {k : Nat} {x : Str} {C : Addr} {ps : List Str} {sp : Sp} {e : Expr} {es : List Expr} {t : TA} {p pos : Pos} (c : MakX X.prog X.w X.K X.mg X.base k x C ps sp) (hr : Room (k + 1) X.A) (tk : Takes X W) (hW : ∀ cls d σ H, E cls d H → W cls d σ H) (ha : PA X (e :: es) t) (hg : Gl X x := by rfl)
    (hdb : (x == ("__debug__" : Str)) = false := by decide) (he : starEach (e :: es) X.env = (false, eval e X.env) :: starEach es X.env := by rfl) (hpl : (backTo pos (starEach es X.env)).any (·.1) = false := by rfl) :
    PE X (.Call (.Name x p) (e :: es) [] pos) (tMake C sp [] E t) := by
  obtain ⟨_, _, M, F, m, b⟩ := c
  exact pe_make M F hr hg m b .nil (passes_call tk hW) ha hdb he hpl
end L3

set_option Elab.async false
set_option linter.all false
set_option maxRecDepth 100000
set_option maxHeartbeats 1000000
namespace L3
open PySem PySem.Spec PyProof.Rows L2
/-! o - y by an own __sub__ that raises, y data or an empty dict -/
theorem minus_int : fillsNumberSlot (.type "int") "sub" = pure true := by kernel_rfl
theorem minus_bool : fillsNumberSlot (.type "bool") "sub" = pure true := by kernel_rfl
theorem minus_str : fillsNumberSlot (.type "str") "sub" = pure false := by kernel_rfl
theorem minus_list : fillsNumberSlot (.type "list") "sub" = pure false := by kernel_rfl
theorem minus_tup : fillsNumberSlot (.type "tuple") "sub" = pure false := by kernel_rfl
theorem minus_dict : fillsNumberSlot (.type "dict") "sub" = pure false := by kernel_rfl
theorem minus_none : fillsNumberSlot (.type "NoneType") "sub" = pure false := by kernel_rfl
theorem int_off (C : Addr) : isSubtype (.type "int") (.ref C) = pure false := by rfl
theorem bool_off (C : Addr) : isSubtype (.type "bool") (.ref C) = pure false := by rfl
theorem rsub_int : typeLookup (.type "int") (dunderR "sub") = pure (some (.builtin "int.__rsub__")) := by kernel_rfl
theorem rsub_bool : typeLookup (.type "bool") (dunderR "sub") = pure (some (.builtin "int.__rsub__")) := by kernel_rfl
/-- an own special method whose other side is a built-in value; T: its type, c: whether it has the slot -/
structure OffT (T : String) (c : Bool) : Prop where
  fl : fillsNumberSlot (.type T) "sub" = pure c
  up : ∀ C, isSubtype (.type T) (.ref C) = pure false
  py : numberSlotInPython (.type T) "sub" = pure false
  rl : c = true → ∃ o, typeLookup (.type T) (dunderR "sub") = pure o
theorem off_of {K : PySem.W.Frag} {M : Hp} {d : PyData} {v : V} (h : DdF K d M v) : ∃ c, OffT (tyN d) c := by
  cases d with
  | none => exact ⟨false, minus_none, fun C => rfl, rfl, nofun⟩
  | bool b => exact ⟨true, minus_bool, bool_off, rfl, fun _ => ⟨_, rsub_bool⟩⟩
  | int i => exact ⟨true, minus_int, int_off, rfl, fun _ => ⟨_, rsub_int⟩⟩
  | str x => exact ⟨false, minus_str, fun C => rfl, rfl, nofun⟩
  | list xs => exact ⟨false, minus_list, fun C => rfl, rfl, nofun⟩
  | tuple xs => exact ⟨false, minus_tup, fun C => rfl, rfl, nofun⟩
  | dict kvs => exact ⟨false, minus_dict, fun C => rfl, rfl, nofun⟩
def rSubX (K : PySem.W.Frag) (C : Addr) (sp : Sp) (E : XK) : R2 := fun x y H _ => ∃ a dx fs d, x = V.ref a ∧ H a = some (.ins C dx fs) ∧ DdF K d H y ∧ sp [.ref a, y] H (fun _ _ => False) E
theorem op_subX {X : Cx} {C : Addr} {k : Nat} {ps : List Str} {sp : Sp} {E : XK} {W : WX} (o : OwnX X.prog X.w X.K X.mg X.base k C "__sub__" ps sp) (hsf : PySem.W.selfFirst X.K C = true) (hnr : PySem.W.findIn X.K (.ref C) "__rsub__" = some none) (hr : Room k X.A) (tk : Takes X W) (hW : ∀ cls d σ H, E cls d H → W cls d σ H) : OpR X (binaryOp .Sub) (rSubX X.K C sp E) := by
  rintro pins s σ H x y u v Q I rx ry ⟨a, dx, fs, d, rfl, ha, hd, q⟩
  obtain ⟨f, fd, F, hs, hf, hb⟩ := o
  cases (show u = Value.ref a from rx)
  obtain ⟨ox, od, J⟩ := own_inst I ha
  obtain ⟨m, hF⟩ := I.fr
  have KX := I.ok.mod.kin.keeps hF.keep
  obtain ⟨cd, rest, hcd, hm⟩ := PySem.W.ksp_first hsf
  obtain ⟨P, Z, hP, _⟩ := kit_of I ry (ty_F hd)
  have L2 := Z.ty (model X.prog X.w) s.heap KX hP
  obtain ⟨c, T⟩ := off_of hd
  have inPy : PySem.W.Looks (model X.prog X.w) s.heap (numberSlotInPython (.ref C) "sub") true := PySem.W.ksp_inPy KX hs hnr (.inl rfl)
  have body : wpAny (model X.prog X.w) X.A (call (.ref f) [.ref a, v]) (fun _ _ => False) X.xe s :=
    wpAny_mono (run_deep (us := [.ref a, v]) (vs := [.ref a, y]) F hr I.env0 hb (passes_call tk hW) I (.cons rfl (.cons ry .nil)) q) (fun w s' zz => by
      obtain ⟨_, _, _, _, z⟩ := zz
      exact z) fun _ _ e => e
  have one : wpAny (model X.prog X.w) X.A (tryMethod (.ref a) (PySem.dunder "sub") v) (fun _ _ => False) X.xe s := by
    unfold tryMethod
    exact wpAny_bind (PySem.W.special_fn KX J hs (beq_iff_eq.mp hf) (wpAny_mono body (fun _ _ z => z.elim) fun _ _ e => e))
  have ne : (Value.ref C == Value.type (tyN d)) = false := Bool.eq_false_iff.mpr fun q => by cases beq_iff_eq.mp q
  unfold binaryOp
  refine wpAny_holding (wpAny_bind ?_)
  unfold binaryOp1
  refine wpAny_bind (J.type.here (wpAny_bind (L2.here (wpAny_bind ((PySem.W.fills_K (nm := "sub") KX hcd hm hs).here ?_)))))
  rw [ne, if_neg (by simp), T.fl]
  cases c with
  | false =>
    refine wpAny_bind (wpAny_pure ?_)
    simp only [Bool.and_false, Bool.false_and]
    refine wpAny_bind (wpAny_pure ?_)
    rw [if_neg (by simp), if_pos trivial]
    exact wpAny_bind (wpAny_mono one (fun _ _ z => z.elim) fun _ _ e => e)
  | true =>
    refine wpAny_bind (wpAny_pure ?_)
    simp only [Bool.and_true, if_true]
    rw [T.up]
    refine wpAny_bind (wpAny_pure ?_)
    simp only [Bool.not_false, Bool.and_true, if_true]
    refine wpAny_bind (inPy.here ?_)
    simp only [if_true]
    rw [T.py]
    refine wpAny_bind (wpAny_pure ?_)
    obtain ⟨o, eo⟩ := T.rl rfl
    rw [eo]
    simp only [Bool.not_false, if_true]
    refine wpAny_bind (wpAny_pure ?_)
    exact wpAny_bind (wpAny_mono one (fun _ _ z => z.elim) fun _ _ e => e)
end L3

set_option Elab.async false
set_option linter.all false
set_option maxRecDepth 100000
set_option maxHeartbeats 1000000
namespace L3
open PySem PySem.Spec PyProof.Rows L2 PySem.SeqAt
open AutoSeq1 (wpAny_loadPart')
open MeetsSeq MeetsSeq2 MeetsSeq3 SeqRoads2
/-! o == y, y != o: o an instance with an own __eq__, y data or an empty dict -/
theorem int_off_inst (b : Int) (u : Tok) (l C dx : Addr) : Meets (Builtin.«int.__ne__» ⟨[.int b u, .ref l], []⟩) (fun _ R s => s.heap.get? l = some (PySem.W.instObj C dx) ∧ R (.ok (.ret .notImplemented)) s) :=
  .of_wp fun prog w A R s h => by
    obtain ⟨hp, g, d, tk, os⟩ := s
    obtain ⟨hl, h⟩ := h
    unfold PySem.W.instObj at hl
    wp_walk using wpAny_loadPart' hl, wpAny_load hl
    exact ⟨_, rfl, h⟩
theorem bool_off_inst (b : Bool) (l C dx : Addr) : Meets (Builtin.«int.__ne__» ⟨[.bool b, .ref l], []⟩) (fun _ R s => s.heap.get? l = some (PySem.W.instObj C dx) ∧ R (.ok (.ret .notImplemented)) s) :=
  .of_wp fun prog w A R s h => by
    obtain ⟨hp, g, d, tk, os⟩ := s
    obtain ⟨hl, h⟩ := h
    unfold PySem.W.instObj at hl
    wp_walk using wpAny_loadPart' hl, wpAny_load hl
    exact ⟨_, rfl, h⟩
theorem str_off_inst (b : Str) (u : Tok) (l C dx : Addr) : Meets (Builtin.«str.__ne__» ⟨[.str b u, .ref l], []⟩) (fun _ R s => s.heap.get? l = some (PySem.W.instObj C dx) ∧ R (.ok (.ret .notImplemented)) s) :=
  .of_wp fun prog w A R s h => by
    obtain ⟨hp, g, d, tk, os⟩ := s
    obtain ⟨hl, h⟩ := h
    unfold PySem.W.instObj at hl
    wp_walk using wpAny_loadPart' hl, wpAny_load hl
    exact ⟨_, rfl, h⟩
theorem list_off_inst (b l C dx : Addr) (items : Array Value) (n : Nat) (dd : Option Addr) (sl : Array (Option Value)) : Meets (Builtin.«list.__ne__» ⟨[.ref b, .ref l], []⟩) (fun _ R s => s.heap.get? b = some { cls := .type "list", dict := dd, data := .seq items n, slots := sl } ∧ s.heap.get? l = some (PySem.W.instObj C dx) ∧ (∀ (prog : Program) (w : World), PySem.W.Looks (model prog w) s.heap (isSubtype (.ref C) (.type "list")) false) ∧ R (.ok (.ret .notImplemented)) s) :=
  .of_wp fun prog w A R s h => by
    obtain ⟨hp, g, d, tk, os⟩ := s
    obtain ⟨hb, hl, hS, h⟩ := h
    unfold PySem.W.instObj at hl
    wp_walk using wpAny_loadPart' hb, wpAny_load hl
    refine (hS prog w).here ?_
    wp_walk
    exact ⟨_, rfl, h⟩
theorem tup_off_inst (b l C dx : Addr) (items : Array Value) (n : Nat) (dd : Option Addr) (sl : Array (Option Value)) : Meets (Builtin.«tuple.__ne__» ⟨[.ref b, .ref l], []⟩) (fun _ R s => s.heap.get? b = some { cls := .type "tuple", dict := dd, data := .seq items n, slots := sl } ∧ s.heap.get? l = some (PySem.W.instObj C dx) ∧ (∀ (prog : Program) (w : World), PySem.W.Looks (model prog w) s.heap (isSubtype (.ref C) (.type "tuple")) false) ∧ R (.ok (.ret .notImplemented)) s) :=
  .of_wp fun prog w A R s h => by
    obtain ⟨hp, g, d, tk, os⟩ := s
    obtain ⟨hb, hl, hS, h⟩ := h
    unfold PySem.W.instObj at hl
    wp_walk using wpAny_loadPart' hb, wpAny_load hl
    refine (hS prog w).here ?_
    wp_walk
    exact ⟨_, rfl, h⟩
theorem dict_off_inst (b l C dx : Addr) (es : Array DictEntry) (n : Nat) (dd : Option Addr) (sl : Array (Option Value)) : Meets (Builtin.«dict.__ne__» ⟨[.ref b, .ref l], []⟩) (fun _ R s => s.heap.get? b = some { cls := .type "dict", dict := dd, data := .dict es n, slots := sl } ∧ s.heap.get? l = some (PySem.W.instObj C dx) ∧ (∀ (prog : Program) (w : World), PySem.W.Looks (model prog w) s.heap (isSubtype (.ref C) (.type "dict")) false) ∧ R (.ok (.ret .notImplemented)) s) :=
  .of_wp fun prog w A R s h => by
    obtain ⟨hp, g, d, tk, os⟩ := s
    obtain ⟨hb, hl, hS, h⟩ := h
    unfold PySem.W.instObj at hl
    wp_walk using wpAny_loadPart' hb, wpAny_load hl
    refine (hS prog w).here ?_
    wp_walk
    exact ⟨_, rfl, h⟩
theorem nf_int (K : PySem.W.Frag) (C : Addr) : PySem.W.notFirst K C (.type "int") = true := by rfl
theorem nf_bool (K : PySem.W.Frag) (C : Addr) : PySem.W.notFirst K C (.type "bool") = true := by rfl
theorem nf_str (K : PySem.W.Frag) (C : Addr) : PySem.W.notFirst K C (.type "str") = true := by rfl
theorem nf_list (K : PySem.W.Frag) (C : Addr) : PySem.W.notFirst K C (.type "list") = true := by rfl
theorem nf_tup (K : PySem.W.Frag) (C : Addr) : PySem.W.notFirst K C (.type "tuple") = true := by rfl
theorem nf_dict (K : PySem.W.Frag) (C : Addr) : PySem.W.notFirst K C (.type "dict") = true := by rfl
theorem nf_none (K : PySem.W.Frag) (C : Addr) : PySem.W.notFirst K C (.type "NoneType") = true := by rfl
theorem nf_of (K : PySem.W.Frag) (C : Addr) {d : PyData} : PySem.W.notFirst K C (.type (tyN d)) = true := by
  cases d with
  | none => exact nf_none K C
  | bool b => exact nf_bool K C
  | int i => exact nf_int K C
  | str x => exact nf_str K C
  | list xs => exact nf_list K C
  | tuple xs => exact nf_tup K C
  | dict kvs => exact nf_dict K C
/-- a class that is no subclass of the built-in kinds of data -/
structure OffC (K : PySem.W.Frag) (C : Addr) : Prop where
  l : PySem.W.subIn K (.ref C) (.type "list") = some false
  t : PySem.W.subIn K (.ref C) (.type "tuple") = some false
  d : PySem.W.subIn K (.ref C) (.type "dict") = some false
  s : PySem.W.subIn K (.ref C) (.type "str") = some false
  i : PySem.W.subIn K (.ref C) (.type "int") = some false
  b : PySem.W.subIn K (.ref C) (.type "bool") = some false
  n : PySem.W.subIn K (.ref C) (.type "NoneType") = some false
  cd : (PySem.W.clsIn K C).isSome = true
  ty : PySem.W.typeIn K (.ref C) = some (.type "type")
/-- data is no instance of it -/
theorem OffC.kit {K : PySem.W.Frag} {C : Addr} (o : OffC K C) {d : PyData} : PySem.W.kitOne K (.type (tyN d)) (.ref C) = some false := by
  have e : PySem.W.subIn K (.type (tyN d)) (.ref C) = some false := by cases d <;> rfl
  unfold PySem.W.kitOne PySem.W.kitCls
  rw [if_neg (by simp)]
  show (if ((PySem.W.clsIn K C).isSome && PySem.W.typeIn K (.ref C) == some (.type "type")) = true then PySem.W.subIn K (.type (tyN d)) (.ref C) else none) = _
  rw [if_pos (by rw [o.cd, o.ty]; rfl), e]
theorem OffC.at_ {K : PySem.W.Frag} {C : Addr} (o : OffC K C) {d : PyData} : PySem.W.subIn K (.ref C) (.type (tyN d)) = some false := by
  cases d with
  | none => exact o.n
  | bool b => exact o.b
  | int i => exact o.i
  | str x => exact o.s
  | list xs => exact o.l
  | tuple xs => exact o.t
  | dict kvs => exact o.d
theorem typeIs_of {X : Cx} {pins : List (Addr × Obj)} {s : Shared} {σ : L2.St} {H : Hp} {d : PyData} {y : V} {v : Value} (I : L2.Inv X pins σ H s) (hd : DdF X.K d H y) (ry : L2.RelV y v) : ∃ T, s.TypeIs v T := by
  rcases hd with hd | ⟨rfl, b, rfl, hb⟩
  · obtain ⟨as, r⟩ := Dp.reads I d y v hd ry
    cases r with
    | none => exact ⟨"NoneType", rfl⟩
    | bool b => exact ⟨_, PySem.typeIs_bool s b⟩
    | int i t => exact ⟨_, typeIs_int s i t⟩
    | str x t => exact ⟨_, typeIs_str s x t⟩
    | list h1 h2 h3 _ => exact ⟨_, _, h1, h2⟩
    | tuple h1 h2 h3 _ => exact ⟨_, _, h1, h2⟩
    | dict h1 h2 h3 _ _ => exact ⟨_, _, h1, h2⟩
  · cases (show v = Value.ref b from ry)
    obtain ⟨_, _, vs, _, o, es, ep, h1, h2, h3, _⟩ := (show ObjOk X.prog X.w H s.heap b (.dK []) from I.hok b _ hb)
    exact ⟨_, o, h1, h2.1⟩
/-- y's own != says nothing of an instance -/
theorem ne_off {X : Cx} {pins : List (Addr × Obj)} {s : Shared} {σ : L2.St} {H : Hp} {C a dx : Addr} {fs : List (Str × V)} {d : PyData} {y : V} {v : Value} {E : Value → Shared → Prop} {Q : Option Value → Shared → Prop} (O : OffC X.K C) (I : L2.Inv X pins σ H s) (ha : H a = some (.ins C dx fs)) (hd : DdF X.K d H y) (ry : L2.RelV y v)
    (q : Q none s) : wpAny (model X.prog X.w) X.A (tryCompare v "__ne__" (.ref a)) Q E s := by
  have hk := I.hok a _ ha
  have hl : s.heap.get? a = some (PySem.W.instObj C dx) := (show ObjOk X.prog X.w H s.heap a (.ins C dx fs) from hk).2.2.2.1
  obtain ⟨m, hF⟩ := I.fr
  have KX := I.ok.mod.kin.keeps hF.keep
  have sub : ∀ T, PySem.W.subIn X.K (.ref C) (.type T) = some false → ∀ (prog : Program) (w : World), PySem.W.Looks (model prog w) s.heap (isSubtype (.ref C) (.type T)) false := fun T e prog w => PySem.W.looks_subIn KX e
  rcases hd with hd | ⟨rfl, b, rfl, hb⟩
  · obtain ⟨as, r⟩ := Dp.reads I d y v hd ry
    cases r with
    | none => exact wpAny_tryCompare_declines (show s.TypeIs .none "NoneType" from rfl) F.slot_NoneType_ne (call_gives F.slot_NoneType_ne rfl F.entry_NoneType_ne (F.args_NoneType_ne_2 _ _) (NoneType___ne___none_ref_0 a) ⟨rfl, q⟩)
    | bool b => exact wpAny_tryCompare_declines (PySem.typeIs_bool s b) F.slot_bool_ne (call_meets F.slot_bool_ne rfl F.entry_int_ne (F.args_int_ne_2 _ _) (bool_off_inst b a C dx) ⟨hl, rfl, q⟩)
    | int i t => exact wpAny_tryCompare_declines (typeIs_int s i t) F.slot_int_ne (call_meets F.slot_int_ne (typeIs_int s i t) F.entry_int_ne (F.args_int_ne_2 _ _) (int_off_inst i t a C dx) ⟨hl, rfl, q⟩)
    | str x t => exact wpAny_tryCompare_declines (typeIs_str s x t) F.slot_str_ne (call_meets F.slot_str_ne (typeIs_str s x t) F.entry_str_ne (F.args_str_ne_2 _ _) (str_off_inst x t a C dx) ⟨hl, rfl, q⟩)
    | @list b o vs n xs as h1 h2 h3 _ =>
      obtain ⟨cls, dd, data, sl⟩ := o
      simp only at h2 h3
      subst h2 h3
      exact wpAny_tryCompare_declines ⟨_, h1, rfl⟩ F.slot_list_ne (call_meets F.slot_list_ne ⟨_, h1, rfl⟩ F.entry_list_ne (F.args_list_ne_2 _ _) (list_off_inst b a C dx vs n dd sl) ⟨h1, hl, sub _ O.l, rfl, q⟩)
    | @tuple b o vs n xs as h1 h2 h3 _ =>
      obtain ⟨cls, dd, data, sl⟩ := o
      simp only at h2 h3
      subst h2 h3
      exact wpAny_tryCompare_declines ⟨_, h1, rfl⟩ F.slot_tuple_ne (call_meets F.slot_tuple_ne ⟨_, h1, rfl⟩ F.entry_tuple_ne (F.args_tuple_ne_2 _ _) (tup_off_inst b a C dx vs n dd sl) ⟨h1, hl, sub _ O.t, rfl, q⟩)
    | @dict b o es n kvs as bs h1 h2 h3 _ _ =>
      obtain ⟨cls, dd, data, sl⟩ := o
      simp only at h2 h3
      subst h2 h3
      exact wpAny_tryCompare_declines ⟨_, h1, rfl⟩ F.slot_dict_ne (call_meets F.slot_dict_ne ⟨_, h1, rfl⟩ F.entry_dict_ne (F.args_dict_ne_2 _ _) (dict_off_inst b a C dx es n dd sl) ⟨h1, hl, sub _ O.d, rfl, q⟩)
  · cases (show v = Value.ref b from ry)
    obtain ⟨_, _, vs, _, o, es, ep, h1, h2, h3, _⟩ := (show ObjOk X.prog X.w H s.heap b (.dK []) from I.hok b _ hb)
    obtain ⟨cls, dd, data, sl⟩ := o
    have h21 := h2.1
    simp only at h21 h3
    subst h21 h3
    exact wpAny_tryCompare_declines ⟨_, h1, rfl⟩ F.slot_dict_ne (call_meets F.slot_dict_ne ⟨_, h1, rfl⟩ F.entry_dict_ne (F.args_dict_ne_2 _ _) (dict_off_inst b a C dx es ep dd sl) ⟨h1, hl, sub _ O.d, rfl, q⟩)
section
variable {X : Cx} {k : Nat} {C : Addr} {ps : List Str} {sp : Sp}
def rEqD (K : PySem.W.Frag) (C : Addr) (sp : Sp) : R2 := fun x y H Q => ∃ a dx fs d, x = V.ref a ∧ H a = some (.ins C dx fs) ∧ DdF K d H y ∧ sp [.ref a, y] H (fun v H' => ∃ c, v = .bl c ∧ Q (.bl c) H') E0
theorem op_eqD (o : OwnSp X.prog X.w X.K X.mg X.base k C "__eq__" ps sp) (hr : Room k X.A) : OpR X (compareOp .Eq) (rEqD X.K C sp) := by
  intro pins s σ H x y u v Q I rx ry h
  obtain ⟨f, fd, F, hs, hf, hb⟩ := o
  obtain ⟨a, dx, fs, d, rfl, ha, hd, q⟩ := h
  cases (show u = Value.ref a from rx)
  obtain ⟨ox, od, J⟩ := own_inst I ha
  obtain ⟨m, hF⟩ := I.fr
  have KX := I.ok.mod.kin.keeps hF.keep
  obtain ⟨P, Z, hP, _⟩ := kit_of I ry (ty_F hd)
  refine PySem.W.cmp_K (op := .Eq) (tb := .type (tyN d)) hr.units0 hF I.ok.mod.kin J (Z.ty (model X.prog X.w) s.heap KX hP) (nf_of X.K C) hs hf (wpAny_mono (run_deep (us := [.ref a, v]) (vs := [.ref a, y]) F hr I.env0 hb pass0 I (.cons rfl (.cons ry .nil)) q) (fun w s' z => ?_) fun _ _ x => x)
  obtain ⟨z', H', I', rz, c, e, qz⟩ := z
  subst e
  cases (show w = Value.bool c from rz)
  exact ⟨.bl c, H', I', rfl, qz⟩
/-- y != o -/
def rNeD (K : PySem.W.Frag) (C : Addr) (sp : Sp) : R2 := fun y x H Q => ∃ a dx fs d, x = V.ref a ∧ H a = some (.ins C dx fs) ∧ DdF K d H y ∧ sp [.ref a, y] H (fun v H' => ∃ c, v = .bl c ∧ Q (.bl (!c)) H') E0
theorem op_neD (o : OwnSp X.prog X.w X.K X.mg X.base k C "__eq__" ps sp) (n : NeObj X.K C) (O : OffC X.K C) (hr : Room (k + 1) X.A) : OpR X (compareOp .NotEq) (rNeD X.K C sp) := by
  intro pins s σ H y x v u Q I ry rx h
  obtain ⟨f, fd, F, hs, hf, hb⟩ := o
  obtain ⟨a, dx, fs, d, rfl, ha, hd, q⟩ := h
  cases (show u = Value.ref a from rx)
  obtain ⟨ox, od, J⟩ := own_inst I ha
  obtain ⟨m, hF⟩ := I.fr
  have KX := I.ok.mod.kin.keeps hF.keep
  obtain ⟨P, Z, hP, _⟩ := kit_of I ry (ty_F hd)
  have Lv := Z.ty (model X.prog X.w) s.heap KX hP
  have body : wpAny (model X.prog X.w) X.A.in1 (Builtin.«object.__ne__» ⟨[.ref a, v], []⟩) (fun fin s' => ∃ c, fin = .done (.ret (.bool c)) ∧ EP X pins σ Q (.bool c) s') X.xe s := by
    unfold Builtin.«object.__ne__»
    refine wpAny_bind (wpAny_pure ?_)
    refine wpAny_bind (wpAny_cRoomFor hr.in1.units0 ?_)
    refine wpAny_bind (PySem.W.ifBound_K KX J hs hf (wpAny_mono (run_deep (us := [.ref a, v]) (vs := [.ref a, y]) F hr.in1 I.env0.in1 hb pass0 I (.cons rfl (.cons ry .nil)) q) (fun w s' z => ?_) fun _ _ x => x))
    obtain ⟨z', H', I', rz, c, e, qz⟩ := z
    subst e
    cases (show w = Value.bool c from rz)
    exact wpAny_bind (wpAny_truthy_bool (wpAny_pure ⟨!c, rfl, .bl (!c), H', I', rfl, qz⟩))
  have one : wpAny (model X.prog X.w) X.A (tryCompare (.ref a) "__ne__" v) (fun r s' => ∃ c, r = some (.bool c) ∧ EP X pins σ Q (.bool c) s') X.xe s := by
    unfold tryCompare
    refine wpAny_bind (ne_bound KX n J (wpAny_call (codeAny_call_builtin ne_slot.plain PySem.F.cmpEntry_ne (ne_check KX n J (wpAny_mono body (fun fin s' z => ?_) fun _ _ x => x)))))
    obtain ⟨c, rfl, qz⟩ := z
    exact wpAny_pure ⟨c, rfl, qz⟩
  obtain ⟨T, hT⟩ := typeIs_of I hd ry
  have no : oneThing? .NotEq v (.ref a) = none := hT.oneThing_none _ _
  show wpAny (model X.prog X.w) X.A (richCompare .NotEq v (.ref a)) (EP X pins σ Q) X.xe s
  unfold richCompare
  simp only [no]
  refine wpAny_holding (wpAny_bind (wpAny_cRoomFor hr.units0 (wpAny_bind (Lv.here (wpAny_bind (J.type.here ?_))))))
  rw [if_pos (by simp)]
  refine wpAny_bind ((PySem.W.looks_subIn KX O.at_).here ?_)
  simp only [Bool.false_eq_true, if_false, Bool.not_false, if_true]
  refine wpAny_bind (ne_off O I ha hd ry ?_)
  refine wpAny_bind (m := tryCompare (.ref a) _ v) (wpAny_mono one (fun r s' z => ?_) fun _ _ e => e)
  obtain ⟨c, rfl, qz⟩ := z
  exact wpAny_pure qz
end
section
variable {K : PySem.W.Frag} {σ : Sl} {M : Hp} {ta tb : TE} {α : Type} {R1 : Rl α} {C : Addr}
/-- o == y, y != o -/
theorem gv_eqD [Mon R1] {β : Type} {R2 : Rl β} {pre : α → β → Prop} {B : α → β → Bool} {x : α} {y : β} {d : PyData} [Mon R2] (ha : Gv ta σ M (R1 x)) (hb : Gv tb σ M (R2 y)) (hi : ∀ z M v, R1 z M v → ∃ a dx fs, v = .ref a ∧ M a = some (.ins C dx fs)) (hd : ∀ M v, R2 y M v → DdF K d M v) (hp : pre x y) :
    Gv (tOp (rEqD K C (sp2 R1 R2 pre fun x y => Bl (B x y))) ta tb) σ M (Bl (B x y)) := fun H mh Q q =>
  ha H mh _ fun v M1 H1 g1 p1 => hb.le g1.mm H1 g1.mh _ fun w M2 H2 g2 p2 => by
    have p3 : R1 x M2 v := Mon.mono g2.mm p1
    obtain ⟨a, dx, fs, rfl, h1⟩ := hi x M2 v p3
    exact ⟨a, dx, fs, d, rfl, g2.mh _ _ h1, Mon.mono g2.mh (hd M2 w p2), x, y, M2, _, w, rfl, g2.mh, p3, p2, hp, fun u M' H' g r => ⟨_, r, q _ M' H' ((g1.trans g2).trans g) rfl⟩⟩
theorem gv_neD [Mon R1] {β : Type} {R2 : Rl β} {pre : α → β → Prop} {B : α → β → Bool} {x : α} {y : β} {d : PyData} [Mon R2] (hb : Gv tb σ M (R2 y)) (ha : Gv ta σ M (R1 x)) (hi : ∀ z M v, R1 z M v → ∃ a dx fs, v = .ref a ∧ M a = some (.ins C dx fs)) (hd : ∀ M v, R2 y M v → DdF K d M v) (hp : pre x y) :
    Gv (tOp (rNeD K C (sp2 R1 R2 pre fun x y => Bl (B x y))) tb ta) σ M (Bl (!(B x y))) := fun H mh Q q =>
  hb H mh _ fun w M1 H1 g1 p1 => ha.le g1.mm H1 g1.mh _ fun v M2 H2 g2 p2 => by
    have p3 : R2 y M2 w := Mon.mono g2.mm p1
    obtain ⟨a, dx, fs, rfl, h1⟩ := hi x M2 v p2
    exact ⟨a, dx, fs, d, rfl, g2.mh _ _ h1, Mon.mono g2.mh (hd M2 w p3), x, y, M2, _, w, rfl, g2.mh, p2, p3, hp, fun u M' H' g r => ⟨_, r, q _ M' H' ((g1.trans g2).trans g) rfl⟩⟩
end
end L3

set_option Elab.async false
set_option linter.all false
set_option maxRecDepth 100000
set_option maxHeartbeats 4000000
namespace My
open PySem PySem.Spec PyProof.Rows L2 L3
section
variable {P : Program} {w : World} {K : PySem.W.Frag} {mg : Str → Option Value} {base : Heap}
def sp_is_listE (K : PySem.W.Frag) : Sp := sp1 (DdE K) (fun _ => True) fun d => Bl (isListD d)
theorem ok_is_listE {f : Addr} {fd : FuncData} (F : Fun K "is_list" "is_list" s_is_list f fd) (T : Bi mg) : FnOk P w K mg base CX0 1 f fd ["thing"] (sp_is_listE K) := by
  refine F.ok sc_is_list (fun vs H Q E h => ?_) (fun cdv A outer s H vs Q E hr h => ?_)
  · obtain ⟨x, M, v, rfl, _⟩ := h
    rfl
  · obtain ⟨d, M, v, rfl, mh, r1, hp, q⟩ := h
    refine ⟨_, (pss_one (ps_ret (pe_callB call_isiT (by rfl) T.isinstance boot_isinstance (pa_cons (pv 0) (pa_cons (pe_tup (pa_cons (pe_bltn (v := .ty "list") (u := .type "list") (by rfl) T.list (by decide +kernel) rfl) (pa_cons (pe_bltn (v := .ty "tuple") (u := .type "tuple") (by rfl) T.tuple (by decide +kernel) rfl) pa_nil))) pa_nil))))), ?_⟩
    have hv : Gv (tVar 0) (start ["thing"] [v]) M (DdE K d) := gv_var rfl r1
    cases d with
    | list _ => exact s_ret mh (gv_isi2E (b := true) (c := false) hv (by simp only [tyN]; decide +kernel) (by simp only [tyN]; decide +kernel)) q
    | tuple _ => exact s_ret mh (gv_isi2E (b := false) (c := true) hv (by simp only [tyN]; decide +kernel) (by simp only [tyN]; decide +kernel)) q
    | _ => exact s_ret mh (gv_isi2E (b := false) (c := false) hv (by simp only [tyN]; decide +kernel) (by simp only [tyN]; decide +kernel)) q
def sp_is_literalE (K : PySem.W.Frag) : Sp := sp2 (DdF K) (SqR K Tx) (fun d _ => shortD d) fun d ns => Bl (isLit ns d)
theorem ok_is_literalE {f : Addr} {fd : FuncData} (F : Fun K "is_literal" "is_literal" s_is_literal f fd) (T : Bi mg) (c_name_of : Cal P w K mg base 1 "name_of" ["literal"] (sp_name_of K)) : FnOk P w K mg base CX0 2 f fd ["thing", "names"] (sp_is_literalE K) := by
  refine F.ok sc_is_literal (fun vs H Q E h => ?_) (fun cdv A outer s H vs Q E hr h => ?_)
  · obtain ⟨x, y, M, v, w, rfl, _⟩ := h
    rfl
  · obtain ⟨d, ns, M, v, w, rfl, mh, r1, r2, hp, q⟩ := h
    have hu := hr.units
    refine ⟨_, (pss_one (ps_ret (pe_and (pe_callB call_isi (by rfl) T.isinstance boot_isinstance (pa_cons (pv 0) (pa_cons (pe_bltn (v := .ty "str") (u := .type "str") (by rfl) T.str (by decide +kernel) rfl) pa_nil))) (pe_one (pe_cmpR (op_inA hu) (pe_f c_name_of (hr.mono (by decide)) (pa_cons (pv 0) pa_nil)) (pv 1) (by rfl)))))), ?_⟩
    have hv : Gv (tVar 0) (start ["thing", "names"] [v, w]) M (DdF K d) := gv_var rfl r1
    cases d with
    | str x =>
      have e1 : v = .str x := by
        rcases r1 with h | ⟨h, _⟩
        · cases h; rfl
        · cases h
      cases e1
      exact s_ret mh (gv_is (gv_andV (gv_isiF (b := true) hv (by simp only [tyN]; decide +kernel)) fun _ => gv_inA (K := K) (gv_call1 (gv_var rfl rfl) hp) (gv_var rfl (.inl r2))) fun M' v h => by simpa [isLit] using h) q
    | _ => exact s_ret mh (gv_andV (c := false) (gv_isiF (b := false) hv (by simp only [tyN]; decide +kernel)) fun h => nomatch h) q
def sp_first_wrongE (K : PySem.W.Frag) : Sp := sp2 (DdE K) (SqR K Tx) (fun d _ => shortL d) fun d ns => OpN (firstWrong ns d)
theorem ok_first_wrongE {f : Addr} {fd : FuncData} (F : Fun K "first_wrong" "first_wrong" s_first_wrong f fd) (T : Bi mg) (c_is_list : Cal P w K mg base 1 "is_list" ["thing"] (sp_is_listE K)) (c_name_of : Cal P w K mg base 1 "name_of" ["literal"] (sp_name_of K))
    (c_is_literal : Cal P w K mg base 2 "is_literal" ["thing", "names"] (sp_is_literalE K)) : FnOk P w K mg base CX0 3 f fd ["things", "names"] (sp_first_wrongE K) := by
  refine F.ok sc_first_wrong (fun vs H Q E h => ?_) (fun cdv A outer s H vs Q E hr h => ?_)
  · obtain ⟨x, y, M, v, w, rfl, _⟩ := h
    rfl
  · obtain ⟨d, ns, M, v, w, rfl, mh, r1, r2, hp, q⟩ := h
    have hu := hr.units
    refine ⟨_, (pss_cons (ps_if (pt_not (pt_val (pe_f c_is_list (hr.mono (by decide)) (pa_cons (pv 0) pa_nil)))) (pss_one (ps_ret pe_int)) pss_nil)
      (pss_cons (ps_set (i := 2) sc_first_wrong.nd rfl (by first | exact .inl rfl | exact .inr rfl) (pe_lst pa_nil))
      (pss_cons (ps_for PassesOwn.never (by rfl) (pi_en (by rfl) T.enumerate (pa_cons (pv 0) pa_nil)) (pg_tup (by rfl) (pgs_cons (pg_name (i := 3) sc_first_wrong.nd rfl (by first | exact .inl rfl | exact .inr rfl)) (pgs_cons (pg_name (i := 4) sc_first_wrong.nd rfl (by first | exact .inl rfl | exact .inr rfl)) pgs_nil))) (pss_cons (ps_if (PW.pt (pw_or (pt_not (pt_val (pe_f c_is_literal (hr.mono (by decide)) (pa_cons (pv 4) (pa_cons (pv 1) pa_nil))))) (pw_or1 (pt_cmpR (op_inA hu) (pe_f c_name_of (hr.mono (by decide)) (pa_cons (pv 4) pa_nil)) (pv 2) (by rfl))))) (pss_one (ps_ret (pv 3))) pss_nil)
      (pss_one (ps_expr (pe_bm PySem.F.plainAttrs_list PySem.F.slot_list_append PySem.F.type_list_append mt_append (pv 2) (pa_cons (pe_f c_name_of (hr.mono (by decide)) (pa_cons (pv 4) pa_nil)) pa_nil))))))
      (pss_one (ps_ret pe_non))))), ?_⟩
    refine q_if mh (gt_not (gt_B (gv_call1 (gv_var rfl r1) trivial))) (fun hb H1 hh1 => ?_) (fun hb H1 hh1 => ?_)
    all_goals have g1 := Gr.idle mh hh1
    · refine s_ret g1.mh (P := It' 0) (gv_c rfl) fun v M' H' g r => q v M' H' (g1.trans g) ?_
      have : firstWrong ns d = some 0 := by
        cases d with
        | list _ => simp [isListD] at hb
        | tuple _ => simp [isListD] at hb
        | _ => rfl
      show v = match firstWrong ns d with | none => V.non | some i => V.int (i : Nat)
      rw [this]
      exact r
    · obtain ⟨ds, sq, efw, hlen, hsh⟩ : ∃ ds, SqR K (DdF K) ds M v ∧ firstWrong ns d = fwGo ns ds [] 0 ∧ ds.length ≤ 1000000 ∧ ∀ d ∈ ds, shortD d := by
        cases d with
        | list ds =>
          refine ⟨ds, ?_, rfl, hp.1, hp.2⟩
          rcases r1 with (h | ⟨h, _⟩) | ⟨a, es, vs, h, e, hs, pd⟩
          · exact sqF (dp_sqL h)
          · cases h
          · cases h
            exact .inl ⟨a, vs, e, hs, pd⟩
        | tuple ds =>
          refine ⟨ds, ?_, rfl, hp.1, hp.2⟩
          rcases r1 with (h | ⟨h, _⟩) | ⟨a, es, vs, h, e, hs, pd⟩
          · exact sqF (dp_sqT h)
          · cases h
          · cases h
        | _ => simp [isListD] at hb
      refine q_asgL g1.mh gl_nil fun p vs M2 H2 g2 h0 m0 hp2 hv => ?_
      subst hv
      have g02 := g1.trans g2
      refine q_forE (R1 := DdF K) (xs := ds) g2.mh (gv_var rfl (Mon.mono g02.mm sq))
        (fun M1' i σ' M' H' => ∃ y3 y4, Gr M H M' H' ∧ Same M1' M' ∧ Same M M' ∧ Own H M' H' p ((((ds.take i).map nameD)).map V.str) ∧ σ' = [some v, some w, some (.ref p), y3, y4] ∧ fwGo ns ds [] 0 = fwGo ns (ds.drop i) ((ds.take i).map nameD) i)
        (fun M3 H3 g3 => ⟨none, none, g02.trans g3, Same.refl _, (g02.trans g3).mm, Own.step ⟨g1.hh.free h0, m0, hp2⟩ g3, rfl, rfl⟩)
        (fun M3 i σ' M' H' ⟨_, _, g, s1, _⟩ => ⟨s1, g.mh⟩) ?_ ?_
      · rintro M3 i x v' σ' M' H' H'' sM hx ⟨y3, y4, g, s1, s2, ow, rfl, efw2⟩ gE rx
        have hxm : x ∈ ds := List.mem_of_getElem? hx
        have hil : i < ds.length := (List.getElem?_eq_some_iff.mp hx).1
        have g' := g.trans gE
        have ow' := ow.step gE
        have r2' : SqR K Tx ns M' w := Mon.mono s2 r2
        have et : ds.take (i + 1) = ds.take i ++ [x] := by rw [List.take_add_one, hx]; rfl
        have ed : ds.drop i = x :: ds.drop (i + 1) := by rw [List.drop_eq_getElem_cons hil]; congr 1; exact (List.getElem?_eq_some_iff.mp hx).2
        have up := ow'.up
        have pd := pd_of_tx (M := M') ((ds.take i).map nameD)
        refine q_if (ow'.fr g'.mh) (gt_or (c := decide (nameD x ∈ (ds.take i).map nameD)) (gt_not (gt_B (gv_call2 (R1 := DdF K) (R2 := SqR K Tx) (gv_var rfl (Mon.mono up rx)) (gv_var rfl (Mon.mono up r2')) (hsh x hxm)))) fun hl => ?_) (fun hb H4 hh4 => ?_) (fun hb H4 hh4 => ?_)
        · obtain ⟨y, rfl, _⟩ := lit_shape (d := x) (ns := ns) (by simpa using hl)
          have ex : v' = .str y := by
            rcases rx with h | ⟨h, _⟩
            · cases h; rfl
            · cases h
          cases ex
          exact gt_is (gt_test (gv_inA (K := K) (gv_call1 (gv_var rfl rfl) (hsh _ hxm)) (gv_var rfl (.inl (.inl (ow'.lst pd)))))) (by simp [nameD])
        · refine s_ret (P := It' (i : Nat)) (g'.mh.trans hh4) (gv_var rfl rfl) fun v5 M5 H5 g5 r5 => q v5 M5 H5 ((g'.trans (.idle g'.mh hh4)).trans g5) ?_
          show v5 = match firstWrong ns d with | none => V.non | some i => V.int (i : Nat)
          rw [efw, efw2, ed, fwGo, if_pos (by simpa using hb)]
          exact r5
        · obtain ⟨hb1, hb2⟩ : isLit ns x = true ∧ ¬ nameD x ∈ (ds.take i).map nameD := by simpa using hb
          obtain ⟨y, rfl, _⟩ := lit_shape hb1
          have ex : v' = .str y := by
            rcases rx with h | ⟨h, _⟩
            · cases h; rfl
            · cases h
          cases ex
          have g4 := g'.trans (.idle g'.mh hh4)
          have ow4 := ow'.idle hh4
          refine s_app (P := Tx (nameOf y)) g4.mh rfl ow4.h (szL (by simp; omega)) (gv_call1 (gv_var rfl rfl) (hsh _ hxm)) fun v5 M5 H5 g5 r5 => ?_
          cases r5
          have ow5 := ow4.step g5
          refine ⟨M5, _, _, (g4.trans g5).mut ow5.h0 ow5.m, s1.trans g5.mm, s2.trans g5.mm, ?_, rfl, ?_⟩
          · rw [et, List.map_append, List.map_append]
            exact ow5.put
          · rw [efw2, ed, fwGo, if_neg (by simpa using hb), et, List.map_append]
            rfl
      · rintro M3 σ' M' H' sM ⟨y3, y4, g, s1, s2, ow, rfl, efw2⟩
        refine s_ret g.mh (P := fun _ v => v = .non) (gv_c rfl) fun v M' H' g3 r => q v M' H' (g.trans g3) ?_
        show v = match firstWrong ns d with | none => V.non | some i => V.int (i : Nat)
        rw [efw, efw2, List.drop_length]
        exact r
end
end My

set_option Elab.async false
set_option linter.all false
set_option maxRecDepth 100000
set_option maxHeartbeats 4000000
namespace L3
open PySem PySem.Spec PyProof.Rows L2
/-- a def that raises, by its name -/
def CalX (P : Program) (w : World) (K : PySem.W.Frag) (mg : Str → Option Value) (base : Heap) (k : Nat) (x : Str) (ps : List Str) (sp : Sp) : Prop :=
  ∃ (f : Addr) (fd : FuncData), FnOk P w K mg base (L2.CX P w) k f fd ps sp ∧ mg x = some (.ref f) ∧ PySem.W.keepIn K (.ref f) = true ∧ L2.Binds K fd ps []
theorem pe_cX {X : Cx} {W : WX} {k : Nat} {x : Str} {ps : List Str} {sp : Sp} {e : Expr} {es : List Expr} {t : TA} {p pos : Pos} (c : CalX X.prog X.w X.K X.mg X.base k x ps sp) (hr : Room k X.A) (tk : Takes X W) (ha : PA X (e :: es) t) (hg : Gl X x := by rfl)
    (hdb : (x == ("__debug__" : Str)) = false := by decide) (he : starEach (e :: es) X.env = (false, eval e X.env) :: starEach es X.env := by rfl) (hpl : (backTo pos (starEach es X.env)).any (·.1) = false := by rfl) :
    PE X (.Call (.Name x p) (e :: es) [] pos) (tCallS sp (WE W) t) :=
  let ⟨_, _, F, m, kp, b⟩ := c
  pe_callS F hr hg m kp b (fun σ => passAt tk σ) ha hdb he hpl
end L3
namespace My
open PySem PySem.Spec PyProof.Rows L2 L3
theorem name_shape (x : Str) : x = nameOf x ∨ x = ("-" : Str) ++ nameOf x := by
  obtain ⟨l, rfl⟩ : ∃ l, x = SX.S l := ⟨_, (SX.S_tl x).symm⟩
  unfold nameOf
  cases l with
  | nil => left; rw [if_neg (by decide)]
  | cons c r =>
    rw [head1, tail1]
    by_cases h : SX.S [c] = ("-" : Str)
    · right
      rw [if_pos h]
      rw [minus] at h
      have := SX.S_inj h
      cases this
      rw [neg_S]
    · left
      rw [if_neg h]
theorem fw_none {ns : List Str} : ∀ {ys met : List Str} {i : Nat}, fwGo ns (ys.map PyData.str) met i = none → (∀ y ∈ ys, nameOf y ∈ ns ∧ nameOf y ∉ met) ∧ (ys.map nameOf).Nodup
  | [], _, _, _ => ⟨fun y h => (nomatch h), List.nodup_nil⟩
  | y :: ys, met, i, h => by
    rw [List.map_cons, fwGo] at h
    split at h
    · cases h
    · rename_i hn
      obtain ⟨h1, h2⟩ := not_or.mp hn
      obtain ⟨i1, i2⟩ := fw_none h
      have hy : nameOf y ∈ ns := by simpa [isLit] using h1
      have hm : nameOf y ∉ met := h2
      refine ⟨fun z hz => ?_, ?_⟩
      · rcases List.mem_cons.mp hz with rfl | hz
        · exact ⟨hy, hm⟩
        · exact ⟨(i1 z hz).1, fun q => (i1 z hz).2 (List.mem_append_left _ q)⟩
      · rw [List.map_cons]
        refine List.nodup_cons.mpr ⟨fun q => ?_, i2⟩
        obtain ⟨z, hz, e⟩ := List.mem_map.mp q
        exact (i1 z hz).2 (List.mem_append_right _ (by rw [e]; exact List.mem_singleton.mpr rfl))
theorem fw_lits_of {ns ys : List Str} (h : fwGo ns (ys.map PyData.str) [] 0 = none) : Lits ns ys := by
  obtain ⟨h1, h2⟩ := fw_none h
  exact ⟨h2, fun y hy => ⟨nameOf y, (h1 y hy).1, name_shape y⟩⟩
theorem fw_strs {ns : List Str} : ∀ {ds : List PyData} {met : List Str} {i : Nat}, fwGo ns ds met i = none → ∃ ys : List Str, ds = ys.map .str
  | [], _, _, _ => ⟨[], rfl⟩
  | d :: ds, met, i, h => by
    rw [fwGo] at h
    split at h
    · cases h
    · rename_i hn
      obtain ⟨h1, h2⟩ := not_or.mp hn
      obtain ⟨y, rfl, _⟩ := lit_shape (d := d) (ns := ns) (by simpa using h1)
      obtain ⟨ys, rfl⟩ := fw_strs h
      exact ⟨y :: ys, rfl⟩
theorem pd_strs {R : Rl PyData} {M : Hp} (hR : ∀ x v, R (.str x) M v → v = .str x) : ∀ {ys : List Str} {vs : List V}, Pd R M (ys.map .str) vs → Pd Tx M ys vs
  | [], _, h => by cases h; exact .nil
  | y :: ys, _, h => by cases h with | cons q t => exact .cons (hR _ _ q) (pd_strs hR t)
theorem dd_str {K : PySem.W.Frag} {M : Hp} {x : Str} {v : V} (h : Dd K (.str x) M v) : v = .str x := by cases h; rfl
theorem ddf_str {K : PySem.W.Frag} {M : Hp} {x : Str} {v : V} (h : DdF K (.str x) M v) : v = .str x := by
  rcases h with h | ⟨h, _⟩
  · exact dd_str h
  · cases h
theorem sq_strs {K : PySem.W.Frag} {R : Rl PyData} {M : Hp} {ys : List Str} {v : V} (hR : ∀ x v, R (.str x) M v → v = .str x) (h : SqR K R (ys.map .str) M v) : SqR K Tx ys M v := by
  rcases h with ⟨a, vs, e, hs, hp⟩ | ⟨a, vs, e, hs, hp⟩
  · exact .inl ⟨a, vs, e, hs, pd_strs hR hp⟩
  · exact .inr ⟨a, vs, e, hs, pd_strs hR hp⟩
/-- a thing that is let by is a list or tuple of literals -/
theorem dde_strs {K : PySem.W.Frag} {ns : List Str} {d : PyData} {M : Hp} {v : V} (h : firstWrong ns d = none) (r : DdE K d M v) : ∃ ys : List Str, SqR K Tx ys M v ∧ Lits ns ys ∧ (d = .list (ys.map .str) ∨ d = .tuple (ys.map .str)) := by
  cases d with
  | list ds =>
    obtain ⟨ys, rfl⟩ := fw_strs (show fwGo ns ds [] 0 = none from h)
    refine ⟨ys, ?_, fw_lits_of h, .inl rfl⟩
    rcases r with (h | ⟨h, _⟩) | ⟨a, es, vs, h, e, hs, pd⟩
    · exact sq_strs (fun _ _ => dd_str) (dp_sqL h)
    · cases h
    · cases h
      exact .inl ⟨a, vs, e, hs, pd_strs (fun _ _ => ddf_str) pd⟩
  | tuple ds =>
    obtain ⟨ys, rfl⟩ := fw_strs (show fwGo ns ds [] 0 = none from h)
    refine ⟨ys, ?_, fw_lits_of h, .inr rfl⟩
    rcases r with (h | ⟨h, _⟩) | ⟨a, es, vs, h, e, hs, pd⟩
    · exact sq_strs (fun _ _ => dd_str) (dp_sqT h)
    · cases h
    · cases h
  | _ => cases h
theorem strs_inj {xs ys : List Str} {d : PyData} (h : d = .list (xs.map .str) ∨ d = .tuple (xs.map .str)) (h2 : d = .list (ys.map .str) ∨ d = .tuple (ys.map .str)) : xs = ys := by
  have inj : ∀ {xs ys : List Str}, xs.map PyData.str = ys.map PyData.str → xs = ys := fun {xs} => by
    induction xs with
    | nil => intro ys e; cases ys with | nil => rfl | cons y ys => cases e
    | cons x xs ih =>
      intro ys e
      cases ys with
      | nil => cases e
      | cons y ys =>
        rw [List.map_cons, List.map_cons] at e
        injection e with e1 e2
        injection e1 with e1
        rw [e1, ih e2]
  rcases h with h | h <;> rcases h2 with h2 | h2 <;> rw [h] at h2
  · injection h2 with e; exact inj e
  · cases h2
  · cases h2
  · injection h2 with e; exact inj e
section
variable {P : Program} {w : World} {K : PySem.W.Frag} {mg : Str → Option Value} {base : Heap}
end
end My

set_option Elab.async false
set_option linter.all false
set_option maxRecDepth 100000
set_option maxHeartbeats 4000000
namespace My
open PySem PySem.Spec PyProof.Rows L2 L3
/-! what is small enough to be shown -/
theorem tups_smallG {ns : List Str} (hn : NmL ns) : ∀ cs : List (List Str), (∀ c ∈ cs, c.length ≤ 60 ∧ ∀ l ∈ c, LitN ns l) → PyData.leavesShortAll 13 (cs.map fun c => .tuple (c.map .str)) = true ∧ PyData.showableAll (cs.map fun c => .tuple (c.map .str)) = true ∧ PyData.weightAll (cs.map fun c => .tuple (c.map .str)) ≤ 602 * cs.length
  | [], _ => by simp [PyData.leavesShortAll, PyData.showableAll, PyData.weightAll]
  | c :: cs, h => by
    obtain ⟨h1, h2, h3⟩ := tups_smallG hn cs fun x hx => h x (List.mem_cons_of_mem _ hx)
    have hc := h c (List.mem_cons_self ..)
    obtain ⟨k1, k2, k3⟩ := strs_small hn c hc.2
    rw [List.map_cons]
    refine ⟨?_, ?_, ?_⟩
    · rw [PyData.leavesShortAll, PyData.leavesShort, k1, h1]; rfl
    · rw [PyData.showableAll, PyData.showable, k2, h2]; rfl
    · rw [PyData.weightAll, PyData.weight, List.length_cons]
      omega
theorem fit_three {a b d : PyData} (ha : a.showable = true) (hb : b.showable = true) (hd : d.showable = true) (da : a.depth ≤ 60) (db : b.depth ≤ 60) (dd : d.depth ≤ 60) (la : a.leavesShort 13 = true) (lb : b.leavesShort 13 = true) (ld : d.leavesShort 13 = true) (wa : a.weight ≤ 100000) (wb : b.weight ≤ 100000) (wd : d.weight ≤ 100000) : FitD (.list [a, b, d]) := by
  refine ⟨?_, ?_, PyData.shown_fits (B := 13) (by decide) (by decide) ?_ ?_⟩
  · simp only [PyData.showable, PyData.showableAll, ha, hb, hd]; rfl
  · simp [PyData.depth, PyData.depthAll]; omega
  · simp only [PyData.leavesShort, PyData.leavesShortAll, la, lb, ld]; rfl
  · simp only [PyData.weight, PyData.weightAll]; omega
structure Sm (d : PyData) : Prop where
  sh : d.showable = true
  dp : d.depth ≤ 60
  ls : d.leavesShort 13 = true
  wt : d.weight ≤ 100000
theorem fit3 {a b d : PyData} (x : Sm a) (y : Sm b) (z : Sm d) : FitD (.list [a, b, d]) := fit_three x.sh y.sh z.sh x.dp y.dp z.dp x.ls y.ls z.ls x.wt y.wt z.wt
theorem sm_lits {ns ls : List Str} (hn : NmL ns) (h : ∀ l ∈ ls, LitN ns l) (hl : ls.length ≤ 1000) : Sm (.list (ls.map .str)) := by
  obtain ⟨a1, a2, a3⟩ := strs_small hn ls h
  have d := depthS ls
  exact ⟨by rw [PyData.showable]; exact a2, by rw [PyData.depth]; omega, by rw [PyData.leavesShort]; exact a1, by rw [PyData.weight]; omega⟩
theorem sm_tups {ns : List Str} {cs : List (List Str)} (hn : NmL ns) (h : ∀ c ∈ cs, c.length ≤ 60 ∧ ∀ l ∈ c, LitN ns l) (hl : cs.length ≤ 100) : Sm (.list (cs.map fun c => .tuple (c.map .str))) := by
  obtain ⟨h1, h2, h3⟩ := tups_smallG hn cs h
  have h4 := depthT cs
  exact ⟨by rw [PyData.showable]; exact h2, by rw [PyData.depth]; omega, by rw [PyData.leavesShort]; exact h1, by rw [PyData.weight]; omega⟩
def codeD (c : CodeD) : PyData := .list [.list (c.signs.map .str), .list (c.helpers.map .str), .list (c.clauses.map fun d => .tuple (d.map .str))]
end My

set_option Elab.async false
set_option linter.all false
set_option maxRecDepth 100000
set_option maxHeartbeats 8000000
namespace My
open PySem PySem.Spec PyProof.Rows L2 L3
open L3.Strm
/-! the state of a law without a table -/
structure Zs (S : Strm) (M H : Hp) (k : Nat) : Prop where
  mh : Same M (S.cut H)
  at_ : S.At k H
section
variable {S : Strm} {M H M' H' M0 : Hp} {k j c : Nat} {σ : Sl} {te : TE} {P : Pr} {D : Ends} {tz tb : TS} {tt : L2.TT}
theorem Zs.step (L : Zs S M H k) (g : Gr M (S.cut H) M' (S.cut H')) (a : S.At j H') : Zs S M' H' j := ⟨g.mh, a⟩
theorem Zs.plain (L : Zs S M H k) (g : Gr M H M' H') : Zs S M' H' k := L.step (lift L.mh L.at_ g) (L.at_.same g.hh)
theorem Zs.le (L : Zs S M H k) (e : j ≤ k) : Zs S M H j := ⟨L.mh, L.at_.le e⟩
theorem Zs.sub (L : Zs S M H k) (e : Same M0 M) : Zs S M0 H k := ⟨e.trans L.mh, L.at_⟩
theorem Zs.idle (L : Zs S M H k) (hh : Same H H') : Zs S M H' k := L.plain (.idle (L.mh.trans cut_same) hh)
theorem n_asg {i : Nat} (L : Zs S M H (k + c)) (h : GvS S c te σ M P) (go : ∀ v M' H', Same M M' → Zs S M' H' k → P M' v → tz D (σ.set i (some v)) H') : tSeq (tAsg te (gName i)) tz D σ H :=
  z_asg L.mh L.at_ h fun v M' H' g a r => go v M' H' g.mm (L.step g a) r
theorem n_if {b : Bool} (L : Zs S M H k) (h : GvT tt σ M b) (h1 : b = true → ∀ H', Zs S M H' k → tb { D with nx := tz D } σ H') (h2 : b = false → ∀ H', Zs S M H' k → tz D σ H') : tSeq (tIfS tt tb tNext) tz D σ H :=
  q_if0 (L.mh.trans cut_same) h (fun e H' hh => h1 e H' (L.idle hh)) fun e H' hh => h2 e H' (L.idle hh)
theorem n_ifN (L : Zs S M H k) (h : GvT tt σ M false) (go : ∀ H', Zs S M H' k → tz D σ H') : tSeq (tIfS tt tb tNext) tz D σ H := n_if L h (fun e => nomatch e) fun _ H' L' => go H' L'
/-- a test that draws is not met -/
theorem n_ifS (L : Zs S M H (k + c)) (h : GvTS S c tt σ M (· = false)) (go : ∀ M' H', Same M M' → Zs S M' H' k → tz D σ H') : tSeq (tIfS tt tb tNext) tz D σ H := h H k L.mh L.at_ _ fun b M' H' g a e => by
  subst e
  show (if false = true then _ else _)
  rw [if_neg (by decide)]
  exact go M' H' g.mm (L.step g a)
theorem e_ifS (L : Zs S M H (k + c)) (h : GvTS S c tt σ M (· = false)) (go : ∀ M' H', Same M M' → Zs S M' H' k → D.nx σ H') : tIfS tt tb tNext D σ H := h H k L.mh L.at_ _ fun b M' H' g a e => by
  subst e
  show (if false = true then _ else _)
  rw [if_neg (by decide)]
  exact go M' H' g.mm (L.step g a)
theorem n_for {α : Type} {R : Rl α} {wi : TI} {g : TG} {U : α → Hp → Sl → Sl → Prop} {xs : List α} (cost : Nat → Nat) (J : Hp → Nat → Sl → Prop) (L : Zs S M H (cost 0)) (hsrc : GvI wi σ M xs R) (htg : TgOk g R U) (hJ : ∀ M M' i σ, Same M M' → J M i σ → J M' i σ) (h0 : J M 0 σ)
    (hs : ∀ i x σ' M' H' σ2 (nx : Sl → Hp → Prop), (∀ M2 H2 σ3, Same M' M2 → J M2 (i + 1) σ3 → Zs S M2 H2 (cost (i + 1)) → nx σ3 H2) → xs[i]? = some x → Same M M' → J M' i σ' → Zs S M' H' (cost i) → U x M' σ' σ2 → tb { D with nx := nx, ct := nx, bk := tz D } σ2 H')
    (hd : ∀ σ' M' H', Same M M' → J M' xs.length σ' → Zs S M' H' (cost xs.length) → tz D σ' H') : tSeq (tFor wi g tb) tz D σ H := by
  refine z_for (S := S) (k := cost 0) (c := 0) (G := (· = xs)) L.mh L.at_ hsrc.s htg (fun ys M1 i σ' M' H' => Same M1 M' ∧ J M' i σ' ∧ Zs S M' H' (cost i)) (fun ys M1 H1 e g a => ?_) (fun ys M1 i σ' M' H' ⟨s, _, l⟩ => ⟨s, l.mh, l.at_.le (Nat.zero_le _)⟩) ?_ ?_
  · exact ⟨Same.refl _, hJ _ _ _ _ g.mm h0, L.step g a⟩
  · rintro ys M1 i x σ' M' H' M2 H2 σ2 rfl sM hx ⟨s1, j1, l1⟩ g hU
    exact hs i x σ' M2 H2 σ2 _ (fun M3 H3 σ3 s3 j3 l3 => ⟨M3, (s1.trans g.mm).trans s3, j3, l3⟩) hx ((sM.trans s1).trans g.mm) (hJ _ _ _ _ g.mm j1) (l1.plain g) hU
  · rintro ys M1 σ' M' H' rfl sM ⟨s1, j1, l1⟩
    exact hd σ' M' H' (sM.trans s1) j1 l1
end
/-! lists that are changed behind -/
/-- what is known, without the lists that are newer -/
def thaw (M0 M : Hp) : Hp := fun x => match M x with
  | some (.lst _) => M0 x
  | o => o
section
variable {M0 M : Hp} {x : Addr}
theorem thaw_off {o : HO} (h : M x = some o) (n : ∀ vs, o ≠ .lst vs) : thaw M0 M x = some o := by
  unfold thaw
  rw [h]
  cases o <;> first | rfl | exact absurd rfl (n _)
theorem thaw_lst {vs : List V} (h : M x = some (.lst vs)) : thaw M0 M x = M0 x := by
  unfold thaw
  rw [h]
theorem thaw_le (s : Same M0 M) : Same (thaw M0 M) M := fun y o e => by
  unfold thaw at e
  split at e
  · exact s _ _ e
  · exact e
theorem thaw_ge (s : Same M0 M) : Same M0 (thaw M0 M) := fun y o e => by
  have h := s _ _ e
  unfold thaw
  split
  · exact e
  · exact h
theorem TT.thaw {xs : List Str} {v : V} (h : TT xs M v) : TT xs (thaw M0 M) v := let ⟨a, e, r⟩ := h; ⟨a, e, thaw_off r fun _ z => (by cases z)⟩
theorem TuR.thaw {xs : List (List Str)} {v : V} (h : TuR TT xs M v) : TuR TT xs (thaw M0 M) v := let ⟨a, vs, e, r, p⟩ := h; ⟨a, vs, e, thaw_off r (fun _ z => (by cases z)), Paired.mapP p fun _ _ q => TT.thaw q⟩
end
/-- the very value -/
def EqV : Rl V := fun x _ v => v = x
instance : Mon EqV := ⟨fun _ h => h⟩
theorem pd_eqv {M : Hp} : ∀ vs : List V, Pd EqV M vs vs
  | [] => .nil
  | _ :: r => .cons rfl (pd_eqv r)
theorem eqv_pd {M : Hp} {xs vs : List V} (h : Pd EqV M xs vs) : vs = xs := by
  induction h with
  | nil => rfl
  | cons q _ ih => rw [show _ = _ from q, ih]
section
variable {K : PySem.W.Frag} {S : Strm} {M H M0 : Hp} {k i : Nat} {σ : Sl} {te : TE} {D : Ends} {tz : TS} {vs : List V} {x : Str}
/-- for part in lists: part.append(text) -/
theorem z_behind (L : Zs S M H k) (s0 : Same M0 M) (h : GvL te σ M fun _ ws => ws = vs) (hn : vs.length ≤ 100000) (ne : vs ≠ []) (hi : i < σ.length)
    (hv : ∀ v ∈ vs, ∃ p us, v = .ref p ∧ M p = some (.lst us) ∧ M0 p = none ∧ us.length ≤ 1000)
    (go : ∀ w H', Zs S (thaw M0 M) H' k → tz D (σ.set i (some w)) H') : tSeq (tFor (iSq K te) (gName i) (tDrop (tBM K "list" rAppend (tVar i) (tCons (tC (.str x)) tNil)))) tz D σ H := by
  refine h.s H k L.mh L.at_ _ fun p ws M1 H1 g1 a1 h0 m1 hp e => ?_
  rw [e] at hp
  clear e ws
  show tSeq (tFor (iSq K (tC (.ref p))) (gName i) _) tz D σ H1
  have mt : Same (thaw M0 M) (S.cut H1) := (thaw_le s0).trans (g1.mm.trans g1.mh)
  refine z_for (S := S) (k := k) (c := 0) (R := EqV) (M := upd (thaw M0 M) p (.lst vs)) (G := (· = vs)) (same_lent mt hp) a1 (gi_sq (K := K) (R := EqV) (xs := vs) (gv_c (.inl ⟨p, vs, rfl, .inl (.inl upd_same), pd_eqv vs⟩))).s tg_1
    (fun _ M1 i' σ' M' H' => Same M1 M' ∧ Zs S M' H' k ∧ Same (thaw M0 M) M' ∧ ((i' = 0 ∧ σ' = σ) ∨ ∃ w, σ' = σ.set i (some w)) ∧ ∀ v ∈ vs, ∃ q us, v = .ref q ∧ S.cut H' q = some (.lst us) ∧ M' q = none ∧ us.length ≤ 1000 + i') ?_ (fun _ M1 i' σ' M' H' ⟨s, l, _⟩ => ⟨s, l.mh, l.at_.le (Nat.zero_le _)⟩) ?_ ?_
  · rintro _ M2 H2 - g a
    refine ⟨Same.refl _, ⟨g.mh, a⟩, (same_new ?_).trans g.mm, .inl ⟨rfl, rfl⟩, fun v hvm => ?_⟩
    · cases e : thaw M0 M p with
      | none => rfl
      | some o =>
        have e2 := L.mh _ _ (thaw_le s0 _ _ e)
        rw [h0] at e2; cases e2
    · obtain ⟨q, us, rfl, e1, e2, e3⟩ := hv v hvm
      have nq : q ≠ p := fun z => by
        have := L.mh _ _ e1
        rw [z, h0] at this; cases this
      have c1 : S.cut H1 q = some (.lst us) := g1.mh _ _ (g1.mm _ _ e1)
      have m2 : upd (thaw M0 M) p (.lst vs) q = none := by rw [upd_ne nq, thaw_lst e1, e2]
      exact ⟨q, us, rfl, g.hh _ _ c1, g.keep m2 c1, by omega⟩
  · rintro ys M2 j y σ' M' H' M3 H3 σ2 eG sM hy ⟨s1, l1, st, hσ, hl⟩ g ⟨w, rw_, rfl⟩
    rw [show ys = vs from eG] at hy
    have l3 := l1.plain g
    obtain ⟨q, us, e1, e2, e3, e4⟩ := hl y (List.mem_of_getElem? hy)
    subst e1
    cases (show w = V.ref q from rw_)
    have jl : j < vs.length := (List.getElem?_eq_some_iff.mp hy).1
    have c2 : S.cut H3 q = some (.lst us) := (lift l1.mh l1.at_ g).hh _ _ e2
    have m3 : M3 q = none := g.keep e3 (of_cut e2)
    have hset : (σ'.set i (some (V.ref q)))[i]? = some (some (.ref q)) := by
      rw [List.getElem?_set_self]
      rcases hσ with ⟨_, rfl⟩ | ⟨w, rfl⟩
      · exact hi
      · rw [List.length_set]; exact hi
    refine z_appE (S := S) (k := k) (c := 0) (M := M3) (P := Tx x) l3.mh l3.at_ hset c2 (Nat.lt_of_lt_of_le (show us.length < 200000 by omega) (by decide)) (gv_c rfl).s fun v M4 H4 g4 a4 r4 => ?_
    have c4 := g4.hh _ _ c2
    have m4 : M4 q = none := g4.keep m3 c2
    refine ⟨M4, s1.trans (g.mm.trans g4.mm), ⟨by rw [cut_put c4]; exact same_mut g4.mh m4, a4.upd (on_of c4)⟩, st.trans (g.mm.trans g4.mm), .inr ⟨.ref q, ?_⟩, fun u hu => ?_⟩
    · rcases hσ with ⟨_, rfl⟩ | ⟨w, rfl⟩
      · rfl
      · rw [List.set_set]
    · obtain ⟨q', us', f1, f2, f3, f4⟩ := hl u hu
      subst f1
      rw [cut_put c4]
      by_cases z : q' = q
      · subst z
        rw [e2] at f2
        cases f2
        refine ⟨q', _, rfl, upd_same, m4, ?_⟩
        rw [List.length_append, List.length_singleton]; omega
      · refine ⟨q', us', rfl, ?_, ?_, by omega⟩
        · rw [upd_ne z]; exact g4.hh _ _ ((lift l1.mh l1.at_ g).hh _ _ f2)
        · have k3 : M3 q' = none := g.keep f3 (of_cut f2)
          exact g4.keep k3 ((lift l1.mh l1.at_ g).hh _ _ f2)
  · rintro ys M2 σ' M' H' eG sM ⟨s1, l1, st, hσ, hl⟩
    rw [show ys = vs from eG] at hσ
    rcases hσ with ⟨h, _⟩ | ⟨w, rfl⟩
    · exact absurd (List.eq_nil_of_length_eq_zero h) ne
    · exact go w H' (l1.sub st)
end
/-! what is small enough to be shown, piece by piece -/
structure SmW (k w : Nat) (d : PyData) : Prop where
  sh : d.showable = true
  dp : d.depth ≤ k
  ls : d.leavesShort 13 = true
  wt : d.weight ≤ w
structure SmA (k w : Nat) (ds : List PyData) : Prop where
  sh : PyData.showableAll ds = true
  dp : PyData.depthAll ds ≤ k
  ls : PyData.leavesShortAll 13 ds = true
  wt : PyData.weightAll ds ≤ w
theorem SmW.fit {k w : Nat} {d : PyData} (h : SmW k w d) (hk : k ≤ 64) (hw : w ≤ 300000) : FitD d := ⟨h.sh, Nat.le_trans h.dp hk, PyData.shown_fits (B := 13) (by decide) (by decide) h.ls (by have := h.wt; omega)⟩
theorem SmA.nil {k : Nat} : SmA k 0 [] := ⟨by simp [PyData.showableAll], by simp [PyData.depthAll], by simp [PyData.leavesShortAll], by simp [PyData.weightAll]⟩
theorem SmA.cons {k a b : Nat} {d : PyData} {ds : List PyData} (h : SmW k a d) (r : SmA k b ds) : SmA k (a + b + 1) (d :: ds) := ⟨by simp only [PyData.showableAll, h.sh, r.sh, Bool.and_self], by
  have := h.dp
  have := r.dp
  simp only [PyData.depthAll]; omega, by simp only [PyData.leavesShortAll, h.ls, r.ls, Bool.and_self], by
  have := h.wt
  have := r.wt
  simp only [PyData.weightAll]; omega⟩
theorem SmA.app {k a b : Nat} {xs ys : List PyData} (h : SmA k a xs) (r : SmA k b ys) : SmA k (a + b) (xs ++ ys) := by
  induction xs generalizing a with
  | nil => exact ⟨r.sh, r.dp, r.ls, Nat.le_trans r.wt (by omega)⟩
  | cons d ds ih =>
    obtain ⟨h1, h2, h3, h4⟩ := h
    simp only [PyData.showableAll, Bool.and_eq_true] at h1
    simp only [PyData.depthAll] at h2
    simp only [PyData.leavesShortAll, Bool.and_eq_true] at h3
    simp only [PyData.weightAll] at h4
    have z := SmA.cons (k := k) (a := d.weight) ⟨h1.1, by omega, h3.1, Nat.le_refl _⟩ (ih (a := PyData.weightAll ds) ⟨h1.2, by omega, h3.2, Nat.le_refl _⟩)
    exact ⟨z.sh, z.dp, z.ls, Nat.le_trans z.wt (by omega)⟩
theorem SmA.lst {k w : Nat} {ds : List PyData} (h : SmA k w ds) : SmW (k + 1) (w + 10) (.list ds) := ⟨by rw [PyData.showable]; exact h.sh, by
  have := h.dp
  rw [PyData.depth]; omega, by rw [PyData.leavesShort]; exact h.ls, by
  have := h.wt
  rw [PyData.weight]; omega⟩
theorem SmW.up {k w k' w' : Nat} {d : PyData} (h : SmW k w d) (hk : k ≤ k') (hw : w ≤ w') : SmW k' w' d := ⟨h.sh, Nat.le_trans h.dp hk, h.ls, Nat.le_trans h.wt hw⟩
theorem SmA.up {k w k' w' : Nat} {ds : List PyData} (h : SmA k w ds) (hk : k ≤ k') (hw : w ≤ w') : SmA k' w' ds := ⟨h.sh, Nat.le_trans h.dp hk, h.ls, Nat.le_trans h.wt hw⟩
theorem sm_strs {ns ls : List Str} (hn : NmL ns) (h : ∀ l ∈ ls, LitN ns l) : SmA 1 (10 * ls.length) (ls.map .str) := by
  obtain ⟨a1, a2, a3⟩ := strs_small hn ls h
  have d := depthS ls
  exact ⟨a2, by omega, a1, a3⟩
theorem sm_tupsA {ns : List Str} {cs : List (List Str)} (hn : NmL ns) (h : ∀ c ∈ cs, c.length ≤ 60 ∧ ∀ l ∈ c, LitN ns l) : SmA 2 (602 * cs.length) (cs.map fun c => .tuple (c.map .str)) := by
  obtain ⟨h1, h2, h3⟩ := tups_smallG hn cs h
  have h4 := depthT cs
  exact ⟨h2, by omega, h1, h3⟩
theorem sm_more : SmW 1 20 (.str "more") := ⟨rfl, by simp [PyData.depth], by decide +kernel, by decide +kernel⟩
theorem sm_nat {n : Nat} (h : n ≤ 1000) : SmW 1 40 (.int (n : Nat)) := by
  have key : ∀ n, n ≤ 1000 → (PyData.int (n : Nat)).leavesShort 13 = true ∧ (PyData.int (n : Nat)).weight ≤ 40 ∧ (PyData.int (n : Nat)).showable = true := by decide +kernel
  exact ⟨(key n h).2.2, by simp [PyData.depth], (key n h).1, (key n h).2.1⟩
theorem q_asgA {i : Nat} {ta : TA} {tz : TS} {D : Ends} {σ : Sl} {H : Hp} (h : ta σ H fun vs H1 => vs.length ≤ sizeLine ∧ ∀ p, H1 p = none → tz D (σ.set i (some (.ref p))) (upd H1 p (.lst vs))) : tSeq (tAsg (tLst ta) (gName i)) tz D σ H := h
theorem pd_to {α β : Type} {R : Rl α} {T : Rl β} {f : α → β} {M : Hp} (h : ∀ x v, R x M v → T (f x) M v) : ∀ {xs : List α} {vs : List V}, Pd R M xs vs → Pd T M (xs.map f) vs
  | [], _, p => by cases p; exact .nil
  | x :: xs, _, p => by cases p with | cons q t => exact .cons (h _ _ q) (pd_to h t)
theorem dd_lst {K : PySem.W.Frag} {M : Hp} {p : Addr} {ds : List PyData} {vs : List V} (h : M p = some (.lst vs)) (pd : Pd (Dd K) M ds vs) : Dd K (.list ds) M (.ref p) := .lst (.inl (.inl h)) (dpa_pd pd)
theorem li_ddl {K : PySem.W.Frag} {M : Hp} {v : V} {ds : List PyData} (h : LiR (Dd K) ds M v) : Dd K (.list ds) M v := by
  obtain ⟨p, vs, rfl, h, pd⟩ := h
  exact dd_lst h pd
theorem li_map {K : PySem.W.Frag} {α : Type} {R : Rl α} {f : α → PyData} {M : Hp} {v : V} {xs : List α} (py : PyR K R f) (h : LiR R xs M v) : LiR (Dd K) (xs.map f) M v := by
  obtain ⟨p, vs, e, h, pd⟩ := h
  exact ⟨p, vs, e, h, pd_to (fun x v r => py x M v r) pd⟩
section
variable {K : PySem.W.Frag} {σ : Sl} {M : Hp} {te : TE} {α : Type} {R : Rl α}
theorem gt_nil {ds : List PyData} (h : Gv te σ M (Dd K (.list ds))) (hd : PyData.depthAll ds ≤ 40) : GvT (tTest (tOp (rEqP K true) te (tLst tNil))) σ M (decide (ds ≠ [])) := gt_test (gv_is (gv_eq (K := K) (neg := true) (d := .list ds) (e := .list []) h gv_nilD (by simp [PyData.depth]; omega)) fun M v h => by
  rw [show v = _ from h]
  cases ds with
  | nil => simp [PyData.eqv, PyData.eqvAll]
  | cons z r => simp [PyData.eqv, PyData.eqvAll])
theorem rv_addL [Mon R] {xs ys : List α} (hz : xs.length + ys.length ≤ sizeLine) : ∀ M' x y, LiR R xs M' x → LiR R ys M' y → RV (rAddA K x y) M' (LiR R (xs ++ ys)) := fun M' x y hx hy H mh Q q =>
  (gl_addL (K := K) (t1 := tC x) (t2 := tC y) (σ := []) (gv_c hx) (gv_c hy) hz).li H mh Q q
end
/-! a list of ours that grows, of known things -/
structure Ac {α : Type} (R : Rl α) (S : Strm) (M0 H0 : Hp) (p : Addr) (xs : List α) (M H : Hp) (k : Nat) : Prop where
  Z : Zs S M H k
  G : Gr M0 (S.cut H0) M (S.cut H)
  h0 : S.cut H0 p = none
  m : M p = none
  ex : ∃ vs, S.cut H p = some (.lst vs) ∧ Pd R M xs vs
section
variable {K : PySem.W.Frag} {α : Type} {R : Rl α} [Mon R] {S : Strm} {M0 H0 M H M' H' : Hp} {p : Addr} {xs : List α} {k j c i : Nat} {σ : Sl} {te : TE} {D : Ends} {tz : TS} {P : Pr}
theorem Ac.step (A : Ac R S M0 H0 p xs M H k) (g : Gr M (S.cut H) M' (S.cut H')) (a : S.At j H') : Ac R S M0 H0 p xs M' H' j := let ⟨vs, h, pd⟩ := A.ex; ⟨⟨g.mh, a⟩, A.G.trans g, A.h0, g.keep A.m h, vs, g.hh _ _ h, pd.mono g.mm⟩
theorem Ac.le (A : Ac R S M0 H0 p xs M H k) (e : j ≤ k) : Ac R S M0 H0 p xs M H j := ⟨A.Z.le e, A.G, A.h0, A.m, A.ex⟩
theorem q_acc {x : α} (A : Ac R S M0 H0 p xs M H k) (hi : σ[i]? = some (some (.ref p))) (hz : xs.length < 1000) (h : Gv te σ M (R x)) (go : ∀ M' H', Same M M' → Ac R S M0 H0 p (xs ++ [x]) M' H' k → tz D σ H') : tSeq (tDrop (tBM K "list" rAppend (tVar i) (tCons te tNil))) tz D σ H := by
  obtain ⟨vs, hp, pd⟩ := A.ex
  refine q_app (A.Z.mh.trans cut_same) hi (of_cut hp) (Nat.lt_of_le_of_lt (show vs.length ≤ 1000 by rw [← pd.length]; omega) (by decide)) h fun v M' H' g r => ?_
  have A' := A.step (lift A.Z.mh A.Z.at_ g) (A.Z.at_.same g.hh)
  obtain ⟨ws, hp', pd'⟩ := A'.ex
  have e : ws = vs := by
    have := (lift A.Z.mh A.Z.at_ g).hh _ _ hp
    rw [this] at hp'; cases hp'; rfl
  subst e
  exact go M' _ g.mm ⟨⟨by rw [cut_put hp']; exact same_mut A'.Z.mh A'.m, A'.Z.at_.upd (on_of hp')⟩, by rw [cut_put hp']; exact A'.G.mut A'.h0 A'.m, A'.h0, A'.m, _, by rw [cut_put hp', upd_same], pd_app pd' (.cons r .nil)⟩
theorem a_asg (A : Ac R S M0 H0 p xs M H (k + c)) (h : GvS S c te σ M P) (go : ∀ v M' H', Same M M' → Ac R S M0 H0 p xs M' H' k → P M' v → tz D (σ.set i (some v)) H') : tSeq (tAsg te (gName i)) tz D σ H :=
  z_asg A.Z.mh A.Z.at_ h fun v M' H' g a r => go v M' H' g.mm (A.step g a) r
end
/-! a list that is newer than what was known -/
def NewL (M0 : Hp) {α : Type} (R : Rl α) : Rl (List α) := fun xs M v => ∃ p vs, v = .ref p ∧ M p = some (.lst vs) ∧ M0 p = none ∧ Pd R M xs vs
section
variable {K : PySem.W.Frag} {α : Type} {R : Rl α} {M0 M : Hp}
instance [Mon R] : Mon (NewL M0 R) := ⟨fun e ⟨p, vs, h1, h2, h3, h4⟩ => ⟨p, vs, h1, e _ _ h2, h3, h4.mono e⟩⟩
theorem NewL.li {xs : List α} {v : V} (h : NewL M0 R xs M v) : LiR R xs M v := let ⟨p, vs, h1, h2, _, h4⟩ := h; ⟨p, vs, h1, h2, h4⟩
theorem NewL.sq [Mon R] {xs : List α} {v : V} (h : NewL M0 R xs M v) : SqR K R xs M v := h.li.sq
end
section
variable {K : PySem.W.Frag} {α : Type} {R : Rl α} [Mon R] {M0 M : Hp} {S : Strm} {c : Nat} {σ : Sl} {te t1 t2 : TE}
theorem gl_newL {xs : List α} (h : GvL te σ M fun M ws => Pd R M xs ws) (s : Same M0 M) : Gv te σ M (NewL M0 R xs) := fun H mh Q q =>
  h H mh _ fun p vs M' H' g h0 m0 hw r => q (.ref p) _ H' (g.freeze h0 m0 hw) ⟨p, vs, rfl, upd_same, (s.trans mh).free h0, r.mono (same_new m0)⟩
theorem gs_newL {good : List α → Prop} (h : GvLS S c te σ M fun M ws => ∃ ys, good ys ∧ Pd R M ys ws) (s : Same M0 M) : GvS S c te σ M (Ex (NewL M0 R) good) := fun H k mh a Q q =>
  h H k mh a _ fun p vs M' H' g a' h0 m0 hw ⟨ys, gy, r⟩ => q (.ref p) _ H' (g.freeze h0 m0 hw) a' ⟨ys, gy, p, vs, rfl, upd_same, (s.trans mh).free h0, r.mono (same_new m0)⟩
theorem gs_addN {xs : List α} {good : List α → Prop} (h1 : Gv t1 σ M (LiR R xs)) (h2 : GvS S c t2 σ M (Ex (LiR R) good)) (s : Same M0 M) (hz : ∀ ys, good ys → xs.length + ys.length ≤ sizeLine) : GvS S c (tOp (rAddA K) t1 t2) σ M (fun M v => ∃ ys, good ys ∧ NewL M0 R (xs ++ ys) M v) := fun H k mh a Q q =>
  h1 H (mh.trans cut_same) _ fun v M1 H1 g1 p1 => by
    have L1 := lift mh a g1
    refine h2.le g1.mm H1 k L1.mh (a.same g1.hh) _ fun w M2 H2 g2 a2 ⟨ys, gy, p2⟩ => ?_
    have p1 : LiR R xs M2 v := Mon.mono g2.mm p1
    refine gl_addL (K := K) (t1 := tC v) (t2 := tC w) (σ := σ) (gv_c p1) (gv_c p2) (hz ys gy) H2 (g2.mh.trans cut_same) _ fun p vs M3 H3 g3 h0 m0 hw pd => ?_
    have g3' := lift g2.mh a2 g3
    have G := (L1.trans g2).trans g3'
    have c0 : S.cut H2 p = none := a2.cutn h0
    exact q (.ref p) _ H3 (G.freeze ((L1.trans g2).hh.free c0) m0 (by rw [cut_on (a2.fresh h0)]; exact hw)) (a2.same g3.hh) ⟨ys, gy, p, vs, rfl, upd_same, (s.trans mh).free ((L1.trans g2).hh.free c0), pd.mono (same_new m0)⟩
/-- any(..), all(..) of what is drawn -/
theorem gs_anyB {good : List Bool → Prop} (h : GvLS S c te σ M fun M vs => ∃ bs, good bs ∧ Pd Bl M bs vs) : GvS S c (tCB (rAny K) (tCons te tNil)) σ M (Ex Bl fun b => ∃ bs : List Bool, good bs ∧ b = bs.any id) := fun H k mh a Q q =>
  h H k mh a _ fun p vs M' H' g a' h0 m0 hw ⟨bs, gb, r⟩ => ⟨p, bs, rfl, by rw [pd_bl r] at hw; exact .inl (.inl (of_cut hw)), q _ M' H' g a' ⟨_, ⟨bs, gb, rfl⟩, rfl⟩⟩
theorem gs_allB {good : List Bool → Prop} (h : GvLS S c te σ M fun M vs => ∃ bs, good bs ∧ Pd Bl M bs vs) : GvS S c (tCB (rAll K) (tCons te tNil)) σ M (Ex Bl fun b => ∃ bs : List Bool, good bs ∧ b = bs.all id) := fun H k mh a Q q =>
  h H k mh a _ fun p vs M' H' g a' h0 m0 hw ⟨bs, gb, r⟩ => ⟨p, bs, rfl, by rw [pd_bl r] at hw; exact .inl (.inl (of_cut hw)), q _ M' H' g a' ⟨_, ⟨bs, gb, rfl⟩, rfl⟩⟩
end
theorem li_sqq {K : PySem.W.Frag} {cs : List (List Str)} {M : Hp} {v : V} (h : LiR (LiR Tx) cs M v) : SqR K (SqR K Tx) cs M v :=
  let ⟨a, vs, e, r, p⟩ := h
  .inl ⟨a, vs, e, .inl (.inl r), Paired.mapP p fun _ _ q => LiR.sq q⟩
theorem pd_mem {α : Type} {R : Rl α} {M : Hp} {xs : List α} {vs : List V} (h : Pd R M xs vs) : ∀ v ∈ vs, ∃ x ∈ xs, R x M v := by
  induction h with
  | nil => intro y hy; cases hy
  | cons p _ ih =>
    intro y hy
    rcases List.mem_cons.mp hy with rfl | hy
    · exact ⟨_, List.mem_cons_self .., p⟩
    · obtain ⟨x, hx, r⟩ := ih y hy
      exact ⟨x, List.mem_cons_of_mem _ hx, r⟩
section
variable {K : PySem.W.Frag} {M : Hp} {S : Strm} {c : Nat} {σ : Sl} {t1 t2 : TE}
theorem gs_tup {good : List Str → Prop} {te : TE} (h : GvS S c te σ M (Ex (LiR Tx) good)) : GvS S c (tCB (rTupOf K) (tCons te tNil)) σ M (Ex (TupR K Tx) good) := gs_cb1 h fun M' u ⟨ys, gy, ru⟩ => fun H mh Q q => gv_tupOf (K := K) (R1 := Tx) (xs := ys) (te := tC u) (σ := []) (gv_c ru.sq) H mh Q fun v M2 H2 g r => q v M2 H2 g ⟨ys, gy, r⟩
theorem gs_two {b1 b2 : Bool} (h1 : GvS S c t1 σ M (Bl b1)) (h2 : Gv t2 σ M (Bl b2)) : GvS S c (tLst (tCons t1 (tCons t2 tNil))) σ M (Dd K (.list [.bool b1, .bool b2])) := fun H k mh a Q q =>
  h1 H k mh a _ fun u1 M1 H1 g1 a1 r1 => h2.le g1.mm H1 (g1.mh.trans cut_same) _ fun u2 M2 H2 g2 r2 => ⟨by show 2 ≤ sizeLine; decide, fun p np => by
    cases (show u1 = V.bl b1 from r1)
    cases (show u2 = V.bl b2 from r2)
    have G := g1.trans (lift g1.mh a1 g2)
    have a2 := a1.same g2.hh
    have c0 := a2.cutn np
    have n2 := a2.fresh np
    have G' := (G.trans (Gr.own (o := .lst [.bl b1, .bl b2]) G.mh c0)).freeze (G.hh.free c0) (G.mh.free c0) upd_same
    rw [← cut_upd n2] at G'
    exact q (.ref p) _ _ G' (a2.upd n2) (dd_lst upd_same (.cons (.bl b1) (.cons (.bl b2) .nil)))⟩
end
theorem paired_all {α β : Type} {good : α → β → Prop} {q : β → Prop} {xs : List α} {ys : List β} (h : Paired good xs ys) (k : ∀ x ∈ xs, ∀ y, good x y → q y) : ∀ y ∈ ys, q y := by
  induction h with
  | nil => intro y hy; cases hy
  | cons p _ ih =>
    intro y hy
    rcases List.mem_cons.mp hy with rfl | hy
    · exact k _ (List.mem_cons_self ..) _ p
    · exact ih (fun x hx => k x (List.mem_cons_of_mem _ hx)) y hy
end My

set_option Elab.async false
set_option linter.all false
set_option maxRecDepth 100000
set_option maxHeartbeats 8000000
namespace L3
open PySem PySem.Spec PyProof.Rows L2
def rLenF : List V → Hp → VK → Prop := fun xs H Q => ∃ (p : Addr) (o : Obj) (kvs : List (List Key × V)), xs = [V.ref p] ∧ H p = some (.frz o (.dT kvs)) ∧ Q (.int ((kvs.length : Nat) : Int)) H
theorem call_lenF {X : Cx} : CallR X (.builtin "len") rLenF := fun pins s σ H xs us Q I r h => by
  obtain ⟨p, o, kvs, rfl, hp, q⟩ := h
  obtain ⟨u, rfl, rx⟩ := vals1 r
  obtain rfl : u = .ref p := rx
  obtain ⟨z, hd, ys, rel, dd⟩ := dt_rd I.hok (.inr ⟨o, hp⟩)
  have el := rel.length
  exact call_len_dictH hd dd (by rw [← el]; rw [sizeLine_eq] at z; omega) (by rw [← el]; exact ⟨.int ((kvs.length : Nat) : Int), H, I.tok _, ⟨_, rfl⟩, q⟩)
theorem gv_lenF {σ : Sl} {M : Hp} {te : TE} {ks : List (List Str)} (h : Gv te σ M (DtF ks)) : Gv (tCB rLenF (tCons te tNil)) σ M (It' (ks.length : Nat)) := gv_cb1 h fun M' v ⟨a, o, e, r⟩ H mh Q q => ⟨a, o, ent ks, by rw [e], mh _ _ r, by
  have : (ent ks).length = ks.length := by unfold ent; rw [List.length_map]
  rw [this]
  exact q _ M' H (.refl mh) rfl⟩
section
variable {σ : Sl} {M : Hp} {ta tb te : TE} {α : Type} {R1 : Rl α} {C : Addr}
theorem gv_leO [Mon R1] {pre : α → α → Prop} {B : α → α → Bool} {x y : α} (ha : Gv ta σ M (R1 x)) (hb : Gv tb σ M (R1 y)) (hi : ∀ z M v, R1 z M v → ∃ a dx fs, v = .ref a ∧ M a = some (.ins C dx fs)) (hp : pre x y) :
    Gv (tOp (rLeO C (sp2 R1 R1 pre fun x y => Bl (B x y))) ta tb) σ M (Bl (B x y)) := fun H mh Q q =>
  ha H mh _ fun v M1 H1 g1 p1 => hb.le g1.mm H1 g1.mh _ fun w M2 H2 g2 p2 => by
    have p3 : R1 x M2 v := Mon.mono g2.mm p1
    obtain ⟨a, dx, fs, rfl, h1⟩ := hi x M2 v p3
    obtain ⟨b, dy, gs, rfl, h2⟩ := hi y M2 w p2
    exact ⟨a, b, dx, dy, fs, gs, rfl, rfl, g2.mh _ _ h1, g2.mh _ _ h2, x, y, M2, _, _, rfl, g2.mh, p3, p2, hp, fun u M' H' g r => ⟨_, r, q _ M' H' ((g1.trans g2).trans g) rfl⟩⟩
end
end L3
namespace My
open PySem PySem.Spec PyProof.Rows L2 L3
def leR (a b : RuleD) : Bool := decide (a.names.length = b.names.length) && a.names.all (fun n => decide (n ∈ b.names)) && a.allowed.all fun s => decide (asc s b.names ∈ b.allowed)
def eqR (a b : RuleD) : Bool := decide (a.allowed.length = b.allowed.length) && leR a b
structure RuleP (a : RuleD) : Prop where
  s : Shorts a.names
  n : a.names.length ≤ 1000
  k : a.allowed.length ≤ 1000000
theorem inst_rule {C : Addr} (z : RuleD) (M : Hp) (v : V) (h : RuleR C z M v) : ∃ a dx fs, v = .ref a ∧ M a = some (.ins C dx fs) := let ⟨a, dx, _, _, e, h1, _⟩ := h; ⟨a, dx, _, e, h1⟩
section
variable {P : Program} {w : World} {K : PySem.W.Frag} {mg : Str → Option Value} {base : Heap}
abbrev s_Rule_len : Stmt := inClass (topS 19) 3
theorem sc_Rule_len : FnScope ["self"] ["self"] (defScope s_Rule_len) := ⟨rfl, rfl, rfl, by decide +kernel, rfl, by decide +kernel, by decide +kernel⟩
def sp_Rule_len (K : PySem.W.Frag) (C : Addr) : Sp := sp1 (RuleR C) (fun _ => True) fun r => It' (r.allowed.length : Nat)
theorem ok_Rule_len {f C : Addr} {fd : FuncData} (F : Fun K "__len__" "Rule.__len__" s_Rule_len f fd) (T : Gc mg) (TC : RuleT K mg C) : FnOk P w K mg base CX0 1 f fd ["self"] (sp_Rule_len K C) := by
  refine F.ok sc_Rule_len (fun vs H Q E h => ?_) (fun cdv A outer s H vs Q E hr h => ?_)
  · obtain ⟨x, M, v, rfl, _⟩ := h
    rfl
  · obtain ⟨r, M, v, rfl, mh, r1, _, q⟩ := h
    have hu := hr.units
    refine ⟨_, (pss_one (ps_ret (pe_callB call_lenF (by rfl) T.len boot_len (pa_cons (pe_fld (pv 0) rfl) pa_nil)))), ?_⟩
    exact s_ret mh (gv_lenF (gv_rallowed TC (gv_var rfl r1))) q
abbrev s_Rule_allows : Stmt := inClass (topS 19) 5
theorem sc_Rule_allows : FnScope ["self", "literals"] ["self", "literals"] (defScope s_Rule_allows) := ⟨rfl, rfl, rfl, by decide +kernel, rfl, by decide +kernel, by decide +kernel⟩
def sp_Rule_allows (K : PySem.W.Frag) (C : Addr) : Sp := sp2 (RuleR C) TT (fun r _ => Shorts r.names) fun r s => Bl (decide (asc s r.names ∈ r.allowed))
theorem ok_Rule_allows {f C : Addr} {fd : FuncData} (F : Fun K "allows" "Rule.allows" s_Rule_allows f fd) (TC : RuleT K mg C) (c_ascending : Cal P w K mg base 1 "ascending" ["literals", "names"] (sp_ascending K)) : FnOk P w K mg base CX0 2 f fd ["self", "literals"] (sp_Rule_allows K C) := by
  refine F.ok sc_Rule_allows (fun vs H Q E h => ?_) (fun cdv A outer s H vs Q E hr h => ?_)
  · obtain ⟨x, y, M, v, w, rfl, _⟩ := h
    rfl
  · obtain ⟨r, x, M, v, w, rfl, mh, r1, r2, hsh, q⟩ := h
    have hu := hr.units
    refine ⟨_, (pss_one (ps_ret (pe_cmpR (op_inA hu) (pe_f c_ascending (hr.mono (by decide)) (pa_cons (pv 1) (pa_cons (pe_fld (pv 0) rfl) pa_nil))) (pe_fld (pv 0) rfl) (by rfl)))), ?_⟩
    exact s_ret mh (gv_is (gv_inDtF (K := K) (neg := false) (x := asc x r.names) (gv_call2 (R1 := CtR K) (R2 := SqR K Tx) (pre := fun _ ns => Shorts ns) (R := fun ls ns => TT (asc ls ns)) (x := x) (y := r.names) (gv_var rfl (.inl r2.sq)) (gv_is (gv_rnames TC (gv_var rfl r1)) fun _ _ h => h.sq) hsh) (gv_rallowed TC (gv_var rfl r1))) fun _ _ h => by rw [show _ = _ from h, Bool.false_xor]) q
abbrev s_Rule_le : Stmt := inClass (topS 19) 8
theorem sc_Rule_le : FnScope ["self", "other", "setting", "name"] ["self", "other"] (defScope s_Rule_le) := ⟨rfl, rfl, rfl, by decide +kernel, rfl, by decide +kernel, by decide +kernel⟩
def sp_Rule_le (K : PySem.W.Frag) (C : Addr) : Sp := sp2 (RuleR C) (RuleR C) (fun a b => RuleP a ∧ RuleP b) fun a b => Bl (leR a b)
theorem ok_Rule_le {f CR : Addr} {fd : FuncData} (F : Fun K "__le__" "Rule.__le__" s_Rule_le f fd) (T : Gc mg) (TC : RuleT K mg CR) (m_allows : Met P w K mg base 2 CR "allows" ["self", "literals"] (sp_Rule_allows K CR)) : FnOk P w K mg base CX0 3 f fd ["self", "other"] (sp_Rule_le K CR) := by
  refine F.ok sc_Rule_le (fun vs H Q E h => ?_) (fun cdv A outer s H vs Q E hr h => ?_)
  · obtain ⟨x, y, M, v, w, rfl, _⟩ := h
    rfl
  · obtain ⟨a, b, M, v, w, rfl, mh, r1, r2, ⟨XA, XB⟩, q⟩ := h
    have hu := hr.units
    refine ⟨_, (pss_cons (ps_if (PW.pt (pw_or (pt_cmpR (op_neP hu) (pe_callB call_lenA (by rfl) T.len boot_len (pa_cons (pe_fld (pv 0) rfl) pa_nil)) (pe_callB call_lenA (by rfl) T.len boot_len (pa_cons (pe_fld (pv 1) rfl) pa_nil)) (nomark _)) (pw_or1 (pt_not (pt_val (pe_callB (cr_all rfl) (by rfl) T.all boot_all (pa_cons (pe_lc (own := [("name", 3)]) (g := (gName 3)) (tt := tYes) (te := (tOp (rInA K false) (tVar 3) (tFld K (tVar 1) "names"))) (by rfl) sc_Rule_le.nd (pi_sq (pe_fld (pv 0) rfl)) (blkOk_by (by rfl)) (fun _ _ _ _ _ => (pg_name (i := 3) sc_Rule_le.nd rfl (by first | exact .inl rfl | exact .inr rfl))) (fun _ _ _ _ _ => pts_nil) (fun _ _ _ _ _ => (pe_cmpR (op_inA hu) (pv 3) (pe_fld (pv 1) rfl) (by rfl)))) pa_nil))))))) (pss_one (ps_ret pe_bl)) pss_nil)
      (pss_one (ps_ret (pe_callB (cr_all rfl) (by rfl) T.all boot_all (pa_cons (pe_lc (own := [("setting", 2)]) (g := (gName 2)) (tt := tYes) (te := (tMeth CR "allows" (sp_Rule_allows K CR) [] E0 (tVar 1) (tCons (tVar 2) tNil))) (by rfl) sc_Rule_le.nd (pi_keys (pe_fld (pv 0) rfl)) (blkOk_by (by rfl)) (fun _ _ _ _ _ => (pg_name (i := 2) sc_Rule_le.nd rfl (by first | exact .inl rfl | exact .inr rfl))) (fun _ _ _ _ _ => pts_nil) (fun _ _ _ _ _ => (pe_m m_allows (hr.mono (by decide)) (pv 1) (pa_cons (pv 2) pa_nil)))) pa_nil))))), ?_⟩
    have gn : ∀ {σ' : Sl} {te : TE} {r : RuleD} {M' : Hp}, Gv te σ' M' (RuleR CR r) → Gv (tFld K te "names") σ' M' (SqR K Tx r.names) := fun h => gv_is (gv_rnames TC h) fun _ _ h => h.sq
    have na := XA.n
    refine q_if0 (b := !decide (a.names.length = b.names.length) || !(a.names.all fun n => decide (n ∈ b.names))) mh (gt_or (b := !decide (a.names.length = b.names.length)) (c := !(a.names.all fun n => decide (n ∈ b.names))) (gt_is (gt_test (gv_eqT (K := K) (neg := true) (x := (a.names.length : Int)) (y := (b.names.length : Int)) py_int inj_int (gv_lenA (K := K) (R := Tx) (gn (gv_var rfl r1))) (gv_lenA (K := K) (R := Tx) (gn (gv_var rfl r2))) (by simp [PyData.depth]))) (by simp [Int.ofNat_inj])) fun _ =>
      gt_not (gt_B (gv_is (gv_all (K := K) (gl_m1 (S := Bl) (R := Tx) (xs := a.names) (gi_sq (K := K) (gn (gv_var rfl r1))) (szK (by omega)) (fun n => decide (n ∈ b.names)) fun n _ M1 u sm ru => gv_is (gv_inA (K := K) (neg := false) (x := n) (gv_var rfl ru) (gv_is (gn (gv_var rfl (Mon.mono sm r2))) fun _ _ h => .inl h)) fun _ _ h => by rw [show _ = _ from h, Bool.false_xor])) fun M v h => by rw [show v = _ from h, List.all_map]; rfl))) (fun hb H1 hh1 => ?_) fun hb H1 hh1 => ?_
    · refine s_ret (P := Bl false) (mh.trans hh1) (gv_c rfl) fun z M' H' g r => q z M' H' (.trans (.idle mh hh1) g) ?_
      show z = .bl (leR a b)
      rw [show z = _ from r]
      unfold leR
      revert hb
      cases decide (a.names.length = b.names.length) <;> cases (a.names.all fun n => decide (n ∈ b.names)) <;> simp
    · have G1 : Gr M H M H1 := .idle mh hh1
      refine s_ret G1.mh (gv_all (K := K) (gl_m1 (S := Bl) (R := TT) (xs := a.allowed) (gi_keysT (gv_rallowed TC (gv_var rfl r1))) (szK XA.k) (fun s => decide (asc s b.names ∈ b.allowed)) fun s hs M1 u sm ru => gv_met2 (R1 := RuleR CR) (R2 := TT) (pre := fun r _ => Shorts r.names) (R := fun r s => Bl (decide (asc s r.names ∈ r.allowed))) (x := b) (y := s) (insR_rule (by decide +kernel) (by decide +kernel)) (gv_var rfl (Mon.mono sm r2)) (gv_var rfl ru) XB.s)) fun z M' H' g r => q z M' H' (G1.trans g) ?_
      show z = .bl (leR a b)
      rw [show z = _ from r, List.all_map]
      unfold leR
      revert hb
      cases decide (a.names.length = b.names.length) <;> cases (a.names.all fun n => decide (n ∈ b.names)) <;> simp [Function.comp_def]
abbrev s_Rule_eq : Stmt := inClass (topS 19) 7
theorem sc_Rule_eq : FnScope ["self", "other"] ["self", "other"] (defScope s_Rule_eq) := ⟨rfl, rfl, rfl, by decide +kernel, rfl, by decide +kernel, by decide +kernel⟩
def sp_Rule_eq (K : PySem.W.Frag) (C : Addr) : Sp := sp2 (RuleR C) (RuleR C) (fun a b => RuleP a ∧ RuleP b) fun a b => Bl (eqR a b)
theorem ok_Rule_eq {f CR : Addr} {fd : FuncData} (F : Fun K "__eq__" "Rule.__eq__" s_Rule_eq f fd) (T : Gc mg) (IC : InsF K CR) (g_Rule : mg "Rule" = some (.ref CR)) (o_len : OwnLen P w K mg base 1 CR (sp_Rule_len K CR)) (o_le : OwnSp P w K mg base 3 CR "__le__" ["self", "other"] (sp_Rule_le K CR)) : FnOk P w K mg base CX0 4 f fd ["self", "other"] (sp_Rule_eq K CR) := by
  refine F.ok sc_Rule_eq (fun vs H Q E h => ?_) (fun cdv A outer s H vs Q E hr h => ?_)
  · obtain ⟨x, y, M, v, w, rfl, _⟩ := h
    rfl
  · obtain ⟨a, b, M, v, w, rfl, mh, r1, r2, ⟨XA, XB⟩, q⟩ := h
    have hu := hr.units
    refine ⟨_, (pss_cons (ps_if (PW.pt (pw_or (pt_not (pt_val (pe_callB call_isi (by rfl) T.isinstance boot_isinstance (pa_cons (pv 1) (pa_cons (pe_glob (v := .ref CR) (by rfl) g_Rule rfl) pa_nil))))) (pw_or1 (pt_cmpR (op_neP hu) (pe_callB (call_lenO o_len (hr.mono (by decide))) (by rfl) T.len boot_len (pa_cons (pv 0) pa_nil)) (pe_callB (call_lenO o_len (hr.mono (by decide))) (by rfl) T.len boot_len (pa_cons (pv 1) pa_nil)) (nomark _))))) (pss_one (ps_ret pe_bl)) pss_nil)
      (pss_one (ps_ret (pe_cmpR (op_leO o_le (hr.mono (by decide))) (pv 0) (pv 1) (nomark _))))), ?_⟩
    have ka := XA.k
    have kb := XB.k
    have glen : ∀ {σ' : Sl} {te : TE} {d : RuleD}, d.allowed.length ≤ 1000000 → Gv te σ' M (RuleR CR d) → Gv (tCB (rLenO CR (sp_Rule_len K CR)) (tCons te tNil)) σ' M (It' (d.allowed.length : Nat)) := fun hk h => gv_lenO (R1 := RuleR CR) (pre := fun _ => True) (R := fun c => It' (c.allowed.length : Nat)) h (fun M v r => inst_rule _ M v r) trivial (by omega) fun _ _ r => r
    refine q_if0 (b := !decide (a.allowed.length = b.allowed.length)) mh (gt_is (gt_or (b := false) (c := !decide (a.allowed.length = b.allowed.length)) (gt_is (gt_not (gt_B (gv_isC (K := K) IC (gv_var (P := RuleR CR b) rfl r2) (inst_rule b)))) rfl) fun _ => gt_is (gt_test (gv_eqT (K := K) (neg := true) (x := (a.allowed.length : Int)) (y := (b.allowed.length : Int)) py_int inj_int (glen ka (gv_var rfl r1)) (glen kb (gv_var rfl r2)) (by simp [PyData.depth]))) (by simp [Int.ofNat_inj])) (by simp)) (fun hb H1 hh1 => ?_) fun hb H1 hh1 => ?_
    · refine s_ret (P := Bl false) (mh.trans hh1) (gv_c rfl) fun z M' H' g r => q z M' H' (.trans (.idle mh hh1) g) ?_
      show z = .bl (eqR a b)
      rw [show z = _ from r]
      unfold eqR
      rw [show decide (a.allowed.length = b.allowed.length) = false by simpa using hb]; rfl
    · have G1 : Gr M H M H1 := .idle mh hh1
      refine s_ret G1.mh (gv_leO (R1 := RuleR CR) (pre := fun a b => RuleP a ∧ RuleP b) (B := leR) (gv_var rfl r1) (gv_var rfl r2) inst_rule ⟨XA, XB⟩) fun z M' H' g r => q z M' H' (G1.trans g) ?_
      show z = .bl (eqR a b)
      rw [show z = _ from r]
      unfold eqR
      rw [show decide (a.allowed.length = b.allowed.length) = true by simpa using hb]; rfl
end
end My

set_option Elab.async false
set_option linter.all false
set_option maxRecDepth 100000
set_option maxHeartbeats 8000000
namespace My
open PySem PySem.Spec PyProof.Rows L2 L3
/-! a rule that is asked -/
def strsOf (ds : List PyData) : List Str := ds.filterMap fun d => match d with | .str x => some x | _ => none
theorem strs_map (xs : List Str) : strsOf (xs.map PyData.str) = xs := by
  unfold strsOf
  rw [List.filterMap_map]
  induction xs with
  | nil => rfl
  | cons x xs ih => rw [List.filterMap_cons]; exact congrArg (x :: ·) ih
def inR (r : RuleD) (d : PyData) : Bool := decide (firstWrong r.names d = none) && (decide ((itemsD d).length = r.names.length) && decide (asc (strsOf (itemsD d)) r.names ∈ r.allowed))
theorem RuleR.thaw {M0 M : Hp} {C : Addr} {r : RuleD} {v : V} (h : RuleR C r M v) : RuleR C r (My.thaw M0 M) v := let ⟨a, dx, vn, va, h1, h2, h3, ⟨b, o, e, h4⟩⟩ := h; ⟨a, dx, vn, va, h1, thaw_off h2 (fun _ z => (by cases z)), TT.thaw h3, ⟨b, o, e, thaw_off h4 (fun _ z => (by cases z))⟩⟩
section
variable {P : Program} {w : World} {K : PySem.W.Frag} {mg : Str → Option Value} {base : Heap}
abbrev s_Rule_signs : Stmt := inClass (topS 19) 1
theorem sc_Rule_signs : FnScope ["self"] ["self"] (defScope s_Rule_signs) := ⟨rfl, rfl, rfl, by decide +kernel, rfl, by decide +kernel, by decide +kernel⟩
def sp_Rule_signsL (K : PySem.W.Frag) (C : Addr) : Sp := sl1 (RuleR C) (fun _ => True) fun r M ws => Pd Tx M r.names ws
theorem ok_Rule_signsL {f C : Addr} {fd : FuncData} (F : Fun K "signs" "Rule.signs" s_Rule_signs f fd) (T : Gc mg) (TC : RuleT K mg C) : FnOk P w K mg base CX0 1 f fd ["self"] (sp_Rule_signsL K C) := by
  refine F.ok sc_Rule_signs (fun vs H Q E h => ?_) (fun cdv A outer s H vs Q E hr h => ?_)
  · obtain ⟨x, M, v, rfl, _⟩ := h
    rfl
  · obtain ⟨c, M, v, rfl, mh, r1, _, q⟩ := h
    have hu := hr.units
    refine ⟨_, (pss_one (ps_ret (pe_callTy call_lstA (by rfl) T.list boot_list (pa_cons (pe_fld (pv 0) rfl) pa_nil)))), ?_⟩
    exact (gl_lstOf (K := K) (R1 := Tx) (gv_is (gv_rnames TC (gv_var rfl r1)) fun _ _ h => h.sq)) H mh _ fun p vs M' H' g h0 m0 hp pd => q p vs M' H' g h0 m0 hp pd
def sp_Rule_settingsL (K : PySem.W.Frag) (C : Addr) : Sp := sl1 (RuleR C) RuleW fun r M ws => Pd TT M r.settings ws
theorem ok_Rule_settingsL {f C : Addr} {fd : FuncData} (F : Fun K "settings" "Rule.settings" s_Rule_settings f fd) (T : Ge mg) (TC : RuleT K mg C) (c_full_settings : Cal P w K mg base 1 "full_settings" ["names"] (sp_full_settings K)) : FnOk P w K mg base CX0 2 f fd ["self"] (sp_Rule_settingsL K C) := by
  refine F.ok sc_Rule_settings (fun vs H Q E h => ?_) (fun cdv A outer s H vs Q E hr h => ?_)
  · obtain ⟨x, M, v, rfl, _⟩ := h
    rfl
  · obtain ⟨r, M, v, rfl, mh, r1, hw, q⟩ := h
    have hu := hr.units
    refine ⟨_, (pss_one (ps_ret (pe_lc (own := [("setting", 1)]) (g := (gName 1)) (tt := (tTest (tOp (rInA K false) (tVar 1) (tFld K (tVar 0) "allowed")))) (te := (tVar 1)) (by rfl) sc_Rule_settings.nd (pi_sq (pe_f c_full_settings (hr.mono (by decide)) (pa_cons (pe_fld (pv 0) rfl) pa_nil))) (blkOk_by (by rfl)) (fun _ _ _ _ _ => (pg_name (i := 1) sc_Rule_settings.nd rfl (by first | exact .inl rfl | exact .inr rfl))) (fun _ _ _ _ _ => (pts_one (pt_cmpR (op_inA hu) (pv 1) (pe_fld (pv 0) rfl) (by rfl)))) (fun _ _ _ _ _ => (pv 1))))), ?_⟩
    have fl : (fulls r.names).length ≤ sizeLine := by
      rw [fulls_len]
      exact szM (Nat.le_trans (Nat.pow_le_pow_right (by decide) hw.k) (by decide))
    exact (gl_c1 (S := TT) (R := TT) (xs := fulls r.names) (gi_sq (K := K) (gv_is (gv_call1 (R1 := SqR K Tx) (pre := fun ns => ns.length ≤ 6 ∧ Shorts ns) (R := fun ns => LiR TT (fulls ns)) (gv_is (gv_rnames TC (gv_var rfl r1)) fun _ _ h => h.sq) ⟨hw.k, hw.s⟩) fun _ _ h => h.sq)) fl (fun s => decide (s ∈ r.allowed)) id
      (fun s _ M1 u sm ru => gt_is (gt_test (gv_inDtF (K := K) (gv_var rfl ru) (gv_rallowed TC (gv_var rfl (Mon.mono sm r1))))) (by simp)) fun s _ _ M1 u sm ru => gv_var rfl ru) H mh _ fun p vs M' H' g h0 m0 hp pd => q p vs M' H' g h0 m0 hp (by rw [List.map_id] at pd; exact pd)
def sp_Rule_allowsS (K : PySem.W.Frag) (C : Addr) : Sp := sp2 (RuleR C) (SqR K Tx) (fun r _ => Shorts r.names) fun r s => Bl (decide (asc s r.names ∈ r.allowed))
theorem ok_Rule_allowsS {f C : Addr} {fd : FuncData} (F : Fun K "allows" "Rule.allows" s_Rule_allows f fd) (TC : RuleT K mg C) (c_ascending : Cal P w K mg base 1 "ascending" ["literals", "names"] (sp_ascending K)) : FnOk P w K mg base CX0 2 f fd ["self", "literals"] (sp_Rule_allowsS K C) := by
  refine F.ok sc_Rule_allows (fun vs H Q E h => ?_) (fun cdv A outer s H vs Q E hr h => ?_)
  · obtain ⟨x, y, M, v, w, rfl, _⟩ := h
    rfl
  · obtain ⟨r, x, M, v, w, rfl, mh, r1, r2, hsh, q⟩ := h
    have hu := hr.units
    refine ⟨_, (pss_one (ps_ret (pe_cmpR (op_inA hu) (pe_f c_ascending (hr.mono (by decide)) (pa_cons (pv 1) (pa_cons (pe_fld (pv 0) rfl) pa_nil))) (pe_fld (pv 0) rfl) (by rfl)))), ?_⟩
    exact s_ret mh (gv_is (gv_inDtF (K := K) (neg := false) (x := asc x r.names) (gv_call2 (R1 := CtR K) (R2 := SqR K Tx) (pre := fun _ ns => Shorts ns) (R := fun ls ns => TT (asc ls ns)) (x := x) (y := r.names) (gv_var rfl (.inl r2)) (gv_is (gv_rnames TC (gv_var rfl r1)) fun _ _ h => h.sq) hsh) (gv_rallowed TC (gv_var rfl r1))) fun _ _ h => by rw [show _ = _ from h, Bool.false_xor]) q
abbrev s_Rule_contains : Stmt := inClass (topS 19) 6
theorem sc_Rule_contains : FnScope ["self", "thing"] ["self", "thing"] (defScope s_Rule_contains) := ⟨rfl, rfl, rfl, by decide +kernel, rfl, by decide +kernel, by decide +kernel⟩
def sp_Rule_containsE (K : PySem.W.Frag) (C : Addr) : Sp := sp2 (RuleR C) (DdE K) (fun r d => Shorts r.names ∧ shortL d) fun r d => Bl (inR r d)
theorem ok_Rule_containsE {f C : Addr} {fd : FuncData} (F : Fun K "__contains__" "Rule.__contains__" s_Rule_contains f fd) (T : Gc mg) (TC : RuleT K mg C) (c_first_wrong : Cal P w K mg base 3 "first_wrong" ["things", "names"] (sp_first_wrongE K)) (m_allows : Met P w K mg base 2 C "allows" ["self", "literals"] (sp_Rule_allowsS K C)) : FnOk P w K mg base CX0 4 f fd ["self", "thing"] (sp_Rule_containsE K C) := by
  refine F.ok sc_Rule_contains (fun vs H Q E h => ?_) (fun cdv A outer s H vs Q E hr h => ?_)
  · obtain ⟨x, y, M, v, w, rfl, _⟩ := h
    rfl
  · obtain ⟨r, d, M, v, w, rfl, mh, r1, r2, ⟨hs, hd⟩, q⟩ := h
    have hu := hr.units
    refine ⟨_, (pss_one (ps_ret (pe_and (pe_cmp (pc_isN (pe_f c_first_wrong (hr.mono (by decide)) (pa_cons (pv 1) (pa_cons (pe_fld (pv 0) rfl) pa_nil))))) (pe_and (pe_cmpR (op_eqP hu) (pe_callB call_lenA (by rfl) T.len boot_len (pa_cons (pv 1) pa_nil)) (pe_callB call_lenA (by rfl) T.len boot_len (pa_cons (pe_fld (pv 0) rfl) pa_nil)) (nomark _)) (pe_one (pe_m m_allows (hr.mono (by decide)) (pv 0) (pa_cons (pv 1) pa_nil))))))), ?_⟩
    refine s_ret mh (gv_andV (b := decide (firstWrong r.names d = none)) (c := decide ((itemsD d).length = r.names.length) && decide (asc (strsOf (itemsD d)) r.names ∈ r.allowed)) (gv_isN (b := decide (firstWrong r.names d = none)) (gv_call2 (R1 := DdE K) (R2 := SqR K Tx) (pre := fun d _ => shortL d) (R := fun d ns => OpN (firstWrong ns d)) (x := d) (y := r.names) (gv_var rfl r2) (gv_is (gv_rnames TC (gv_var rfl r1)) fun _ _ h => h.sq) hd) fun M v h => ?_) fun hb => ?_) q
    · have h : OpN (firstWrong r.names d) M v := h
      revert h
      cases firstWrong r.names d with
      | none => intro h; cases (show v = .non from h); rfl
      | some i => intro h; cases (show v = .int _ from h); rfl
    · obtain ⟨ys, ry, Ly, ed⟩ := dde_strs (of_decide_eq_true hb) r2
      have e : strsOf (itemsD d) = ys ∧ (itemsD d).length = ys.length := by
        rcases ed with e | e <;> rw [e] <;> exact ⟨strs_map ys, List.length_map ..⟩
      rw [e.1, e.2]
      exact gv_andV (b := decide (ys.length = r.names.length)) (c := decide (asc ys r.names ∈ r.allowed)) (gv_is (gv_eqT (K := K) (neg := false) (x := (ys.length : Int)) (y := (r.names.length : Int)) py_int inj_int (gv_lenA (K := K) (R := Tx) (xs := ys) (gv_var rfl ry)) (gv_lenA (K := K) (R := Tx) (gv_is (gv_rnames TC (gv_var rfl r1)) fun _ _ h => h.sq)) (by simp [PyData.depth])) fun M v h => by rw [show v = _ from h]; show V.bl _ = V.bl _; congr 1; simp [Int.ofNat_inj]) fun _ => gv_met2 (R1 := RuleR C) (R2 := SqR K Tx) (pre := fun r _ => Shorts r.names) (R := fun r s => Bl (decide (asc s r.names ∈ r.allowed))) (x := r) (y := ys) (insR_rule (by decide +kernel) (by decide +kernel)) (gv_var rfl r1) (gv_var rfl ry) hs
def sp_Rule_eqD (K : PySem.W.Frag) (C : Addr) : Sp := sp2 (RuleR C) (DdF K) (fun _ _ => True) fun _ _ => Bl false
theorem ok_Rule_eqD {f CR : Addr} {fd : FuncData} (F : Fun K "__eq__" "Rule.__eq__" s_Rule_eq f fd) (T : Gc mg) (O : OffC K CR) (g_Rule : mg "Rule" = some (.ref CR)) (o_len : OwnLen P w K mg base 1 CR (sp_Rule_len K CR)) (o_le : OwnSp P w K mg base 3 CR "__le__" ["self", "other"] (sp_Rule_le K CR)) : FnOk P w K mg base CX0 4 f fd ["self", "other"] (sp_Rule_eqD K CR) := by
  refine F.ok sc_Rule_eq (fun vs H Q E h => ?_) (fun cdv A outer s H vs Q E hr h => ?_)
  · obtain ⟨x, y, M, v, w, rfl, _⟩ := h
    rfl
  · obtain ⟨a, d, M, v, w, rfl, mh, r1, r2, _, q⟩ := h
    have hu := hr.units
    refine ⟨_, (pss_cons (ps_if (PW.pt (pw_or (pt_not (pt_val (pe_callB call_isi (by rfl) T.isinstance boot_isinstance (pa_cons (pv 1) (pa_cons (pe_glob (v := .ref CR) (by rfl) g_Rule rfl) pa_nil))))) (pw_or1 (pt_cmpR (op_neP hu) (pe_callB (call_lenO o_len (hr.mono (by decide))) (by rfl) T.len boot_len (pa_cons (pv 0) pa_nil)) (pe_callB (call_lenO o_len (hr.mono (by decide))) (by rfl) T.len boot_len (pa_cons (pv 1) pa_nil)) (nomark _))))) (pss_one (ps_ret pe_bl)) pss_nil)
      (pss_one (ps_ret (pe_cmpR (op_leO o_le (hr.mono (by decide))) (pv 0) (pv 1) (nomark _))))), ?_⟩
    refine q_if0 (b := true) mh (gt_is (gt_or (b := true) (c := false) (gt_is (gt_not (gt_B (b := false) fun H mh Q q => ⟨w, rfl, _, _, .type (tyN d), .ref CR, false, rfl, .own CR, ty_F (Mon.mono mh r2), O.kit, q _ M H (.refl mh) rfl⟩)) rfl) fun h => nomatch h) rfl) (fun _ H1 hh1 => ?_) fun h => nomatch h
    exact s_ret (P := Bl false) (mh.trans hh1) (gv_c rfl) fun z M' H' g r => q z M' H' (.trans (.idle mh hh1) g) r
end
/-! == and != beside rules and other things -/
def Qo : Type := RuleD ⊕ PyData
def OthQ (K : PySem.W.Frag) (C : Addr) : Rl Qo := fun o M v => match o with
  | .inl d => RuleR C d M v
  | .inr d => DdF K d M v
instance {K : PySem.W.Frag} {C : Addr} : Mon (OthQ K C) := ⟨fun {x M M' v} e h => by
  cases x with
  | inl d => exact (Mon.mono e (h : RuleR C d M v) : RuleR C d M' v)
  | inr d => exact (Mon.mono e (h : DdF K d M v) : DdF K d M' v)⟩
def eqQo (c : RuleD) (o : Qo) : Bool := match o with
  | .inl d => eqR c d
  | .inr _ => false
def neQo (c : RuleD) (o : Qo) : Bool := match o with
  | .inl d => !eqR d c
  | .inr _ => true
def rEqX (K : PySem.W.Frag) (C : Addr) (sp spD : Sp) : R2 := fun x y H Q => rEqO C sp false x y H Q ∨ rEqD K C spD x y H Q
def rNeX (K : PySem.W.Frag) (C : Addr) (sp spD : Sp) : R2 := fun x y H Q => rEqO C sp true x y H Q ∨ rNeD K C spD x y H Q
section
variable {X : Cx} {k : Nat} {C : Addr} {ps qs : List Str} {sp spD : Sp}
theorem op_eqX (o : OwnSp X.prog X.w X.K X.mg X.base k C "__eq__" ps sp) (o2 : OwnSp X.prog X.w X.K X.mg X.base k C "__eq__" qs spD) (hr : Room k X.A) : OpR X (compareOp .Eq) (rEqX X.K C sp spD) := by
  intro pins s σ H x y u v Q I rx ry h
  rcases h with h | h
  · exact L3.op_eqO o hr _ _ _ _ _ _ _ _ _ I rx ry h
  · exact L3.op_eqD o2 hr _ _ _ _ _ _ _ _ _ I rx ry h
theorem op_neX (o : OwnSp X.prog X.w X.K X.mg X.base k C "__eq__" ps sp) (o2 : OwnSp X.prog X.w X.K X.mg X.base k C "__eq__" qs spD) (n : NeObj X.K C) (O : OffC X.K C) (hr : Room (k + 1) X.A) : OpR X (compareOp .NotEq) (rNeX X.K C sp spD) := by
  intro pins s σ H x y u v Q I rx ry h
  rcases h with h | h
  · exact L3.op_neO o n hr _ _ _ _ _ _ _ _ _ I rx ry h
  · exact L3.op_neD o2 n O hr _ _ _ _ _ _ _ _ _ I rx ry h
end
section
variable {K : PySem.W.Frag} {C : Addr} {σ : Sl} {M : Hp} {ta tb : TE} {c : RuleD} {o : Qo}
theorem gv_eqX (ha : Gv ta σ M (RuleR C c)) (hb : Gv tb σ M (OthQ K C o)) (hc : RuleP c) (ho : ∀ d, o = .inl d → RuleP d) : Gv (tOp (rEqX K C (sp_Rule_eq K C) (sp_Rule_eqD K C)) ta tb) σ M (Bl (eqQo c o)) := fun H mh Q q =>
  ha H mh _ fun v M1 H1 g1 p1 => hb.le g1.mm H1 g1.mh _ fun w M2 H2 g2 p2 => by
    have p12 : RuleR C c M2 v := Mon.mono g2.mm p1
    obtain ⟨a, dx, fs, rfl, h1⟩ := inst_rule c M2 v p12
    cases o with
    | inl d =>
      have p2 : RuleR C d M2 w := p2
      obtain ⟨b, dy, gs, rfl, h2⟩ := inst_rule d M2 w p2
      exact .inl ⟨a, b, dx, dy, fs, gs, rfl, rfl, g2.mh _ _ h1, g2.mh _ _ h2, c, d, M2, _, _, rfl, g2.mh, p12, p2, ⟨hc, ho d rfl⟩, fun u M' H' g r => ⟨_, r, q _ M' H' ((g1.trans g2).trans g) (by rw [Bool.false_xor]; rfl)⟩⟩
    | inr d =>
      have p2 : DdF K d M2 w := p2
      exact .inr ⟨a, dx, fs, d, rfl, g2.mh _ _ h1, Mon.mono g2.mh p2, c, d, M2, _, w, rfl, g2.mh, p12, p2, trivial, fun u M' H' g r => ⟨_, r, q _ M' H' ((g1.trans g2).trans g) rfl⟩⟩
theorem gv_neX (ha : Gv ta σ M (OthQ K C o)) (hb : Gv tb σ M (RuleR C c)) (hc : RuleP c) (ho : ∀ d, o = .inl d → RuleP d) : Gv (tOp (rNeX K C (sp_Rule_eq K C) (sp_Rule_eqD K C)) ta tb) σ M (Bl (neQo c o)) := fun H mh Q q =>
  ha H mh _ fun w M1 H1 g1 p1 => hb.le g1.mm H1 g1.mh _ fun v M2 H2 g2 p2 => by
    have p12 : OthQ K C o M2 w := Mon.mono g2.mm p1
    obtain ⟨a, dx, fs, rfl, h1⟩ := inst_rule c M2 v p2
    cases o with
    | inl d =>
      have p12 : RuleR C d M2 w := p12
      obtain ⟨b, dy, gs, rfl, h2⟩ := inst_rule d M2 w p12
      exact .inl ⟨b, a, dy, dx, gs, fs, rfl, rfl, g2.mh _ _ h2, g2.mh _ _ h1, d, c, M2, _, _, rfl, g2.mh, p12, p2, ⟨ho d rfl, hc⟩, fun u M' H' g r => ⟨_, r, q _ M' H' ((g1.trans g2).trans g) (by rw [Bool.true_xor]; rfl)⟩⟩
    | inr d =>
      have p12 : DdF K d M2 w := p12
      exact .inr ⟨a, dx, fs, d, rfl, g2.mh _ _ h1, Mon.mono g2.mh p12, c, d, M2, _, w, rfl, g2.mh, p2, p12, trivial, fun u M' H' g r => ⟨_, r, q _ M' H' ((g1.trans g2).trans g) rfl⟩⟩
end
end My

set_option Elab.async false
set_option linter.all false
set_option maxRecDepth 100000
set_option maxHeartbeats 8000000
namespace My
open PySem PySem.Spec PyProof.Rows L2 L3
open L3.Strm
/-! what a rule is, whatever the order in which its settings were told -/
structure RG (ns : List Str) (al : List (List Str)) (r : RuleD) : Prop where
  n : r.names = ns
  m : ∀ x, x ∈ r.allowed ↔ x ∈ al
  d : r.allowed.Nodup
/-- a drawn rule -/
structure DR (ns : List Str) (al : List (List Str)) : Prop where
  nm : NmL ns
  k : ns.length ≤ 6
  s : al.Sublist (fulls ns)
section
variable {ns : List Str} {al : List (List Str)}
theorem DR.pr (h : DR ns al) : ∀ x ∈ al, Paired Side ns x := fun x hx => fulls_paired (h.s.subset hx)
theorem DR.len (h : DR ns al) : al.length ≤ 64 := Nat.le_trans h.s.length_le (by
  rw [fulls_len]
  exact Nat.le_trans (Nat.pow_le_pow_right (by decide) h.k) (by decide))
theorem DR.nd (h : DR ns al) : al.Nodup := h.s.nodup (fulls_nodup h.nm.nm)
theorem DR.a (h : DR ns al) : ∀ x ∈ al, asc x ns = x := fun x hx => asc_paired h.nm (h.pr x hx)
theorem RG.len {r : RuleD} (g : RG ns al r) (h : DR ns al) : r.allowed.length = al.length := ((List.perm_ext_iff_of_nodup g.d h.nd).mpr g.m).length_eq
theorem filter_sub {α : Type} [DecidableEq α] {l L : List α} (h : l.Sublist L) : L.Nodup → L.filter (fun x => decide (x ∈ l)) = l := by
  induction h with
  | slnil => intro _; rfl
  | @cons l L a s ih =>
    intro nd
    obtain ⟨na, nd⟩ := List.nodup_cons.mp nd
    rw [List.filter_cons, if_neg (by simp; exact fun z => na (s.subset z))]
    exact ih nd
  | @cons_cons l L a s ih =>
    intro nd
    obtain ⟨na, nd⟩ := List.nodup_cons.mp nd
    rw [List.filter_cons, if_pos (by simp)]
    congr 1
    refine Eq.trans (List.filter_congr fun x hx => ?_) (ih nd)
    have : x ≠ a := fun e => na (e ▸ hx)
    simp [this]
theorem RG.settings {r : RuleD} (g : RG ns al r) (h : DR ns al) : r.settings = al := by
  unfold RuleD.settings
  rw [g.n]
  refine Eq.trans (List.filter_congr fun x _ => ?_) (filter_sub h.s (fulls_nodup h.nm.nm))
  simp [g.m x]
theorem RG.w {r : RuleD} (g : RG ns al r) (h : DR ns al) : RuleW r := ⟨by rw [g.n]; exact h.k, by rw [g.n]; exact nm_shorts h.nm⟩
theorem RG.p {r : RuleD} (g : RG ns al r) (h : DR ns al) : RuleP r := ⟨by rw [g.n]; exact nm_shorts h.nm, by rw [g.n]; exact Nat.le_trans h.k (by decide), by rw [g.len h]; exact Nat.le_trans h.len (by decide)⟩
theorem mk_rg {ss : List (List Str)} (h1 : ∀ s ∈ ss, asc s ns ∈ al) (h2 : ∀ x ∈ al, ∃ s ∈ ss, asc s ns = x) : RG ns al (mkRule ns ss) := ⟨rfl, fun x => by
  show x ∈ once (ss.map fun s => asc s ns) ↔ _
  rw [mem_once, List.mem_map]
  exact ⟨fun ⟨s, hs, e⟩ => e ▸ h1 s hs, fun hx => h2 x hx⟩, once_nodup _⟩
theorem rule_okL {ss : List (List Str)} (nm : NmL ns) (k : ns.length ≤ 6) (n : ss.length ≤ 1000000) (h : ∀ s ∈ ss, Lits ns s ∧ s.length = ns.length) : RuleOk ns ss :=
  ⟨⟨nm.nd, fun x hx => ⟨nm.nm x hx, fun h => (by cases h)⟩, by omega⟩, k, n, fun c hc => ⟨clOk_lits nm (h c hc).1, (h c hc).2⟩⟩
theorem paired_fn {ms : List Str} {ps cs : List (List Str)} (h : Paired (fun x y => List.Perm y x) ps cs) : (∀ y ∈ cs, ∃ x ∈ ps, List.Perm y x) ∧ ∀ x ∈ ps, ∃ y ∈ cs, List.Perm y x := by
  induction h with
  | nil => exact ⟨fun y h => (by cases h), fun y h => (by cases h)⟩
  | cons q _ ih =>
    refine ⟨fun y hy => ?_, fun x hx => ?_⟩
    · rcases List.mem_cons.mp hy with rfl | hy
      · exact ⟨_, List.mem_cons_self .., q⟩
      · obtain ⟨x, hx, p⟩ := ih.1 y hy
        exact ⟨x, List.mem_cons_of_mem _ hx, p⟩
    · rcases List.mem_cons.mp hx with rfl | hx
      · exact ⟨_, List.mem_cons_self .., q⟩
      · obtain ⟨y, hy, p⟩ := ih.2 x hx
        exact ⟨y, List.mem_cons_of_mem _ hy, p⟩
theorem perm_asc {x y : List Str} (p : List.Perm y x) : asc y ns = asc x ns := asc_congr fun _ _ _ _ => p.mem_iff
/-- settings passed in a drawn order, some twice, each turned -/
structure PassedR (al cs : List (List Str)) : Prop where
  ex : ∃ ps : List (List Str), ps.Perm (al ++ al.take 2) ∧ Paired (fun x y => List.Perm y x) ps cs
theorem PassedR.perm {cs : List (List Str)} (p : PassedR al cs) : (∀ y ∈ cs, ∃ x ∈ al, List.Perm y x) ∧ (∀ x ∈ al, ∃ y ∈ cs, List.Perm y x) ∧ cs.length ≤ al.length + 2 := by
  obtain ⟨ps, pp, hp⟩ := p.ex
  obtain ⟨h1, h2⟩ := paired_fn (ms := []) hp
  refine ⟨fun y hy => ?_, fun x hx => h2 x (pp.mem_iff.mpr (List.mem_append_left _ hx)), ?_⟩
  · obtain ⟨x, hx, e⟩ := h1 y hy
    rcases List.mem_append.mp (pp.mem_iff.mp hx) with hx | hx
    · exact ⟨x, hx, e⟩
    · exact ⟨x, List.mem_of_mem_take hx, e⟩
  · rw [← hp.length, pp.length_eq, List.length_append, List.length_take]; omega
theorem PassedR.lits {cs : List (List Str)} (p : PassedR al cs) (h : DR ns al) : ∀ y ∈ cs, Lits ns y ∧ y.length = ns.length := fun y hy => by
  obtain ⟨x, hx, e⟩ := p.perm.1 y hy
  exact ⟨(side_lits h.nm (h.pr x hx)).perm e, by rw [e.length_eq]; exact fulls_each _ x (h.s.subset hx)⟩
theorem PassedR.ok {cs : List (List Str)} (p : PassedR al cs) (h : DR ns al) : RuleOk ns cs ∧ RG ns al (mkRule ns cs) := by
  obtain ⟨h1, h2, h3⟩ := p.perm
  have := h.len
  refine ⟨rule_okL h.nm h.k (by omega) (p.lits h), mk_rg (fun s hs => ?_) fun x hx => ?_⟩
  · obtain ⟨x, hx, e⟩ := h1 s hs
    rw [perm_asc e, h.a x hx]; exact hx
  · obtain ⟨y, hy, e⟩ := h2 x hx
    exact ⟨y, hy, by rw [perm_asc e, h.a x hx]⟩
/-! what lies in it -/
theorem inR_l {r : RuleD} {ys : List Str} (g : RG ns al r) (nm : NmL ns) (L : Lits ns ys) (hl : ys.length = ns.length) : inR r (.list (ys.map .str)) = decide (asc ys ns ∈ al) ∧ inR r (.tuple (ys.map .str)) = decide (asc ys ns ∈ al) := by
  have h1 : firstWrong ns (.list (ys.map .str)) = none := (clOk_lits nm L).1
  have h2 : firstWrong ns (.tuple (ys.map .str)) = none := (clOk_lits nm L).1
  constructor
  · unfold inR; rw [g.n, h1, show strsOf (itemsD (.list (ys.map .str))) = ys from strs_map ys, show (itemsD (.list (ys.map .str))).length = ys.length from List.length_map .., decide_eq_true hl]; simp [g.m]
  · unfold inR; rw [g.n, h2, show strsOf (itemsD (.tuple (ys.map .str))) = ys from strs_map ys, show (itemsD (.tuple (ys.map .str))).length = ys.length from List.length_map .., decide_eq_true hl]; simp [g.m]
theorem inR_len {r : RuleD} {d : PyData} (h : (itemsD d).length ≠ r.names.length) : inR r d = false := by
  unfold inR
  rw [decide_eq_false h]; simp
theorem inR_wrong {r : RuleD} {d : PyData} {i : Nat} (h : firstWrong r.names d = some i) : inR r d = false := by
  unfold inR
  rw [h]; rfl
def oddR : List PyData := [.none, .int 5, .str "", .str "a", .dict [], .list [.str "a", .int 5], .list [.list [.str "a"]], .bool true]
theorem oddR_no (r : RuleD) : ∀ d ∈ oddR, inR r d = false ∧ shortL d := fun d hd => by
  unfold oddR at hd
  simp only [List.mem_cons, List.not_mem_nil, or_false] at hd
  rcases hd with rfl | rfl | rfl | rfl | rfl | rfl | rfl | rfl
  · exact ⟨inR_wrong rfl, trivial⟩
  · exact ⟨inR_wrong rfl, trivial⟩
  · exact ⟨inR_wrong rfl, trivial⟩
  · exact ⟨inR_wrong rfl, trivial⟩
  · exact ⟨inR_wrong rfl, trivial⟩
  · have e : ∃ i, firstWrong r.names (.list [.str "a", .int 5]) = some i := by
      show ∃ i, fwGo r.names [.str "a", .int 5] [] 0 = some i
      rw [fwGo]
      split
      · exact ⟨_, rfl⟩
      · rw [fwGo, if_pos (.inl rfl)]
        exact ⟨_, rfl⟩
    obtain ⟨i, e⟩ := e
    exact ⟨inR_wrong e, by show 2 ≤ 1000000; decide, fun d hd => by
      rcases List.mem_cons.mp hd with rfl | hd
      · show _ ≤ 1000; decide
      · rw [List.mem_singleton.mp hd]; trivial⟩
  · exact ⟨inR_wrong (i := 0) rfl, by show 1 ≤ 1000000; decide, fun d hd => by rw [List.mem_singleton.mp hd]; trivial⟩
  · exact ⟨inR_wrong rfl, trivial⟩
/-! when rules are equal -/
theorem eq_len {a b : RuleD} (h : a.allowed.length ≠ b.allowed.length) : eqR a b = false := by unfold eqR; rw [decide_eq_false h]; rfl
theorem eq_nlen {a b : RuleD} (h : a.names.length ≠ b.names.length) : eqR a b = false := by unfold eqR leR; rw [decide_eq_false h]; simp
theorem eq_name {a b : RuleD} {n : Str} (h1 : n ∈ a.names) (h2 : n ∉ b.names) : eqR a b = false := by
  have : (a.names.all fun n => decide (n ∈ b.names)) = false := by
    rw [List.all_eq_false]
    exact ⟨n, h1, by simp [h2]⟩
  unfold eqR leR
  rw [this]; simp
/-- the same, the signs the other way round -/
theorem twinR (h : DR ns al) : RuleOk ns.reverse (al.map List.reverse) ∧ RuleP (mkRule ns.reverse (al.map List.reverse)) ∧ ∀ r, RG ns al r → eqR (mkRule ns.reverse (al.map List.reverse)) r = true := by
  have pn : (ns.reverse).Perm ns := List.reverse_perm ns
  have nm : NmL ns.reverse := ⟨pn.nodup_iff.mpr h.nm.nd, fun x hx => h.nm.nm x (pn.mem_iff.mp hx), by rw [pn.length_eq]; exact h.nm.n⟩
  have lt : ∀ x ∈ al, Lits ns.reverse x.reverse := fun x hx => by
    have L := (side_lits h.nm (h.pr x hx)).perm (List.reverse_perm x)
    exact ⟨L.nd, fun y hy => let ⟨n, hn, e⟩ := L.of y hy; ⟨n, pn.mem_iff.mpr hn, e⟩⟩
  have ok : RuleOk ns.reverse (al.map List.reverse) := by
    have := h.len
    refine rule_okL nm (by rw [pn.length_eq]; exact h.k) (by rw [List.length_map]; omega) fun s hs => ?_
    obtain ⟨x, hx, rfl⟩ := List.mem_map.mp hs
    exact ⟨lt x hx, by rw [List.length_reverse, List.length_reverse]; exact fulls_each _ x (h.s.subset hx)⟩
  have back : ∀ x ∈ al, asc (asc x.reverse ns.reverse) ns = x := fun x hx => by
    rw [asc_congr (l' := x) fun _ _ y _ => by
      rw [mem_asc]
      constructor
      · rintro ⟨_, _, _, z⟩; exact List.mem_reverse.mp z
      · intro z
        obtain ⟨n, hn, e⟩ := (lt x hx).of y (List.mem_reverse.mpr z)
        exact ⟨n, hn, e, List.mem_reverse.mpr z⟩]
    exact h.a x hx
  have al_ : (mkRule ns.reverse (al.map List.reverse)).allowed = al.map fun x => asc x.reverse ns.reverse := by
    show once ((al.map List.reverse).map fun s => asc s ns.reverse) = _
    rw [List.map_map]
    refine once_self (List.pairwise_map.mpr (List.Pairwise.imp_of_mem (fun {a b} ha hb ne e => ne ?_) h.nd))
    rw [← back a ha, ← back b hb]
    exact congrArg (asc · ns) e
  refine ⟨ok, ⟨nm_shorts nm, by show ns.reverse.length ≤ 1000; rw [pn.length_eq]; exact Nat.le_trans h.k (by decide), by rw [al_, List.length_map]; exact Nat.le_trans h.len (by decide)⟩, fun r g => ?_⟩
  unfold eqR leR
  rw [al_, List.length_map, g.len h, decide_eq_true rfl, g.n]
  have e1 : decide ((mkRule ns.reverse (al.map List.reverse)).names.length = ns.length) = true := decide_eq_true (by show ns.reverse.length = _; exact pn.length_eq)
  have e2 : ((mkRule ns.reverse (al.map List.reverse)).names.all fun n => decide (n ∈ ns)) = true := List.all_eq_true.mpr fun n hn => decide_eq_true (pn.mem_iff.mp hn)
  rw [e1, e2]
  simp only [Bool.true_and]
  rw [List.all_eq_true]
  intro s hs
  obtain ⟨x, hx, rfl⟩ := List.mem_map.mp hs
  rw [back x hx]
  exact decide_eq_true ((g.m x).mpr hx)
/-- rules with one thing otherwise -/
structure OthQd (r d : RuleD) : Prop where
  p : RuleP d
  no : eqR r d = false ∧ eqR d r = false
theorem ruleP_mk {ss : List (List Str)} (nm : NmL ns) (k : ns.length ≤ 6) (n : ss.length ≤ 1000) : RuleP (mkRule ns ss) := ⟨nm_shorts nm, Nat.le_trans k (by decide), Nat.le_trans (once_len2 _) (by rw [List.length_map]; omega)⟩
def changedR (al : List (List Str)) (f : List Str) : List (List Str) := if f ∈ al then al.filter (fun x => decide (x ≠ f)) else al ++ [f]
theorem oth_1 (h : DR ns al) {f : List Str} (hf : f ∈ fulls ns) {r : RuleD} (g : RG ns al r) : RuleOk ns (changedR al f) ∧ OthQd r (mkRule ns (changedR al f)) := by
  have hl := h.len
  have sub : ∀ s ∈ changedR al f, s ∈ fulls ns := fun s hs => by
    unfold changedR at hs
    split at hs
    · exact h.s.subset (List.mem_filter.mp hs).1
    · rcases List.mem_append.mp hs with hs | hs
      · exact h.s.subset hs
      · rw [List.mem_singleton.mp hs]; exact hf
  have cl : (changedR al f).length ≤ 65 := by
    unfold changedR
    split
    · exact Nat.le_trans (List.length_filter_le _ _) (by omega)
    · rw [List.length_append, List.length_singleton]; omega
  have nd : (changedR al f).Nodup := by
    unfold changedR
    split
    · exact h.nd.filter _
    · rw [List.nodup_append]
      exact ⟨h.nd, by simp, fun a ha b hb => by rw [List.mem_singleton] at hb; subst hb; rename_i hn; exact fun e => hn (e ▸ ha)⟩
  have e : (mkRule ns (changedR al f)).allowed = changedR al f := by
    show once ((changedR al f).map fun s => asc s ns) = _
    have : (changedR al f).map (fun s => asc s ns) = (changedR al f).map id := List.map_congr_left fun s hs => asc_paired h.nm (fulls_paired (sub s hs))
    rw [this, List.map_id, once_self nd]
  have ne : al.length ≠ (changedR al f).length := by
    unfold changedR
    split
    · rename_i hm
      have : (al.filter fun x => decide (x ≠ f)).length < al.length := by
        refine Nat.lt_of_le_of_ne (List.length_filter_le _ _) fun z => ?_
        have := List.length_filter_eq_length_iff.mp z f hm
        simp at this
      omega
    · rw [List.length_append, List.length_singleton]; omega
  refine ⟨rule_okL h.nm h.k (by omega) fun s hs => ⟨side_lits h.nm (fulls_paired (sub s hs)), fulls_each _ s (sub s hs)⟩, ruleP_mk h.nm h.k (by omega), eq_len ?_, eq_len ?_⟩
  · rw [e, g.len h]; exact ne
  · rw [e, g.len h]; exact Ne.symm ne
theorem paired_snoc {α β : Type} {F : α → β → Prop} {xs : List α} {ys : List β} {x : α} {y : β} (h : Paired F xs ys) (q : F x y) : Paired F (xs ++ [x]) (ys ++ [y]) := by
  induction h with
  | nil => exact .cons q .nil
  | cons p _ ih => exact .cons p ih
theorem oth_2 (h : DR ns al) {x : Str} (hx1 : isNm x = true) (hx2 : x ∉ ns) (h5 : ns.length < 6) {r : RuleD} (g : RG ns al r) : RuleOk (ns ++ [x]) (al.map (· ++ [x])) ∧ OthQd r (mkRule (ns ++ [x]) (al.map (· ++ [x]))) := by
  have hl := h.len
  have nm : NmL (ns ++ [x]) := ⟨by rw [List.nodup_append]; exact ⟨h.nm.nd, by simp, fun a ha b hb => by rw [List.mem_singleton] at hb; subst hb; exact fun e => hx2 (e ▸ ha)⟩, fun z hz => by
    rcases List.mem_append.mp hz with hz | hz
    · exact h.nm.nm z hz
    · rw [List.mem_singleton] at hz; subst hz; exact hx1, by rw [List.length_append, List.length_singleton]; omega⟩
  have k6 : (ns ++ [x]).length ≤ 6 := by rw [List.length_append, List.length_singleton]; omega
  refine ⟨rule_okL nm k6 (by rw [List.length_map]; omega) fun s hs => ?_, ruleP_mk nm k6 (by rw [List.length_map]; omega), eq_nlen ?_, eq_nlen ?_⟩
  · obtain ⟨y, hy, rfl⟩ := List.mem_map.mp hs
    exact ⟨side_lits nm (paired_snoc (h.pr y hy) (.inl rfl)), by rw [List.length_append, List.length_append, fulls_each _ y (h.s.subset hy)]⟩
  · rw [g.n]; show _ ≠ (ns ++ [x]).length; rw [List.length_append, List.length_singleton]; omega
  · rw [g.n]; show (ns ++ [x]).length ≠ _; rw [List.length_append, List.length_singleton]; omega
theorem asc_tail {n : Str} {t : List Str} {l : Str} {ls : List Str} (nm : NmL (n :: t)) (hl : Side n l) (hp : Paired Side t ls) : asc (l :: ls) t = ls := by
  have nmt : NmL t := ⟨(List.nodup_cons.mp nm.nd).2, fun z hz => nm.nm z (List.mem_cons_of_mem _ hz), by have := nm.n; rw [List.length_cons] at this; omega⟩
  rw [asc_congr (l' := ls) fun m hm y hy => ?_]
  · exact asc_paired nmt hp
  · have ny : nameOf y = m := side_name (nmt.nm m hm) hy
    have nl : nameOf l = n := side_name (nm.nm n (List.mem_cons_self ..)) hl
    constructor
    · intro z
      rcases List.mem_cons.mp z with e | z
      · rw [e, nl] at ny
        exact absurd (ny ▸ hm) (List.nodup_cons.mp nm.nd).1
      · exact z
    · exact List.mem_cons_of_mem _
theorem oth_3 {n : Str} {t : List Str} {al : List (List Str)} (h : DR (n :: t) al) {x : Str} (hx1 : isNm x = true) (hx2 : x ∉ n :: t) {r : RuleD} (g : RG (n :: t) al r) : RuleOk (x :: t) (al.map fun o => asc o t ++ [x]) ∧ OthQd r (mkRule (x :: t) (al.map fun o => asc o t ++ [x])) := by
  have hl := h.len
  have hk := h.k
  rw [List.length_cons] at hk
  have nn := List.nodup_cons.mp h.nm.nd
  have nm : NmL (x :: t) := ⟨List.nodup_cons.mpr ⟨fun z => hx2 (List.mem_cons_of_mem _ z), nn.2⟩, fun z hz => by
    rcases List.mem_cons.mp hz with rfl | hz
    · exact hx1
    · exact h.nm.nm z (List.mem_cons_of_mem _ hz), by rw [List.length_cons]; omega⟩
  refine ⟨rule_okL nm (by rw [List.length_cons]; omega) (by rw [List.length_map]; omega) fun s hs => ?_, ruleP_mk nm (by rw [List.length_cons]; omega) (by rw [List.length_map]; omega), eq_name (n := n) (by rw [g.n]; exact List.mem_cons_self ..) fun z => ?_, eq_name (n := x) (List.mem_cons_self ..) (by rw [g.n]; exact hx2)⟩
  · obtain ⟨o, ho, rfl⟩ := List.mem_map.mp hs
    have p := h.pr o ho
    cases p with
    | @cons _ l _ ls hl hp =>
      rw [asc_tail h.nm hl hp]
      have L : Lits (x :: t) (x :: ls) := side_lits nm (.cons (.inl rfl) hp)
      exact ⟨L.perm List.perm_append_comm, by rw [List.length_append, ← hp.length]; rfl⟩
  · rcases List.mem_cons.mp z with e | z
    · exact hx2 (e ▸ List.mem_cons_self ..)
    · exact nn.1 z
end
end My

set_option Elab.async false
set_option linter.all false
set_option maxRecDepth 100000
set_option maxHeartbeats 8000000
namespace My
open PySem PySem.Spec PyProof.Rows L2 L3
open L3.Strm
theorem ins_rule {C : Addr} {r : RuleD} {m : Str} (h1 : ¬ m = ("allowed" : Str)) (h2 : ¬ m = ("names" : Str)) : InsR C m (RuleR C r) := insR_rule h1 h2
section
variable {K : PySem.W.Frag} {M H : Hp} {σ : Sl} {te : TE} {D : Ends} {tz : TS} {P : Hp → List V → Prop} {x : V}
/-- f().append(x): a new list changes, nobody knows it -/
theorem q_appM (mh : Same M H) (h : GvL te σ M P) (hz : ∀ M vs, P M vs → vs.length < sizeLine) (go : ∀ M' H', Gr M H M' H' → tz D σ H') : tSeq (tDrop (tBM K "list" rAppend te (tCons (tC x) tNil))) tz D σ H :=
  h H mh _ fun p vs M' H' g h0 m0 hp pd => ⟨.inl ⟨rfl, _, .inl (.inl hp)⟩, p, vs, x, rfl, rfl, hp, hz M' vs pd, go M' _ (g.mut h0 m0)⟩
end
section
variable {K : PySem.W.Frag} {α : Type} {R : Rl α} [Mon R] {S : Strm} {M0 H0 M H M' H' : Hp} {p : Addr} {xs : List α} {k i : Nat} {σ : Sl} {te : TE} {D : Ends} {tz : TS} {tt : L2.TT} {b : Bool}
theorem q_accIf {x : α} (A : Ac R S M0 H0 p xs M H k) (hi : σ[i]? = some (some (.ref p))) (hz : xs.length < 1000) (hb : GvT tt σ M b) (h : b = true → Gv te σ M (R x)) (go : ∀ M' H', Same M M' → Ac R S M0 H0 p (xs ++ if b = true then [x] else []) M' H' k → tz D σ H') : tSeq (tIfS tt (tDrop (tBM K "list" rAppend (tVar i) (tCons te tNil))) tNext) tz D σ H := by
  refine q_if0 (A.Z.mh.trans cut_same) hb (fun e H1 hh => ?_) fun e H1 hh => ?_
  · have A1 := A.step (lift A.Z.mh A.Z.at_ (.idle (A.Z.mh.trans cut_same) hh)) (A.Z.at_.same hh)
    subst e
    exact q_acc (tz := tNext) (D := { D with nx := tz D }) A1 hi hz (h rfl) fun M2 H2 s A2 => go M2 H2 s A2
  · have A1 := A.step (lift A.Z.mh A.Z.at_ (.idle (A.Z.mh.trans cut_same) hh)) (A.Z.at_.same hh)
    subst e
    exact go M H1 (Same.refl _) (by rw [show (if false = true then [x] else ([] : List α)) = [] from rfl, List.append_nil]; exact A1)
end
def rightR (ns : List Str) (al : List (List Str)) : PyData := .list [.list (ns.map .str), .list (al.map fun d => .tuple (d.map .str)), .int (al.length : Nat)]
theorem fit_right {ns : List Str} {al : List (List Str)} (h : DR ns al) : FitD (rightR ns al) := by
  have k := h.k
  have l := h.len
  have s1 := (sm_strs (ls := ns) h.nm fun l h => ⟨l, h, .inl rfl⟩).lst
  have s3 := (sm_tupsA (cs := al) h.nm fun d hd => ⟨by rw [fulls_each _ d (h.s.subset hd)]; omega, fun l hl => let ⟨n, h1, h2⟩ := (side_lits h.nm (h.pr d hd)).of l hl; ⟨n, h1, h2⟩⟩).lst
  exact ((SmA.cons (s1.up (show 2 ≤ 3 by omega) (show _ ≤ 1000 by omega)) (SmA.cons (s3.up (Nat.le_refl _) (show _ ≤ 70000 by omega)) (SmA.cons ((sm_nat (n := al.length) (by omega)).up (show 1 ≤ 3 by omega) (Nat.le_refl _)) SmA.nil))).lst).fit (by omega) (by omega)
theorem liTT_sqq {K : PySem.W.Frag} {cs : List (List Str)} {M : Hp} {v : V} (h : LiR TT cs M v) : SqR K (SqR K Tx) cs M v :=
  let ⟨a, vs, e, r, p⟩ := h
  .inl ⟨a, vs, e, .inl (.inl r), Paired.mapP p fun _ _ q => TT.sq q⟩
theorem gv_mkRule {K : PySem.W.Frag} {C : Addr} {σ : Sl} {M : Hp} {t1 t2 : TE} {ns : List Str} {ss : List (List Str)} (h1 : Gv t1 σ M (SqR K Tx ns)) (h2 : Gv t2 σ M (SqR K (SqR K Tx) ss)) (ok : RuleOk ns ss) : Gv (tMake C (sp_Rule_init K C) [] E0 (tCons t1 (tCons t2 tNil))) σ M (RuleR C (mkRule ns ss)) := fun H mh Q q =>
  h1 H mh _ fun v1 M1 H1 g1 q1 => h2.le g1.mm H1 g1.mh _ fun v2 M2 H2 g2 q2 x dx hx hdx hne => by
    have m2 := g2.mh
    have gN : Gr M2 H2 M2 (upd (upd H2 dx (.own x)) x (.ins C dx [])) := (Gr.own m2 hdx).trans (.own (m2.trans (same_new hdx)) (by rw [upd_ne (Ne.symm hne)]; exact hx))
    exact ⟨ns, ss, M2, H2, x, dx, v1, v2, rfl, gN, hx, m2.free hx, upd_same, Mon.mono g2.mm q1, q2, ok, fun M' H' g r => ⟨rfl, q _ M' H' ((g1.trans g2).trans g) r⟩⟩
theorem rsettings {K : PySem.W.Frag} {C : Addr} {σ : Sl} {M : Hp} {te : TE} {r : RuleD} {ns : List Str} {al : List (List Str)} (rg : RG ns al r) (hd : DR ns al) (h : Gv te σ M (RuleR C r)) : GvL (tMeth C "settings" (sp_Rule_settingsL K C) [] E0 te tNil) σ M (fun M ws => Pd TT M al ws) := by
  have := gl_met1 (σ := σ) (M := M) (R1 := RuleR C) (pre := RuleW) (R := fun r M ws => Pd TT M r.settings ws) (x := r) (insR_rule (m := "settings") (by decide +kernel) (by decide +kernel)) h (rg.w hd)
  rw [rg.settings hd] at this
  exact this
abbrev qD (d : PyData) : Qo := .inr d
section
variable {P : Program} {w : World} {K : PySem.W.Frag} {mg : Str → Option Value} {base : Heap}
abbrev s__law_is_right : Stmt := topS 32
theorem sc__law_is_right : FnScope ["_law_rule", "_law_signs", "_law_allowed", "_law_told"] ["_law_rule", "_law_signs", "_law_allowed"] (defScope s__law_is_right) := ⟨rfl, rfl, rfl, by decide +kernel, rfl, by decide +kernel, by decide +kernel⟩
def sp__law_is_right (K : PySem.W.Frag) (C : Addr) : Sp := sp3 (RuleR C) (LiR Tx) (LiR TT) (fun r ns al => DR ns al ∧ RG ns al r) fun _ _ _ => Bl true
theorem ok__law_is_right {f C : Addr} {fd : FuncData} (F : Fun K "_law_is_right" "_law_is_right" s__law_is_right f fd) (T : Gc mg) (o_len : OwnLen P w K mg base 1 C (sp_Rule_len K C)) (m_signs : Met P w K mg base 1 C "signs" ["self"] (sp_Rule_signsL K C)) (m_settings : Met P w K mg base 2 C "settings" ["self"] (sp_Rule_settingsL K C))
    (c__law_same : CalG P w K mg base 1 "_law_same" ["_law_found", "_law_due"] (sp__law_same K)) : FnG P w K mg base CX0 4 f fd ["_law_rule", "_law_signs", "_law_allowed"] (sp__law_is_right K C) := by
  refine fun_okG F sc__law_is_right (fun vs H Q E h => ?_) (fun cdv A outer s H vs Q E hgu hr h => ?_)
  · obtain ⟨x, y, z, M, v, w, u, rfl, _⟩ := h
    rfl
  · obtain ⟨r, ns, al, M, v, w, u, rfl, mh, r1, r2, r3, ⟨hd, rg⟩, q⟩ := h
    have hu := hr.units
    have hgu : (A.deeper (envOfC "_law_is_right" (defScope s__law_is_right) s.heap.objs.size f cdv)).guards = some [] := hgu
    refine ⟨_, (pss_cons (ps_set (i := 3) sc__law_is_right.nd rfl (by first | exact .inl rfl | exact .inr rfl) (pe_lst (pa_cons (pe_m0 m_signs (hr.mono (by decide)) (pv 0)) (pa_cons (pe_m0 m_settings (hr.mono (by decide)) (pv 0)) (pa_cons (pe_callB (call_lenO o_len (hr.mono (by decide))) (by rfl) T.len boot_len (pa_cons (pv 0) pa_nil)) pa_nil)))))
      (pss_cons (ps_expr (pe_bm PySem.F.plainAttrs_list PySem.F.slot_list_append PySem.F.type_list_append mt_append (pe_m0 m_signs (hr.mono (by decide)) (pv 0)) (pa_cons pe_str pa_nil)))
      (pss_cons (ps_expr (pe_bm PySem.F.plainAttrs_list PySem.F.slot_list_append PySem.F.type_list_append mt_append (pe_m0 m_settings (hr.mono (by decide)) (pv 0)) (pa_cons pe_int pa_nil)))
      (pss_one (ps_ret (pe_fG c__law_same hgu (hr.mono (by decide)) (pa_cons (pv 3) (pa_cons (pe_lst (pa_cons (pv 1) (pa_cons (pv 2) (pa_cons (pe_callB call_lenA (by rfl) T.len boot_len (pa_cons (pv 2) pa_nil)) pa_nil)))) pa_nil)))))))), ?_⟩
    have k6 := hd.k
    have l64 := hd.len
    have gS : ∀ {σ' : Sl} {M' : Hp}, σ'[0]? = some (some v) → Same M M' → GvL (tMeth C "signs" (sp_Rule_signsL K C) [] E0 (tVar 0) tNil) σ' M' (fun M ws => Pd Tx M ns ws) := fun {σ' M'} h s => by
      have := gl_met1 (σ := σ') (M := M') (R1 := RuleR C) (pre := fun _ => True) (R := fun r M ws => Pd Tx M r.names ws) (x := r) (insR_rule (m := "signs") (by decide +kernel) (by decide +kernel)) (gv_var h (Mon.mono s r1)) trivial
      rw [rg.n] at this
      exact this
    have gA : ∀ {σ' : Sl} {M' : Hp}, σ'[0]? = some (some v) → Same M M' → GvL (tMeth C "settings" (sp_Rule_settingsL K C) [] E0 (tVar 0) tNil) σ' M' (fun M ws => Pd TT M al ws) := fun {σ' M'} h s => by
      have := gl_met1 (σ := σ') (M := M') (R1 := RuleR C) (pre := RuleW) (R := fun r M ws => Pd TT M r.settings ws) (x := r) (insR_rule (m := "settings") (by decide +kernel) (by decide +kernel)) (gv_var h (Mon.mono s r1)) (rg.w hd)
      rw [rg.settings hd] at this
      exact this
    have gL : ∀ {σ' : Sl} {M' : Hp}, σ'[0]? = some (some v) → Same M M' → Gv (tCB (rLenO C (sp_Rule_len K C)) (tCons (tVar 0) tNil)) σ' M' (It' (al.length : Nat)) := fun h s => gv_lenO (R1 := RuleR C) (pre := fun _ => True) (R := fun c => It' (c.allowed.length : Nat)) (x := r) (n := al.length) (gv_var h (Mon.mono s r1)) (fun M v r => inst_rule _ M v r) trivial (by omega) fun M v h => by rw [rg.len hd] at h; exact h
    refine q_asg (P := Dd K (rightR ns al)) mh (gv_is (gv_lstG (R := Dd K) (ga_rl (x := PyData.list (ns.map .str)) (gv_is (gS rfl (Same.refl _)).li fun _ _ h => li_ddl (li_map py_str h)) fun _ e1 => ga_rl (x := PyData.list (al.map fun x : List Str => PyData.tuple (x.map PyData.str))) (gv_is (gA rfl e1).li fun _ _ h => li_ddl (li_map py_TT h)) fun _ e2 =>
      ga_rl (x := PyData.int (al.length : Nat)) (gv_is (gL rfl (e1.trans e2)) fun M v h => py_int _ M v h) fun _ _ => ga_rl0) (by show 3 ≤ 1000; decide)) fun _ _ h => li_ddl h) fun v3 M1 H1 g1 r4 => ?_
    refine q_appM g1.mh (gS rfl g1.mm) (fun M vs h => by rw [← h.length]; exact Nat.lt_of_le_of_lt k6 (by decide)) fun M2 H2 g2 => ?_
    refine q_appM g2.mh (gA rfl (g1.mm.trans g2.mm)) (fun M vs h => by rw [← h.length]; exact Nat.lt_of_le_of_lt l64 (by decide)) fun M3 H3 g3 => ?_
    have s13 := g2.mm.trans g3.mm
    have s03 := g1.mm.trans s13
    refine s_ret g3.mh (gv_call2 (R1 := Dd K) (R2 := Dd K) (pre := fun d e => FitD d ∧ FitD e) (R := fun d e => Bl (decide (d.shown = e.shown))) (x := rightR ns al) (y := rightR ns al) (gv_var rfl (Mon.mono s13 r4)) (gv_is (gv_lstG (R := Dd K) (ga_rl (x := PyData.list (ns.map .str)) (gv_is (gv_var rfl (Mon.mono s03 r2)) fun _ _ h => li_ddl (li_map py_str h)) fun _ e1 => ga_rl (x := PyData.list (al.map fun x : List Str => PyData.tuple (x.map PyData.str))) (gv_is (gv_var rfl (Mon.mono (s03.trans e1) r3)) fun _ _ h => li_ddl (li_map py_TT h)) fun _ e2 =>
      ga_rl (x := PyData.int (al.length : Nat)) (gv_is (gv_lenA (K := K) (R := TT) (gv_is (gv_var rfl (Mon.mono (s03.trans (e1.trans e2)) r3)) fun _ _ h => h.sq)) fun M v h => py_int _ M v h) fun _ _ => ga_rl0) (by show 3 ≤ 1000; decide)) fun _ _ h => li_ddl h) ⟨fit_right hd, fit_right hd⟩) fun z M4 H4 g4 rz => q z M4 H4 (((g1.trans g2).trans g3).trans g4) (by rw [show z = _ from rz]; show V.bl _ = V.bl _; rw [decide_eq_true rfl])
def sp_pickG (K : PySem.W.Frag) {α : Type} (R : Rl α) : Sp := spS1 (SqR K R) (fun xs => 0 < xs.length ∧ xs.length ≤ 1000000) (fun _ => 1) fun xs => Ex R fun x => x ∈ xs
theorem ok_pickG {α : Type} {R : Rl α} [Mon R] {f : Addr} {fd : FuncData} (F : Fun K "_law_pick" "_law_pick" s__law_pick f fd) (T : Gc mg) (c__law_draw : Cal P w K mg base 1 "_law_draw" ["_law_stream", "_law_many"] (sp__law_draw K)) : FnOk P w K mg base CX0 2 f fd ["_law_stream", "_law_things"] (sp_pickG K R) := by
  refine F.ok sc__law_pick (fun vs H Q E h => ?_) (fun cdv A outer s H vs Q E hr h => ?_)
  · obtain ⟨S, x, M, v, k, rfl, _⟩ := h
    rfl
  · obtain ⟨S, xs, M, v, k, rfl, mh, at_, r1, ⟨h1, h2⟩, q⟩ := h
    have hu := hr.units
    refine ⟨_, (pss_one (ps_ret (pe_ix ix_X (pv 1) (pe_f c__law_draw (hr.mono (by decide)) (pa_cons (pv 0) (pa_cons (pe_callB call_lenA (by rfl) T.len boot_len (pa_cons (pv 1) pa_nil)) pa_nil))) (fun _ _ => rfl)))), ?_⟩
    refine z_ret (S := S) (c := 0 + 1) mh at_ (gs_op (P := SqR K R xs) (P1 := Ex It' fun i => 0 ≤ i ∧ i < (xs.length : Int)) (gv_var rfl r1).s (gs_draw (K := K) rfl (gv_lenA (K := K) (R := R) (gv_var rfl r1)) (by omega) (by omega)) fun M' u w pu ⟨i, hi, pw⟩ => ?_) q
    obtain ⟨x, hx, ha⟩ := atI_in hi.1 hi.2
    exact fun H mh Q q => rv_ix pu pw ha H mh Q fun v M' H' g r => q v M' H' g ⟨x, hx, r⟩
abbrev s__law_is_unlike : Stmt := topS 33
theorem sc__law_is_unlike : FnScope ["_law_rule", "_law_signs", "_law_allowed", "_law_stream", "_law_full", "_law_changed", "_law_others", "_law_spare", "_law_one", "_law_other"] ["_law_rule", "_law_signs", "_law_allowed", "_law_stream"] (defScope s__law_is_unlike) := ⟨rfl, rfl, rfl, by decide +kernel, rfl, by decide +kernel, by decide +kernel⟩
def sp__law_is_unlike (K : PySem.W.Frag) (C : Addr) : Sp := fun vs H Q _ => ∃ (S : Strm) (r : RuleD) (ns : List Str) (al : List (List Str)) (M : Hp) (v w u : V) (k : Nat), vs = [v, w, u, .ref S.a] ∧ Same M (S.cut H) ∧ S.At (k + 13) H ∧ RuleR C r M v ∧ LiR Tx ns M w ∧ LiR TT al M u ∧ DR ns al ∧ RG ns al r ∧ ∀ M' H', Gr M (S.cut H) M' (S.cut H') → S.At k H' → Q (.bl true) H'
theorem ok__law_is_unlike {f C : Addr} {fd : FuncData} (F : Fun K "_law_is_unlike" "_law_is_unlike" s__law_is_unlike f fd) (T : Gc mg) (O : OffC K C) (NE : NeObj K C) (m_settings : Met P w K mg base 2 C "settings" ["self"] (sp_Rule_settingsL K C)) (k_Rule : Mak P w K mg base 5 "Rule" C ["self", "signs", "settings"] (sp_Rule_init K C))
    (c__law_pick : Cal P w K mg base 2 "_law_pick" ["_law_stream", "_law_things"] (sp_pickG K TT)) (c__law_fulls : Cal P w K mg base 1 "_law_fulls" ["_law_names_here"] (sp__law_fulls K)) (c__law_fresh : Cal P w K mg base 3 "_law_fresh" ["_law_stream", "_law_taken"] (sp__law_fresh K)) (c__law_up : Cal P w K mg base 1 "_law_up" ["_law_some", "_law_names_here"] (sp__law_up K))
    (o_eq : OwnSp P w K mg base 4 C "__eq__" ["self", "other"] (sp_Rule_eq K C)) (o_eqD : OwnSp P w K mg base 4 C "__eq__" ["self", "other"] (sp_Rule_eqD K C)) : FnOk P w K mg base CX0 7 f fd ["_law_rule", "_law_signs", "_law_allowed", "_law_stream"] (sp__law_is_unlike K C) := by
  refine F.ok sc__law_is_unlike (fun vs H Q E h => ?_) (fun cdv A outer s H vs Q E hr h => ?_)
  · obtain ⟨S, r, ns, al, M, v, w, u, k, rfl, _⟩ := h
    rfl
  · obtain ⟨S, r, ns, al, M, v, w, u, k, rfl, mh, at_, r1, r2, r3, hd, rg, q⟩ := h
    have hu := hr.units
    refine ⟨_, (pss_cons (ps_set (i := 4) sc__law_is_unlike.nd rfl (by first | exact .inl rfl | exact .inr rfl) (pe_f c__law_pick (hr.mono (by decide)) (pa_cons (pv 3) (pa_cons (pe_f c__law_fulls (hr.mono (by decide)) (pa_cons (pv 1) pa_nil)) pa_nil))))
      (pss_cons (ps_set (i := 5) sc__law_is_unlike.nd rfl (by first | exact .inl rfl | exact .inr rfl) (pe_ifExp (pt_cmpR (op_inA hu) (pv 4) (pv 2) (by rfl)) (pe_lc (own := [("_law_one", 8)]) (g := (gName 8)) (tt := (tTest (tOp (rEqP K true) (tVar 8) (tVar 4)))) (te := (tVar 8)) (by rfl) sc__law_is_unlike.nd (pi_sq (pv 2)) (blkOk_by (by rfl)) (fun _ _ _ _ _ => (pg_name (i := 8) sc__law_is_unlike.nd rfl (by first | exact .inl rfl | exact .inr rfl))) (fun _ _ _ _ _ => (pts_one (pt_cmpR (op_neP hu) (pv 8) (pv 4) (nomark _)))) (fun _ _ _ _ _ => (pv 8))) (pe_op op_addA (pv 2) (pe_lst (pa_cons (pv 4) pa_nil)))))
      (pss_cons (ps_asg (pe_tup (pa_cons (pe_lst (pa_cons (pe_mk k_Rule (hr.mono (by decide)) (pa_cons (pv 1) (pa_cons (pv 5) pa_nil))) (pa_cons pe_int (pa_cons pe_non (pa_cons (pe_m0 m_settings (hr.mono (by decide)) (pv 0)) (pa_cons (pv 1) pa_nil)))))) (pa_cons (pe_f c__law_fresh (hr.mono (by decide)) (pa_cons (pv 3) (pa_cons (pv 1) pa_nil))) pa_nil))) (pg_tup (by rfl) (pgs_cons (pg_name (i := 6) sc__law_is_unlike.nd rfl (by first | exact .inl rfl | exact .inr rfl)) (pgs_cons (pg_name (i := 7) sc__law_is_unlike.nd rfl (by first | exact .inl rfl | exact .inr rfl)) pgs_nil))))
      (pss_cons (ps_if (pt_cmpR op_lt (pe_callB call_lenA (by rfl) T.len boot_len (pa_cons (pv 1) pa_nil)) pe_int (nomark _)) (pss_one (ps_expr (pe_bm PySem.F.plainAttrs_list PySem.F.slot_list_append PySem.F.type_list_append mt_append (pv 6) (pa_cons (pe_mk k_Rule (hr.mono (by decide)) (pa_cons (pe_op op_addA (pv 1) (pe_lst (pa_cons (pv 7) pa_nil))) (pa_cons (pe_lc (own := [("_law_one", 8)]) (g := (gName 8)) (tt := tYes) (te := (tOp (rAddA K) (tVar 8) (tTup (tCons (tVar 7) tNil)))) (by rfl) sc__law_is_unlike.nd (pi_sq (pv 2)) (blkOk_by (by rfl)) (fun _ _ _ _ _ => (pg_name (i := 8) sc__law_is_unlike.nd rfl (by first | exact .inl rfl | exact .inr rfl))) (fun _ _ _ _ _ => pts_nil) (fun _ _ _ _ _ => (pe_op op_addA (pv 8) (pe_tup (pa_cons (pv 7) pa_nil))))) pa_nil))) pa_nil)))) pss_nil)
      (pss_cons (ps_if (pt_cmpR (op_neP hu) (pv 1) (pe_lst pa_nil) (nomark _)) (pss_one (ps_expr (pe_bm PySem.F.plainAttrs_list PySem.F.slot_list_append PySem.F.type_list_append mt_append (pv 6) (pa_cons (pe_mk k_Rule (hr.mono (by decide)) (pa_cons (pe_op op_addA (pe_lst (pa_cons (pv 7) pa_nil)) (pe_slice sl_X (pv 1) (po_some pe_int) po_none)) (pa_cons (pe_lc (own := [("_law_one", 8)]) (g := (gName 8)) (tt := tYes) (te := (tOp (rAddA K) (tCall (sp__law_up K) [] E0 (tCons (tVar 8) (tCons (tSl (rSlX K) (tVar 1) (tPart (tC (.int 1))) tNoPart) tNil))) (tTup (tCons (tVar 7) tNil)))) (by rfl) sc__law_is_unlike.nd (pi_sq (pv 2)) (blkOk_by (by rfl)) (fun _ _ _ _ _ => (pg_name (i := 8) sc__law_is_unlike.nd rfl (by first | exact .inl rfl | exact .inr rfl))) (fun _ _ _ _ _ => pts_nil) (fun _ _ _ _ _ => (pe_op op_addA (pe_f c__law_up (hr.mono (by decide)) (pa_cons (pv 8) (pa_cons (pe_slice sl_X (pv 1) (po_some pe_int) po_none) pa_nil))) (pe_tup (pa_cons (pv 7) pa_nil))))) pa_nil))) pa_nil)))) pss_nil)
      (pss_one (ps_ret (pe_and (pe_not (pe_callB (cr_any rfl) (by rfl) T.any boot_any (pa_cons (pe_lc (own := [("_law_other", 9)]) (g := (gName 9)) (tt := tYes) (te := (tOp (rEqX K C (sp_Rule_eq K C) (sp_Rule_eqD K C)) (tVar 0) (tVar 9))) (by rfl) sc__law_is_unlike.nd (pi_sq (pv 6)) (blkOk_by (by rfl)) (fun _ _ _ _ _ => (pg_name (i := 9) sc__law_is_unlike.nd rfl (by first | exact .inl rfl | exact .inr rfl))) (fun _ _ _ _ _ => pts_nil) (fun _ _ _ _ _ => (pe_cmpR (op_eqX o_eq o_eqD (hr.mono (by decide))) (pv 0) (pv 9) (nomark _)))) pa_nil))) (pe_one (pe_callB (cr_all rfl) (by rfl) T.all boot_all (pa_cons (pe_lc (own := [("_law_other", 9)]) (g := (gName 9)) (tt := tYes) (te := (tOp (rNeX K C (sp_Rule_eq K C) (sp_Rule_eqD K C)) (tVar 9) (tVar 0))) (by rfl) sc__law_is_unlike.nd (pi_sq (pv 6)) (blkOk_by (by rfl)) (fun _ _ _ _ _ => (pg_name (i := 9) sc__law_is_unlike.nd rfl (by first | exact .inl rfl | exact .inr rfl))) (fun _ _ _ _ _ => pts_nil) (fun _ _ _ _ _ => (pe_cmpR (op_neX o_eq o_eqD NE O (hr.mono (by decide))) (pv 9) (pv 0) (nomark _)))) pa_nil))))))))))), ?_⟩
    have k6 := hd.k
    have l64 := hd.len
    have nm := hd.nm
    have flen : (fulls ns).length ≤ 64 := by
      rw [fulls_len]
      exact Nat.le_trans (Nat.pow_le_pow_right (by decide) k6) (by decide)
    have fpos : 0 < (fulls ns).length := by rw [fulls_len]; exact Nat.two_pow_pos _
    refine z_asg (S := S) (k := k + 12) (c := 1) (P := Ex TT fun x => x ∈ fulls ns) mh (at_.le (by omega)) (gs_call1 (S := S) (R1 := SqR K TT) (pre := fun xs => 0 < xs.length ∧ xs.length ≤ 1000000) (cs := fun _ => 1) (R := fun xs => Ex TT fun x => x ∈ xs) (x := fulls ns) rfl (gv_is (gv_call1 (R1 := SqR K Tx) (pre := fun ns => ns.length ≤ 6 ∧ Shorts ns) (R := fun ns => LiR TT (fulls ns)) (x := ns) (gv_is (gv_var rfl r2) fun _ _ h => h.sq) ⟨k6, nm_shorts nm⟩) fun _ _ h => h.sq) ⟨fpos, by omega⟩) fun v4 M1 H1 g1 a1 ⟨fu, hf, r4⟩ => ?_
    obtain ⟨ok1, ot1⟩ := oth_1 hd hf rg
    refine z_asg (S := S) (k := k + 12) (c := 0) (P := LiR TT (changedR al fu)) g1.mh a1 (gv_if (b := decide (fu ∈ al)) ?_ (fun hb => ?_) fun hb => ?_).s fun v5 M2 H2 g2 a2 r5 => ?_
    · refine gt_test (gv_is (gv_inD (K := K) (R := TT) (neg := false) (x := fu) (xs := al) py_TT inj_TT ?_ ?_ (by simp [PyData.depth, depthS])) fun M v h => by
        rw [show v = _ from h, Bool.false_xor]
        show V.bl _ = V.bl _
        congr 1
        simp)
      · exact gv_var rfl r4
      · exact gv_is (gv_var rfl (Mon.mono g1.mm r3)) fun _ _ h => h.sq
    · have e : changedR al fu = (al.filter fun x => decide (x ≠ fu)).map id := by
        rw [List.map_id]; exact if_pos (of_decide_eq_true hb)
      rw [e]
      exact (gl_c1 (S := TT) (R := TT) (xs := al) (gi_sq (K := K) (gv_is (gv_var rfl (Mon.mono g1.mm r3)) fun _ _ h => h.sq)) (szK (by omega)) (fun x => decide (x ≠ fu)) id (fun x _ M' u' sm ru => gt_is (gt_test (gv_eqT (K := K) (neg := true) (x := x) (y := fu) py_TT inj_TT (gv_var rfl ru) (gv_var rfl (Mon.mono sm r4)) (by simp [PyData.depth, depthS]))) (by simp)) fun x _ _ M' u' sm ru => gv_var rfl ru).li
    · have e : changedR al fu = al ++ [fu] := if_neg (of_decide_eq_false hb)
      rw [e]
      exact (gl_addL (K := K) (R := TT) (gv_var rfl (Mon.mono g1.mm r3)) (gl_one (R := TT) (x := fu) (gv_var rfl r4)).li (szM (by show _ + 1 ≤ _; omega))).li
    have G2 := g1.trans g2
    have s2 := G2.mm
    -- others, spare
    refine q_asg2 (a_L (P := fun M vs => Pd (OthQ K C) M [.inl (mkRule ns (changedR al fu)), qD (.int 5), qD .none, qD (.list (al.map fun x => .tuple (x.map .str))), qD (.list (ns.map .str))] vs) (G2.mh.trans cut_same) (gl_lst (ga_rl (R := OthQ K C) (x := .inl (mkRule ns (changedR al fu))) (gv_mkRule (K := K) (C := C) (gv_is (gv_var rfl (Mon.mono s2 r2)) fun _ _ h => h.sq) (gv_is (gv_var rfl r5) fun _ _ h => liTT_sqq h) ok1) fun _ e1 => ga_rl (R := OthQ K C) (x := qD (.int 5)) (gv_c (P := DdF K (.int 5)) (.inl (.int 5))) fun _ e2 => ga_rl (R := OthQ K C) (x := qD .none) (gv_c (P := DdF K .none) (.inl .non)) fun _ e3 =>
      ga_rl (R := OthQ K C) (x := qD (PyData.list (al.map fun x : List Str => PyData.tuple (x.map PyData.str)))) (gv_is (GvL.li (R := TT) (xs := al) (rsettings rg hd (gv_var rfl (Mon.mono (s2.trans (e1.trans (e2.trans e3))) r1)))) fun M v h => (.inl (li_ddl (li_map py_TT h)) : DdF K _ M v)) fun _ e4 => ga_rl (R := OthQ K C) (x := qD (.list (ns.map .str))) (gv_is (gv_var rfl (Mon.mono (s2.trans (e1.trans (e2.trans (e3.trans e4)))) r2)) fun M v h => (.inl (li_ddl (li_map py_str h)) : DdF K _ M v)) fun _ _ => ga_rl0) (fun M vs h => by rw [← h.length]; show 5 ≤ sizeLine; decide))
      fun p vs M3 H3 g3 h03 m3 hp3 pd3 => ?_)
    have L3 := lift G2.mh a2 g3
    have a3 := a2.same g3.hh
    have n3 := a2.fresh h03
    have A3 : Ac (OthQ K C) S M H p _ M3 H3 (k + 12) := ⟨⟨L3.mh, a3⟩, G2.trans L3, (G2.hh).free (a2.cutn h03), m3, vs, by rw [cut_on n3]; exact hp3, pd3⟩
    refine (gs_call1 (S := S) (R1 := SqR K Tx) (pre := fun xs => xs.length ≤ 600) (cs := fun _ => 12) (R := fun xs => Ex Tx fun x => isNm x = true ∧ x ∉ xs) (x := ns) rfl (gv_is (gv_var rfl (Mon.mono (s2.trans g3.mm) r2)) fun _ _ h => h.sq) (by omega)) H3 k A3.Z.mh A3.Z.at_ _ fun u7 M4 H4 g4 a4 ⟨sp, ⟨hs1, hs2⟩, r7⟩ => fin2 fun t nt => ?_
    cases (show u7 = V.str sp from r7)
    have A4 := A3.step g4 a4
    have A5 := A4.step (lift A4.Z.mh A4.Z.at_ (.own (o := .tup [.ref p, .str sp]) (A4.Z.mh.trans cut_same) nt)) (A4.Z.at_.same (same_new nt))
    have s4 := s2.trans (g3.mm.trans g4.mm)
    clear A4 A3 g4 a4 g3 h03 m3 hp3 pd3 L3 a3 n3 G2 g1 g2 a1 a2 at_
    revert A5
    generalize upd H4 t (.tup [.ref p, .str sp]) = H5
    intro A5
    obtain ⟨x2, hx2, e2⟩ : ∃ x2 : Qo, (ns.length < 6 → RuleOk (ns ++ [sp]) (al.map (· ++ [sp])) ∧ OthQd r (mkRule (ns ++ [sp]) (al.map (· ++ [sp])))) ∧ x2 = .inl (mkRule (ns ++ [sp]) (al.map (· ++ [sp]))) := ⟨_, fun h5 => oth_2 hd hs1 hs2 h5 rg, rfl⟩
    refine q_accIf (x := x2) (b := decide ((ns.length : Int) < 6)) A5 rfl (by show 5 < 1000; decide) (gt_test ?_) (fun hb => ?_) fun M6 H6 s56 A6 => ?_
    · exact gv_gt (g := fun i j => .bl (decide (i < j))) (i := (ns.length : Int)) (j := 6) (gv_lenA (K := K) (R := Tx) (gv_is (gv_var rfl (Mon.mono s4 r2)) fun _ _ h => h.sq)) (gv_c rfl)
    · have h5 : ns.length < 6 := by have := of_decide_eq_true hb; omega
      rw [e2]
      exact gv_mkRule (K := K) (C := C) (gv_is (gl_addL (K := K) (R := Tx) (gv_var rfl (Mon.mono s4 r2)) (gl_one (R := Tx) (x := sp) (gv_var rfl rfl)).li (szM (by show _ + 1 ≤ _; omega))).li fun _ _ h => h.sq) (gv_is (gl_m1 (S := TT) (R := TT) (xs := al) (gi_sq (K := K) (gv_is (gv_var rfl (Mon.mono s4 r3)) fun _ _ h => h.sq)) (szK (by omega)) (· ++ [sp]) fun x hx M' u' sm ru => gv_addTT (K := K) (gv_var rfl ru) (gv_tup1 (gv_var rfl rfl)) (szM (by rw [fulls_each _ x (hd.s.subset hx)]; show _ + 1 ≤ _; omega))).li fun _ _ h => liTT_sqq h) (hx2 h5).1
    have s6 := s4.trans s56
    obtain ⟨x3, hx3, e3⟩ : ∃ x3 : Qo, (ns ≠ [] → RuleOk (sp :: ns.drop 1) (al.map fun o => asc o (ns.drop 1) ++ [sp]) ∧ OthQd r (mkRule (sp :: ns.drop 1) (al.map fun o => asc o (ns.drop 1) ++ [sp]))) ∧ x3 = .inl (mkRule (sp :: ns.drop 1) (al.map fun o => asc o (ns.drop 1) ++ [sp])) := ⟨_, fun hne => by
      cases ns with
      | nil => exact absurd rfl hne
      | cons n t => exact oth_3 hd hs1 hs2 rg, rfl⟩
    refine q_accIf (x := x3) (b := decide (ns.map PyData.str ≠ [])) A6 rfl (by
      rw [List.length_append]
      have : (if decide ((ns.length : Int) < 6) = true then [x2] else []).length ≤ 1 := by split <;> simp
      show 5 + _ < 1000; omega) (gt_nil (gv_is (gv_var rfl (Mon.mono s6 r2)) fun _ _ h => li_ddl (li_map py_str h)) (by have := depthS ns; omega)) (fun hb => ?_) fun M7 H7 s67 A7 => ?_
    · have hne : ns ≠ [] := fun e => by rw [e] at hb; simp at hb
      have cutN : ∀ {σ' : Sl} {M' : Hp}, σ'[1]? = some (some w) → Same M6 M' → Gv (tSl (rSlX K) (tVar 1) (tPart (tC (.int 1))) tNoPart) σ' M' (LiR Tx (ns.drop 1)) := fun {σ' M'} h sm => gv_is ((gl_cut (K := K) (R := Tx) (xs := ns) (lo := some ((1 : Nat) : Int)) (hi := none) (gv_is (gv_var h (Mon.mono (s6.trans sm) r2)) fun _ _ h => h.lst) (fun _ _ h => ⟨_, rfl, h⟩) (fun _ _ h => h)).li) fun M v h => by rw [cut_drop] at h; exact h
      have shd : Shorts (ns.drop 1) := ⟨by rw [List.length_drop]; omega, fun n hn => (nm_shorts nm).2 n (List.mem_of_mem_drop hn)⟩
      rw [e3]
      exact gv_mkRule (K := K) (C := C) (gv_is (gl_addL (K := K) (R := Tx) (xs := [sp]) (gl_one (R := Tx) (x := sp) (gv_var rfl rfl)).li (cutN rfl (Same.refl _)) (szM (by rw [List.length_drop]; show 1 + _ ≤ _; omega))).li fun _ _ h => h.sq) (gv_is (gl_m1 (S := TT) (R := TT) (xs := al) (gi_sq (K := K) (gv_is (gv_var rfl (Mon.mono s6 r3)) fun _ _ h => h.sq)) (szK (by omega)) (fun o => asc o (ns.drop 1) ++ [sp]) fun x hx M' u' sm ru => gv_addTT (K := K) (gv_call2 (R1 := CtR K) (R2 := SqR K Tx) (pre := fun _ ns => Shorts ns) (R := fun ls ns => TT (asc ls ns)) (x := x) (y := ns.drop 1) (gv_is (gv_var rfl ru) fun _ _ h => .inl h.sq) (gv_is (cutN rfl sm) fun _ _ h => h.sq) shd) (gv_tup1 (gv_var rfl rfl)) (szM (by have := asc_len x (ns.drop 1); rw [List.length_drop] at this; show _ + 1 ≤ _; omega))).li fun _ _ h => liTT_sqq h) (hx3 hne).1
    have s7 := s6.trans s67
    obtain ⟨vsF, hpF, pdF⟩ := A7.ex
    have GF := A7.G.freeze A7.h0 A7.m hpF
    have sF : Same M7 (upd M7 p (.lst vsF)) := same_new A7.m
    have rp := rg.p hd
    have key : ∀ o ∈ ([.inl (mkRule ns (changedR al fu)), qD (.int 5), qD .none, qD (.list (al.map fun x => .tuple (x.map .str))), qD (.list (ns.map .str))] ++ if decide ((ns.length : Int) < 6) = true then [x2] else []) ++ if decide (ns.map PyData.str ≠ []) = true then [x3] else [], (∀ d, o = .inl d → OthQd r d) := fun o ho d e => by
      subst e
      rcases List.mem_append.mp ho with ho | ho
      · rcases List.mem_append.mp ho with ho | ho
        · rcases List.mem_cons.mp ho with h | ho
          · cases h; exact ot1
          · rcases List.mem_cons.mp ho with h | ho
            · cases h
            · rcases List.mem_cons.mp ho with h | ho
              · cases h
              · rcases List.mem_cons.mp ho with h | ho
                · cases h
                · cases List.mem_singleton.mp ho
        · split at ho
          · rename_i hb
            have h := List.mem_singleton.mp ho
            rw [e2] at h
            cases h
            exact (hx2 (by have := of_decide_eq_true hb; omega)).2
          · cases ho
      · split at ho
        · rename_i hb
          have h := List.mem_singleton.mp ho
          rw [e3] at h
          cases h
          exact (hx3 fun e => by rw [e] at hb; simp at hb).2
        · cases ho
    have no : ∀ o : Qo, (∀ d, o = .inl d → OthQd r d) → eqQo r o = false ∧ neQo r o = true := fun o h => by
      cases o with
      | inl d =>
        have := (h d rfl).no
        exact ⟨this.1, by show (!eqR d r) = true; rw [this.2]; rfl⟩
      | inr d => exact ⟨rfl, rfl⟩
    have hlen : (([.inl (mkRule ns (changedR al fu)), qD (.int 5), qD .none, qD (.list (al.map fun x => .tuple (x.map .str))), qD (.list (ns.map .str))] ++ if decide ((ns.length : Int) < 6) = true then [x2] else []) ++ if decide (ns.map PyData.str ≠ []) = true then [x3] else []).length ≤ 10 := by
      rw [List.length_append, List.length_append]
      have h1 : (if decide ((ns.length : Int) < 6) = true then [x2] else []).length ≤ 1 := by split <;> simp
      have h2 : (if decide (ns.map PyData.str ≠ []) = true then [x3] else []).length ≤ 1 := by split <;> simp
      show 5 + _ + _ ≤ 10; omega
    revert key hlen pdF
    generalize ([.inl (mkRule ns (changedR al fu)), qD (.int 5), qD .none, qD (.list (al.map fun x => .tuple (x.map .str))), qD (.list (ns.map .str))] ++ if decide ((ns.length : Int) < 6) = true then [x2] else []) ++ (if decide (ns.map PyData.str ≠ []) = true then [x3] else []) = os
    intro pdF key hlen
    have rO : LiR (OthQ K C) os (upd M7 p (.lst vsF)) (.ref p) := ⟨p, vsF, rfl, upd_same, pdF.mono sF⟩
    have r1F : RuleR C r (upd M7 p (.lst vsF)) v := Mon.mono (s7.trans sF) r1
    refine z_ret (S := S) (k := k) (c := 0) (P := Bl true) GF.mh A7.Z.at_ (gv_is (gv_andV (b := true) (c := true) (gv_is (gv_notV (b := false) (gv_is (gv_any (K := K) (gl_m1 (S := Bl) (R := OthQ K C) (xs := os) (gi_sq (K := K) (gv_is (gv_var rfl rO) fun _ _ h => h.sq)) (szK (by omega)) (fun o => eqQo r o) fun o ho M' u' sm ru => gv_eqX (K := K) (gv_var rfl (Mon.mono sm r1F)) (gv_var rfl ru) rp fun d e => (key o ho d e).p)) fun M v h => by
        rw [show v = _ from h]; show V.bl _ = V.bl _; congr 1
        rw [List.any_eq_false]
        intro b hb
        obtain ⟨o, ho, rfl⟩ := List.mem_map.mp hb
        rw [(no o (key o ho)).1]; simp)) fun M v h => h) fun _ => gv_is (gv_all (K := K) (gl_m1 (S := Bl) (R := OthQ K C) (xs := os) (gi_sq (K := K) (gv_is (gv_var rfl rO) fun _ _ h => h.sq)) (szK (by omega)) (fun o => neQo r o) fun o ho M' u' sm ru => gv_neX (K := K) (gv_var rfl ru) (gv_var rfl (Mon.mono sm r1F)) rp fun d e => (key o ho d e).p)) fun M v h => by
        rw [show v = _ from h]; show V.bl _ = V.bl _; congr 1
        rw [List.all_eq_true]
        intro b hb
        obtain ⟨o, ho, rfl⟩ := List.mem_map.mp hb
        rw [(no o (key o ho)).2]; rfl) fun M v h => h).s fun z M8 H8 g8 a8 rz => by
      rw [show z = _ from rz]
      exact q M8 H8 (GF.trans g8) a8
end
end My

set_option Elab.async false
set_option linter.all false
set_option maxRecDepth 100000
set_option maxHeartbeats 8000000
namespace My
open PySem PySem.Spec PyProof.Rows L2 L3
open L3.Strm
theorem cut_last {α : Type} (xs : List α) (x : α) : cutL (xs ++ [x]) none (some (-1)) = xs := by
  unfold cutL
  rw [HT.sIx_none]
  have e : HT.sIx (xs ++ [x]).length (xs ++ [x]).length (some (-1)) = xs.length := by
    unfold HT.sIx
    dsimp only
    rw [if_pos (by decide)]
    simp only [List.length_append, List.length_cons, List.length_nil]
    omega
  rw [e]
  simp
section
variable {σ : Sl} {M : Hp} {ta tb : TE} {α : Type} {R : Rl α}
theorem gv_minus1 : Gv (tUn (rU fun i => .int (-i)) (tC (.int 1))) σ M (It' (-1)) := fun H mh Q q => ⟨1, rfl, q (.int (-1)) M H (.refl mh) rfl⟩
/-- [x] * n -/
theorem gl_rep1 [Mon R] {x : α} {n : Nat} (h : Gv ta σ M (R x)) (hn : Gv tb σ M (It' (n : Nat))) (hz : n ≤ 1000000) : GvL (tOp rRep (tLst (tCons ta tNil)) tb) σ M fun M ws => Pd R M (List.replicate n x) ws := fun H mh Q q =>
  gl_one h H mh _ fun p vs M1 H1 g1 h0 m0 hp r => hn.le g1.mm H1 g1.mh _ fun w M2 H2 g2 e2 => by
    cases (show w = _ from e2)
    have keep : H2 p = some (.lst vs) := g2.hh _ _ hp
    have l1 : vs.length = 1 := by rw [← r.length]; rfl
    obtain ⟨v, rfl⟩ : ∃ v, vs = [v] := by
      match vs, l1 with
      | [v], _ => exact ⟨v, rfl⟩
    have flat : ∀ (n : Nat), (List.replicate n [v]).flatten = List.replicate n v := fun n => by
      induction n with
      | zero => rfl
      | succ n ih => rw [List.replicate_succ, List.flatten_cons, ih, List.replicate_succ]; rfl
    have rv : R x M1 v := by cases r with | cons q _ => exact q
    have many : ∀ (n : Nat) {M' : Hp}, R x M' v → Pd R M' (List.replicate n x) (List.replicate n v) := fun n M' rv => by
      induction n with
      | zero => exact .nil
      | succ n ih => rw [List.replicate_succ, List.replicate_succ]; exact .cons rv ih
    refine ⟨p, (n : Nat), [v], rfl, rfl, keep, by omega, by omega, by simp only [List.length_cons, List.length_nil, Int.toNat_natCast]; exact szM (by omega), fun a na => ?_⟩
    rw [Int.toNat_natCast, flat]
    exact q a _ M2 _ ((g1.trans g2).trans (.own g2.mh na)) ((g1.trans g2).hh.free na) (g2.mh.free na) upd_same (many n (Mon.mono g2.mm rv))
end
section
variable {K : PySem.W.Frag} {S : Strm} {M H M0 : Hp} {k i j : Nat} {σ : Sl} {te : TE} {D : Ends} {tz : TS} {vs ls : List V} {x : Str} {p : Addr}
/-- for part in known: part.append(text), known a list of ours -/
theorem z_behindV (L : Zs S M H k) (s0 : Same M0 M) (hj : σ[j]? = some (some (.ref p))) (hp : M p = some (.lst vs)) (hp0 : M0 p = none) (np : ∀ v ∈ ls, v ≠ .ref p) (sub : ∀ v ∈ vs, v ∈ ls) (hn : vs.length ≤ 1000) (hi : i < σ.length)
    (hv : ∀ v ∈ ls, ∃ (q : Addr) (us : List Str), v = .ref q ∧ M q = some (.lst (us.map V.str)) ∧ M0 q = none ∧ us.length ≤ 1000)
    (go : ∀ y H', Zs S (thaw M0 M) H' k → S.cut H' p = some (.lst vs) → (∀ v ∈ ls, ∃ (q : Addr) (us : List Str), v = .ref q ∧ S.cut H' q = some (.lst (us.map V.str)) ∧ thaw M0 M q = none ∧ us.length ≤ 2000) → tz D (σ.set i y) H') :
    tSeq (tFor (iSq K (tVar j)) (gName i) (tDrop (tBM K "list" rAppend (tVar i) (tCons (tC (.str x)) tNil)))) tz D σ H := by
  have mt : Same (thaw M0 M) (S.cut H) := (thaw_le s0).trans L.mh
  have tp : thaw M0 M p = none := by rw [thaw_lst hp, hp0]
  refine z_for (S := S) (k := k) (c := 0) (R := EqV) (M := upd (thaw M0 M) p (.lst vs)) (G := (· = vs)) (same_lent mt (L.mh _ _ hp)) L.at_ (gi_sq (K := K) (R := EqV) (xs := vs) (gv_var hj (.inl ⟨p, vs, rfl, .inl (.inl upd_same), pd_eqv vs⟩))).s tg_1
    (fun _ M1 i' σ' M' H' => Same M1 M' ∧ Zs S M' H' k ∧ Same (upd (thaw M0 M) p (.lst vs)) M' ∧ ((i' = 0 ∧ σ' = σ) ∨ ∃ w, σ' = σ.set i (some w)) ∧ ∀ v ∈ ls, ∃ (q : Addr) (us : List Str), v = .ref q ∧ S.cut H' q = some (.lst (us.map V.str)) ∧ M' q = none ∧ us.length ≤ 1000 + i') ?_ (fun _ M1 i' σ' M' H' ⟨s, l, _⟩ => ⟨s, l.mh, l.at_.le (Nat.zero_le _)⟩) ?_ ?_
  · rintro _ M2 H2 - g a
    refine ⟨Same.refl _, ⟨g.mh, a⟩, g.mm, .inl ⟨rfl, rfl⟩, fun v hvm => ?_⟩
    obtain ⟨q, us, rfl, e1, e2, e3⟩ := hv v hvm
    have nq : q ≠ p := fun z => np _ hvm (by rw [z])
    have c1 : S.cut H q = some (.lst (us.map V.str)) := L.mh _ _ e1
    have m2 : upd (thaw M0 M) p (.lst vs) q = none := by rw [upd_ne nq, thaw_lst e1, e2]
    exact ⟨q, us, rfl, g.hh _ _ c1, g.keep m2 c1, by omega⟩
  · rintro ys M2 jj y σ' M' H' M3 H3 σ2 eG sM hy ⟨s1, l1, st, hσ, hl⟩ g ⟨w, rw_, rfl⟩
    rw [show ys = vs from eG] at hy
    have l3 := l1.plain g
    have yl := sub y (List.mem_of_getElem? hy)
    obtain ⟨q, us, e1, e2, e3, e4⟩ := hl y yl
    subst e1
    cases (show w = V.ref q from rw_)
    have jl : jj < vs.length := (List.getElem?_eq_some_iff.mp hy).1
    have c2 : S.cut H3 q = some (.lst (us.map V.str)) := (lift l1.mh l1.at_ g).hh _ _ e2
    have m3 : M3 q = none := g.keep e3 (of_cut e2)
    have hset : (σ'.set i (some (V.ref q)))[i]? = some (some (.ref q)) := by
      rw [List.getElem?_set_self]
      rcases hσ with ⟨_, rfl⟩ | ⟨w, rfl⟩
      · exact hi
      · rw [List.length_set]; exact hi
    refine z_appE (S := S) (k := k) (c := 0) (M := M3) (P := Tx x) l3.mh l3.at_ hset c2 (Nat.lt_of_le_of_lt (show (us.map V.str).length ≤ 200000 by rw [List.length_map]; omega) (by decide)) (gv_c rfl).s fun v M4 H4 g4 a4 r4 => ?_
    cases (show v = V.str x from r4)
    have c4 := g4.hh _ _ c2
    have m4 : M4 q = none := g4.keep m3 c2
    refine ⟨M4, s1.trans (g.mm.trans g4.mm), ⟨by rw [cut_put c4]; exact same_mut g4.mh m4, a4.upd (on_of c4)⟩, st.trans (g.mm.trans g4.mm), .inr ⟨.ref q, ?_⟩, fun u hu => ?_⟩
    · rcases hσ with ⟨_, rfl⟩ | ⟨w, rfl⟩
      · rfl
      · rw [List.set_set]
    · obtain ⟨q', us', f1, f2, f3, f4⟩ := hl u hu
      subst f1
      rw [cut_put c4]
      by_cases z : q' = q
      · subst z
        rw [e2] at f2
        exact ⟨q', us ++ [x], rfl, by rw [upd_same, List.map_append]; rfl, m4, by rw [List.length_append, List.length_singleton]; omega⟩
      · refine ⟨q', us', rfl, ?_, ?_, by omega⟩
        · rw [upd_ne z]; exact g4.hh _ _ ((lift l1.mh l1.at_ g).hh _ _ f2)
        · have k3 : M3 q' = none := g.keep f3 (of_cut f2)
          exact g4.keep k3 ((lift l1.mh l1.at_ g).hh _ _ f2)
  · rintro ys M2 σ' M' H' eG sM ⟨s1, l1, st, hσ, hl⟩
    have stt : Same (thaw M0 M) M' := (same_new tp).trans st
    have fin : ∀ v ∈ ls, ∃ (q : Addr) (us : List Str), v = .ref q ∧ S.cut H' q = some (.lst (us.map V.str)) ∧ thaw M0 M q = none ∧ us.length ≤ 2000 := fun v hvm => by
      obtain ⟨q, us, f1, f2, f3, f4⟩ := hl v hvm
      rw [show ys = vs from eG] at f4
      exact ⟨q, us, f1, f2, stt.free f3, by omega⟩
    have hp' : S.cut H' p = some (.lst vs) := l1.mh _ _ (st _ _ upd_same)
    rcases hσ with ⟨_, rfl⟩ | ⟨w, rfl⟩
    · have e : σ' = σ'.set i (σ'[i]'hi) := by rw [List.set_getElem_self]
      rw [e]
      exact go _ H' (l1.sub stt) hp' fin
    · exact go (some w) H' (l1.sub stt) hp' fin
/-- known.append(5) -/
theorem z_app5 {v : V} (L : Zs S M H k) (hσ : σ[i]? = some (some (.ref p))) (hp : S.cut H p = some (.lst vs)) (hm : M p = none) (hn : vs.length ≤ 2000) (go : Zs S M (upd H p (.lst (vs ++ [v]))) k → tz D σ (upd H p (.lst (vs ++ [v])))) : tSeq (tDrop (tBM K "list" rAppend (tVar i) (tCons (tC v) tNil))) tz D σ H :=
  ⟨.ref p, hσ, .inl ⟨rfl, _, .inl (.inl (of_cut hp))⟩, p, vs, v, rfl, rfl, of_cut hp, Nat.lt_of_le_of_lt hn (by decide), go ⟨by rw [cut_put hp]; exact same_mut L.mh hm, L.at_.upd (on_of hp)⟩⟩
/-- if isinstance(known, list): known.append(text) -/
theorem z_isApp {v : V} {ns : List Str} (L : Zs S M H k) (hσ : σ[i]? = some (some v)) (h : (∃ (q : Addr) (us : List Str), v = .ref q ∧ S.cut H q = some (.lst (us.map V.str)) ∧ M q = none ∧ us.length ≤ 2000) ∨ TupR K Tx ns M v) (go : ∀ H', Zs S M H' k → tz D σ H') :
    tSeq (tIfS (tB (tCB (rIsi K) (tCons (tVar i) (tCons (tC (.ty "list")) tNil)))) (tDrop (tBM K "list" rAppend (tVar i) (tCons (tC (.str x)) tNil))) tNext) tz D σ H := by
  rcases h with ⟨q, us, rfl, hq, mq, hl⟩ | h
  · have mq' : Same (upd M q (.lst (us.map V.str))) H := same_lent (L.mh.trans cut_same) (of_cut hq)
    refine q_if0 (b := true) mq' (gt_B (gv_isi (K := K) (d := .list (us.map .str)) (gv_var hσ (li_ddl (li_map py_str ⟨q, us.map V.str, rfl, upd_same, pd_of_tx us⟩))) (by simp only [tyN]; decide +kernel))) (fun _ H1 hh => ?_) fun h => nomatch h
    have hq1 : S.cut H1 q = some (.lst (us.map V.str)) := by rw [cut_on (on_of hq)]; exact hh _ _ (of_cut hq)
    have L1 := L.idle hh
    exact z_app5 (v := .str x) (tz := tNext) (D := { D with nx := tz D }) L1 hσ hq1 mq (by rw [List.length_map]; omega) fun L2 => go _ L2
  · exact n_ifN L (gt_B (gv_isi (K := K) (d := .tuple (ns.map .str)) (gv_var hσ (py_tup py_str ns M v h)) (by simp only [tyN]; decide +kernel))) fun H' L' => go H' L'
theorem gs_two2 {c : Nat} {t1 t2 : TE} {b1 b2 : Bool} (h1 : Gv t1 σ M (Bl b1)) (h2 : GvS S c t2 σ M (Bl b2)) : GvS S c (tLst (tCons t1 (tCons t2 tNil))) σ M (Dd K (.list [.bool b1, .bool b2])) := fun H k mh a Q q =>
  h1 H (mh.trans cut_same) _ fun u1 M1 H1 g1 r1 => h2.le g1.mm H1 k (lift mh a g1).mh (a.same g1.hh) _ fun u2 M2 H2 g2 a2 r2 => ⟨by show 2 ≤ sizeLine; decide, fun p np => by
    cases (show u1 = V.bl b1 from r1)
    cases (show u2 = V.bl b2 from r2)
    have G := (lift mh a g1).trans g2
    have c0 := a2.cutn np
    have n2 := a2.fresh np
    have G' := (G.trans (Gr.own (o := .lst [.bl b1, .bl b2]) G.mh c0)).freeze (G.hh.free c0) (G.mh.free c0) upd_same
    rw [← cut_upd n2] at G'
    exact q (.ref p) _ _ G' (a2.upd n2) (dd_lst upd_same (.cons (.bl b1) (.cons (.bl b2) .nil)))⟩
end
theorem shl_strs {xs : List Str} (h : ∀ x ∈ xs, x.length ≤ 1000) (n : xs.length ≤ 1000000) : shortL (.list (xs.map .str)) ∧ shortL (.tuple (xs.map .str)) := ⟨⟨by rw [List.length_map]; exact n, fun d hd => by
  obtain ⟨y, hy, rfl⟩ := List.mem_map.mp hd
  exact h y hy⟩, ⟨by rw [List.length_map]; exact n, fun d hd => by
  obtain ⟨y, hy, rfl⟩ := List.mem_map.mp hd
  exact h y hy⟩⟩
theorem shl_lits {ns ys : List Str} (nm : NmL ns) (L : Lits ns ys) : shortL (.list (ys.map .str)) ∧ shortL (.tuple (ys.map .str)) := shl_strs (fun x hx => Nat.le_trans (lits_short L nm x hx) (by decide)) (Nat.le_trans (lits_len L nm) (Nat.le_trans nm.n (by decide)))
def NewG (K : PySem.W.Frag) (M0 : Hp) (ns : List Str) : Pr := fun M v => NewL M0 Tx ns M v ∨ TupR K Tx ns M v
instance {K : PySem.W.Frag} {M0 : Hp} {ns : List Str} : Mono (NewG K M0 ns) := ⟨fun e h => h.imp (Mon.mono e) (Mon.mono e)⟩
theorem NewG.sq {K : PySem.W.Frag} {M0 M : Hp} {ns : List Str} {v : V} (h : NewG K M0 ns M v) : SqR K Tx ns M v := h.elim (fun h => h.sq) fun h => .inr h
theorem tupR_thaw {K : PySem.W.Frag} {M0 M : Hp} {ns : List Str} {v : V} (h : TupR K Tx ns M v) : TupR K Tx ns (thaw M0 M) v := by
  obtain ⟨a, vs, e, hs, pd⟩ := h
  have pd' : Pd Tx (thaw M0 M) ns vs := by rw [pd_tx pd]; exact pd_of_tx ns
  refine ⟨a, vs, e, ?_, pd'⟩
  rcases hs with (hs | ⟨o, hs⟩) | hs
  · exact .inl (.inl (thaw_off hs fun _ z => (by cases z)))
  · exact .inl (.inr ⟨o, thaw_off hs fun _ z => (by cases z)⟩)
  · exact .inr hs
theorem gs_mkRule {K : PySem.W.Frag} {S : Strm} {c : Nat} {C : Addr} {σ : Sl} {M : Hp} {t1 t2 : TE} {ns : List Str} {ss : List (List Str)} (h1 : Gv t1 σ M (SqR K Tx ns)) (h2 : GvS S c t2 σ M (SqR K (SqR K Tx) ss)) (ok : RuleOk ns ss) : GvS S c (tMake C (sp_Rule_init K C) [] E0 (tCons t1 (tCons t2 tNil))) σ M (RuleR C (mkRule ns ss)) := fun H k mh a Q q =>
  h1 H (mh.trans cut_same) _ fun v1 M1 H1 g1 q1 => h2.le g1.mm H1 k (lift mh a g1).mh (a.same g1.hh) _ fun v2 M2 H2 g2 a2 q2 =>
    gv_mkRule (K := K) (C := C) (t1 := tC v1) (t2 := tC v2) (σ := σ) (gv_c (Mon.mono g2.mm q1)) (gv_c q2) ok H2 (g2.mh.trans cut_same) Q fun v M3 H3 g3 r => q v M3 H3 (((lift mh a g1).trans g2).trans (lift g2.mh a2 g3)) (a2.same g3.hh) r
theorem nn_sqq {K : PySem.W.Frag} {M0 M : Hp} {cs : List (List Str)} {v : V} (h : NewL M0 (NewL M0 Tx) cs M v) : SqR K (SqR K Tx) cs M v :=
  let ⟨a, vs, e, r, _, p⟩ := h
  .inl ⟨a, vs, e, .inl (.inl r), Paired.mapP p fun _ _ q => NewL.sq q⟩
end My

set_option Elab.async false
set_option linter.all false
set_option maxRecDepth 100000
set_option maxHeartbeats 8000000
namespace My
open PySem PySem.Spec PyProof.Rows L2 L3
open L3.Strm
def twoP (d : PyData) (cs : List (List Str)) : PyData := .list [d, .list (cs.map fun y => .list (y.map .str))]
theorem sm_listsA {ns : List Str} {cs : List (List Str)} (hn : NmL ns) (h : ∀ c ∈ cs, c.length ≤ 60 ∧ ∀ l ∈ c, LitN ns l) : SmA 3 (700 * cs.length) (cs.map fun c => .list (c.map .str)) := by
  induction cs with
  | nil => exact SmA.nil
  | cons c r ih =>
    have hc := h c (List.mem_cons_self ..)
    have z := SmA.cons (((sm_strs hn hc.2).lst).up (show 2 ≤ 3 by omega) (show _ ≤ 610 by omega)) (ih fun x hx => h x (List.mem_cons_of_mem _ hx))
    exact z.up (Nat.le_refl _) (by rw [List.length_cons]; omega)
theorem fit_twoP {ns : List Str} {al cs : List (List Str)} (h : DR ns al) (p : PassedR al cs) {d : PyData} (hd : d = .list (ns.map .str) ∨ d = .tuple (ns.map .str)) : FitD (twoP d cs) := by
  have k := h.k
  have l := h.len
  have pl := p.perm.2.2
  have s := sm_strs (ls := ns) h.nm fun l h => ⟨l, h, .inl rfl⟩
  have s1 : SmW 4 1000 d := by
    rcases hd with rfl | rfl
    · exact s.lst.up (by omega) (by omega)
    · exact ⟨by rw [PyData.showable]; exact s.sh, by have := s.dp; rw [PyData.depth]; omega, by rw [PyData.leavesShort]; exact s.ls, by have := s.wt; rw [PyData.weight]; omega⟩
  have s3 := (sm_listsA (cs := cs) h.nm fun d hd => ⟨by have := (p.lits h d hd).2; omega, fun l hl => let ⟨n, h1, h2⟩ := (p.lits h d hd).1.of l hl; ⟨n, h1, h2⟩⟩).lst
  exact ((SmA.cons s1 (SmA.cons (s3.up (show 4 ≤ 4 by omega) (show _ ≤ 70000 by omega)) SmA.nil)).lst).fit (by omega) (by omega)
theorem inst_rule' {C : Addr} {z : RuleD} : ∀ (M : Hp) (v : V), RuleR C z M v → ∃ a dx fs, v = .ref a ∧ M a = some (.ins C dx fs) := fun M v h => inst_rule z M v h
theorem fit_bb (b c : Bool) : FitD (.list [.bool b, .bool c]) := by cases b <;> cases c <;> exact ⟨rfl, by simp [PyData.depth, PyData.depthAll], by decide +kernel⟩
section
variable {P : Program} {w : World} {K : PySem.W.Frag} {mg : Str → Option Value} {base : Heap}
abbrev s_law : Stmt := topS 34
theorem sc_law : FnScope ["_law_script", "_law_stream", "_law_turn", "_law_given", "_law_passed", "_law_kept", "_law_rule", "_law_one", "_law_twin", "_law_signs", "_law_allowed", "_law_found", "_law_odd"] ["_law_script"] (defScope s_law) := ⟨rfl, rfl, rfl, by decide +kernel, rfl, by decide +kernel, by decide +kernel⟩
def sp_law (K : PySem.W.Frag) : Sp := fun vs H Q _ => ∃ (ns : List Int) (M : Hp) (v : V), vs = [v] ∧ Same M H ∧ SqR K It' ns M v ∧ ∀ H', Q (.bl true) H'
theorem ok_law {f C : Addr} {fd : FuncData} (F : Fun K "law" "law" s_law f fd) (T : Gc mg) (TC : RuleT K mg C) (NE : NeObj K C)
    (c__law_drawn_rule : Cal P w K mg base 5 "_law_drawn_rule" ["_law_stream", "_law_most"] (sp__law_drawn_rule K)) (c__law_draw : Cal P w K mg base 1 "_law_draw" ["_law_stream", "_law_many"] (sp__law_draw K)) (c__law_mixed : Cal P w K mg base 2 "_law_mixed" ["_law_stream", "_law_things"] (sp__law_mixed K)) (cT__law_mixed : Cal P w K mg base 2 "_law_mixed" ["_law_stream", "_law_things"] (sp_mixG K TT))
    (c__law_is_right : CalG P w K mg base 4 "_law_is_right" ["_law_rule", "_law_signs", "_law_allowed"] (sp__law_is_right K C)) (c__law_same : CalG P w K mg base 1 "_law_same" ["_law_found", "_law_due"] (sp__law_same K)) (c__law_fulls : Cal P w K mg base 1 "_law_fulls" ["_law_names_here"] (sp__law_fulls K))
    (c__law_is_unlike : Cal P w K mg base 7 "_law_is_unlike" ["_law_rule", "_law_signs", "_law_allowed", "_law_stream"] (sp__law_is_unlike K C)) (k_Rule : Mak P w K mg base 5 "Rule" C ["self", "signs", "settings"] (sp_Rule_init K C))
    (o_in : OwnSp P w K mg base 4 C "__contains__" ["self", "thing"] (sp_Rule_containsE K C)) (o_eq : OwnSp P w K mg base 4 C "__eq__" ["self", "other"] (sp_Rule_eq K C)) : FnG P w K mg base CX0 9 f fd ["_law_script"] (sp_law K) := by
  refine fun_okG F sc_law (fun vs H Q E h => ?_) (fun cdv A outer s H vs Q E hgu hr h => ?_)
  · obtain ⟨ns, M, v, rfl, _⟩ := h
    rfl
  · obtain ⟨cells, M, v, rfl, mh, r1, q⟩ := h
    have hu := hr.units
    have hgu : (A.deeper (envOfC "law" (defScope s_law) s.heap.objs.size f cdv)).guards = some [] := hgu
    have hu7 : (A.deeper (envOfC "law" (defScope s_law) s.heap.objs.size f cdv)).units + 70 < cLine := by have := hr.un; omega
    refine ⟨_, (pss_cons (ps_set (i := 1) sc_law.nd rfl (by first | exact .inl rfl | exact .inr rfl) (pe_lst (pa_cons (pe_callTy call_lstA (by rfl) T.list boot_list (pa_cons (pv 0) pa_nil)) (pa_cons pe_int (pa_cons pe_int (pa_cons pe_int pa_nil))))))
      (pss_cons (ps_for PassesOwn.never (by rfl) (pi_range1 (by rfl) T.range (pa_cons pe_int pa_nil)) (pg_name (i := 2) sc_law.nd rfl (by first | exact .inl rfl | exact .inr rfl)) (pss_cons (ps_asg (pe_f c__law_drawn_rule (hr.mono (by decide)) (pa_cons (pv 1) (pa_cons (pe_ifExp (pt_cmpR (op_eqP hu) (pv 2) pe_int (nomark _)) pe_int pe_int) pa_nil))) (pg_tup (by rfl) (pgs_cons (pg_name (i := 9) sc_law.nd rfl (by first | exact .inl rfl | exact .inr rfl)) (pgs_cons (pg_name (i := 10) sc_law.nd rfl (by first | exact .inl rfl | exact .inr rfl)) pgs_nil))))
      (pss_cons (ps_set (i := 3) sc_law.nd rfl (by first | exact .inl rfl | exact .inr rfl) (pe_ifExp (pt_cmpR (op_eqP hu) (pe_f c__law_draw (hr.mono (by decide)) (pa_cons (pv 1) (pa_cons pe_int pa_nil))) pe_int (nomark _)) (pe_callTy call_lstA (by rfl) T.list boot_list (pa_cons (pv 9) pa_nil)) (pe_callTy call_tupA (by rfl) T.tuple boot_tuple (pa_cons (pv 9) pa_nil))))
      (pss_cons (ps_setLc (i := 4) (own := [("_law_one", 7)]) (g := (gName 7)) (tt := tYes) (te := (tCall (sp__law_mixed K) [] E0 (tCons (tVar 1) (tCons (tVar 7) tNil)))) (by rfl) sc_law.nd rfl rfl (sw_true rfl rfl rfl (by decide +kernel)) (pi_sq (pe_f cT__law_mixed (hr.mono (by decide)) (pa_cons (pv 1) (pa_cons (pe_op op_addA (pv 10) (pe_slice sl_X (pv 10) po_none (po_some pe_int))) pa_nil)))) (blkOk_by (by rfl)) (fun _ _ _ _ _ => (pg_name (i := 7) sc_law.nd rfl (by first | exact .inl rfl | exact .inr rfl))) (fun _ _ _ _ _ => pts_nil) (fun _ _ _ _ _ => (pe_f c__law_mixed (hr.mono (by decide)) (pa_cons (pv 1) (pa_cons (pv 7) pa_nil)))))
      (pss_cons (ps_set (i := 5) sc_law.nd rfl (by first | exact .inl rfl | exact .inr rfl) (pe_callB (call_repr hgu hu7) (by rfl) T.repr boot_repr (pa_cons (pe_lst (pa_cons (pv 3) (pa_cons (pv 4) pa_nil))) pa_nil)))
      (pss_cons (ps_set (i := 6) sc_law.nd rfl (by first | exact .inl rfl | exact .inr rfl) (pe_mk k_Rule (hr.mono (by decide)) (pa_cons (pv 3) (pa_cons (pe_ifExp (pt_cmpR (op_eqP hu) (pe_f c__law_draw (hr.mono (by decide)) (pa_cons (pv 1) (pa_cons pe_int pa_nil))) pe_int (nomark _)) (pv 4) (pe_callTy call_tupA (by rfl) T.tuple boot_tuple (pa_cons (pe_lc (own := [("_law_one", 7)]) (g := (gName 7)) (tt := tYes) (te := (tCB (rTupOf K) (tCons (tVar 7) tNil))) (by rfl) sc_law.nd (pi_sq (pv 4)) (blkOk_by (by rfl)) (fun _ _ _ _ _ => (pg_name (i := 7) sc_law.nd rfl (by first | exact .inl rfl | exact .inr rfl))) (fun _ _ _ _ _ => pts_nil) (fun _ _ _ _ _ => (pe_callTy call_tupA (by rfl) T.tuple boot_tuple (pa_cons (pv 7) pa_nil)))) pa_nil))) pa_nil))))
      (pss_cons (ps_if (pt_cmpR (op_neP hu) (pe_callB (call_repr hgu hu7) (by rfl) T.repr boot_repr (pa_cons (pe_lst (pa_cons (pv 3) (pa_cons (pv 4) pa_nil))) pa_nil)) (pv 5) (nomark _)) (pss_one (ps_ret pe_bl)) pss_nil)
      (pss_cons (ps_for PassesOwn.never (by rfl) (pi_sq (pv 4)) (pg_name (i := 7) sc_law.nd rfl (by first | exact .inl rfl | exact .inr rfl)) (pss_one (ps_expr (pe_bm PySem.F.plainAttrs_list PySem.F.slot_list_append PySem.F.type_list_append mt_append (pv 7) (pa_cons pe_str pa_nil)))))
      (pss_cons (ps_expr (pe_bm PySem.F.plainAttrs_list PySem.F.slot_list_append PySem.F.type_list_append mt_append (pv 4) (pa_cons pe_int pa_nil)))
      (pss_cons (ps_if (pt_val (pe_callB call_isi (by rfl) T.isinstance boot_isinstance (pa_cons (pv 3) (pa_cons (pe_bltn (v := .ty "list") (u := .type "list") (by rfl) T.list (by decide +kernel) rfl) pa_nil)))) (pss_one (ps_expr (pe_bm PySem.F.plainAttrs_list PySem.F.slot_list_append PySem.F.type_list_append mt_append (pv 3) (pa_cons pe_str pa_nil)))) pss_nil)
      (pss_cons (ps_if (PW.pt (pw_or (pt_not (pt_val (pe_fG c__law_is_right hgu (hr.mono (by decide)) (pa_cons (pv 6) (pa_cons (pv 9) (pa_cons (pv 10) pa_nil)))))) (pw_or1 (pt_not (pt_val (pe_fG c__law_is_right hgu (hr.mono (by decide)) (pa_cons (pv 6) (pa_cons (pv 9) (pa_cons (pv 10) pa_nil))))))))) (pss_one (ps_ret pe_bl)) pss_nil)
      (pss_cons (ps_for PassesOwn.never (by rfl) (pi_sq (pe_f c__law_fulls (hr.mono (by decide)) (pa_cons (pv 9) pa_nil))) (pg_name (i := 7) sc_law.nd rfl (by first | exact .inl rfl | exact .inr rfl)) (pss_cons (ps_set (i := 11) sc_law.nd rfl (by first | exact .inl rfl | exact .inr rfl) (pe_lst (pa_cons (pe_cmpR (op_inO o_in (hr.mono (by decide))) (pv 7) (pv 6) (by rfl)) (pa_cons (pe_cmpR (op_inO o_in (hr.mono (by decide))) (pe_f c__law_mixed (hr.mono (by decide)) (pa_cons (pv 1) (pa_cons (pv 7) pa_nil))) (pv 6) (by rfl)) pa_nil))))
      (pss_one (ps_if (PW.pt (pw_or (pt_not (pt_val (pe_fG c__law_same hgu (hr.mono (by decide)) (pa_cons (pv 11) (pa_cons (pe_op op_rep (pe_lst (pa_cons (pe_cmpR (op_inA hu) (pv 7) (pv 10) (by rfl)) pa_nil)) pe_int) pa_nil))))) (pw_or (pt_cmpR (op_inO o_in (hr.mono (by decide))) (pe_op op_addA (pv 7) (pe_tup (pa_cons pe_str pa_nil))) (pv 6) (by rfl)) (pw_or1 (PW.pt (pw_and (pt_cmpR (op_inO o_in (hr.mono (by decide))) (pe_slice sl_X (pv 7) po_none (po_some (pe_un un_neg pe_int))) (pv 6) (by rfl)) (pw_and1 (pt_cmpR (op_neP hu) (pv 7) (pe_tup pa_nil) (nomark _))))))))) (pss_one (ps_ret pe_bl)) pss_nil))))
      (pss_cons (ps_if (pt_val (pe_callB (cr_any rfl) (by rfl) T.any boot_any (pa_cons (pe_lc (own := [("_law_odd", 12)]) (g := (gName 12)) (tt := tYes) (te := (tOp (rInO C (sp_Rule_containsE K C) false) (tVar 12) (tVar 6))) (by rfl) sc_law.nd (pi_sq (pe_lst (pa_cons pe_non (pa_cons pe_int (pa_cons pe_str (pa_cons pe_str (pa_cons pe_dnewK (pa_cons (pe_lst (pa_cons pe_str (pa_cons pe_int pa_nil))) (pa_cons (pe_lst (pa_cons (pe_lst (pa_cons pe_str pa_nil)) pa_nil)) (pa_cons pe_bl pa_nil)))))))))) (blkOk_by (by rfl)) (fun _ _ _ _ _ => (pg_name (i := 12) sc_law.nd rfl (by first | exact .inl rfl | exact .inr rfl))) (fun _ _ _ _ _ => pts_nil) (fun _ _ _ _ _ => (pe_cmpR (op_inO o_in (hr.mono (by decide))) (pv 12) (pv 6) (by rfl)))) pa_nil))) (pss_one (ps_ret pe_bl)) pss_nil)
      (pss_cons (ps_set (i := 8) sc_law.nd rfl (by first | exact .inl rfl | exact .inr rfl) (pe_mk k_Rule (hr.mono (by decide)) (pa_cons (pe_revL (pv 9)) (pa_cons (pe_lc (own := [("_law_one", 7)]) (g := (gName 7)) (tt := tYes) (te := (tRevT K (tVar 7))) (by rfl) sc_law.nd (pi_sq (pv 10)) (blkOk_by (by rfl)) (fun _ _ _ _ _ => (pg_name (i := 7) sc_law.nd rfl (by first | exact .inl rfl | exact .inr rfl))) (fun _ _ _ _ _ => pts_nil) (fun _ _ _ _ _ => (pe_revT (pv 7)))) pa_nil))))
      (pss_one (ps_if (PW.pt (pw_or (pt_not (pt_cmpR (op_eqO o_eq (hr.mono (by decide))) (pv 8) (pv 6) (nomark _))) (pw_or (pt_cmpR (op_neO o_eq NE (hr.mono (by decide))) (pv 8) (pv 6) (nomark _)) (pw_or1 (pt_not (pt_val (pe_f c__law_is_unlike (hr.mono (by decide)) (pa_cons (pv 6) (pa_cons (pv 9) (pa_cons (pv 10) (pa_cons (pv 1) pa_nil))))))))))) (pss_one (ps_ret pe_bl)) pss_nil))))))))))))))))
      (pss_one (ps_ret pe_bl)))), ?_⟩
    -- the stream
    refine q_asgS (lst_in (a_L mh (gl_lstOf (K := K) (R1 := It') (gv_var rfl r1)) fun b vs M1 H1 g1 hb0 hbm hbw hpd => ⟨by show 4 ≤ sizeLine; decide, fun a na => ?_⟩))
    obtain ⟨S, rfl, rfl⟩ : ∃ S : Strm, S.a = a ∧ S.b = b := ⟨⟨a, b⟩, rfl, rfl⟩
    have hne : S.a ≠ S.b := fun e => by rw [e] at na; rw [hbw] at na; cases na
    have evs := pd_itv hpd
    have a0 : S.At 10000000 (upd H1 S.a (.lst [.ref S.b, .int 0, .int 0, .int 0])) := ⟨hne, cells, 0, 0, 0, upd_same, by rw [upd_ne (Ne.symm hne), hbw, evs], by decide, by decide, by decide, by decide, by decide⟩
    have m0 : Same M (S.cut (upd H1 S.a (.lst [.ref S.b, .int 0, .int 0, .int 0]))) := fun x o e => by
      have h1 := g1.hh _ _ (mh x o e)
      have n1 : x ≠ S.a := ne_of_none h1 na
      have n2 : x ≠ S.b := ne_of_none (mh x o e) hb0
      rw [cut_on (fun z => z.elim n1 n2), upd_ne n1]
      exact h1
    have L0 : Zs S M (upd H1 S.a (.lst [.ref S.b, .int 0, .int 0, .int 0])) ((5 - 0) * 5000) := ⟨m0, a0.le (by decide)⟩
    clear a0 m0
    -- five turns
    refine n_for (S := S) (xs := List.range 5) (R := fun i : Nat => It' (i : Nat)) (fun i => (5 - i) * 5000) (fun _ _ σ' => ∃ y2 y3 y4 y5 y6 y7 y8 y9 y10 y11, σ' = [some v, some (.ref S.a), y2, y3, y4, y5, y6, y7, y8, y9, y10, y11, none]) L0 (gi_rng1 (n := 5) (gv_c rfl) (by decide)) tg_1 (fun _ _ _ _ _ h => h) ⟨_, _, _, _, _, _, _, _, _, _, rfl⟩ ?_ ?_
    rotate_left
    · rintro σ' M' H' sM ⟨y2, y3, y4, y5, y6, y7, y8, y9, y10, y11, rfl⟩ L'
      exact q _
    rintro i x σ' M3 H3 σ2 nx hnx hx sM ⟨y2, y3, y4, y5, y6, y7, y8, y9, y10, y11, rfl⟩ L3 ⟨v2, r2, rfl⟩
    have hi : i < 5 := by have := (List.getElem?_eq_some_iff.mp hx).1; rwa [List.length_range] at this
    have e4 : (5 - i) * 5000 = (5 - (i + 1)) * 5000 + 5000 := by omega
    rw [e4] at L3
    have hnx : ∀ M2 H2 σ3, Same M3 M2 → (∃ y2 y3 y4 y5 y6 y7 y8 y9 y10 y11, σ3 = [some v, some (.ref S.a), y2, y3, y4, y5, y6, y7, y8, y9, y10, y11, none]) → Zs S M2 H2 ((5 - (i + 1)) * 5000) → nx σ3 H2 := hnx
    revert L3 hnx
    generalize (5 - (i + 1)) * 5000 = kb
    intro L3 hnx
    -- the rule
    have L3 := L3.le (show kb + 4000 + 150 ≤ kb + 5000 by omega)
    refine q_asgG ((gs_call1 (S := S) (R1 := It') (pre := fun m => 0 ≤ m ∧ m ≤ 6) (cs := fun _ => 150) (R := fun m => Ex (PrR K (LiR Tx) (LiR TT)) (DrawnRule m)) (x := if x = 0 then 6 else 4) rfl (gv_if (b := decide (x = 0)) (gt_test (gv_is (gv_eqT (K := K) (neg := false) (x := ((x : Nat) : Int)) (y := 0) py_int inj_int (gv_var rfl r2) (gv_c rfl) (by simp [PyData.depth])) fun M v h => by rw [show v = _ from h]; simp)) (fun hb => by rw [if_pos (of_decide_eq_true hb)]; exact gv_c rfl) fun hb => by rw [if_neg (of_decide_eq_false hb)]; exact gv_c rfl) (by split <;> decide)) H3 (kb + 4000) L3.mh L3.at_ _ fun u M4 H4 g4 a4 ⟨⟨ns, al⟩, ⟨nm, hlm, hsub⟩, rp⟩ => tg_2 (ns, al) M4 u H4 _ _ rp (g4.mh.trans cut_same) fun σ' ⟨v9, v10, r9, r10, e⟩ => ?_)
    subst e
    have k6 : ns.length ≤ 6 := by
      have h6 : (if x = 0 then (6 : Int) else 4) ≤ 6 := by split <;> decide
      have : (ns.length : Int) ≤ 6 := Int.le_trans hlm h6
      omega
    have hd : DR ns al := ⟨nm, k6, hsub⟩
    have l64 := hd.len
    have r9 : LiR Tx ns M4 v9 := r9
    have r10 : LiR TT al M4 v10 := r10
    have L4 : Zs S M4 H4 (kb + 4000) := ⟨g4.mh, a4⟩
    have s34 := g4.mm
    clear g4 a4 rp hlm
    -- what is given
    refine n_asg (S := S) (k := kb + 3999) (c := 1 + 0) (P := NewG K M4 ns) (L4.le (by omega)) (gs_if (c1 := 1) (c2 := 0) (B := fun _ => True) (gts_zero (K := K) (n := 2) rfl (gv_c rfl) (by decide) (by decide)) (fun _ => (gv_is (gl_newL (M0 := M4) (R := Tx) (gl_lstOf (K := K) (R1 := Tx) (gv_is (gv_var rfl r9) fun _ _ h => h.sq)) (Same.refl _)) fun M v h => (.inl h : NewG K M4 ns M v)).s) fun _ => (gv_is (gv_tupOf (K := K) (R1 := Tx) (xs := ns) (gv_is (gv_var rfl r9) fun _ _ h => h.sq)) fun M v h => (.inr h : NewG K M4 ns M v)).s) fun v3 M5 H5 s45 L5 r3 => ?_
    -- what is passed
    have each : ∀ x ∈ al, x.length = ns.length := fun x hx => fulls_each _ x (hsub.subset hx)
    have r9_5 : LiR Tx ns M5 v9 := Mon.mono s45 r9
    have r10_5 : LiR TT al M5 v10 := Mon.mono s45 r10
    have inAl : ∀ {xs : List (List Str)}, xs.Perm (al ++ al.take 2) → ∀ x ∈ xs, x ∈ al := fun e x hx => by
      rcases List.mem_append.mp (e.mem_iff.mp hx) with h | h
      · exact h
      · exact List.mem_of_mem_take h
    have plen : ∀ {xs : List (List Str)}, xs.Perm (al ++ al.take 2) → xs.length ≤ 66 := fun e => by rw [e.length_eq, List.length_append, List.length_take]; omega
    refine n_asg (S := S) (k := kb + 3000) (c := 66 + 66 * 6) (P := Ex (NewL M5 (NewL M5 Tx)) (PassedR al)) (L5.le (by omega)) (gs_newL (good := PassedR al) (GvLS.is (gls_m1 (c1 := 66) (n := 66) (c2 := 6) (T := NewL M5 Tx) (R := TT) (G := fun xs => xs.Perm (al ++ al.take 2)) (good := fun x y => List.Perm y x) (gis_sq (K := K) (GvS.cost (c := (al ++ al.take 2).length) ((gls_call1 (S := S) (R1 := SqR K TT) (pre := fun xs => xs.length ≤ 1000000) (cs := fun xs => xs.length) (R := fun xs M ws => ∃ ys, ys.Perm xs ∧ Pd TT M ys ws) (x := al ++ al.take 2) rfl
        (gv_is (gl_addL (K := K) (R := TT) (gv_var rfl r10_5) (gv_is ((gl_cut (K := K) (R := TT) (xs := al) (lo := none) (hi := some ((2 : Nat) : Int)) (gv_is (gv_var rfl r10_5) fun _ _ h => h.lst) (fun _ _ h => h) (fun _ _ h => ⟨_, rfl, h⟩)).li) fun M v h => by rw [cut_take] at h; exact h) (szM (by rw [List.length_take]; omega))).li fun _ _ h => h.sq) (by have := plen (List.Perm.refl _); omega)).gv fun M ws p ⟨ys, py, pd⟩ m => ⟨ys, py, .inl ⟨p, ws, rfl, .inl (.inl upd_same), pd.mono (same_new m)⟩⟩) (plen (List.Perm.refl _))))
      (fun xs e => plen e) (by decide) ?_) fun M ws ⟨xs, ys, e, hp, hpd⟩ => ⟨ys, ⟨xs, e, hp⟩, hpd⟩) (Same.refl _)) fun v4 M6 H6 s56 L6 ⟨cs, PS, r4⟩ => ?_
    · intro xs e x hx M' u' sm ru
      have hx := inAl e x hx
      have xl := each x hx
      exact (gs_newL (good := fun ys => List.Perm ys x) (gls_call1 (S := S) (R1 := SqR K Tx) (pre := fun xs => xs.length ≤ 1000000) (cs := fun xs => xs.length) (R := fun xs M ws => ∃ ys : List Str, ys.Perm xs ∧ Pd Tx M ys ws) (x := x) rfl (gv_is (gv_var rfl ru) fun _ _ h => h.sq) (by omega)) sm).cost (by show x.length ≤ 6; omega)
    obtain ⟨rok, rg⟩ := PS.ok hd
    have clen : cs.length ≤ 66 := by have := PS.perm.2.2; omega
    obtain ⟨d3, hd3, rd3⟩ : ∃ d3, (d3 = .list (ns.map .str) ∨ d3 = .tuple (ns.map .str)) ∧ Dd K d3 M5 v3 := by
      rcases r3 with h | h
      · exact ⟨_, .inl rfl, li_ddl (li_map py_str h.li)⟩
      · exact ⟨_, .inr rfl, py_tup py_str _ _ _ h⟩
    have FT := fit_twoP hd PS hd3
    have two : ∀ {σ' : Sl} {M' : Hp}, σ'[3]? = some (some v3) → σ'[4]? = some (some v4) → Same M6 M' → Gv (tCB (rRepr K) (tCons (tLst (tCons (tVar 3) (tCons (tVar 4) tNil))) tNil)) σ' M' (Tx (twoP d3 cs).shown) := fun {σ' M'} h3 h4 sm => gv_repr (gv_is (gv_lstG (R := Dd K) (ga_rl (x := d3) (gv_var h3 (Mon.mono (s56.trans sm) rd3)) fun _ e1 => ga_rl (x := PyData.list (cs.map fun y : List Str => PyData.list (y.map PyData.str))) (gv_var h4 (li_ddl (li_map (R := NewL M5 Tx) (f := fun y : List Str => PyData.list (y.map PyData.str)) (fun x M v r => li_ddl (li_map py_str r.li)) (Mon.mono (sm.trans e1) r4 : NewL M5 (NewL M5 Tx) cs _ _).li))) fun _ _ => ga_rl0) (by show 2 ≤ 1000; decide)) fun _ _ h => li_ddl h) FT.1 FT.2.1 FT.2.2
    refine n_asg (S := S) (k := kb + 3000) (c := 0) (P := Tx (twoP d3 cs).shown) L6 (two rfl rfl (Same.refl _)).s fun v5 M7 H7 s67 L7 r5 => ?_
    cases (show v5 = V.str _ from r5)
    have r4_7 : NewL M5 (NewL M5 Tx) cs M7 v4 := Mon.mono s67 r4
    have r3_7 : NewG K M4 ns M7 v3 := Mono.mono (s56.trans s67) r3
    refine n_asg (S := S) (k := kb + 2999) (c := 1 + 0) (P := RuleR C (mkRule ns cs)) (L7.le (by omega)) (gs_mkRule (K := K) (C := C) (gv_is (gv_var rfl r3_7) fun _ _ h => h.sq) (gs_if (c1 := 1) (c2 := 0) (B := fun _ => True) (gts_zero (K := K) (n := 2) rfl (gv_c rfl) (by decide) (by decide)) (fun _ => (gv_is (gv_var rfl r4_7) fun _ _ h => nn_sqq h).s) fun _ => (gv_is (gv_tupOf (K := K) (R1 := SqR K Tx) (xs := cs) (gv_is (gl_m1 (S := SqR K Tx) (R := NewL M5 Tx) (xs := cs) (gi_sq (K := K) (gv_is (gv_var rfl r4_7) fun _ _ h => h.sq)) (szK (by omega)) id fun x hx M' u' sm ru => gv_is (gv_tupOf (K := K) (R1 := Tx) (xs := x) (gv_is (gv_var rfl ru) fun _ _ h => h.sq)) fun _ _ h => .inr h).li fun M v h => by rw [List.map_id] at h; exact h.sq)) fun _ _ h => .inr h).s) rok) fun v6 M8 H8 s78 L8 r6 => ?_
    have s68 := s67.trans s78
    refine n_ifN L8 (gt_is (gt_test (gv_eqT (K := K) (neg := true) py_str inj_str (two rfl rfl s68) (gv_var (P := Tx (twoP d3 cs).shown) rfl rfl) (by simp [PyData.depth]))) (by simp)) fun H9 L9 => ?_
    -- changed behind
    have s48 : Same M4 M8 := s45.trans (s56.trans s68)
    obtain ⟨p4, us4, e4, hp4, hm4, pd4⟩ := (Mon.mono s78 r4_7 : NewL M5 (NewL M5 Tx) cs M8 v4)
    have u4l : us4.length = cs.length := pd4.length.symm
    have m4p : M4 p4 = none := s45.free hm4
    have inner : ∀ u ∈ us4, ∃ (q : Addr) (us : List Str), u = .ref q ∧ M8 q = some (.lst (us.map V.str)) ∧ M4 q = none ∧ us.length ≤ 1000 := fun u hu => by
      obtain ⟨y, hy, q, vs, e, h, hm, pd⟩ := pd_mem pd4 u hu
      refine ⟨q, y, e, by rw [← pd_tx pd]; exact h, s45.free hm, ?_⟩
      have := (PS.lits hd y hy).2
      omega
    obtain ⟨gl, hgl, hgl2⟩ : ∃ gl : List V, (∀ u ∈ gl, u = v3 ∧ ∃ (q : Addr) (us : List Str), u = .ref q ∧ M8 q = some (.lst (us.map V.str)) ∧ M4 q = none ∧ us.length ≤ 1000 ∧ q ≠ p4) ∧ (v3 ∈ gl ∨ TupR K Tx ns M8 v3) := by
      rcases r3 with h | h
      · obtain ⟨q, vs, e, h, hm, pd⟩ := h
        refine ⟨[v3], fun u hu => ?_, .inl (List.mem_singleton_self _)⟩
        rw [List.mem_singleton.mp hu]
        exact ⟨rfl, q, ns, e, by rw [← pd_tx pd]; exact (s56.trans s68) _ _ h, hm, by omega, fun z => by rw [z, hm4] at h; cases h⟩
      · exact ⟨[], fun u hu => (by cases hu), .inr (Mon.mono (s56.trans s68) h)⟩
    have notp : ∀ u ∈ gl ++ us4, u ≠ .ref p4 := fun u hu z => by
      rcases List.mem_append.mp hu with hu | hu
      · obtain ⟨_, q, us, e, _, _, _, ne⟩ := hgl u hu
        rw [e] at z
        cases z
        exact ne rfl
      · obtain ⟨q, us, e, h, _, _⟩ := inner u hu
        rw [e] at z
        cases z
        rw [hp4] at h
        have h2 : us4 = us.map V.str := by injection (Option.some.inj h)
        rw [h2, e] at hu
        obtain ⟨y, _, ey⟩ := List.mem_map.mp hu
        cases ey
    have L9 := L9
    subst e4
    refine z_behindV (S := S) (K := K) (M := M8) (M0 := M4) (p := p4) (vs := us4) (ls := gl ++ us4) L9 s48 rfl hp4 m4p notp (fun u hu => List.mem_append_right _ hu) (by omega) (by show 7 < 13; decide) (fun u hu => by
      rcases List.mem_append.mp hu with hu | hu
      · obtain ⟨_, q, us, h1, h2, h3, h4, _⟩ := hgl u hu
        exact ⟨q, us, h1, h2, h3, h4⟩
      · exact inner u hu) fun y7' H10 L10 hp10 fin => ?_
    have tp4 : thaw M4 M8 p4 = none := by rw [thaw_lst hp4, m4p]
    refine z_app5 (v := .int 5) L10 rfl hp10 tp4 (by omega) fun L11 => ?_
    have hgiv : (∃ (q : Addr) (us : List Str), v3 = .ref q ∧ S.cut (upd H10 p4 (.lst (us4 ++ [.int 5]))) q = some (.lst (us.map V.str)) ∧ thaw M4 M8 q = none ∧ us.length ≤ 2000) ∨ TupR K Tx ns (thaw M4 M8) v3 := by
      rcases hgl2 with h | h
      · obtain ⟨q, us, e, h1, h2, h3⟩ := fin v3 (List.mem_append_left _ h)
        refine .inl ⟨q, us, e, ?_, h2, h3⟩
        rw [cut_put hp10, upd_ne (fun z => notp v3 (List.mem_append_left _ h) (by rw [e, z]))]
        exact h1
      · exact .inr (tupR_thaw h)
    refine z_isApp (K := K) L11 rfl hgiv fun H12 L12 => ?_
    have sT : Same M4 (thaw M4 M8) := thaw_ge s48
    have r6T : RuleR C (mkRule ns cs) (thaw M4 M8) v6 := RuleR.thaw r6
    clear hgiv L11 L10 L9 L8 L7 L6 L5 fin notp hgl hgl2 inner pd4 two r3_7 r4_7 tp4 hp10 r6 r3 r4 rd3
    revert L12 sT r6T
    generalize thaw M4 M8 = MT
    generalize mkRule ns cs = r at rg
    intro L12 sT r6
    have r9T : LiR Tx ns MT v9 := Mon.mono sT r9
    have r10T : LiR TT al MT v10 := Mon.mono sT r10
    have rp := rg.p hd
    have shs : Shorts ns := nm_shorts nm
    have gright : ∀ {σ' : Sl} {M' : Hp}, σ'[6]? = some (some v6) → σ'[9]? = some (some v9) → σ'[10]? = some (some v10) → Same MT M' → Gv (tCall (sp__law_is_right K C) [] E0 (tCons (tVar 6) (tCons (tVar 9) (tCons (tVar 10) tNil)))) σ' M' (Bl true) := fun h6 h9 h10 sm => gv_call3 (R1 := RuleR C) (R2 := LiR Tx) (R3 := LiR TT) (pre := fun r ns al => DR ns al ∧ RG ns al r) (R := fun _ _ _ => Bl true) (x := r) (y := ns) (z := al) (gv_var h6 (Mon.mono sm r6)) (gv_var h9 (Mon.mono sm r9T)) (gv_var h10 (Mon.mono sm r10T)) ⟨hd, rg⟩
    refine n_ifN L12 (gt_is (gt_or (b := false) (c := false) (gt_is (gt_not (gt_B (gright rfl rfl rfl (Same.refl _)))) rfl) fun _ => gt_is (gt_not (gt_B (gright rfl rfl rfl (Same.refl _)))) rfl) rfl) fun H14 L14 => ?_
    have flen : (fulls ns).length ≤ 64 := by
      rw [fulls_len]
      exact Nat.le_trans (Nat.pow_le_pow_right (by decide) k6) (by decide)
    have gin : ∀ {σ' : Sl} {M' : Hp} {te : TE} {d : PyData}, σ'[6]? = some (some v6) → Same MT M' → shortL d → Gv te σ' M' (DdE K d) → Gv (tOp (rInO C (sp_Rule_containsE K C) false) te (tVar 6)) σ' M' (Bl (inR r d)) := fun {σ' M' te d} h6 sm hs h => gv_is (gv_inO (R1 := RuleR C) (R2 := DdE K) (pre := fun r d => Shorts r.names ∧ shortL d) (B := inR) (x := r) (y := d) (neg := false) h (gv_var h6 (Mon.mono sm r6)) inst_rule' ⟨by rw [rg.n]; exact shs, hs⟩) fun M v h => by rw [show v = _ from h, Bool.false_xor]
    -- each full setting
    have L14 := L14.le (show kb + 100 + ((fulls ns).length - 0) * 6 ≤ kb + 2999 by omega)
    refine n_for (S := S) (xs := fulls ns) (R := TT) (fun i => kb + 100 + ((fulls ns).length - i) * 6) (fun _ _ σ' => ∃ z7 z11, σ' = [some v, some (.ref S.a), some v2, some v3, some (.ref p4), some (.str (twoP d3 cs).shown), some v6, z7, y8, some v9, some v10, z11, none]) L14 (gi_sq (K := K) (gv_is (gv_call1 (R1 := SqR K Tx) (pre := fun ns => ns.length ≤ 6 ∧ Shorts ns) (R := fun ns => LiR TT (fulls ns)) (x := ns) (gv_is (gv_var rfl r9T) fun _ _ h => h.sq) ⟨k6, shs⟩) fun _ _ h => h.sq)) tg_1 (fun _ _ _ _ _ h => h) ⟨_, _, rfl⟩ ?_ ?_
    · rintro j z σ' M' H' σ2 nx' hnx' hz sm ⟨z7, z11, rfl⟩ L ⟨u, ru, rfl⟩
      have hj : j < (fulls ns).length := (List.getElem?_eq_some_iff.mp hz).1
      have zm : z ∈ fulls ns := List.mem_of_getElem? hz
      have zp := fulls_paired zm
      have zl := side_lits nm zp
      have zn : z.length = ns.length := fulls_each _ z zm
      have za : asc z ns = z := asc_paired nm zp
      have ej : ((fulls ns).length - j) * 6 = ((fulls ns).length - (j + 1)) * 6 + 6 := by
        have : (fulls ns).length - j = ((fulls ns).length - (j + 1)) + 1 := by omega
        rw [this, Nat.succ_mul]
      have L : Zs S M' H' (kb + 100 + ((fulls ns).length - (j + 1)) * 6 + 6) := L.le (by omega)
      have inT : inR r (.tuple (z.map .str)) = decide (z ∈ al) := by rw [(inR_l rg nm zl zn).2, za]
      refine n_asg (S := S) (k := kb + 100 + ((fulls ns).length - (j + 1)) * 6) (c := 6) (P := Dd K (.list [.bool (decide (z ∈ al)), .bool (decide (z ∈ al))])) L (gs_two2 (K := K) ?_ ?_) fun v11 M2 H2 s2 L2 r11 => ?_
      · exact gv_is (gin rfl sm (shl_lits nm zl).2 (gv_is (gv_var rfl ru) fun M v h => .inl (.inl (py_TT _ _ _ h)))) fun M v h => by rw [show v = _ from h, inT]
      · refine gs_op (c1 := 6) (c2 := 0) (P := Ex (LiR Tx) fun ys => List.Perm ys z) (P1 := RuleR C r) (GvS.cost (c := z.length) ((gls_call1 (S := S) (R1 := SqR K Tx) (pre := fun xs => xs.length ≤ 1000000) (cs := fun xs => xs.length) (R := fun xs M ws => ∃ ys : List Str, ys.Perm xs ∧ Pd Tx M ys ws) (x := z) rfl (gv_is (gv_var rfl ru) fun _ _ h => h.sq) (by omega)).gv fun M ws p ⟨ys, py, pd⟩ m => ⟨ys, py, p, ws, rfl, upd_same, pd.mono (same_new m)⟩) (by omega)) (gv_var rfl (Mon.mono sm r6)).s fun M2 u1 u2 ⟨ys, py, ru1⟩ ru2 => fun H mh Q q => ?_
        exact gv_inO (R1 := RuleR C) (R2 := DdE K) (pre := fun r d => Shorts r.names ∧ shortL d) (B := inR) (x := r) (y := .list (ys.map .str)) (neg := false) (σ := []) (gv_c (P := DdE K _) (.inl (.inl (li_ddl (li_map py_str ru1))))) (gv_c ru2) inst_rule' ⟨by rw [rg.n]; exact shs, (shl_lits nm (zl.perm py)).1⟩ H mh Q fun v M' H' g r => q v M' H' g (by rw [show v = _ from r, (inR_l rg nm (zl.perm py) (by rw [py.length_eq]; exact zn)).1, perm_asc py, za, Bool.false_xor])
      have sm2 := sm.trans s2
      have ru2 : TT z M2 u := Mon.mono s2 ru
      refine e_ifS (c := 0) L2 (GvT.s (gt_is (gt_or (b := false) (c := false) (gt_is (gt_not (gt_B (gv_is (gv_call2 (R1 := Dd K) (R2 := Dd K) (pre := fun d e => FitD d ∧ FitD e) (R := fun d e => Bl (decide (d.shown = e.shown))) (x := .list [.bool (decide (z ∈ al)), .bool (decide (z ∈ al))]) (y := .list [.bool (decide (z ∈ al)), .bool (decide (z ∈ al))]) (gv_var rfl r11) ?_ ⟨fit_bb _ _, fit_bb _ _⟩) fun M v h => by rw [show v = _ from h, decide_eq_true rfl]))) rfl) fun _ => gt_is (gt_or (b := false) (c := false) ?_ fun _ => ?_) rfl) rfl)) fun M3 H3 s3 L3 => hnx' M3 H3 _ (s2.trans s3) ⟨_, _, rfl⟩ L3
      · exact gv_is (gl_rep1 (R := Dd K) (x := .bool (decide (z ∈ al))) (n := 2) (gv_is (gv_inD (K := K) (R := TT) (neg := false) (x := z) (xs := al) py_TT inj_TT (gv_var rfl ru2) (gv_is (gv_var rfl (Mon.mono sm2 r10T)) fun _ _ h => h.sq) (by simp [PyData.depth, depthS])) fun M v h => by
          rw [show v = _ from h, Bool.false_xor]
          exact py_bl _ M _ (by show V.bl _ = V.bl _; congr 1; simp)) (gv_c rfl) (by decide)).li fun _ _ h => li_ddl h
      · refine gt_test (gv_is (gin (d := .tuple ((z ++ [("zz" : Str)]).map .str)) rfl sm2 (shl_strs (fun x hx => ?_) (by rw [List.length_append]; show _ + 1 ≤ _; omega)).2 (gv_is (gv_addTT (K := K) (gv_var rfl ru2) (gv_tup1 (gv_c rfl)) (szM (by show _ + 1 ≤ _; omega))) fun M v h => .inl (.inl (py_TT _ M v h)))) fun M v h => by
          rw [show v = _ from h, inR_len (by rw [rg.n]; show ((z ++ [("zz" : Str)]).map PyData.str).length ≠ _; rw [List.length_map, List.length_append]; show _ + 1 ≠ _; omega)])
        rcases List.mem_append.mp hx with hx | hx
        · exact Nat.le_trans (lits_short zl nm x hx) (by decide)
        · rw [List.mem_singleton.mp hx]; decide
      · refine gt_is (gt_and (b := inR r (.tuple ((cutL z none (some (-1))).map .str))) (c := decide (z ≠ [])) (gt_test (gin rfl sm2 (shl_strs (fun x hx => Nat.le_trans (lits_short zl nm x ((cut_sub z none (some (-1))).subset hx)) (by decide)) (Nat.le_trans (cut_sub z none (some (-1))).length_le (by omega))).2 (gv_is (gv_cutT (K := K) (R := Tx) (xs := z) (lo := none) (hi := some (-1)) (gv_is (gv_var rfl ru2) fun _ _ h => h.ts) (fun _ _ q => q) (fun H Q q => ⟨1, rfl, _, rfl, q⟩)) fun M v h => .inl (.inl (py_TT _ M v h.tt))))) fun _ => gt_test (gv_is (gv_eqT (K := K) (neg := true) (x := z) (y := ([] : List Str)) py_TT inj_TT (gv_var rfl ru2) gv_nilT (by simp [PyData.depth, depthS])) fun M v h => by rw [show v = _ from h]; simp)) ?_
        by_cases hz0 : z = []
        · rw [hz0]; simp
        · rw [inR_len]
          · rfl
          · rw [rg.n]
            show ((cutL z none (some (-1))).map PyData.str).length ≠ _
            have e : cutL z none (some (-1)) = z.dropLast := by
              conv => lhs; rw [← List.dropLast_concat_getLast hz0]
              exact cut_last _ _
            rw [List.length_map, e, List.length_dropLast]
            have : z.length ≠ 0 := fun h => hz0 (List.eq_nil_of_length_eq_zero h)
            omega
    rintro σ' M15 H15 sT15 ⟨z7, z11, rfl⟩ L15
    have L15 := L15.le (show kb + 100 ≤ kb + 100 + ((fulls ns).length - (fulls ns).length) * 6 by omega)
    -- other things
    have odds := oddR_no r
    refine n_ifN L15 (gt_is (gt_B (gv_any (bs := oddR.map fun d => inR r d) (gl_m1 (S := Bl) (R := DdE K) (xs := oddR) (gi_sq (K := K) (gv_is (gv_lstG (R := DdE K) ?_ (by show 8 ≤ 1000; decide)) fun _ _ h => h.sq)) (szK (by show 8 ≤ 1000000; decide)) (fun d => inR r d) fun d hd M' u sm ru => gin rfl (sT15.trans sm) (odds d hd).2 (gv_var rfl ru)))) ?_) fun H17 L17 => ?_
    · exact ga_rl (R := DdE K) (x := PyData.none) (gv_c (P := DdE K .none) (.inl (.inl .non))) fun _ e1 => ga_rl (R := DdE K) (x := PyData.int 5) (gv_c (P := DdE K (.int 5)) (.inl (.inl (.int 5)))) fun _ e2 => ga_rl (R := DdE K) (x := PyData.str "") (gv_is (gf_str (gv_c rfl)) fun _ _ h => .inl h) fun _ e3 => ga_rl (R := DdE K) (x := PyData.str "a") (gv_is (gf_str (gv_c rfl)) fun _ _ h => .inl h) fun _ e4 => ga_rl (R := DdE K) (x := PyData.dict []) (gv_is gf_dnew fun _ _ h => .inl h) fun _ e5 => ga_rl (R := DdE K) (x := PyData.list [.str "a", .int 5]) (gv_is (gl_twoL (R := Dd K) (x := .str "a") (y := .int 5) (gv_c (.str "a")) (gv_c (.int 5))).li fun _ _ h => .inl (.inl (li_ddl h))) fun _ e6 =>
        ga_rl (R := DdE K) (x := PyData.list [.list [.str "a"]]) (gv_is (gl_one (R := Dd K) (x := .list [.str "a"]) (gv_is (gl_one (R := Dd K) (x := .str "a") (gv_c (.str "a"))).li fun _ _ h => li_ddl h)).li fun _ _ h => .inl (.inl (li_ddl h))) fun _ e7 => ga_rl (R := DdE K) (x := PyData.bool true) (gv_c (P := DdE K (.bool true)) (.inl (.inl (.bl true)))) fun _ _ => ga_rl0
    · rw [List.any_eq_false]
      intro b hb
      obtain ⟨d, hd, rfl⟩ := List.mem_map.mp hb
      rw [(odds d hd).1]; simp
    -- the twin
    obtain ⟨tok, tp, teq⟩ := twinR hd
    refine n_asg (S := S) (k := kb + 100) (c := 0) (P := RuleR C (mkRule ns.reverse (al.map List.reverse))) L17 (gv_mkRule (K := K) (C := C) (gv_is (gl_revL (K := K) (R := Tx) (xs := ns) (gv_is (gv_var rfl (Mon.mono sT15 r9T)) fun _ _ h => h.lst)).li fun _ _ h => h.sq) (gv_is (gl_m1 (S := TT) (R := TT) (xs := al) (gi_sq (K := K) (gv_is (gv_var rfl (Mon.mono sT15 r10T)) fun _ _ h => h.sq)) (szK (by omega)) List.reverse fun x hx M' u' sm ru => gv_revT (K := K) (gv_var rfl ru)).li fun _ _ h => liTT_sqq h) tok).s fun v8 M18 H18 s18 L18 r8 => ?_
    have sT18 := sT15.trans s18
    have teq := teq r rg
    have r6_18 : RuleR C r M18 v6 := Mon.mono sT18 r6
    refine e_ifS (k := kb) (c := 0 + (0 + 13)) (L18.le (by omega)) (GvTS.is (gts_or (B := (· = false)) (C := (· = false)) (GvT.s (gt_is (gt_not (gt_test (gv_eqO (R1 := RuleR C) (pre := fun a b => RuleP a ∧ RuleP b) (B := eqR) (neg := false) (gv_var rfl r8) (gv_var rfl r6_18) inst_rule ⟨tp, rp⟩))) (by rw [teq]; rfl))) fun _ => GvTS.is (gts_or (B := (· = false)) (C := (· = false)) (GvT.s (gt_is (gt_test (gv_eqO (R1 := RuleR C) (pre := fun a b => RuleP a ∧ RuleP b) (B := eqR) (neg := true) (gv_var rfl r8) (gv_var rfl r6_18) inst_rule ⟨tp, rp⟩)) (by rw [teq]; rfl))) fun _ => GvTS.is (gts_not (B := (· = true)) (gts_B (P := Bl true) (fun H k mh a Q q => ⟨_, rfl, _, rfl, _, rfl, _, rfl, S, r, ns, al, M18, v6, v9, v10, k, rfl, mh, a, r6_18, Mon.mono sT18 r9T, Mon.mono sT18 r10T, hd, rg, fun M' H' g a' => q _ M' H' g a' rfl⟩) fun M v h => ⟨true, h, rfl⟩)) fun b h => by revert h; cases b <;> simp) fun b h => by rcases h with ⟨_, h⟩ | ⟨_, h⟩ <;> first | exact h | cases h) fun b h => by rcases h with ⟨_, h⟩ | ⟨_, h⟩ <;> first | exact h | cases h) fun M22 H22 s22 L22 => hnx M22 H22 _ (s34.trans ((sT.trans sT18).trans s22)) ⟨_, _, _, _, _, _, _, _, _, _, rfl⟩ L22
end
end My

set_option Elab.async false
set_option linter.all false
set_option maxRecDepth 100000
set_option maxHeartbeats 4000000
namespace My
open PySem PySem.Spec PyProof.Rows L2 L3
/-- a def of the text behind the top -/
structure At1 (K : PySem.W.Frag) (x : Str) (st : Stmt) (f : Addr) : Prop where
  ns : PySem.W.nsIn K mainGlobals x = some (some (.ref f))
  fn : ∃ fd, Fun K x x st f fd
theorem at1 {K : PySem.W.Frag} {x : Str} {st : Stmt} {f : Addr} {oc : Value} {od an : Option Addr} {osl : Array (Option Value)} {kV doc pm cdv ct : Value} (a : PySem.W.nsIn K mainGlobals x = some (some (.ref f)))
    (l : K.lookup f = some ⟨oc, od, .func (PySem.W.fnOf x x (defArgs st) (defBody st) (defScope st) .none kV doc pm an cdv ct), osl⟩) (c : PySem.W.codeIn K cdv x = true) (k : PySem.W.keepIn K (.ref f) = true) : At1 K x st f := ⟨a, _, fun_mk (st := st) l c k⟩
/-- one that has a text for its default -/
structure AtD (K : PySem.W.Frag) (x : Str) (st : Stmt) (z : Str) (f : Addr) : Prop where
  ns : PySem.W.nsIn K mainGlobals x = some (some (.ref f))
  fn : ∃ fd, FunD K x x (defArgs st) (defBody st) (defScope st) [.str z] [] f fd
theorem atd {K : PySem.W.Frag} {x z : Str} {st : Stmt} {f T : Addr} {oc tc : Value} {od an td : Option Addr} {osl tsl : Array (Option Value)} {kV doc pm cdv ct : Value} {tn : Nat} {tk : Tok} (a : PySem.W.nsIn K mainGlobals x = some (some (.ref f)))
    (l : K.lookup f = some ⟨oc, od, .func (PySem.W.fnOf x x (defArgs st) (defBody st) (defScope st) (.ref T) kV doc pm an cdv ct), osl⟩) (lT : K.lookup T = some ⟨tc, td, .seq #[.str z tk] tn, tsl⟩) (c : PySem.W.codeIn K cdv x = true) (k : PySem.W.keepIn K (.ref f) = true) : AtD K x st z f :=
  ⟨a, _, ⟨⟨oc, od, .ref T, kV, doc, pm, an, cdv, ct, osl, rfl, l, c, .inr ⟨by simp, T, _, [.str z tk], tn, rfl, lT, rfl, .cons ⟨_, rfl⟩ .nil⟩, .inl rfl⟩, k⟩⟩
/-- a method of a class of the text -/
structure AtM (K : PySem.W.Frag) (C : Addr) (m q : Str) (st : Stmt) (f : Addr) : Prop where
  me : Meth K C m f
  fn : ∃ fd, Fun K m q st f fd
theorem atm {K : PySem.W.Frag} {C : Addr} {m q : Str} {st : Stmt} {f : Addr} {oc : Value} {od an : Option Addr} {osl : Array (Option Value)} {kV doc pm cdv ct : Value} (a : PySem.W.findIn K (.ref C) m = some (some (.ref f))) (i : PySem.W.isFn K (.ref f) = true)
    (l : K.lookup f = some ⟨oc, od, .func (PySem.W.fnOf m q (defArgs st) (defBody st) (defScope st) .none kV doc pm an cdv ct), osl⟩) (c : PySem.W.codeIn K cdv q = true) (k : PySem.W.keepIn K (.ref f) = true) : AtM K C m q st f := ⟨⟨a, i, k⟩, _, fun_mk (st := st) l c k⟩
/-- a method with the default () -/
structure AtE (K : PySem.W.Frag) (C : Addr) (m q : Str) (st : Stmt) (e : Addr) (f : Addr) : Prop where
  me : Meth K C m f
  fn : ∃ fd, FunD K m q (defArgs st) (defBody st) (defScope st) [.ref e] [] f fd
theorem ate {K : PySem.W.Frag} {C : Addr} {m q : Str} {st : Stmt} {e f T : Addr} {oc tc : Value} {od an td : Option Addr} {osl tsl : Array (Option Value)} {kV doc pm cdv ct : Value} {tn : Nat} (a : PySem.W.findIn K (.ref C) m = some (some (.ref f))) (i : PySem.W.isFn K (.ref f) = true)
    (l : K.lookup f = some ⟨oc, od, .func (PySem.W.fnOf m q (defArgs st) (defBody st) (defScope st) (.ref T) kV doc pm an cdv ct), osl⟩) (lT : K.lookup T = some ⟨tc, td, .seq #[.ref e] tn, tsl⟩) (c : PySem.W.codeIn K cdv q = true) (k : PySem.W.keepIn K (.ref f) = true) : AtE K C m q st e f :=
  ⟨⟨a, i, k⟩, _, ⟨⟨oc, od, .ref T, kV, doc, pm, an, cdv, ct, osl, rfl, l, c, .inr ⟨by simp, T, _, [.ref e], tn, rfl, lT, rfl, .cons rfl .nil⟩, .inl rfl⟩, k⟩⟩
/-- a class of the text -/
structure AtC (K : PySem.W.Frag) (x : Str) (C : Addr) : Prop where
  ns : PySem.W.nsIn K mainGlobals x = some (some (.ref C))
  cl : Cls K C
  mks : PySem.W.makesIn K C = true
  kc : PySem.W.keepIn K (.ref C) = true
theorem atc {K : PySem.W.Frag} {x : Str} {C : Addr} (a : PySem.W.nsIn K mainGlobals x = some (some (.ref C))) (pg : PySem.W.plainGet K C Str.empty = true) (hd : PySem.W.hasDictIn K C = true) (po : PySem.W.plainOver K C = true) (sa : PySem.W.findIn K (.ref C) "__setattr__" = some (some (.builtin "object.__setattr__"))) (mk : PySem.W.makesIn K C = true) (kc : PySem.W.keepIn K (.ref C) = true) : AtC K x C := ⟨a, ⟨pg, hd, po, sa⟩, mk, kc⟩
theorem all_mk {l : PySem.W.OpenLaw} {w : World} {K : PySem.W.Frag} {h : Heap} {mg : Str → Option Value} {fa CR f0 f1 f2 f3 f4 f5 f6 f7 f8 f9 f10 f11 f12 f13 f14 f15 f16 f17 f18 f19 f20 g0 g1 g2 g3 g4 g5 g6 g7 : Addr} {lt : Tok} {lm : Tok} (X : K.In h) (G : h.Ns mainGlobals mg) (hfa : mg "law" = some (.ref fa))
    (clRule : AtC K "Rule" CR)
    (d0 : At1 K "name_of" s_name_of f0)
    (d1 : At1 K "is_list" s_is_list f1)
    (d2 : At1 K "is_literal" s_is_literal f2)
    (d3 : At1 K "first_wrong" s_first_wrong f3)
    (d4 : At1 K "ascending" s_ascending f4)
    (d5 : At1 K "is_name" s_is_name f5)
    (d6 : At1 K "checked_names" s_checked_names f6)
    (d7 : At1 K "full_settings" s_full_settings f7)
    (d8 : At1 K "checked_settings" s_checked_settings f8)
    (d9 : At1 K "_law_draw" s__law_draw f9)
    (d10 : At1 K "_law_pick" s__law_pick f10)
    (d11 : At1 K "_law_mixed" s__law_mixed f11)
    (d12 : At1 K "_law_fresh" s__law_fresh f12)
    (d13 : At1 K "_law_names" s__law_names f13)
    (d14 : At1 K "_law_up" s__law_up f14)
    (d15 : At1 K "_law_fulls" s__law_fulls f15)
    (d16 : At1 K "_law_drawn_rule" s__law_drawn_rule f16)
    (d17 : At1 K "_law_same" s__law_same f17)
    (d18 : At1 K "_law_is_right" s__law_is_right f18)
    (d19 : At1 K "_law_is_unlike" s__law_is_unlike f19)
    (d20 : At1 K "law" s_law f20)
    (e1 : AtM K CR "__init__" "Rule.__init__" s_Rule_init g0)
    (e2 : AtM K CR "signs" "Rule.signs" s_Rule_signs g1)
    (e3 : AtM K CR "settings" "Rule.settings" s_Rule_settings g2)
    (e4 : AtM K CR "__len__" "Rule.__len__" s_Rule_len g3)
    (e5 : AtM K CR "allows" "Rule.allows" s_Rule_allows g4)
    (e6 : AtM K CR "__contains__" "Rule.__contains__" s_Rule_contains g5)
    (e7 : AtM K CR "__eq__" "Rule.__eq__" s_Rule_eq g6)
    (e8 : AtM K CR "__le__" "Rule.__le__" s_Rule_le g7)
    (qRule0 : PySem.W.findIn K (.ref CR) "names" = some none)
    (qRule1 : PySem.W.findIn K (.ref CR) "allowed" = some none)
    (neRule : PySem.W.findIn K (.ref CR) "__ne__" = some (some (.builtin "object.__ne__")))
    (obRule : PySem.W.subIn K (.ref CR) (.type "object") = some true)
    (gcRule : PySem.W.findIn K (.ref CR) "__class__" = some (some (.builtin "object.__class__")))
    (spRule : PySem.W.specialIn K (.builtin "object.__class__") "__get__" = some (some (.builtin "getset_descriptor.__get__")))
    (tkRule : PySem.W.takesIn K (.builtin "object.__class__") = some true)
    (mrRule : PySem.W.mroIn K CR (.type "object") = some true)
    (oflRule : PySem.W.subIn K (.ref CR) (.type "list") = some false)
    (oftRule : PySem.W.subIn K (.ref CR) (.type "tuple") = some false)
    (ofdRule : PySem.W.subIn K (.ref CR) (.type "dict") = some false)
    (ofsRule : PySem.W.subIn K (.ref CR) (.type "str") = some false)
    (ofiRule : PySem.W.subIn K (.ref CR) (.type "int") = some false)
    (ofbRule : PySem.W.subIn K (.ref CR) (.type "bool") = some false)
    (ofnRule : PySem.W.subIn K (.ref CR) (.type "NoneType") = some false)
    (ofcRule : (PySem.W.clsIn K CR).isSome = true)
    (ofyRule : PySem.W.typeIn K (.ref CR) = some (.type "type"))
    (gL : PySem.W.nsIn K mainGlobals "LETTERS" = some (some (.str g_LETTERS lt)))
    (gM : PySem.W.nsIn K mainGlobals "MOST_SIGNS" = some (some (.int 6 lm)))
    (z_len : PySem.W.nsIn K mainGlobals "len" = some none)
    (z_tuple : PySem.W.nsIn K mainGlobals "tuple" = some none)
    (z_list : PySem.W.nsIn K mainGlobals "list" = some none)
    (z_str : PySem.W.nsIn K mainGlobals "str" = some none)
    (z_int : PySem.W.nsIn K mainGlobals "int" = some none)
    (z_all : PySem.W.nsIn K mainGlobals "all" = some none)
    (z_any : PySem.W.nsIn K mainGlobals "any" = some none)
    (z_isinstance : PySem.W.nsIn K mainGlobals "isinstance" = some none)
    (z_enumerate : PySem.W.nsIn K mainGlobals "enumerate" = some none)
    (z_range : PySem.W.nsIn K mainGlobals "range" = some none)
    (z_repr : PySem.W.nsIn K mainGlobals "repr" = some none)
    (z_bool : PySem.W.nsIn K mainGlobals "bool" = some none)
    : ∃ fd : FuncData, (∀ (s : Shared) (v : Value), BindsTo s fd ⟨[v], []⟩ [("_law_script", v)]) ∧ ∀ base : Heap, K.In base → base.Ns mainGlobals mg → FnG l.prog w K mg base CX0 9 fa fd ["_law_script"] (sp_law K) := by
  have T0 : Ge mg := { len := PySem.W.mg_none_of X G z_len, tuple := PySem.W.mg_none_of X G z_tuple, list := PySem.W.mg_none_of X G z_list, str := PySem.W.mg_none_of X G z_str, int := PySem.W.mg_none_of X G z_int, all := PySem.W.mg_none_of X G z_all, any := PySem.W.mg_none_of X G z_any, isinstance := PySem.W.mg_none_of X G z_isinstance, enumerate := PySem.W.mg_none_of X G z_enumerate, range := PySem.W.mg_none_of X G z_range, repr := PySem.W.mg_none_of X G z_repr, bool := PySem.W.mg_none_of X G z_bool, g_LETTERS := ⟨_, PySem.W.mg_of X G gL⟩, g_MOST_SIGNS := ⟨_, PySem.W.mg_of X G gM⟩ }
  have TR : RuleT K mg CR := ⟨clRule.cl, qRule0, qRule1⟩
  have NERule : NeObj K CR := ⟨neRule, obRule⟩
  have ISRule : InsF K CR := ⟨clRule.cl, gcRule, spRule, tkRule, mrRule⟩
  have g_Rule : mg "Rule" = some (.ref CR) := PySem.W.mg_of X G clRule.ns
  have OFRule : OffC K CR := ⟨oflRule, oftRule, ofdRule, ofsRule, ofiRule, ofbRule, ofnRule, ofcRule, ofyRule⟩
  obtain ⟨n0, fd0, F0⟩ := d0
  have b0 := F0.binds (ps := ["literal"]) fun _ _ _ _ _ _ us hl => match us, hl with | [_], _ => rfl
  obtain ⟨n1, fd1, F1⟩ := d1
  have b1 := F1.binds (ps := ["thing"]) fun _ _ _ _ _ _ us hl => match us, hl with | [_], _ => rfl
  obtain ⟨n2, fd2, F2⟩ := d2
  have b2 := F2.binds (ps := ["thing", "names"]) fun _ _ _ _ _ _ us hl => match us, hl with | [_, _], _ => rfl
  obtain ⟨n3, fd3, F3⟩ := d3
  have b3 := F3.binds (ps := ["things", "names"]) fun _ _ _ _ _ _ us hl => match us, hl with | [_, _], _ => rfl
  obtain ⟨n4, fd4, F4⟩ := d4
  have b4 := F4.binds (ps := ["literals", "names"]) fun _ _ _ _ _ _ us hl => match us, hl with | [_, _], _ => rfl
  obtain ⟨n5, fd5, F5⟩ := d5
  have b5 := F5.binds (ps := ["thing"]) fun _ _ _ _ _ _ us hl => match us, hl with | [_], _ => rfl
  obtain ⟨n6, fd6, F6⟩ := d6
  have b6 := F6.binds (ps := ["things", "known"]) fun _ _ _ _ _ _ us hl => match us, hl with | [_, _], _ => rfl
  obtain ⟨n7, fd7, F7⟩ := d7
  have b7 := F7.binds (ps := ["names"]) fun _ _ _ _ _ _ us hl => match us, hl with | [_], _ => rfl
  obtain ⟨n8, fd8, F8⟩ := d8
  have b8 := F8.binds (ps := ["settings", "names"]) fun _ _ _ _ _ _ us hl => match us, hl with | [_, _], _ => rfl
  obtain ⟨n9, fd9, F9⟩ := d9
  have b9 := F9.binds (ps := ["_law_stream", "_law_many"]) fun _ _ _ _ _ _ us hl => match us, hl with | [_, _], _ => rfl
  obtain ⟨n10, fd10, F10⟩ := d10
  have b10 := F10.binds (ps := ["_law_stream", "_law_things"]) fun _ _ _ _ _ _ us hl => match us, hl with | [_, _], _ => rfl
  obtain ⟨n11, fd11, F11⟩ := d11
  have b11 := F11.binds (ps := ["_law_stream", "_law_things"]) fun _ _ _ _ _ _ us hl => match us, hl with | [_, _], _ => rfl
  obtain ⟨n12, fd12, F12⟩ := d12
  have b12 := F12.binds (ps := ["_law_stream", "_law_taken"]) fun _ _ _ _ _ _ us hl => match us, hl with | [_, _], _ => rfl
  obtain ⟨n13, fd13, F13⟩ := d13
  have b13 := F13.binds (ps := ["_law_stream", "_law_many"]) fun _ _ _ _ _ _ us hl => match us, hl with | [_, _], _ => rfl
  obtain ⟨n14, fd14, F14⟩ := d14
  have b14 := F14.binds (ps := ["_law_some", "_law_names_here"]) fun _ _ _ _ _ _ us hl => match us, hl with | [_, _], _ => rfl
  obtain ⟨n15, fd15, F15⟩ := d15
  have b15 := F15.binds (ps := ["_law_names_here"]) fun _ _ _ _ _ _ us hl => match us, hl with | [_], _ => rfl
  obtain ⟨n16, fd16, F16⟩ := d16
  have b16 := F16.binds (ps := ["_law_stream", "_law_most"]) fun _ _ _ _ _ _ us hl => match us, hl with | [_, _], _ => rfl
  obtain ⟨n17, fd17, F17⟩ := d17
  have b17 := F17.binds (ps := ["_law_found", "_law_due"]) fun _ _ _ _ _ _ us hl => match us, hl with | [_, _], _ => rfl
  obtain ⟨n18, fd18, F18⟩ := d18
  have b18 := F18.binds (ps := ["_law_rule", "_law_signs", "_law_allowed"]) fun _ _ _ _ _ _ us hl => match us, hl with | [_, _, _], _ => rfl
  obtain ⟨n19, fd19, F19⟩ := d19
  have b19 := F19.binds (ps := ["_law_rule", "_law_signs", "_law_allowed", "_law_stream"]) fun _ _ _ _ _ _ us hl => match us, hl with | [_, _, _, _], _ => rfl
  obtain ⟨n20, fd20, F20⟩ := d20
  have b20 := F20.binds (ps := ["_law_script"]) fun _ _ _ _ _ _ us hl => match us, hl with | [_], _ => rfl
  obtain ⟨me0, gd0, E0⟩ := e1
  have u0 := E0.binds (ps := ["self", "signs", "settings"]) fun _ _ _ _ _ _ us hl => match us, hl with | [_, _, _], _ => rfl
  obtain ⟨me1, gd1, E1⟩ := e2
  have u1 := E1.binds (ps := ["self"]) fun _ _ _ _ _ _ us hl => match us, hl with | [_], _ => rfl
  obtain ⟨me2, gd2, E2⟩ := e3
  have u2 := E2.binds (ps := ["self"]) fun _ _ _ _ _ _ us hl => match us, hl with | [_], _ => rfl
  obtain ⟨me3, gd3, E3⟩ := e4
  have u3 := E3.binds (ps := ["self"]) fun _ _ _ _ _ _ us hl => match us, hl with | [_], _ => rfl
  obtain ⟨me4, gd4, E4⟩ := e5
  have u4 := E4.binds (ps := ["self", "literals"]) fun _ _ _ _ _ _ us hl => match us, hl with | [_, _], _ => rfl
  obtain ⟨me5, gd5, E5⟩ := e6
  have u5 := E5.binds (ps := ["self", "thing"]) fun _ _ _ _ _ _ us hl => match us, hl with | [_, _], _ => rfl
  obtain ⟨me6, gd6, E6⟩ := e7
  have u6 := E6.binds (ps := ["self", "other"]) fun _ _ _ _ _ _ us hl => match us, hl with | [_, _], _ => rfl
  obtain ⟨me7, gd7, E7⟩ := e8
  have u7 := E7.binds (ps := ["self", "other"]) fun _ _ _ _ _ _ us hl => match us, hl with | [_, _], _ => rfl
  have e := hfa.symm.trans (PySem.W.mg_of X G n20)
  cases e
  refine ⟨fd20, fun s v => ?_, fun base _ _ => ?_⟩
  · obtain ⟨oc, od, kV, doc, pm, an, cdv, ct, osl, rfl, _⟩ := F20.ex
    exact .of_eq rfl
  have c_name_of : Cal l.prog w K mg base 1 "name_of" ["literal"] (sp_name_of K) := ⟨f0, fd0, ok_name_of F0, PySem.W.mg_of X G n0, F0.kp, b0⟩
  have c_is_list : Cal l.prog w K mg base 1 "is_list" ["thing"] (sp_is_list K) := ⟨f1, fd1, ok_is_list F1 T0.toBi, PySem.W.mg_of X G n1, F1.kp, b1⟩
  have c_is_literal : Cal l.prog w K mg base 2 "is_literal" ["thing", "names"] (sp_is_literal K) := ⟨f2, fd2, ok_is_literal F2 T0.toBi c_name_of, PySem.W.mg_of X G n2, F2.kp, b2⟩
  have c_first_wrong : Cal l.prog w K mg base 3 "first_wrong" ["things", "names"] (sp_first_wrong K) := ⟨f3, fd3, ok_first_wrong F3 T0.toBi c_is_list c_name_of c_is_literal, PySem.W.mg_of X G n3, F3.kp, b3⟩
  have c_ascending : Cal l.prog w K mg base 1 "ascending" ["literals", "names"] (sp_ascending K) := ⟨f4, fd4, ok_ascending F4 T0.toBi, PySem.W.mg_of X G n4, F4.kp, b4⟩
  have c_is_name : Cal l.prog w K mg base 1 "is_name" ["thing"] (sp_is_name K) := ⟨f5, fd5, ok_is_name F5 T0.toGb, PySem.W.mg_of X G n5, F5.kp, b5⟩
  have c_checked_names : Cal l.prog w K mg base 2 "checked_names" ["things", "known"] (sp_checked_names K) := ⟨f6, fd6, ok_checked_names F6 T0.toGb c_is_name, PySem.W.mg_of X G n6, F6.kp, b6⟩
  have cE_is_list : Cal l.prog w K mg base 1 "is_list" ["thing"] (sp_is_listE K) := ⟨f1, fd1, ok_is_listE F1 T0.toBi, PySem.W.mg_of X G n1, F1.kp, b1⟩
  have cE_is_literal : Cal l.prog w K mg base 2 "is_literal" ["thing", "names"] (sp_is_literalE K) := ⟨f2, fd2, ok_is_literalE F2 T0.toBi c_name_of, PySem.W.mg_of X G n2, F2.kp, b2⟩
  have cE_first_wrong : Cal l.prog w K mg base 3 "first_wrong" ["things", "names"] (sp_first_wrongE K) := ⟨f3, fd3, ok_first_wrongE F3 T0.toBi cE_is_list c_name_of cE_is_literal, PySem.W.mg_of X G n3, F3.kp, b3⟩
  have c_full_settings : Cal l.prog w K mg base 1 "full_settings" ["names"] (sp_full_settings K) := ⟨f7, fd7, ok_full_settings F7 T0.toGc, PySem.W.mg_of X G n7, F7.kp, b7⟩
  have c_checked_settings : Cal l.prog w K mg base 4 "checked_settings" ["settings", "names"] (sp_checked_settings K) := ⟨f8, fd8, ok_checked_settings F8 T0.toGc c_first_wrong c_ascending, PySem.W.mg_of X G n8, F8.kp, b8⟩
  have k_Rule : Mak l.prog w K mg base 5 "Rule" CR ["self", "signs", "settings"] (sp_Rule_init K CR) := ⟨g0, gd0, ⟨clRule.mks, me0.at_, me0.fn, clRule.kc⟩, ok_Rule_init E0 T0 TR c_checked_names c_checked_settings, PySem.W.mg_of X G clRule.ns, u0⟩
  have m_signs : Met l.prog w K mg base 1 CR "signs" ["self"] (sp_Rule_signsL K CR) := ⟨g1, gd1, clRule.cl, me1, ok_Rule_signsL E1 T0.toGc TR, u1⟩
  have m_settings : Met l.prog w K mg base 2 CR "settings" ["self"] (sp_Rule_settingsL K CR) := ⟨g2, gd2, clRule.cl, me2, ok_Rule_settingsL E2 T0 TR c_full_settings, u2⟩
  have m_allows : Met l.prog w K mg base 2 CR "allows" ["self", "literals"] (sp_Rule_allows K CR) := ⟨g4, gd4, clRule.cl, me4, ok_Rule_allows E4 TR c_ascending, u4⟩
  have mS_allows : Met l.prog w K mg base 2 CR "allows" ["self", "literals"] (sp_Rule_allowsS K CR) := ⟨g4, gd4, clRule.cl, me4, ok_Rule_allowsS E4 TR c_ascending, u4⟩
  have o_len : OwnLen l.prog w K mg base 1 CR (sp_Rule_len K CR) := ⟨g3, gd3, ok_Rule_len E3 T0.toGc TR, me3.at_, me3.fn, u3⟩
  have o_in : OwnSp l.prog w K mg base 4 CR "__contains__" ["self", "thing"] (sp_Rule_containsE K CR) := ⟨g5, gd5, ok_Rule_containsE E5 T0.toGc TR cE_first_wrong mS_allows, me5.at_, me5.fn, u5⟩
  have o_le : OwnSp l.prog w K mg base 3 CR "__le__" ["self", "other"] (sp_Rule_le K CR) := ⟨g7, gd7, ok_Rule_le E7 T0.toGc TR m_allows, me7.at_, me7.fn, u7⟩
  have o_eq : OwnSp l.prog w K mg base 4 CR "__eq__" ["self", "other"] (sp_Rule_eq K CR) := ⟨g6, gd6, ok_Rule_eq E6 T0.toGc ISRule g_Rule o_len o_le, me6.at_, me6.fn, u6⟩
  have o_eqD : OwnSp l.prog w K mg base 4 CR "__eq__" ["self", "other"] (sp_Rule_eqD K CR) := ⟨g6, gd6, ok_Rule_eqD E6 T0.toGc OFRule g_Rule o_len o_le, me6.at_, me6.fn, u6⟩
  have c__law_draw : Cal l.prog w K mg base 1 "_law_draw" ["_law_stream", "_law_many"] (sp__law_draw K) := ⟨f9, fd9, ok__law_draw F9 T0.toGc, PySem.W.mg_of X G n9, F9.kp, b9⟩
  have c__law_pick : Cal l.prog w K mg base 2 "_law_pick" ["_law_stream", "_law_things"] (sp__law_pick K) := ⟨f10, fd10, ok__law_pick F10 T0.toGc c__law_draw, PySem.W.mg_of X G n10, F10.kp, b10⟩
  have cT__law_pick : Cal l.prog w K mg base 2 "_law_pick" ["_law_stream", "_law_things"] (sp_pickG K TT) := ⟨f10, fd10, ok_pickG F10 T0.toGc c__law_draw, PySem.W.mg_of X G n10, F10.kp, b10⟩
  have c__law_mixed : Cal l.prog w K mg base 2 "_law_mixed" ["_law_stream", "_law_things"] (sp__law_mixed K) := ⟨f11, fd11, ok__law_mixed F11 T0.toGc c__law_draw, PySem.W.mg_of X G n11, F11.kp, b11⟩
  have cT__law_mixed : Cal l.prog w K mg base 2 "_law_mixed" ["_law_stream", "_law_things"] (sp_mixG K TT) := ⟨f11, fd11, ok_mixG F11 T0.toGc c__law_draw, PySem.W.mg_of X G n11, F11.kp, b11⟩
  have c__law_fresh : Cal l.prog w K mg base 3 "_law_fresh" ["_law_stream", "_law_taken"] (sp__law_fresh K) := ⟨f12, fd12, ok__law_fresh F12 T0.toGc c__law_draw c__law_pick, PySem.W.mg_of X G n12, F12.kp, b12⟩
  have c__law_names : Cal l.prog w K mg base 4 "_law_names" ["_law_stream", "_law_many"] (sp__law_names K) := ⟨f13, fd13, ok__law_names F13 T0.toGc c__law_fresh, PySem.W.mg_of X G n13, F13.kp, b13⟩
  have c__law_up : Cal l.prog w K mg base 1 "_law_up" ["_law_some", "_law_names_here"] (sp__law_up K) := ⟨f14, fd14, ok__law_up F14 T0.toBi, PySem.W.mg_of X G n14, F14.kp, b14⟩
  have c__law_fulls : Cal l.prog w K mg base 1 "_law_fulls" ["_law_names_here"] (sp__law_fulls K) := ⟨f15, fd15, ok__law_fulls F15 T0.toGc, PySem.W.mg_of X G n15, F15.kp, b15⟩
  have c__law_drawn_rule : Cal l.prog w K mg base 5 "_law_drawn_rule" ["_law_stream", "_law_most"] (sp__law_drawn_rule K) := ⟨f16, fd16, ok__law_drawn_rule F16 T0.toGc c__law_draw c__law_names c__law_fulls, PySem.W.mg_of X G n16, F16.kp, b16⟩
  have c__law_same : CalG l.prog w K mg base 1 "_law_same" ["_law_found", "_law_due"] (sp__law_same K) := ⟨f17, fd17, ok__law_same F17 T0.toGc, PySem.W.mg_of X G n17, F17.kp, b17⟩
  have c__law_is_right : CalG l.prog w K mg base 4 "_law_is_right" ["_law_rule", "_law_signs", "_law_allowed"] (sp__law_is_right K CR) := ⟨f18, fd18, ok__law_is_right F18 T0.toGc o_len m_signs m_settings c__law_same, PySem.W.mg_of X G n18, F18.kp, b18⟩
  have c__law_is_unlike : Cal l.prog w K mg base 7 "_law_is_unlike" ["_law_rule", "_law_signs", "_law_allowed", "_law_stream"] (sp__law_is_unlike K CR) := ⟨f19, fd19, ok__law_is_unlike F19 T0.toGc OFRule NERule m_settings k_Rule cT__law_pick c__law_fulls c__law_fresh c__law_up o_eq o_eqD, PySem.W.mg_of X G n19, F19.kp, b19⟩
  exact ok_law F20 T0.toGc TR NERule c__law_drawn_rule c__law_draw c__law_mixed cT__law_mixed c__law_is_right c__law_same c__law_fulls c__law_is_unlike k_Rule o_in o_eq
end My

set_option Elab.async false
set_option linter.all false
set_option maxRecDepth 100000
set_option maxHeartbeats 0
namespace Hq
open PySem PySem.Spec PyProof.Rows L2 L3
section
variable {K : PySem.W.Frag}
theorem ns_of {x : Str} (c : (He.Fa.glo x).ok K = true) : PySem.W.nsIn K mainGlobals x = some (some (.ref (He.ga K x))) := He.eqO_ok c
theorem ns_none {x : Str} (c : (He.Fa.free x).ok K = true) : PySem.W.nsIn K mainGlobals x = some none := He.eqO_ok c
theorem ns_str {x z : Str} (c : (He.Fa.str x z).ok K = true) : ∃ t, PySem.W.nsIn K mainGlobals x = some (some (.str z t)) := by
  have c2 : (match PySem.W.nsIn K mainGlobals x with
    | some (some (.str y _)) => decide (y = z)
    | _ => false) = true := c
  cases e : PySem.W.nsIn K mainGlobals x with
  | none => rw [e] at c2; cases c2
  | some o =>
    rw [e] at c2
    cases o with
    | none => cases c2
    | some v =>
      cases v with
      | str y t =>
        have ej : y = z := of_decide_eq_true c2
        rw [ej]
        exact ⟨t, rfl⟩
      | _ => cases c2
theorem ns_int {x : Str} {i : Int} (c : (He.Fa.int x i).ok K = true) : ∃ t, PySem.W.nsIn K mainGlobals x = some (some (.int i t)) := by
  have c2 : (match PySem.W.nsIn K mainGlobals x with
    | some (some (.int j _)) => decide (j = i)
    | _ => false) = true := c
  cases e : PySem.W.nsIn K mainGlobals x with
  | none => rw [e] at c2; cases c2
  | some o =>
    rw [e] at c2
    cases o with
    | none => cases c2
    | some v =>
      cases v with
      | int j t =>
        have ej : j = i := of_decide_eq_true c2
        rw [ej]
        exact ⟨t, rfl⟩
      | _ => cases c2
theorem fun_of {x qn : Str} {st : Stmt} {f : Addr} (h : ∃ fd, FunD K x qn (defArgs st) (defBody st) (defScope st) [] [] f fd) : ∃ fd, Fun K x qn st f fd := by
  obtain ⟨fd, ⟨oc, od, dV, kV, doc, pm, an, cdv, ct, osl, e, l, c, d, _⟩, kp⟩ := h
  rcases d with ⟨_, rfl⟩ | ⟨h, _⟩
  · exact ⟨fd, ⟨oc, od, kV, doc, pm, an, cdv, ct, osl, e, l, c⟩, kp⟩
  · exact absurd rfl h
theorem at1_of {x : Str} {st : Stmt} (g : (He.Fa.glo x).ok K = true) (h : ∃ fd, FunD K x x (defArgs st) (defBody st) (defScope st) [] [] (He.ga K x) fd) : My.At1 K x st (He.ga K x) := ⟨ns_of g, fun_of h⟩
theorem atd_of {x z : Str} {st : Stmt} (g : (He.Fa.glo x).ok K = true) (h : ∃ fd, FunD K x x (defArgs st) (defBody st) (defScope st) [.str z] [] (He.ga K x) fd) : My.AtD K x st z (He.ga K x) := ⟨ns_of g, h⟩
theorem atm_of {x m qn : Str} {st : Stmt} (g : (He.Fa.meth x m).ok K = true) (h : ∃ fd, FunD K m qn (defArgs st) (defBody st) (defScope st) [] [] (He.ma K (He.ga K x) m) fd) : My.AtM K (He.ga K x) m qn st (He.ma K (He.ga K x) m) := ⟨He.meth_ok g, fun_of h⟩
theorem ate_of {x m qn : Str} {st : Stmt} {e : Addr} (g : (He.Fa.meth x m).ok K = true) (h : ∃ fd, FunD K m qn (defArgs st) (defBody st) (defScope st) [.ref e] [] (He.ma K (He.ga K x) m) fd) : My.AtE K (He.ga K x) m qn st e (He.ma K (He.ga K x) m) := ⟨He.meth_ok g, h⟩
theorem atc_of {x : Str} (g : (He.Fa.glo x).ok K = true) (c : (He.Fa.cls x).ok K = true) (m : (He.Fa.mkr x).ok K = true) : My.AtC K x (He.ga K x) := by
  obtain ⟨c1, m2⟩ := He.ba m
  obtain ⟨c2, m3⟩ := He.ba m2
  obtain ⟨c3, c4⟩ := He.ba m3
  exact ⟨ns_of g, He.cls_ok c, c1, c4⟩
/-- the default of Code -/
def e0 (K : PySem.W.Frag) : Addr := He.dflAt ("Code", some "__init__") 0 K
/-- an empty tuple -/
def emB (K : PySem.W.Frag) (a : Addr) : Bool := match K.lookup a with
  | some ⟨.type c, _, .seq its _, _⟩ => decide (c = "tuple") && decide (its.size = 0)
  | _ => false
theorem emB_ok {a : Addr} (h : emB K a = true) : ∃ (ed : Option Addr) (en : Nat) (esl : Array (Option Value)), K.lookup a = some ⟨.type "tuple", ed, .seq #[] en, esl⟩ := by
  unfold emB at h
  cases q : K.lookup a with
  | none => rw [q] at h; cases h
  | some o =>
    obtain ⟨oc, od, dt, osl⟩ := o
    rw [q] at h
    cases oc with
    | type c =>
      cases dt with
      | seq its n =>
        obtain ⟨h1, h2⟩ := He.ba (show (decide (c = "tuple") && decide (its.size = 0)) = true from h)
        cases of_decide_eq_true h1
        cases Array.eq_empty_of_size_eq_zero (of_decide_eq_true h2)
        exact ⟨od, n, osl, rfl⟩
      | _ => cases h
    | _ => cases dt <;> cases h
/-- a tuple without a dict -/
def clB (K : PySem.W.Frag) (x : Str) : Bool := match K.lookup (He.ga K x) with
  | some ⟨.type c, none, _, _⟩ => decide (c = "tuple")
  | _ => false
theorem clB_ok {x : Str} (h : clB K x = true) : ∃ o, K.lookup (He.ga K x) = some o ∧ o.cls = .type "tuple" ∧ o.dict = none := by
  unfold clB at h
  cases q : K.lookup (He.ga K x) with
  | none => rw [q] at h; cases h
  | some o =>
    obtain ⟨oc, od, dt, osl⟩ := o
    rw [q] at h
    cases oc with
    | type c =>
      cases od with
      | none =>
        cases of_decide_eq_true (show decide (c = "tuple") = true from h)
        exact ⟨_, rfl, rfl, rfl⟩
      | some d => cases h
    | _ => cases od <;> cases h
/-- a law's end over facts -/
theorem walk_GE {l : PySem.W.OpenLaw} {n k : Nat} {q : Program} {loose : List Str} {XP : (Str → Option Value) → Heap → Prop} {YP : World → Heap → Prop} {d : DefRec} {sp : PySem.W.Frag → Sp} {x : Str} (hn : l.most = some n) (hn2 : n ≤ sizeLine) (hdf : d.params.defaults = [])
    (hr : Room k callerA) (F : ∀ (w : World) (mg : Str → Option Value) (fa : Addr) (h : Heap), YP w h → h.Ns mainGlobals mg → mg d.name = some (.ref fa) → ∃ (K : PySem.W.Frag) (fd : FuncData), K.In h ∧
      (∀ (s : Shared) (u : Value), BindsTo s fd ⟨[u], []⟩ [(x, u)]) ∧ ∀ base : Heap, K.In base → base.Ns mainGlobals mg → FnG l.prog w K mg base CX0 k fa fd [x] (sp K))
    (hsp : ∀ (K : PySem.W.Frag) (H : Hp) (a : Addr) (ns : List Int), ns.length ≤ n → (∀ z ∈ ns, Builtin.Int.intBits z ≤ 1048576) → SqL K H a (ns.map V.int) → sp K [.ref a] H (fun v _ => v = .bl true) fun _ _ _ => False) : PySem.W.WalkO q loose XP YP l.row.toRowW d [] (fun f vs => PySem.call f vs) := by
  apply Att.attach_callB hn hdf
  intro w s0 s mg mb fa o pm cd doc a vs ns G Y ho hd hcd hmg hobj hints hlen hbits hgens
  have ⟨K, fd, KX, bind, hF⟩ := F w mg fa _ Y G.T.g hmg
  have rv := vals_ints hints
  have hz : (ns.map V.int).length ≤ sizeLine := by rw [List.length_map]; exact Nat.le_trans hlen hn2
  have KB := scrH_in (K := K) (a := a) (vs := vs) (xs := ns.map V.int) KX
  have NS := fun b m (z : s.heap.Ns b m) => scrH_ns (K := K) (xs := ns.map V.int) hobj z
  have hok := scrH_ok (P := l.prog) (w := w) (K := K) hobj rv hz
  have ⟨mc, l1, l2⟩ := G.T.nolimit
  have env : Env0 l.prog w K mg (hidT s.heap (scrH K a vs (ns.map V.int))) callerA [] s (scrH K a vs (ns.map V.int)) :=
    ⟨rfl, ⟨KB, NS _ _ G.T.g, ⟨mb, NS _ _ G.T.b, G.T.builtins⟩, ⟨mc, NS _ _ l1, l2⟩⟩, fun b o e => of_hidT e, Nat.le_of_eq (hidT_size _ _), trivial, nofun, hok, .of_eq hgens⟩
  refine codeAny_mono ((hF _ KB (NS _ _ G.T.g)).run callerA [] s _ ⟨[.ref a], []⟩ [.ref a] [.ref a] _ _ rfl hr env (bind _ _) (.cons rfl .nil) (hsp _ _ a ns hlen hbits (scrH_sq KX hobj rv hz))) ?_
  intro r s1 h
  match r, h with
  | .ok (.ret u), h =>
    have ⟨v, H1, os, bare, un, hok1, ru, ev⟩ := h
    have e1 : v = .bl true := ev
    subst e1
    cases (show u = Value.bool true from ru)
    refine ⟨rfl, .of_keep fun b ob e => ?_, os, bare⟩
    cases z : scrH K a vs (ns.map V.int) b with
    | none => exact un.keep b ob e z nofun nofun
    | some y =>
      have hy := scrH_some z
      rw [hy.2.2] at z
      have now := (hok1 b _ (un.frzs b _ _ z)).1
      rw [hy.1, hobj] at e
      cases e
      exact now
end
/-! ### facts -/
def ns0 : List PySem.Str := ["_wall", "__name__", "OpenError", "BadNames", "TooMany", "BadSetting", "NoSign", "LETTERS", "is_list", "is_name", "checked_names", "name_of", "is_literal", "first_wrong", "ascending", "full_settings", "MOST_SIGNS", "Rule", "checked_settings", "forced_literals"]
def ns1 : List PySem.Str := ["_law_draw", "_law_pick", "_law_mixed", "_law_same", "_law_fresh", "_law_names", "_law_up", "_law_fulls", "_law_drawn_rule", "_law_is_right", "_law_is_unlike"]
def ns : List PySem.Str := ns0 ++ ns1
def fa0 : List He.Fa := [.glo "Rule", .cls "Rule", .mkr "Rule", .glo "name_of", .glo "is_list", .glo "is_literal", .glo "first_wrong", .glo "ascending", .glo "is_name", .glo "checked_names", .glo "full_settings", .glo "checked_settings", .glo "_law_draw", .glo "_law_pick", .glo "_law_mixed", .glo "_law_fresh", .glo "_law_names", .glo "_law_up", .glo "_law_fulls", .glo "_law_drawn_rule"]
def fa1 : List He.Fa := [.glo "_law_same", .glo "_law_is_right", .glo "_law_is_unlike", .glo "law", .meth "Rule" "__init__", .meth "Rule" "signs", .meth "Rule" "settings", .meth "Rule" "__len__", .meth "Rule" "allows", .meth "Rule" "__contains__", .meth "Rule" "__eq__", .meth "Rule" "__le__", .noat "Rule" "names", .noat "Rule" "allowed", .free "len", .free "tuple", .free "list", .free "str", .free "int", .free "all"]
def fa2 : List He.Fa := [.free "any", .free "isinstance", .free "enumerate", .free "range", .free "repr", .free "bool", .str "LETTERS" My.g_LETTERS, .int "MOST_SIGNS" 6]
def fa : List He.Fa := fa0 ++ fa1 ++ fa2
def fn0 : List He.DefD := [⟨("name_of", none), "name_of", "name_of", L2.defArgs My.s_name_of, L2.defBody My.s_name_of, L2.defScope My.s_name_of, [], []⟩, ⟨("is_list", none), "is_list", "is_list", L2.defArgs My.s_is_list, L2.defBody My.s_is_list, L2.defScope My.s_is_list, [], []⟩, ⟨("is_literal", none), "is_literal", "is_literal", L2.defArgs My.s_is_literal, L2.defBody My.s_is_literal, L2.defScope My.s_is_literal, [], []⟩, ⟨("first_wrong", none), "first_wrong", "first_wrong", L2.defArgs My.s_first_wrong, L2.defBody My.s_first_wrong, L2.defScope My.s_first_wrong, [], []⟩, ⟨("ascending", none), "ascending", "ascending", L2.defArgs My.s_ascending, L2.defBody My.s_ascending, L2.defScope My.s_ascending, [], []⟩, ⟨("is_name", none), "is_name", "is_name", L2.defArgs My.s_is_name, L2.defBody My.s_is_name, L2.defScope My.s_is_name, [], []⟩, ⟨("checked_names", none), "checked_names", "checked_names", L2.defArgs My.s_checked_names, L2.defBody My.s_checked_names, L2.defScope My.s_checked_names, [], []⟩, ⟨("full_settings", none), "full_settings", "full_settings", L2.defArgs My.s_full_settings, L2.defBody My.s_full_settings, L2.defScope My.s_full_settings, [], []⟩, ⟨("checked_settings", none), "checked_settings", "checked_settings", L2.defArgs My.s_checked_settings, L2.defBody My.s_checked_settings, L2.defScope My.s_checked_settings, [], []⟩, ⟨("_law_draw", none), "_law_draw", "_law_draw", L2.defArgs My.s__law_draw, L2.defBody My.s__law_draw, L2.defScope My.s__law_draw, [], []⟩]
def fn1 : List He.DefD := [⟨("_law_pick", none), "_law_pick", "_law_pick", L2.defArgs My.s__law_pick, L2.defBody My.s__law_pick, L2.defScope My.s__law_pick, [], []⟩, ⟨("_law_mixed", none), "_law_mixed", "_law_mixed", L2.defArgs My.s__law_mixed, L2.defBody My.s__law_mixed, L2.defScope My.s__law_mixed, [], []⟩, ⟨("_law_fresh", none), "_law_fresh", "_law_fresh", L2.defArgs My.s__law_fresh, L2.defBody My.s__law_fresh, L2.defScope My.s__law_fresh, [], []⟩, ⟨("_law_names", none), "_law_names", "_law_names", L2.defArgs My.s__law_names, L2.defBody My.s__law_names, L2.defScope My.s__law_names, [], []⟩, ⟨("_law_up", none), "_law_up", "_law_up", L2.defArgs My.s__law_up, L2.defBody My.s__law_up, L2.defScope My.s__law_up, [], []⟩, ⟨("_law_fulls", none), "_law_fulls", "_law_fulls", L2.defArgs My.s__law_fulls, L2.defBody My.s__law_fulls, L2.defScope My.s__law_fulls, [], []⟩, ⟨("_law_drawn_rule", none), "_law_drawn_rule", "_law_drawn_rule", L2.defArgs My.s__law_drawn_rule, L2.defBody My.s__law_drawn_rule, L2.defScope My.s__law_drawn_rule, [], []⟩, ⟨("_law_same", none), "_law_same", "_law_same", L2.defArgs My.s__law_same, L2.defBody My.s__law_same, L2.defScope My.s__law_same, [], []⟩, ⟨("_law_is_right", none), "_law_is_right", "_law_is_right", L2.defArgs My.s__law_is_right, L2.defBody My.s__law_is_right, L2.defScope My.s__law_is_right, [], []⟩, ⟨("_law_is_unlike", none), "_law_is_unlike", "_law_is_unlike", L2.defArgs My.s__law_is_unlike, L2.defBody My.s__law_is_unlike, L2.defScope My.s__law_is_unlike, [], []⟩]
def fn2 : List He.DefD := [⟨("law", none), "law", "law", L2.defArgs My.s_law, L2.defBody My.s_law, L2.defScope My.s_law, [], []⟩, ⟨("Rule", some "__init__"), "__init__", "Rule.__init__", L2.defArgs My.s_Rule_init, L2.defBody My.s_Rule_init, L2.defScope My.s_Rule_init, [], []⟩, ⟨("Rule", some "signs"), "signs", "Rule.signs", L2.defArgs My.s_Rule_signs, L2.defBody My.s_Rule_signs, L2.defScope My.s_Rule_signs, [], []⟩, ⟨("Rule", some "settings"), "settings", "Rule.settings", L2.defArgs My.s_Rule_settings, L2.defBody My.s_Rule_settings, L2.defScope My.s_Rule_settings, [], []⟩, ⟨("Rule", some "__len__"), "__len__", "Rule.__len__", L2.defArgs My.s_Rule_len, L2.defBody My.s_Rule_len, L2.defScope My.s_Rule_len, [], []⟩, ⟨("Rule", some "allows"), "allows", "Rule.allows", L2.defArgs My.s_Rule_allows, L2.defBody My.s_Rule_allows, L2.defScope My.s_Rule_allows, [], []⟩, ⟨("Rule", some "__contains__"), "__contains__", "Rule.__contains__", L2.defArgs My.s_Rule_contains, L2.defBody My.s_Rule_contains, L2.defScope My.s_Rule_contains, [], []⟩, ⟨("Rule", some "__eq__"), "__eq__", "Rule.__eq__", L2.defArgs My.s_Rule_eq, L2.defBody My.s_Rule_eq, L2.defScope My.s_Rule_eq, [], []⟩, ⟨("Rule", some "__le__"), "__le__", "Rule.__le__", L2.defArgs My.s_Rule_le, L2.defBody My.s_Rule_le, L2.defScope My.s_Rule_le, [], []⟩]
def fn : List He.DefD := fn0 ++ fn1 ++ fn2
abbrev R : PySem.W.OpenRow := PySem.W.OpenLaw.row PySem.Challenge.rw_lastopen_k02_rules_made
def fx (K : PySem.W.Frag) : Bool := (decide (PySem.W.findIn K (.ref (He.ga K "Rule")) "__ne__" = some (some (.builtin "object.__ne__")))) && ((decide (PySem.W.subIn K (.ref (He.ga K "Rule")) (.type "object") = some true)) && ((decide (PySem.W.findIn K (.ref (He.ga K "Rule")) "__class__" = some (some (.builtin "object.__class__")))) && ((decide (PySem.W.specialIn K (.builtin "object.__class__") "__get__" = some (some (.builtin "getset_descriptor.__get__")))) && ((decide (PySem.W.takesIn K (.builtin "object.__class__") = some true)) && ((decide (PySem.W.mroIn K (He.ga K "Rule") (.type "object") = some true)) && ((decide (PySem.W.subIn K (.ref (He.ga K "Rule")) (.type "list") = some false)) && ((decide (PySem.W.subIn K (.ref (He.ga K "Rule")) (.type "tuple") = some false)) && ((decide (PySem.W.subIn K (.ref (He.ga K "Rule")) (.type "dict") = some false)) && ((decide (PySem.W.subIn K (.ref (He.ga K "Rule")) (.type "str") = some false)) && ((decide (PySem.W.subIn K (.ref (He.ga K "Rule")) (.type "int") = some false)) && ((decide (PySem.W.subIn K (.ref (He.ga K "Rule")) (.type "bool") = some false)) && ((decide (PySem.W.subIn K (.ref (He.ga K "Rule")) (.type "NoneType") = some false)) && (((PySem.W.clsIn K (He.ga K "Rule")).isSome) && ((decide (PySem.W.typeIn K (.ref (He.ga K "Rule")) = some (.type "type"))) && (true)))))))))))))))
/-- what an object names, once each -/
def refs (o : Obj) : List Addr := match o.data with
  | .seq its _ => its.toList.flatMap He.refV
  | .dict es _ => es.toList.flatMap fun e => He.refV e.val
  | .func fd => He.refV fd.code ++ He.refV fd.defaults
  | .cls cd => [cd.ns]
  | _ => []
def lay (g : Addr → Option Obj) : Nat → List Addr → List Addr
  | 0, l => l
  | n + 1, l => l ++ lay g n (l.flatMap fun a => match g a with
    | some o => refs o
    | none => [])
def obK (K : PySem.W.Frag) : Bool × He.AlD := (fx K, He.obsD fa fn K)
def obX (g : Addr → Option Obj) : Bool × He.AlD := obK (He.frG g (lay g 5 [mainGlobals]))
def hk : PySem.W.Hook where
  α := Bool × He.AlD
  obs := fun s => obX s.heap.get?
  val := fun _ => (true, He.valD fn)
  says := fun _ h => ∃ K : PySem.W.Frag, K.In h ∧ He.SaysD fa fn K ∧ fx K = true
  of := fun _ _ e => ⟨_, He.frG_in, congrArg Prod.snd e, congrArg Prod.fst e⟩
  keeps := fun _ _ _ ⟨K, hK, c⟩ k => ⟨K, PySem.W.Frag.In.keeps hK k, c⟩
def ob (s : PySem.W.SharedT) : Bool × He.AlD := obX (HandSHeadRun.getT s)
theorem ob_eq (s : PySem.W.SharedT) : ob s = hk.obs s.abs := by
  have e : HandSHeadRun.getT s = s.abs.heap.get? := funext (HandSHeadRun.getT_eq s)
  unfold ob
  rw [e] <;> rfl
theorem run (w : World) : HandSHeadRun.RunEq R (PySem.W.view R.prog [34]) hk ob 40000 ns w := by
  intro os
  kernel_rfl
theorem facts {l : PySem.W.OpenLaw} {w : World} {K : PySem.W.Frag} {h : Heap} {mg : Str → Option Value} {f : Addr} (X : K.In h) (G : h.Ns mainGlobals mg) (hfa : mg ("law" : Str) = some (.ref f)) (c : He.SaysD fa fn K) (cx : fx K = true) :
    ∃ fd : FuncData, (∀ (s : Shared) (v : Value), BindsTo s fd ⟨[v], []⟩ [("_law_script", v)]) ∧ ∀ base : Heap, K.In base → base.Ns mainGlobals mg → FnG (l).prog w K mg base CX0 9 f fd ["_law_script"] (My.sp_law K) := by
  obtain ⟨x0, cx⟩ := He.ba cx
  obtain ⟨x1, cx⟩ := He.ba cx
  obtain ⟨x2, cx⟩ := He.ba cx
  obtain ⟨x3, cx⟩ := He.ba cx
  obtain ⟨x4, cx⟩ := He.ba cx
  obtain ⟨x5, cx⟩ := He.ba cx
  obtain ⟨x6, cx⟩ := He.ba cx
  obtain ⟨x7, cx⟩ := He.ba cx
  obtain ⟨x8, cx⟩ := He.ba cx
  obtain ⟨x9, cx⟩ := He.ba cx
  obtain ⟨x10, cx⟩ := He.ba cx
  obtain ⟨x11, cx⟩ := He.ba cx
  obtain ⟨x12, cx⟩ := He.ba cx
  obtain ⟨x13, cx⟩ := He.ba cx
  obtain ⟨x14, cx⟩ := He.ba cx
  obtain ⟨lt, lL⟩ := Hq.ns_str (c.fact 46)
  obtain ⟨lm, lM⟩ := Hq.ns_int (c.fact 47)
  exact My.all_mk (l := l) X G hfa (Hq.atc_of (c.fact 0) (c.fact 1) (c.fact 2)) (Hq.at1_of (c.fact 3) (c.def_ 0)) (Hq.at1_of (c.fact 4) (c.def_ 1)) (Hq.at1_of (c.fact 5) (c.def_ 2)) (Hq.at1_of (c.fact 6) (c.def_ 3)) (Hq.at1_of (c.fact 7) (c.def_ 4)) (Hq.at1_of (c.fact 8) (c.def_ 5)) (Hq.at1_of (c.fact 9) (c.def_ 6)) (Hq.at1_of (c.fact 10) (c.def_ 7)) (Hq.at1_of (c.fact 11) (c.def_ 8)) (Hq.at1_of (c.fact 12) (c.def_ 9)) (Hq.at1_of (c.fact 13) (c.def_ 10)) (Hq.at1_of (c.fact 14) (c.def_ 11)) (Hq.at1_of (c.fact 15) (c.def_ 12)) (Hq.at1_of (c.fact 16) (c.def_ 13)) (Hq.at1_of (c.fact 17) (c.def_ 14)) (Hq.at1_of (c.fact 18) (c.def_ 15)) (Hq.at1_of (c.fact 19) (c.def_ 16)) (Hq.at1_of (c.fact 20) (c.def_ 17)) (Hq.at1_of (c.fact 21) (c.def_ 18)) (Hq.at1_of (c.fact 22) (c.def_ 19)) (Hq.at1_of (c.fact 23) (c.def_ 20)) (Hq.atm_of (c.fact 24) (c.def_ 21)) (Hq.atm_of (c.fact 25) (c.def_ 22)) (Hq.atm_of (c.fact 26) (c.def_ 23)) (Hq.atm_of (c.fact 27) (c.def_ 24)) (Hq.atm_of (c.fact 28) (c.def_ 25)) (Hq.atm_of (c.fact 29) (c.def_ 26)) (Hq.atm_of (c.fact 30) (c.def_ 27)) (Hq.atm_of (c.fact 31) (c.def_ 28)) (He.noat_ok (c.fact 32)) (He.noat_ok (c.fact 33)) (of_decide_eq_true x0) (of_decide_eq_true x1) (of_decide_eq_true x2) (of_decide_eq_true x3) (of_decide_eq_true x4) (of_decide_eq_true x5) (of_decide_eq_true x6) (of_decide_eq_true x7) (of_decide_eq_true x8) (of_decide_eq_true x9) (of_decide_eq_true x10) (of_decide_eq_true x11) (of_decide_eq_true x12) x13 (of_decide_eq_true x14) lL lM (Hq.ns_none (c.fact 34)) (Hq.ns_none (c.fact 35)) (Hq.ns_none (c.fact 36)) (Hq.ns_none (c.fact 37)) (Hq.ns_none (c.fact 38)) (Hq.ns_none (c.fact 39)) (Hq.ns_none (c.fact 40)) (Hq.ns_none (c.fact 41)) (Hq.ns_none (c.fact 42)) (Hq.ns_none (c.fact 43)) (Hq.ns_none (c.fact 44)) (Hq.ns_none (c.fact 45))
end Hq
open PySem PySem.W PySem.Calls PyProof.Rows
theorem PySem.Challenge.cw_lastopen_k02_rules_made_holds : PySem.Challenge.rw_lastopen_k02_rules_made.Holds := by
  w_on; o_law
  refine HandSHeadRun.head_any (r := OpenLaw.row PySem.Challenge.rw_lastopen_k02_rules_made) (q := view (OpenLaw.row PySem.Challenge.rw_lastopen_k02_rules_made).prog [34]) (H := Hq.hk) (ob := Hq.ob) (M := 40000) (loose := Hq.ns) (d := HandSHeadRun.topDef (OpenLaw.row PySem.Challenge.rw_lastopen_k02_rules_made).prog 34) (kwd := []) Hq.ob_eq
    (by kernel_rfl) (fun s => by kernel_rfl) Hq.run (by kernel_rfl) (by kernel_rfl) (by kernel_rfl) (by rfl) (by first | assumption | decide +kernel) (by decide +kernel) ⟨rfl, rfl, rfl, rfl, rfl, by decide +kernel⟩ ?hw ?hc
  case hw => w_witness2
  case hc =>
    refine Hq.walk_GE (n := 63) (k := 9) (x := "_law_script") (sp := My.sp_law) (l := PySem.Challenge.rw_lastopen_k02_rules_made) rfl (by decide) (by kernel_rfl) ⟨rfl, by decide, by decide⟩ ?F ?S
    case S => exact fun K H a ns hl hb hs => ⟨ns, H, .ref a, rfl, L2.Same.refl H, .inl ⟨a, _, rfl, hs, L3.pd_of_it ns⟩, fun _ => rfl⟩
    case F =>
      intro w mg fa h Y G hmg0
      obtain ⟨K, KX, c, cx⟩ := Y
      have hmg : mg ("law" : PySem.Str) = some (.ref fa) := by
        have e : (HandSHeadRun.topDef (OpenLaw.row PySem.Challenge.rw_lastopen_k02_rules_made).prog 34).name = ("law" : PySem.Str) := by kernel_rfl
        rw [← e]
        exact hmg0
      obtain ⟨fd, hb, hF⟩ := Hq.facts (l := PySem.Challenge.rw_lastopen_k02_rules_made) (w := w) KX G hmg c cx
      exact ⟨K, fd, KX, hb, hF⟩

