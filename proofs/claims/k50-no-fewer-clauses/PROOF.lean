import PyProof.Rows.All
import Wide.All
import OpenK.AllK
import Wide.FinOn
import HandS.ForMost
import HandS.Deep
import HandS.IsInst
import HandS.Conv
import HandS.DictComp
import HandS.EndBits
import HandS.Wide
import HandS.Flow
import KE.DataEq
import HandS.TupAny
import HandS.Walk
import KE.GoesEnum
import KE.KDictSum
import HandS.Defaults
import HandS.Style
import HandS.SlotsOwn
import HandS.Star
import HandS.OwnEq
import KE.DataFind
import HandS.More
import PySem.Challenge.RW_lastopen_k50_whole_no_fewer_clauses
import HandS.Codes
import HandS.GenList
import HandS.Head0
import HandS.Head1
import HandS.Head2
import HandS.HeadHook1
import HandS.HeadHook2
set_option Elab.async false
set_option linter.all false
set_option maxRecDepth 100000
set_option maxHeartbeats 1000000
namespace L3
open PySem L2

/-! the ghost part M of the heap: what never changes from here on -/
structure Gr (M H M' H' : Hp) : Prop where
  mm : Same M M'
  hh : Same H H'
  mh : Same M' H'
  nw : ∀ a o, M' a = some o → M a = some o ∨ H a = none ∨ ∃ xs, o = HO.tup xs
  nt : ∀ a ps, M' a = some (.tbl ps) → M a = some (.tbl ps)
theorem same_new {H : Hp} {p : Addr} {o : HO} (h : H p = none) : Same H (upd H p o) := fun b u e => by
  rw [upd_ne (ne_of_none e h)]; exact e
theorem same_mut {M H : Hp} {p : Addr} {o : HO} (e : Same M H) (h : M p = none) : Same M (upd H p o) := fun b u q => by
  rw [upd_ne (ne_of_none q h)]; exact e b u q
theorem Gr.refl {M H : Hp} (mh : Same M H) : Gr M H M H := ⟨Same.refl M, Same.refl H, mh, fun _ _ e => .inl e, fun _ _ e => e⟩
theorem Gr.trans {M H M1 H1 M2 H2 : Hp} (a : Gr M H M1 H1) (b : Gr M1 H1 M2 H2) : Gr M H M2 H2 :=
  ⟨a.mm.trans b.mm, a.hh.trans b.hh, b.mh, fun x o e => by
    rcases b.nw x o e with h | h | h
    · exact a.nw x o h
    · exact .inr (.inl (a.hh.free h))
    · exact .inr (.inr h), fun x ps e => a.nt x ps (b.nt x ps e)⟩
theorem upd_nt {M : Hp} {p : Addr} {o : HO} (hn : ∀ ps, o ≠ HO.tbl ps) (a : Addr) (ps : Array Value) (e : upd M p o a = some (.tbl ps)) : M a = some (.tbl ps) := by
  by_cases h : a = p
  · subst h; rw [upd_same] at e; exact absurd (Option.some.inj e) (hn ps)
  · rw [upd_ne h] at e; exact e
/-- a new object that is known from now on; one that may still change -/
theorem Gr.new {M H : Hp} {p : Addr} {o : HO} (mh : Same M H) (hp : H p = none) (hn : ∀ ps, o ≠ HO.tbl ps := by intro _ z; cases z) : Gr M H (upd M p o) (upd H p o) := by
  refine ⟨same_new (mh.free hp), same_new hp, fun b u e => ?_, fun b u e => ?_, upd_nt hn⟩
  · by_cases hb : b = p
    · subst hb; rw [upd_same] at e ⊢; exact e
    · rw [upd_ne hb] at e ⊢; exact mh b u e
  · by_cases hb : b = p
    · subst hb; exact .inr (.inl hp)
    · rw [upd_ne hb] at e; exact .inl e
theorem Gr.own {M H : Hp} {p : Addr} {o : HO} (mh : Same M H) (hp : H p = none) : Gr M H M (upd H p o) :=
  ⟨Same.refl M, same_new hp, same_mut mh (mh.free hp), fun _ _ e => .inl e, fun _ _ e => e⟩
/-- an object of ours changes -/
theorem Gr.mut {M0 H0 M H : Hp} {p : Addr} {o : HO} (g : Gr M0 H0 M H) (h0 : H0 p = none) (hm : M p = none) : Gr M0 H0 M (upd H p o) :=
  ⟨g.mm, same_mut g.hh h0, same_mut g.mh hm, g.nw, g.nt⟩
/-- an object of ours is known from now on -/
theorem Gr.freeze {M0 H0 M H : Hp} {p : Addr} {o : HO} (g : Gr M0 H0 M H) (h0 : H0 p = none) (hm : M p = none) (hp : H p = some o) (hn : ∀ ps, o ≠ HO.tbl ps := by intro _ z; cases z) : Gr M0 H0 (upd M p o) H := by
  refine ⟨g.mm.trans (same_new hm), g.hh, fun b u e => ?_, fun b u e => ?_, fun b ps e => g.nt b ps (upd_nt hn b ps e)⟩
  · by_cases hb : b = p
    · subst hb; rw [upd_same] at e; rw [hp]; exact e
    · rw [upd_ne hb] at e; exact g.mh b u e
  · by_cases hb : b = p
    · subst hb; exact .inr (.inl h0)
    · rw [upd_ne hb] at e; exact g.nw b u e
theorem Gr.keep {M H M' H' : Hp} {p : Addr} {o : HO} (g : Gr M H M' H') (hm : M p = none) (hp : H p = some o) (hn : ∀ xs, o ≠ HO.tup xs := by intro _ z; cases z) : M' p = none := by
  cases e : M' p with
  | none => rfl
  | some u =>
    rcases g.nw p u e with h | h | ⟨xs, h⟩
    · rw [hm] at h; cases h
    · rw [hp] at h; cases h
    · subst h
      have h1 := g.mh p _ e
      rw [g.hh p _ hp] at h1
      exact absurd (Option.some.inj h1) (hn xs)
/-- tuples that stand may be known at any time -/
def withT (M H : Hp) (bs : List Addr) : Hp := fun a => (M a).or (if a ∈ bs then H a else none)
theorem withT_in {M H : Hp} {bs : List Addr} {a : Addr} {o : HO} (mh : Same M H) (ha : a ∈ bs) (h : H a = some o) : withT M H bs a = some o := by
  unfold withT
  cases e : M a with
  | none => rw [if_pos ha]; exact h
  | some u => have := mh a u e; rw [h] at this; cases this; rfl
theorem Gr.tups {M H : Hp} {bs : List Addr} (mh : Same M H) (hb : ∀ b ∈ bs, ∃ xs, H b = some (.tup xs)) : Gr M H (withT M H bs) H := by
  refine ⟨fun a o e => by unfold withT; rw [e]; rfl, Same.refl H, fun a o e => ?_, fun a o e => ?_, fun a ps e => ?_⟩
  · unfold withT at e
    cases q : M a with
    | some u => rw [q] at e; cases e; exact mh a _ q
    | none =>
      rw [q] at e
      by_cases ha : a ∈ bs
      · rw [if_pos ha] at e; exact e
      · rw [if_neg ha] at e; cases e
  · unfold withT at e
    cases q : M a with
    | some u => rw [q] at e; exact .inl e
    | none =>
      rw [q] at e
      by_cases ha : a ∈ bs
      · rw [if_pos ha] at e
        obtain ⟨xs, h⟩ := hb a ha
        have e' : H a = some o := e
        rw [h] at e'
        cases e'
        exact .inr (.inr ⟨xs, rfl⟩)
      · rw [if_neg ha] at e; cases e
  · unfold withT at e
    cases q : M a with
    | some u => rw [q] at e; exact e
    | none =>
      rw [q] at e
      by_cases ha : a ∈ bs
      · rw [if_pos ha] at e
        obtain ⟨xs, h⟩ := hb a ha
        have e' : H a = some (.tbl ps) := e
        rw [h] at e'
        cases e'
      · rw [if_neg ha] at e; cases e
theorem rd_mono {H H' : Hp} {a : Addr} {u : HO} (e : Same H H') (h : Rd H a u) : Rd H' a u := by
  rcases h with h | ⟨o, h⟩
  · exact Or.inl (e a _ h)
  · exact Or.inr ⟨o, e a _ h⟩
theorem sl_mono {K : PySem.W.Frag} {H H' : Hp} {a : Addr} {xs : List V} (e : Same H H') (h : SqL K H a xs) : SqL K H' a xs := by
  rcases h with h | h
  · exact Or.inl (rd_mono e h)
  · exact Or.inr h
theorem st_mono {K : PySem.W.Frag} {H H' : Hp} {a : Addr} {xs : List V} (e : Same H H') (h : SqT K H a xs) : SqT K H' a xs := by
  rcases h with h | h
  · exact Or.inl (rd_mono e h)
  · exact Or.inr h
mutual
theorem dp_mono {K : PySem.W.Frag} {H H' : Hp} (e : Same H H') : ∀ {v : V} {d : PyData}, Dp K H v d → Dp K H' v d
  | _, _, .non => .non
  | _, _, .bl b => .bl b
  | _, _, .int i => .int i
  | _, _, .str x => .str x
  | _, _, .lst hs ha => .lst (sl_mono e hs) (dpa_mono e ha)
  | _, _, .tup hs ha => .tup (st_mono e hs) (dpa_mono e ha)
theorem dpa_mono {K : PySem.W.Frag} {H H' : Hp} (e : Same H H') : ∀ {vs : List V} {ds : List PyData}, DpAll K H vs ds → DpAll K H' vs ds
  | _, _, .nil => .nil
  | _, _, .cons h t => .cons (dp_mono e h) (dpa_mono e t)
end
end L3

set_option Elab.async false
set_option linter.all false
set_option maxRecDepth 100000
set_option maxHeartbeats 1000000
namespace L3
open PySem PySem.Spec PyProof.Rows L2

/-! defs whose text asks repr: no repr is under way around them -/
structure FnG (P : Program) (w : World) (K : PySem.W.Frag) (mg : Str → Option Value) (base : Heap) (CX : CXT) (k : Nat) (f : Addr) (fd : FuncData) (ps : List Str) (sp : Sp) : Prop where
  len (vs : List V) (H : Hp) (Q : VK) (E : XK) : sp vs H Q E → vs.length = ps.length
  run : ∀ (A : Around) (outer : List Env) (s : Shared) (H : Hp) (args : Args) (us : List Value) (vs : List V) (Q : VK) (E : XK), A.guards = some [] → Room k A →
    Env0 P w K mg base A outer s H → BindsTo s fd args (ps.zip us) → Vals vs us → sp vs H Q E → codeAny (model P w) A (.call (.ref f) args) (CR CX outer P w H s Q E) s
section
variable {P : Program} {w : World} {K : PySem.W.Frag} {mg : Str → Option Value} {base : Heap} {CX : CXT} {k : Nat} {f : Addr} {fd : FuncData} {ps : List Str} {sp : Sp}
theorem FnG.of (F : FnOk P w K mg base CX k f fd ps sp) : FnG P w K mg base CX k f fd ps sp :=
  ⟨F.len, fun A outer s H args us vs Q E _ hr he hb hv h => F.run A outer s H args us vs Q E hr he hb hv h⟩
theorem FnG.mono {j : Nat} (F : FnG P w K mg base CX j f fd ps sp) (h : j ≤ k) : FnG P w K mg base CX k f fd ps sp :=
  ⟨F.len, fun A outer s H args us vs Q E hg hr he hb hv hs => F.run A outer s H args us vs Q E hg (hr.mono h) he hb hv hs⟩
end
/-- a def of the text keeps its promise where no repr is under way: its body is walked in the new frame, and each way out of the body is a way out of the call -/
theorem fun_okG {P : Program} {w : World} {K : PySem.W.Frag} {mg : Str → Option Value} {base : Heap} {x qual : Str} {st : Stmt} {f : Addr} {fd : FuncData} {N ps : List Str} {k : Nat} {sp : Sp} (F : Fun K x qual st f fd) (S : FnScope N ps (defScope st))
    (ar : ∀ vs H Q E, sp vs H Q E → vs.length = ps.length) (hb : ∀ (cdv : Value) (A : Around) (outer : List Env) (s : Shared) (H : Hp) (vs : List V) (Q : VK) (E : XK), A.guards = some [] → Room k (A.deeper (envOfC qual (defScope st) s.heap.objs.size f cdv)) → sp vs H Q E →
      ∃ t, PSs (cxOf CX0 P w K mg base N qual (defScope st) f cdv A outer s H E).nox (defBody st) t ∧ t { nx := fun _ H' => Q .non H', rt := Q } (start N vs) H) :
    FnG P w K mg base CX0 (k + 1) f fd ps sp where
  len := ar
  run A outer s H args us vs Q E hgu hr e0 hbi rv hsp := by
    have ⟨c1, c2, c3, c4, c5, c6, cdv, c7, c8, efd, lk, hcd⟩ := F.ex
    subst efd
    have grown : ∀ b o, base.get? b = some o → s.heap.get? b = some o := fun b o e => (e0.bs b o e).1
    have inK := e0.mod.kin.keeps grown
    apply codeAny_call_function hr.depth (inK _ _ lk) rfl S.co S.gen rfl (PySem.W.codeRec_of inK hcd)
    apply hbi
    refine wpAny_newFunctionEnv_cells S.kind (fun ⟨n, v⟩ hy => ?_) fun env he s1 new => ?_
    · rcases S.par n (List.of_mem_zip hy).1 with q | q
      · exact .inl q
      · exact .inr ⟨q, PySem.W.cellsFrom_some _ _ _ (.inl q)⟩
    subst he
    have ⟨t, pt, q⟩ := hb cdv A outer s H vs Q E hgu (hr.deeper _) hsp
    have I0 := inv_start (CX := CX0) (E := E) S hr.hd e0 (ar _ _ _ _ hsp) rv new
    refine ⟨(e0.mod.nolimit.keeps grown).keeps new.toInCall.keep, codeAny_func (wpAny_mono (pt.nox.run [] s1 _ H _ I0 q) ?_ fun _ _ z => z)⟩
    rintro (_ | _ | _ | u) s2 h2
    · have ⟨_, _, J, z⟩ := h2
      exact ⟨V.non, _, J.os, J.bare, J.base, J.hok, rfl, z⟩
    · exact h2.elim fun _ h => h.elim fun _ h => h.2.elim
    · exact h2.elim fun _ h => h.elim fun _ h => h.2.elim
    · have ⟨v, _, _, J, ru, z⟩ := h2
      exact ⟨v, _, J.os, J.bare, J.base, J.hok, ru, z⟩
section
variable {X : Cx} {CX : CXT} {k : Nat} {f C : Addr} {fd : FuncData} {ps : List Str} {sp : Sp} {dvs : List V} {ds : List Value} {E : XK} {x : Str} {p pos : Pos} {e : Expr} {es : List Expr} {t : TA}
theorem run_fnG {pins : List (Addr × Obj)} {σ : L2.St} {H : Hp} {s : Shared} {Q : VK} {us : List Value} {vs : List V} (F : FnG X.prog X.w X.K X.mg X.base CX k f fd ps sp) (hgu : X.A.guards = some []) (hr : Room k X.A) (hb : Binds X.K fd ps ds) (hd : Vals dvs ds) (hx : Passes CX X E) (I : Inv X pins σ H s) (rv : Vals vs us)
    (h : sp (vs ++ dvs) H Q E) : wpAny (model X.prog X.w) X.A (call (.ref f) us) (EP X pins σ Q) X.xe s := by
  have rr := rv.append hd
  have bind := hb s us I.kIn (rr.length ▸ F.len _ _ _ _ h)
  apply wpAny_call
  apply codeAny_mono (F.run X.A X.stack s H ⟨us, []⟩ _ _ Q E hgu hr I.env0 bind rr h)
  rintro (e | fl) s' hq
  · exact hx pins σ H s e s' I hq
  · cases fl with
    | ret u => exact I.after hq
    | _ => exact hq.elim
theorem pe_callG (F : FnG X.prog X.w X.K X.mg X.base CX k f fd ps sp) (hgu : X.A.guards = some []) (hr : Room k X.A) (hg : Gl X x) (hm : X.mg x = some (.ref f)) (hk : PySem.W.keepIn X.K (.ref f) = true) (hb : Binds X.K fd ps ds) (hd : Vals dvs ds) (hx : Passes CX X E)
    (ha : PA X (e :: es) t) (hdb : (x == ("__debug__" : Str)) = false := by decide) (he : starEach (e :: es) X.env = (false, eval e X.env) :: starEach es X.env := by rfl) (hpl : (backTo pos (starEach es X.env)).any (·.1) = false := by rfl) :
    PE X (.Call (.Name x p) (e :: es) [] pos) (tCall sp dvs E t) :=
  ⟨fun pins s σ H Q I h => wpAny_Call_Name_kw (ld_glob I hg hm (PySem.W.callWith_K (h₀ := X.base) I.ok.mod.kin hk
    (thn (ha.run pos pins s σ H _ I h) fun us s1 ⟨vs, H1, I1, r, q⟩ => ⟨I1.kIn, run_fnG F hgu hr hb hd hx I1 r q⟩) he hpl) hdb)⟩

/-! repr of data -/
def rRepr (K : PySem.W.Frag) : List V → Hp → VK → Prop := fun xs H Q => ∃ v d, xs = [v] ∧ Dp K H v d ∧ d.showable = true ∧ d.depth ≤ 64 ∧ d.shown.length ≤ sizeLine ∧ Q (.str d.shown) H
mutual
theorem dp_nodict {K : PySem.W.Frag} {H : Hp} : ∀ {v : V} {d : PyData}, Dp K H v d → d.hasDict = false
  | _, _, .non => by simp only [PyData.hasDict]
  | _, _, .bl b => by simp only [PyData.hasDict]
  | _, _, .int i => by simp only [PyData.hasDict]
  | _, _, .str x => by simp only [PyData.hasDict]
  | _, _, .lst _ ha => by simp only [PyData.hasDict]; exact dpa_nodict ha
  | _, _, .tup _ ha => by simp only [PyData.hasDict]; exact dpa_nodict ha
theorem dpa_nodict {K : PySem.W.Frag} {H : Hp} : ∀ {vs : List V} {ds : List PyData}, DpAll K H vs ds → PyData.hasDictAll ds = false
  | _, _, .nil => by simp only [PyData.hasDictAll]
  | _, _, .cons h t => by simp only [PyData.hasDictAll]; rw [dp_nodict h, dpa_nodict t]; rfl
end
theorem call_repr (hgu : X.A.guards = some []) (hu : X.A.units + 70 < cLine) : CallR X (.builtin "repr") (rRepr X.K) := by
  rintro pins s σ H _ us Q I r ⟨v, d, rfl, hd, hs, hdp, hz, q⟩
  have ⟨u, eu, ru⟩ := vals1 r
  subst eu
  obtain ⟨as, rd⟩ := Dp.reads I d v u hd ru
  have hsm := PyData.noDict_hsm (as := as) (dp_nodict hd)
  have fin : ∀ h' u' tk, (∀ b o, s.heap.get? b = some o → h'.get? b = some o) → EP X pins σ Q (.str d.shown u') { s with heap := h', toks := tk } :=
    fun h' u' tk k => ⟨.str d.shown, H, I.kept k, ⟨_, rfl⟩, q⟩
  cases hd with
  | non =>
    cases ru
    simp only [PyData.shown] at fin
    exact PySem.P.repr_of_none (fin s.heap _ _ fun _ _ e => e)
  | bl b =>
    cases ru
    simp only [PyData.shown] at fin
    exact PySem.P.repr_of_bool (fin s.heap _ _ fun _ _ e => e)
  | int i =>
    obtain ⟨t, rfl⟩ := ru
    simp only [PyData.shown] at fin
    exact PySem.P.repr_of_int (by simpa [PyData.showable] using hs) (fin s.heap _ _ fun _ _ e => e)
  | str x =>
    obtain ⟨t, rfl⟩ := ru
    simp only [PyData.shown] at fin hz
    exact PySem.P.repr_of_str (fin s.heap _ _ fun _ _ e => e) hz
  | lst hl ha =>
    cases ru
    exact repr_of_reads' rd hs hsm hgu (by omega) (fun _ _ e => e) fin hz
  | tup hl ha =>
    cases ru
    exact repr_of_reads' rd hs hsm hgu (by omega) (fun _ _ e => e) fin hz
end
end L3

set_option Elab.async false
set_option linter.all false
set_option maxRecDepth 100000
set_option maxHeartbeats 1000000
namespace L3
open PySem PySem.Spec PyProof.Rows L2

/-! the law's own end, over a promise that knows the guards. The script stands in the written part, or it is the one object that is known at the start -/
def scrO (vs : List Value) : Obj := { cls := .type "list", data := .seq vs.toArray }
def scrH (K : PySem.W.Frag) (a : Addr) (vs : List Value) (xs : List V) : Hp := fun b => if b = a ∧ K.lookup a = none then some (.frz (scrO vs) (.lst xs)) else none
section
variable {K : PySem.W.Frag} {a : Addr} {vs : List Value} {xs : List V} {h : Heap} {P : Program} {w : World}
theorem scrH_some {b : Addr} {u : HO} (e : scrH K a vs xs b = some u) : b = a ∧ K.lookup a = none ∧ u = .frz (scrO vs) (.lst xs) := by
  unfold scrH at e
  split at e
  next c => exact ⟨c.1, c.2, (Option.some.inj e).symm⟩
  next => cases e
theorem scrH_sq (KX : K.In h) (ho : h.get? a = some (scrO vs)) (rv : Vals xs vs) (hz : xs.length ≤ sizeLine) : SqL K (scrH K a vs xs) a xs := by
  cases e : K.lookup a with
  | none => exact .inl (.inr ⟨_, if_pos ⟨rfl, e⟩⟩)
  | some o =>
    cases ho.symm.trans (KX a o e)
    exact .inr ⟨_, vs.toArray, _, e, rfl, rfl, rfl, (by rw [List.size_toArray, ← rv.length]; exact hz), rv⟩
theorem scrH_ok (ho : h.get? a = some (scrO vs)) (rv : Vals xs vs) (hz : xs.length ≤ sizeLine) : HOk P w (scrH K a vs xs) h := fun b u e => by
  have ⟨h1, _, h3⟩ := scrH_some e
  subst h1 h3
  exact ⟨ho, hz, vs, _, rv, ho⟩
/-- what is hidden of the heap is the script alone: no dict, nothing of the written part -/
theorem scrH_in (KX : K.In h) : K.In (hidT h (scrH K a vs xs)) := fun b o e => hidT_get (KX b o e) (by
  cases q : scrH K a vs xs b with
  | none => rfl
  | some u =>
    have z := scrH_some q
    rw [z.1, z.2.1] at e
    cases e)
theorem scrH_ns (ho : h.get? a = some (scrO vs)) {b : Addr} {m : Str → Option Value} (n : h.Ns b m) : (hidT h (scrH K a vs xs)).Ns b m := by
  obtain ⟨o, es, ep, e, d, r⟩ := n
  refine ⟨o, es, ep, hidT_get e ?_, d, r⟩
  cases q : scrH K a vs xs b with
  | none => rfl
  | some u =>
    rw [(scrH_some q).1, ho] at e
    cases e
    cases (show Data.seq vs.toArray _ = Data.dict es ep from d)
end
end L3

set_option Elab.async false
set_option linter.all false
set_option maxRecDepth 100000
set_option maxHeartbeats 1000000
namespace L3
open PySem PySem.Spec PyProof.Rows L2
abbrev Sl := L2.St

/-! operators by data -/
mutual
theorem dp_plain {K : PySem.W.Frag} {H : Hp} : ∀ {v : V} {d : PyData}, Dp K H v d → d.plain = true
  | _, _, .non => by simp only [PyData.plain]
  | _, _, .bl b => by simp only [PyData.plain]
  | _, _, .int i => by simp only [PyData.plain]
  | _, _, .str x => by simp only [PyData.plain]
  | _, _, .lst _ ha => by simp only [PyData.plain]; exact dpa_plain ha
  | _, _, .tup _ ha => by simp only [PyData.plain]; exact dpa_plain ha
theorem dpa_plain {K : PySem.W.Frag} {H : Hp} : ∀ {vs : List V} {ds : List PyData}, DpAll K H vs ds → PyData.plainAll ds = true
  | _, _, .nil => by simp only [PyData.plainAll]
  | _, _, .cons h t => by simp only [PyData.plainAll]; rw [dp_plain h, dpa_plain t]; rfl
end
/-- a list or a tuple of ds -/
def Sq (K : PySem.W.Frag) (ds : List PyData) (H : Hp) (v : V) : Prop := Dp K H v (.list ds) ∨ Dp K H v (.tuple ds)
theorem Sq.mono {K : PySem.W.Frag} {ds : List PyData} {H H' : Hp} {v : V} (e : Same H H') (h : Sq K ds H v) : Sq K ds H' v := h.imp (dp_mono e) (dp_mono e)
theorem Sq.at {K : PySem.W.Frag} {ds : List PyData} {H : Hp} {v : V} (h : Sq K ds H v) : ∃ a xs, v = .ref a ∧ (SqL K H a xs ∨ SqT K H a xs) ∧ DpAll K H xs ds := by
  rcases h with h | h
  · cases h with
    | lst hs ha => exact ⟨_, _, rfl, .inl hs, ha⟩
  · cases h with
    | tup hs ha => exact ⟨_, _, rfl, .inr hs, ha⟩
def rEqP (K : PySem.W.Frag) (neg : Bool) : R2 := fun x y H Q => ∃ d e, Dp K H x d ∧ Dp K H y e ∧ d.depth ≤ 60 ∧ Q (.bl (xor neg (PyData.eqv d e))) H
def rInP (K : PySem.W.Frag) (neg : Bool) : R2 := fun x y H Q => ∃ d ds, Dp K H x d ∧ Sq K ds H y ∧ d.depth ≤ 60 ∧ Q (.bl (xor neg (ds.any fun z => PyData.eqv z d))) H
section
variable {X : Cx}
theorem op_eqP (hu : X.A.units + 64 < cLine) : OpR X (compareOp .Eq) (rEqP X.K false) := by
  intro pins s σ H x y v u Q I rx ry ⟨d, e, hd, he, hz, q⟩
  obtain ⟨as, r1⟩ := Dp.reads I d x v hd rx
  obtain ⟨bs, r2⟩ := Dp.reads I e y u he ry
  exact SeqAt.eq_plain r1 r2 (dp_plain hd) (dp_plain he) (by omega) ⟨.bl _, H, I, rfl, by simpa using q⟩
theorem op_neP (hu : X.A.units + 64 < cLine) : OpR X (compareOp .NotEq) (rEqP X.K true) := by
  intro pins s σ H x y v u Q I rx ry ⟨d, e, hd, he, hz, q⟩
  obtain ⟨as, r1⟩ := Dp.reads I d x v hd rx
  obtain ⟨bs, r2⟩ := Dp.reads I e y u he ry
  exact SeqAt.ne_plain r1 r2 (dp_plain hd) (dp_plain he) (by omega) ⟨.bl _, H, I, rfl, by simpa using q⟩
theorem op_inP (hu : X.A.units + 64 < cLine) : OpR X (compareOp .In) (rInP X.K false) := by
  intro pins s σ H x y v u Q I rx ry ⟨d, ds, hd, hs, hz, q⟩
  obtain ⟨as, r1⟩ := Dp.reads I d x v hd rx
  rcases hs with hs | hs
  · obtain ⟨bs, r2⟩ := Dp.reads I _ y u hs ry
    exact SeqAt.in_list_data r2 r1 (by simpa only [PyData.plain] using dp_plain hs) (dp_plain hd) (by omega) ⟨.bl _, H, I, rfl, by simpa using q⟩
  · obtain ⟨bs, r2⟩ := Dp.reads I _ y u hs ry
    exact SeqAt.in_tuple_data r2 r1 (by simpa only [PyData.plain] using dp_plain hs) (dp_plain hd) (by omega) ⟨.bl _, H, I, rfl, by simpa using q⟩
theorem op_notInP (hu : X.A.units + 64 < cLine) : OpR X (compareOp .NotIn) (rInP X.K true) := by
  intro pins s σ H x y v u Q I rx ry ⟨d, ds, hd, hs, hz, q⟩
  obtain ⟨as, r1⟩ := Dp.reads I d x v hd rx
  rcases hs with hs | hs
  · obtain ⟨bs, r2⟩ := Dp.reads I _ y u hs ry
    exact SeqAt.notIn_list_data r2 r1 (by simpa only [PyData.plain] using dp_plain hs) (dp_plain hd) (by omega) ⟨.bl _, H, I, rfl, by simpa using q⟩
  · obtain ⟨bs, r2⟩ := Dp.reads I _ y u hs ry
    exact SeqAt.notIn_tuple_data r2 r1 (by simpa only [PyData.plain] using dp_plain hs) (dp_plain hd) (by omega) ⟨.bl _, H, I, rfl, by simpa using q⟩
/-- two readings of one expression, of one thing walked -/
theorem PE.or {e : Expr} {t u : TE} (h : PE X e t) (h' : PE X e u) : PE X e (fun σ H Q => t σ H Q ∨ u σ H Q) :=
  ⟨fun pins s σ H Q I q => q.elim (h.run pins s σ H Q I) (h'.run pins s σ H Q I)⟩
theorem PI.or {tg e : Expr} {t u : TI} (h : PI X tg e t) (h' : PI X tg e u) : PI X tg e (fun σ H R => t σ H R ∨ u σ H R) :=
  ⟨fun pins s σ H Q I q => q.elim (h.run pins s σ H Q I) (h'.run pins s σ H Q I)⟩
end

/-! what an expression is worth, over the known part M -/
abbrev Pr := Hp → V → Prop
abbrev Dd (K : PySem.W.Frag) (d : PyData) : Pr := fun M v => Dp K M v d
def Gv (te : TE) (σ : Sl) (M : Hp) (P : Pr) : Prop := ∀ H, Same M H → ∀ Q : VK, (∀ v M' H', Gr M H M' H' → P M' v → Q v H') → te σ H Q
def GvT (tt : TT) (σ : Sl) (M : Hp) (b : Bool) : Prop := ∀ H, Same M H → ∀ Q : Bool → Hp → Prop, (∀ M' H', Gr M H M' H' → Q b H') → tt σ H Q
/-- a new list, ours -/
def GvL (te : TE) (σ : Sl) (M : Hp) (P : Hp → List V → Prop) : Prop := ∀ H, Same M H → ∀ Q : VK, (∀ p vs M' H', Gr M H M' H' → H p = none → M' p = none → H' p = some (.lst vs) → P M' vs → Q (.ref p) H') → te σ H Q
def GvA (ta : TA) (σ : Sl) (M : Hp) (P : Hp → List V → Prop) : Prop := ∀ H, Same M H → ∀ Q : List V → Hp → Prop, (∀ vs M' H', Gr M H M' H' → P M' vs → Q vs H') → ta σ H Q
class Mono (P : Pr) : Prop where
  mono : ∀ {M M' : Hp} {v : V}, Same M M' → P M v → P M' v
instance {K : PySem.W.Frag} {d : PyData} : Mono (Dd K d) := ⟨fun e h => dp_mono e h⟩
instance {K : PySem.W.Frag} {ds : List PyData} : Mono (Sq K ds) := ⟨fun e h => h.mono e⟩
section
variable {K : PySem.W.Frag} {σ : Sl} {M M1 : Hp} {ta tb te : TE} {tt tu : TT} {P P1 : Pr} {b c : Bool} {v : V}
def jn (M1 M' : Hp) : Hp := fun a => (M1 a).or (M' a)
theorem jn_some {M1 M' : Hp} {a : Addr} {o : HO} (q : M1 a = some o) : jn M1 M' a = some o := by unfold jn; rw [q]; rfl
theorem jn_none {M1 M' : Hp} {a : Addr} (q : M1 a = none) : jn M1 M' a = M' a := by unfold jn; rw [q]; rfl
theorem Gr.join {M H M' H' M1 : Hp} (g : Gr M H M' H') (e : Same M M1) (h1 : Same M1 H) : Gr M1 H (jn M1 M') H' ∧ Same M' (jn M1 M') := by
  have k1 := h1.trans g.hh
  refine ⟨⟨fun a o q => jn_some q, g.hh, fun a o q => ?_, fun a o q => ?_, fun a ps q => ?_⟩, fun a o q => ?_⟩
  · cases z : M1 a with
    | some u => rw [jn_some z] at q; cases q; exact k1 a _ z
    | none => rw [jn_none z] at q; exact g.mh a o q
  · cases z : M1 a with
    | some u => rw [jn_some z] at q; exact .inl q
    | none =>
      rw [jn_none z] at q
      rcases g.nw a o q with y | y
      · rw [e a o y] at z; cases z
      · exact .inr y
  · cases z : M1 a with
    | some u => rw [jn_some z] at q; exact q
    | none =>
      rw [jn_none z] at q
      have y := e a _ (g.nt a ps q)
      rw [z] at y
      cases y
  · cases z : M1 a with
    | some u =>
      have y := k1 a _ z
      rw [g.mh a o q] at y
      cases y
      exact jn_some z
    | none => rw [jn_none z]; exact q
theorem Gv.le [Mono P] (h : Gv te σ M P) (e : Same M M1) : Gv te σ M1 P := fun H mh Q q =>
  h H (e.trans mh) Q fun v M' H' g p => q v _ H' (g.join e mh).1 (Mono.mono (g.join e mh).2 p)
theorem GvT.le (h : GvT tt σ M b) (e : Same M M1) : GvT tt σ M1 b := fun H mh Q q =>
  h H (e.trans mh) Q fun M' H' g => q _ H' (g.join e mh).1
/-- a reading over values -/
def RV (r : Hp → VK → Prop) (M : Hp) (P : Pr) : Prop := ∀ H, Same M H → ∀ Q : VK, (∀ v M' H', Gr M H M' H' → P M' v → Q v H') → r H Q
theorem gv_var {i : Nat} (h : σ[i]? = some (some v)) (p : P M v) : Gv (tVar i) σ M P := fun H mh Q q => ⟨v, h, q v M H (.refl mh) p⟩
theorem gv_c (p : P M v) : Gv (tC v) σ M P := fun H mh Q q => q v M H (.refl mh) p
theorem gv_op {r : R2} {R : Pr} [Mono P] [Mono P1] (ha : Gv ta σ M P) (hb : Gv tb σ M P1) (hr : ∀ M' x y, P M' x → P1 M' y → RV (r x y) M' R) : Gv (tOp r ta tb) σ M R := fun H mh Q q =>
  ha H mh _ fun x M1 H1 g1 p1 => (hb.le g1.mm) H1 g1.mh _ fun y M2 H2 g2 p2 => hr M2 x y (Mono.mono g2.mm p1) p2 H2 g2.mh Q fun v M' H' g p => q v M' H' ((g1.trans g2).trans g) p
theorem gv_is {P' : Pr} (h : Gv te σ M P) (e : ∀ M v, P M v → P' M v) : Gv te σ M P' := fun H mh Q q => h H mh Q fun v M' H' g p => q v M' H' g (e M' v p)
/-- tests -/
theorem gt_test {te : TE} (h : Gv te σ M (fun _ v => v = .bl b)) : GvT (tTest te) σ M b := fun H mh Q q => h H mh _ fun v M' H' g p => ⟨b, p, q M' H' g⟩
theorem gt_B {te : TE} (h : Gv te σ M (fun _ v => v = .bl b)) : GvT (tB te) σ M b := fun H mh Q q => h H mh _ fun v M' H' g p => ⟨b, p, q M' H' g⟩
theorem gt_and (h : GvT tt σ M b) (h2 : b = true → GvT tu σ M c) : GvT (tAnd tt tu) σ M (b && c) := fun H mh Q q => h H mh _ fun M1 H1 g1 => by
  cases b with
  | true => exact (h2 rfl).le g1.mm H1 g1.mh Q fun M' H' g => q M' H' (g1.trans g)
  | false => exact q M1 H1 g1
theorem gt_or (h : GvT tt σ M b) (h2 : b = false → GvT tu σ M c) : GvT (tOr tt tu) σ M (b || c) := fun H mh Q q => h H mh _ fun M1 H1 g1 => by
  cases b with
  | true => exact q M1 H1 g1
  | false => exact (h2 rfl).le g1.mm H1 g1.mh Q fun M' H' g => q M' H' (g1.trans g)
theorem gt_not (h : GvT tt σ M b) : GvT (tNot tt) σ M (!b) := fun H mh Q q => h H mh _ q
theorem gt_is (h : GvT tt σ M b) (e : b = c) : GvT tt σ M c := e ▸ h
abbrev Bl (b : Bool) : Pr := fun _ v => v = .bl b
abbrev It' (i : Int) : Pr := fun _ v => v = .int i
abbrev Tx (x : Str) : Pr := fun _ v => v = .str x
instance {b : Bool} : Mono (Bl b) := ⟨fun _ h => h⟩
instance {i : Int} : Mono (It' i) := ⟨fun _ h => h⟩
instance {x : Str} : Mono (Tx x) := ⟨fun _ h => h⟩
theorem gv_andV {ta tb : TE} (h : Gv ta σ M (Bl b)) (h2 : b = true → Gv tb σ M (Bl c)) : Gv (tAndV ta tb) σ M (Bl (b && c)) := fun H mh Q q => h H mh _ fun v M1 H1 g1 p => ⟨b, p, by
  cases b with
  | true => exact (h2 rfl).le g1.mm H1 g1.mh Q fun v M' H' g p => q v M' H' (g1.trans g) p
  | false => exact q _ M1 H1 g1 rfl⟩
theorem gv_orV {ta tb : TE} (h : Gv ta σ M (Bl b)) (h2 : b = false → Gv tb σ M (Bl c)) : Gv (tOrV ta tb) σ M (Bl (b || c)) := fun H mh Q q => h H mh _ fun v M1 H1 g1 p => ⟨b, p, by
  cases b with
  | true => exact q _ M1 H1 g1 rfl
  | false => exact (h2 rfl).le g1.mm H1 g1.mh Q fun v M' H' g p => q v M' H' (g1.trans g) p⟩
theorem gv_if [Mono P] (h : GvT tt σ M b) (h1 : b = true → Gv ta σ M P) (h2 : b = false → Gv tb σ M P) : Gv (tIf tt ta tb) σ M P := fun H mh Q q => h H mh _ fun M1 H1 g1 => by
  cases b with
  | true => exact (h1 rfl).le g1.mm H1 g1.mh Q fun v M' H' g p => q v M' H' (g1.trans g) p
  | false => exact (h2 rfl).le g1.mm H1 g1.mh Q fun v M' H' g p => q v M' H' (g1.trans g) p
/-- operators -/
theorem rv_pure {r : Hp → VK → Prop} (h : ∀ H, Same M H → ∀ Q : VK, Q v H → r H Q) (p : P M v) : RV r M P := fun H mh Q q => h H mh Q (q v M H (.refl mh) p)
theorem gv_eq {neg : Bool} {d e : PyData} (ha : Gv ta σ M (Dd K d)) (hb : Gv tb σ M (Dd K e)) (hz : d.depth ≤ 60) : Gv (tOp (rEqP K neg) ta tb) σ M (Bl (xor neg (PyData.eqv d e))) :=
  gv_op ha hb fun M' x y px py => rv_pure (fun H mh Q q => ⟨d, e, dp_mono mh px, dp_mono mh py, hz, q⟩) rfl
theorem gv_isN {ta : TE} [Mono P] (h : Gv ta σ M P) (e : ∀ M v, P M v → decide (v = .non) = b) : Gv (tIsN ta) σ M (Bl b) := fun H mh Q q => h H mh _ fun v M1 H1 g1 p => q _ M1 H1 g1 (by rw [e M1 v p])
theorem gv_notN {ta : TE} [Mono P] (h : Gv ta σ M P) (e : ∀ M v, P M v → decide (v = .non) = b) : Gv (tNotN ta) σ M (Bl (!b)) := fun H mh Q q => h H mh _ fun v M1 H1 g1 p => q _ M1 H1 g1 (by rw [e M1 v p])
/-- arguments -/
theorem ga_nil : GvA tNil σ M (fun _ vs => vs = []) := fun H mh Q q => q [] M H (.refl mh) rfl
theorem ga_cons {tr : TA} {R : Hp → List V → Prop} [Mono P] (h : Gv te σ M P) (hr : ∀ M1, Same M M1 → GvA tr σ M1 R) : GvA (tCons te tr) σ M (fun M vs => ∃ v r, vs = v :: r ∧ P M v ∧ R M r) := fun H mh Q q =>
  h H mh _ fun x M1 H1 g1 p1 => hr M1 g1.mm H1 g1.mh _ fun vs M2 H2 g2 p2 => q _ M2 H2 (g1.trans g2) ⟨x, vs, rfl, Mono.mono g2.mm p1, p2⟩
/-- displays -/
theorem gv_tup {ta : TA} {R : Hp → List V → Prop} {P : Pr} (h : GvA ta σ M R) (hz : ∀ M vs, R M vs → vs.length ≤ sizeLine) (hp : ∀ M vs p, R M vs → M p = none → P (upd M p (.tup vs)) (.ref p)) : Gv (tTup ta) σ M P := fun H mh Q q =>
  h H mh _ fun vs M1 H1 g1 p1 => ⟨hz M1 vs p1, fun p np => q _ _ _ (g1.trans (.new g1.mh np)) (hp M1 vs p p1 (g1.mh.free np))⟩
theorem gl_lst {ta : TA} {R : Hp → List V → Prop} (h : GvA ta σ M R) (hz : ∀ M vs, R M vs → vs.length ≤ sizeLine) : GvL (tLst ta) σ M R := fun H mh Q q =>
  h H mh _ fun vs M1 H1 g1 p1 => ⟨hz M1 vs p1, fun p np => q p vs M1 _ (g1.trans (.own g1.mh np)) (g1.hh.free np) (g1.mh.free np) upd_same p1⟩
/-- our new list, known from now on -/
theorem GvL.gv {R : Hp → List V → Prop} (h : GvL te σ M R) (hp : ∀ M vs p, R M vs → M p = none → P (upd M p (.lst vs)) (.ref p)) : Gv te σ M P := fun H mh Q q =>
  h H mh Q fun p vs M' H' g h0 m0 hv r => q _ _ H' (g.freeze h0 m0 hv) (hp M' vs p r m0)
theorem GvL.le {R : Hp → List V → Prop} (hR : ∀ M M' vs, Same M M' → R M vs → R M' vs) (h : GvL te σ M R) (e : Same M M1) : GvL te σ M1 R := fun H mh Q q =>
  h H (e.trans mh) Q fun p vs M' H' g h0 m0 hv r => q p vs _ H' (g.join e mh).1 h0 (by rw [jn_none (mh.free h0)]; exact m0) hv (hR _ _ _ (g.join e mh).2 r)
end
end L3

set_option Elab.async false
set_option linter.all false
set_option maxRecDepth 100000
set_option maxHeartbeats 1000000
namespace L3
open PySem PySem.Spec PyProof.Rows L2
/-! walking a value: one rule for each kind of value, joined by «or» -/
abbrev RI := V → Hp → (It → Hp → Prop) → Prop
def PIv (X : Cx) (tg : Expr) (r : RI) : Prop :=
  ∀ {pins : List (Addr × Obj)} {s : Shared} {σ : Sl} {H : Hp} {R : It → Hp → Prop} {x : V} {u : Value}, Inv X pins σ H s → RelV x u → r x H R → wpAny (model X.prog X.w) X.A (pyIter u) (PIE X pins σ tg R) X.xe s
section
variable {X : Cx} {tg : Expr} {r r' : RI}
theorem PIv.or (h : PIv X tg r) (h' : PIv X tg r') : PIv X tg fun x H R => r x H R ∨ r' x H R := fun I rx q => q.elim (h I rx) (h' I rx)
theorem PIv.pi {l : Expr} {te : TE} (h : PIv X tg r) (hl : PE X l te) : PI X tg l fun σ H R => te σ H fun x H1 => r x H1 R where
  run pins s σ H R I q := thn (hl.run pins s σ H _ I q) fun u s1 ⟨_, _, I1, rx, q1⟩ => h I1 rx q1
theorem fps_new {pins : List (Addr × Obj)} {s : Shared} {σ : Sl} {H : Hp} {fp : List Addr} (I : Inv X pins σ H s) (h : ∀ b ∈ fp, s.heap.objs.size ≤ b) : ∀ b ∈ fp, FpOk X pins H b :=
  fun b hb => I.fpOk (h b hb) (I.hok.fresh (h b hb))
/-- a value whose iterator is one new object -/
theorem walk_new {pins : List (Addr × Obj)} {s : Shared} {σ : Sl} {H : Hp} {R : It → Hp → Prop} {u : Value} {o : Obj} {G : Heap → Prop} {J : It} {tn : Addr → Nat → Heap → Prop} (B : Begins u o G) (I : Inv X pins σ H s) (g : G s.heap)
    (T : ∀ it, Turn X.prog X.w X.K tg J [it] it (tn it)) (h0 : ∀ it h, h.get? it = some o → tn it 0 h) (q : R J H) : wpAny (model X.prog X.w) X.A (pyIter u) (PIE X pins σ tg R) X.xe s :=
  B.iter _ _ _ _ s _ g ⟨s.heap.objs.size, _, _, J, H, rfl, I.kept (t' := s.toks) (fun _ _ z => Heap.get?_push_of_some _ z), T _, h0 _ _ (Heap.get?_push_size _ B.free), fps_new I (by intro b hb; rw [List.mem_singleton.mp hb]; exact Nat.le_refl _), q⟩
def wLst (K : PySem.W.Frag) : RI := fun x H R => ∃ a xs, x = .ref a ∧ SqL K H a xs ∧ R (Itl K a) H
def wTup (K : PySem.W.Frag) : RI := fun x H R => ∃ a xs, x = .ref a ∧ SqT K H a xs ∧ R (Itt K a) H
theorem pv_lst : PIv X tg (wLst X.K) := fun I rx ⟨a, xs, ea, hs, q⟩ => by
  subst ea; cases rx
  let ⟨its, _, pl, _⟩ := I.list hs
  exact walk_new (begins_list a its.toArray) I pl.isList (turn_list a) (fun it h e => ⟨_, e, rfl, rfl⟩) q
theorem pv_tup : PIv X tg (wTup X.K) := fun I rx ⟨a, xs, ea, hs, q⟩ => by
  subst ea; cases rx
  let ⟨its, _, pl, _⟩ := I.tuple hs
  exact walk_new (begins_tuple a its.toArray) I pl (turn_tuple a) (fun it h e => ⟨_, e, rfl, rfl⟩) q
/-- a list or a tuple walked -/
def iSq (K : PySem.W.Frag) (te : TE) : TI := fun σ H R => te σ H fun x H1 => ∃ a, x = .ref a ∧ ((∃ xs, SqL K H1 a xs ∧ R (Itl K a) H1) ∨ ∃ xs, SqT K H1 a xs ∧ R (Itt K a) H1)
theorem pi_sq {l : Expr} {te : TE} (hl : PE X l te) : PI X tg l (iSq X.K te) :=
  PIv.pi (r := fun x H1 R => ∃ a, x = .ref a ∧ ((∃ xs, SqL X.K H1 a xs ∧ R (Itl X.K a) H1) ∨ ∃ xs, SqT X.K H1 a xs ∧ R (Itt X.K a) H1))
    (fun I rx ⟨a, ea, q⟩ => (pv_lst.or pv_tup) I rx (q.imp (fun ⟨xs, z⟩ => ⟨a, xs, ea, z⟩) fun ⟨xs, z⟩ => ⟨a, xs, ea, z⟩)) hl
end

/-! enumerate over anything whose items stand still -/
structure Still (P : Program) (w : World) (K : PySem.W.Frag) (a : Addr) (o : Obj) (rd : Hp → List V → Prop) (pt : Addr → Nat → Heap → Prop) (fx : List Value → Heap → Prop) : Prop where
  got : ∀ {X : Cx} {pins : List (Addr × Obj)} {σ : Sl} {H : Hp} {s : Shared} {xs : List V}, X.K = K → Inv X pins σ H s → rd H xs → ∃ its, Vals xs its ∧ fx its s.heap
  one : ∀ {X : Cx} {pins : List (Addr × Obj)} {σ : Sl} {H : Hp} {s : Shared} {xs ys : List V}, X.K = K → Inv X pins σ H s → rd H xs → rd H ys → xs = ys
  dr : ∀ {A : Around} {it : Addr} (its : List Value), A.handled = none → a ≠ it → Draws P w A it [it, a] its.toArray.size (fun i v => its.toArray[i]? = some v) (fun i h => pt it i h ∧ fx its h)
  live : ∀ {it : Addr} {i : Nat} {h : Heap}, pt it i h → ∃ ob, h.get? it = some ob ∧ ∀ v, ob.data ≠ .cell v
  mv : ∀ {it : Addr} {i : Nat} {h h' : Heap}, pt it i h → (∀ ob, h.get? it = some ob → h'.get? it = some ob) → pt it i h'
  lt : ∀ {its : List Value} {h : Heap}, fx its h → a < h.objs.size
  bg : ∀ its : List Value, Begins (.ref a) o (fx its)
  st : ∀ {it : Addr} {h : Heap}, h.get? it = some o → pt it 0 h
theorem still_lst {P : Program} {w : World} {K : PySem.W.Frag} (a : Addr) : Still P w K a { cls := .type "list_iterator", data := .fields #[.ref a, .int 0 0] } (fun H xs => SqL K H a xs) (fun it i h => h.IsListIter it a i) (fun its h => h.IsList a its.toArray) where
  got hk I h := by subst hk; let ⟨its, r, p, _⟩ := I.list h; exact ⟨its, r, p.isList⟩
  one hk I h h' := by subst hk; exact I.list_inj h h'
  dr its hh hn := Draws.list hh _ _ hn _
  live h := let ⟨ob, e, _, d⟩ := h; ⟨ob, e, fun v z => by rw [d] at z; exact nomatch z⟩
  mv h k := let ⟨ob, e, z⟩ := h; ⟨ob, k ob e, z⟩
  lt h := let ⟨_, e, _⟩ := h; Heap.lt_size e
  bg its := begins_list a its.toArray
  st h := ⟨_, h, rfl, rfl⟩
theorem still_tup {P : Program} {w : World} {K : PySem.W.Frag} (a : Addr) : Still P w K a { cls := .type "tuple_iterator", data := .fields #[.ref a, .int 0 0] } (fun H xs => SqT K H a xs) (fun it i h => h.IsTupleIter it a i) (fun its h => h.IsTuple a its.toArray) where
  got hk I h := by subst hk; let ⟨its, r, p, _⟩ := I.tuple h; exact ⟨its, r, p⟩
  one hk I h h' := by subst hk; exact I.tuple_inj h h'
  dr its hh hn := Draws.tuple hh _ _ hn _
  live h := let ⟨ob, e, _, d⟩ := h; ⟨ob, e, fun v z => by rw [d] at z; exact nomatch z⟩
  mv h k := let ⟨ob, e, z⟩ := h; ⟨ob, k ob e, z⟩
  lt h := let ⟨_, e, _⟩ := h; Heap.lt_size e
  bg its := begins_tuple a its.toArray
  st h := ⟨_, h, rfl, rfl⟩
/-- the walk: number and item as a new pair -/
def IeS (rd : Hp → List V → Prop) : It :=
  ⟨fun i H => ∃ xs, rd H xs ∧ i < xs.length, fun i H v H' => ∃ p x, v = .ref p ∧ H p = none ∧ H' = upd H p (.tup [.int (i : Nat), x]) ∧ ∀ xs, rd H xs → xs[i]? = some x, fun i H => ∃ xs, rd H xs ∧ xs.length = i⟩
theorem walk_eS {rd : Hp → List V → Prop} {xs : List V} : Walk (IeS rd) xs.length (fun H => rd H xs) (YPair (fun i => some (.int (i : Nat))) (fun i => xs[i]?)) :=
  ⟨fun _ _ hi q => ⟨xs, q, hi⟩, fun _ q => ⟨xs, q, rfl⟩, fun i _ _ _ _ q ⟨p, x, h1, h2, h3, h4⟩ => ⟨p, _, x, h1, h2, h3, rfl, h4 xs q⟩⟩
section
variable {P : Program} {w : World} {K : PySem.W.Frag} {a : Addr} {o : Obj} {rd : Hp → List V → Prop} {pt : Addr → Nat → Heap → Prop} {fx : List Value → Heap → Prop} {elts : List Expr} {kk : Nat} {tpos : Pos}
/-- where the two objects of the walk stand -/
def EnAt (pt : Addr → Nat → Heap → Prop) (e it : Addr) (i : Nat) (h : Heap) : Prop := ∃ old, IsEnum h e it (i : Nat) old ∧ pt it i h
theorem turn_eS (S : Still P w K a o rd pt fx) {e it : Addr} (n1 : e ≠ it) (n2 : e ≠ a) (n3 : a ≠ it) : Turn P w K (.Tuple elts kk tpos) (IeS rd) [e, it] e (EnAt pt e it) where
  mem := .head _
  obj := fun i h ⟨old, he, hp⟩ b hb => by
    cases hb with
    | head => exact ⟨_, he, fun v z => nomatch z⟩
    | tail _ hb => rw [List.mem_singleton.mp hb]; exact S.live hp
  keep := fun i h h' ⟨old, he, hp⟩ k => ⟨old, k e (.head _) _ he, S.mv hp (k it (.tail _ (.head _)))⟩
  self := fun A i s Q E ⟨old, he, _⟩ q => wpAny_pyIter_enum he q
  done := fun X e1 e2 e3 hc i pins s σ H E I hf ⟨old, he, hp⟩ ⟨xs, hx, hl⟩ => by
    subst e1 e2
    obtain ⟨its, rv, fx0⟩ := S.got e3 I hx
    have hi : i = its.toArray.size := by rw [List.size_toArray, ← rv.length, hl]
    subst hi
    have f := hf it (.tail _ (.head _))
    exact wpAny_pyNext_enum_endD (S.dr (A := X.A.in1) its (I.ok.hd hc) n3) he ⟨hp, fx0⟩ fun h' k => ⟨rfl, I.turned (t' := s.toks) k f.1 f.2.1 f.2.2.2.1 f.2.2.2.2.1 f.2.2.2.2.2⟩
  item := fun X e1 e2 e3 hc i pins s σ H E I hf ⟨old, he, hp⟩ ⟨xs, hx, hl⟩ => by
    subst e1 e2
    obtain ⟨its, rv, fx0⟩ := S.got e3 I hx
    have hlt : i < its.toArray.size := by rw [List.size_toArray, ← rv.length]; exact hl
    have be := Heap.lt_size he
    have bi : it < s.heap.objs.size := let ⟨_, z, _⟩ := S.live hp; Heap.lt_size z
    have out : e ∉ [it, a] := fun z => by
      cases z with
      | head => exact n1 rfl
      | tail _ z => exact n2 (List.mem_singleton.mp z)
    refine wpAny_pyNext_enum_itemD (S.dr (A := X.A.in1) its (I.ok.hd hc) n3) he ⟨hp, fx0⟩ hlt n1 out fun y h1 tk hy eo pt1 new _ kp => ⟨_, rfl, ?_⟩
    refine wpAny_letOwnedTupleGo_enum (s := { s with heap := h1, toks := tk + 1 }) eo fun h2 en sb => ?_
    obtain ⟨x, gx, rx⟩ : ∃ x, xs[i]? = some x ∧ RelV x y := by
      have z := rv.get (x := xs[i]) (List.getElem?_eq_getElem hl)
      obtain ⟨y', g, rr⟩ := z
      rw [List.getElem?_toArray, g] at hy
      exact ⟨_, List.getElem?_eq_getElem hl, Option.some.inj hy ▸ rr⟩
    have stands : h2.get? s.heap.objs.size = some { cls := .type "tuple", data := .seq #[.int i tk, y] } := (sb.2 _ (Nat.ne_of_gt be)).trans new
    have kept : ∀ b ob, b ∉ [e, it] → s.heap.get? b = some ob → h2.get? b = some ob := fun b ob hb z =>
      have m1 : b ≠ e := fun q => hb (q ▸ .head _)
      (sb.2 b m1).trans (kp b ob m1 (fun q => hb (q ▸ .tail _ (.head _))) z)
    have J := I.turnedNew (t' := tk + 1) (ob := .tup [.int (i : Nat), x]) kept hf (Nat.le_refl _) ⟨(by show 2 ≤ sizeLine; decide), [.int i tk, y], .cons ⟨_, rfl⟩ (.cons rx .nil), ⟨_, stands, rfl, _, rfl⟩⟩
    refine ⟨.ref s.heap.objs.size, _, J, rfl, ⟨_, x, rfl, I.hok.fresh (Nat.le_refl _), rfl, fun ys hy' => S.one e3 I hx hy' ▸ gx⟩, ⟨y, en, S.mv pt1.1 fun ob z => (sb.2 it (Ne.symm n1)).trans z⟩, fun b hb => ?_⟩
    have bb : b ≠ s.heap.objs.size := by
      cases hb with
      | head => exact Nat.ne_of_lt be
      | tail _ hb => rw [List.mem_singleton.mp hb]; exact Nat.ne_of_lt bi
    rw [upd_ne bb]
    exact (hf b hb).1
/-- enumerate(v): two new objects -/
theorem en_new {v : Value} {o : Obj} {G : Heap → Prop} (B : Begins v o G) : Meets (Builtin.«enumerate.__new__» ⟨[.type "enumerate", v], []⟩) fun _ R s => G s.heap ∧
    R (.ok (.ret (.ref (s.heap.push o).objs.size))) { s with heap := (s.heap.push o).push { cls := .type "enumerate", data := .fields #[.none, .bool false, .ref s.heap.objs.size, rawInt 0, .none, .none] } } := by
  refine Meets.of_wp fun prog w A R ⟨hp, gs, dn, tk, os⟩ q => ?_
  have isub := sub_enumerate
  have first {A' : Around} {E Q : Value → Shared → Prop} (z : Q (.ref hp.objs.size) ⟨hp.push o, gs, dn, tk, os⟩) : wpAny (model prog w) A' (pyIter v) Q E ⟨hp, gs, dn, tk, os⟩ := B.iter prog w A' E ⟨hp, gs, dn, tk, os⟩ Q q.1 z
  wp_walk using first
  refine wpAny_stack_any fun st => wpAny_pure ?_
  split
  next c _ _ _ _ _ => by_cases hcl : (c == Value.type "enumerate") = true <;> simp only [hcl] <;> wp_walk using first <;> exact ⟨_, rfl, q.2⟩
  next => wp_walk using first; exact ⟨_, rfl, q.2⟩
theorem en_walk {X : Cx} {pins : List (Addr × Obj)} {s : Shared} {σ : Sl} {H : Hp} {R : It → Hp → Prop} {xs : List V} (S : Still X.prog X.w X.K a o rd pt fx) (I : Inv X pins σ H s) (hx : rd H xs) (q : R (IeS rd) H) :
    wpAny (model X.prog X.w) X.A (call (.type "enumerate") [.ref a]) (fun v s1 => wpAny (model X.prog X.w) X.A (pyIter v) (PIE X pins σ (.Tuple elts kk tpos) R) X.xe s1) X.xe s := by
  obtain ⟨its, _, f0⟩ := S.got rfl I hx
  have la := S.lt f0
  have B := S.bg its
  have hN : (s.heap.push o).objs.size = s.heap.objs.size + 1 := Heap.size_push ..
  apply callType_new F.called_enumerate (by decide) (F.typeCall_enumerate_1 _) (F.newCall_enumerate_1 _) (fun ob => F.args_object_init_2 ob _) F.entry_enumerate_new (en_new B)
  refine ⟨f0, ?_⟩
  have top := Heap.get?_push_size (s.heap.push o) (o := ({ cls := .type "enumerate", data := .fields #[.none, .bool false, .ref s.heap.objs.size, rawInt 0, .none, .none] } : Obj)) rfl
  have below : ∀ b ob, (s.heap.push o).get? b = some ob → ((s.heap.push o).push { cls := .type "enumerate", data := .fields #[.none, .bool false, .ref s.heap.objs.size, rawInt 0, .none, .none] }).get? b = some ob := fun b ob z => Heap.get?_push_of_some _ z
  refine ⟨⟨_, top, rfl⟩, ?_⟩
  rw [hN] at top ⊢
  refine wpAny_pyIter_enum top ⟨_, [s.heap.objs.size + 1, s.heap.objs.size], _, IeS rd, H, rfl, I.kept (t' := s.toks) (fun b ob z => below b ob (Heap.get?_push_of_some _ z)), turn_eS S (Nat.succ_ne_self _) (Nat.ne_of_gt (Nat.lt_succ_of_lt la)) (Nat.ne_of_lt la), ⟨.none, top, S.st (below _ _ (Heap.get?_push_size _ B.free))⟩, fps_new I fun b hb => ?_, q⟩
  cases hb with
  | head => exact Nat.le_succ _
  | tail _ hb => rw [List.mem_singleton.mp hb]; exact Nat.le_refl _
end
def iEn (K : PySem.W.Frag) (ta : TA) : TI := fun σ H R => ta σ H fun vs H1 => ∃ a, vs = [.ref a] ∧ ((∃ xs, SqL K H1 a xs ∧ R (IeS fun H xs => SqL K H a xs) H1) ∨ ∃ xs, SqT K H1 a xs ∧ R (IeS fun H xs => SqT K H a xs) H1)
theorem pi_en {X : Cx} {e : Expr} {ta : TA} {p pos tpos : Pos} {elts : List Expr} {kk : Nat} (hg : Gl X "enumerate") (hm : X.mg "enumerate" = none) (ha : PA X [e] ta) (hs : starEach [e] X.env = [(false, eval e X.env)] := by rfl) :
    PI X (.Tuple elts kk tpos) (.Call (.Name "enumerate" p) [e] [] pos) (iEn X.K ta) where
  run pins s σ H R I h := by
    refine Call_ (ld_blt I hg hm boot_enumerate (PyProof.Rows.callWith_type1 (thn (ha.run pos pins s σ H _ I h) fun us s1 z => ?_) hs rfl))
    obtain ⟨vs, H1, I1, rvs, a, rfl, q⟩ := z
    obtain ⟨_, rfl, rfl⟩ := vals1 rvs
    rcases q with ⟨xs, hx, q⟩ | ⟨xs, hx, q⟩
    · exact en_walk (still_lst a) I1 hx q
    · exact en_walk (still_tup a) I1 hx q
end L3

set_option Elab.async false
set_option linter.all false
set_option maxRecDepth 100000
set_option maxHeartbeats 1000000
namespace L3
open PySem PySem.Spec PyProof.Rows L2
/-! typed relations -/
abbrev Rl (α : Type) := α → Pr
class Mon {α : Type} (R : Rl α) : Prop where
  mono : ∀ {x : α} {M M' : Hp} {v : V}, Same M M' → R x M v → R x M' v
instance {α : Type} {R : Rl α} [h : Mon R] {x : α} : Mono (R x) := ⟨fun e p => h.mono e p⟩
instance : Mon Tx := ⟨fun _ h => h⟩
instance : Mon It' := ⟨fun _ h => h⟩
instance : Mon Bl := ⟨fun _ h => h⟩
instance {K : PySem.W.Frag} : Mon (Dd K) := ⟨fun e h => dp_mono e h⟩
abbrev Pd {α : Type} (R : Rl α) (M : Hp) : List α → List V → Prop := Paired fun x v => R x M v
theorem Pd.mono {α : Type} {R : Rl α} [Mon R] {M M' : Hp} (e : Same M M') {xs : List α} {vs : List V} (h : Pd R M xs vs) : Pd R M' xs vs := Paired.mapP h fun _ _ q => Mon.mono e q
theorem pd_get {α β : Type} {F : α → β → Prop} : ∀ {xs : List α} {vs : List β} {i : Nat} {x : α}, Paired F xs vs → xs[i]? = some x → ∃ v, vs[i]? = some v ∧ F x v
  | _, _, _, _, .nil, e => by simp at e
  | _, _, 0, _, .cons h _, e => by
    have e' := Option.some.inj (show some _ = some _ from e)
    subst e'
    exact ⟨_, rfl, h⟩
  | _, _, i + 1, _, .cons _ t, e => pd_get (i := i) t (by simpa using e)
theorem pd_get' {α β : Type} {F : α → β → Prop} : ∀ {xs : List α} {vs : List β} {i : Nat} {v : β}, Paired F xs vs → vs[i]? = some v → ∃ x, xs[i]? = some x ∧ F x v
  | _, _, _, _, .nil, e => by simp at e
  | _, _, 0, _, .cons h _, e => by
    have e' := Option.some.inj (show some _ = some _ from e)
    subst e'
    exact ⟨_, rfl, h⟩
  | _, _, i + 1, _, .cons _ t, e => pd_get' (i := i) t (by simpa using e)
theorem pd_app {α β : Type} {F : α → β → Prop} : ∀ {xs ys : List α} {vs ws : List β}, Paired F xs vs → Paired F ys ws → Paired F (xs ++ ys) (vs ++ ws)
  | _, _, _, _, .nil, s => s
  | _, _, _, _, .cons r t, s => .cons r (pd_app t s)
theorem pd_take {α β : Type} {F : α → β → Prop} : ∀ {xs : List α} {vs : List β} (n : Nat), Paired F xs vs → Paired F (xs.take n) (vs.take n)
  | _, _, 0, _ => .nil
  | _, _, _ + 1, .nil => .nil
  | _, _, n + 1, .cons r t => .cons r (pd_take n t)
theorem pd_drop {α β : Type} {F : α → β → Prop} : ∀ {xs : List α} {vs : List β} (n : Nat), Paired F xs vs → Paired F (xs.drop n) (vs.drop n)
  | _, _, 0, h => h
  | _, _, _ + 1, .nil => .nil
  | _, _, n + 1, .cons _ t => pd_drop n t
def TupR (K : PySem.W.Frag) {α : Type} (R : Rl α) : Rl (List α) := fun xs M v => ∃ a vs, v = .ref a ∧ SqT K M a vs ∧ Pd R M xs vs
def LstR (K : PySem.W.Frag) {α : Type} (R : Rl α) : Rl (List α) := fun xs M v => ∃ a vs, v = .ref a ∧ SqL K M a vs ∧ Pd R M xs vs
def SqR (K : PySem.W.Frag) {α : Type} (R : Rl α) : Rl (List α) := fun xs M v => LstR K R xs M v ∨ TupR K R xs M v
section
variable {K : PySem.W.Frag} {α : Type} {R : Rl α}
instance [Mon R] : Mon (TupR K R) := ⟨fun e ⟨a, vs, h1, h2, h3⟩ => ⟨a, vs, h1, st_mono e h2, h3.mono e⟩⟩
instance [Mon R] : Mon (LstR K R) := ⟨fun e ⟨a, vs, h1, h2, h3⟩ => ⟨a, vs, h1, sl_mono e h2, h3.mono e⟩⟩
instance [Mon R] : Mon (SqR K R) := ⟨fun e h => h.imp (Mon.mono e) (Mon.mono e)⟩
theorem TupR.sq {xs : List α} {M : Hp} {v : V} (h : TupR K R xs M v) : SqR K R xs M v := .inr h
theorem LstR.sq {xs : List α} {M : Hp} {v : V} (h : LstR K R xs M v) : SqR K R xs M v := .inl h
/-- as data -/
def PyR (K : PySem.W.Frag) (R : Rl α) (e : α → PyData) : Prop := ∀ x M v, R x M v → Dp K M v (e x)
theorem py_str : PyR K Tx PyData.str := fun x M v h => by cases (show v = .str x from h); exact .str x
theorem py_int : PyR K It' PyData.int := fun x M v h => by cases (show v = .int x from h); exact .int x
theorem py_bl : PyR K Bl PyData.bool := fun x M v h => by cases (show v = .bl x from h); exact .bl x
theorem py_all {e : α → PyData} (h : PyR K R e) {M : Hp} : ∀ {xs : List α} {vs : List V}, Pd R M xs vs → DpAll K M vs (xs.map e)
  | _, _, .nil => .nil
  | _, _, .cons q t => .cons (h _ _ _ q) (py_all h t)
theorem py_tup {e : α → PyData} (h : PyR K R e) : PyR K (TupR K R) fun xs => .tuple (xs.map e) := fun xs M v ⟨a, vs, h1, h2, h3⟩ => by subst h1; exact .tup h2 (py_all h h3)
theorem py_lst {e : α → PyData} (h : PyR K R e) : PyR K (LstR K R) fun xs => .list (xs.map e) := fun xs M v ⟨a, vs, h1, h2, h3⟩ => by subst h1; exact .lst h2 (py_all h h3)
theorem py_sq {e : α → PyData} (h : PyR K R e) {xs : List α} {M : Hp} {v : V} (q : SqR K R xs M v) : Sq K (xs.map e) M v := q.imp (py_lst h _ _ _) (py_tup h _ _ _)
/-- e tells things apart as == does -/
def Inj (e : α → PyData) [DecidableEq α] : Prop := ∀ x y, PyData.eqv (e x) (e y) = decide (x = y)
theorem str_beq (x y : Str) : (x == y) = decide (x = y) := by
  by_cases h : x = y
  · subst h; simp
  · rw [decide_eq_false h]; exact beq_eq_false_iff_ne.mpr h
theorem inj_str : Inj PyData.str := fun x y => by simp only [PyData.eqv]; exact str_beq x y
theorem inj_int : Inj PyData.int := fun x y => by
  simp only [PyData.eqv]
  by_cases h : x = y
  · subst h; simp
  · rw [decide_eq_false h]; exact beq_eq_false_iff_ne.mpr h
theorem inj_all {e : α → PyData} [DecidableEq α] (h : Inj e) : ∀ xs ys : List α, PyData.eqvAll (xs.map e) (ys.map e) = decide (xs = ys)
  | [], [] => by simp [PyData.eqvAll]
  | [], _ :: _ => by simp [PyData.eqvAll]
  | _ :: _, [] => by simp [PyData.eqvAll]
  | x :: xs, y :: ys => by
    simp only [List.map_cons, PyData.eqvAll, h x y, inj_all h xs ys]
    by_cases h1 : x = y <;> by_cases h2 : xs = ys <;> simp [h1, h2]
theorem inj_tup {e : α → PyData} [DecidableEq α] (h : Inj e) : Inj fun xs : List α => PyData.tuple (xs.map e) := fun xs ys => by simp only [PyData.eqv]; exact inj_all h xs ys
theorem inj_lst {e : α → PyData} [DecidableEq α] (h : Inj e) : Inj fun xs : List α => PyData.list (xs.map e) := fun xs ys => by simp only [PyData.eqv]; exact inj_all h xs ys
theorem any_mem {e : α → PyData} [DecidableEq α] (h : Inj e) (x : α) : ∀ xs : List α, ((xs.map e).any fun z => PyData.eqv z (e x)) = decide (x ∈ xs)
  | [] => by simp
  | y :: ys => by
    rw [List.map_cons, List.any_cons, any_mem h x ys, h y x]
    by_cases h1 : x = y
    · subst h1; simp
    · have h2 : ¬ y = x := fun z => h1 z.symm
      simp [h1, h2]
end
section
variable {K : PySem.W.Frag} {σ : Sl} {M : Hp} {ta tb te ts : TE} {tt : TT} {α β : Type} {R : Rl α} {S : Rl β}
theorem gv_eqT {e : α → PyData} [DecidableEq α] [Mon R] {neg : Bool} {x y : α} (pe : PyR K R e) (ie : Inj e) (ha : Gv ta σ M (R x)) (hb : Gv tb σ M (R y)) (hz : (e x).depth ≤ 60) : Gv (tOp (rEqP K neg) ta tb) σ M (Bl (xor neg (decide (x = y)))) := by
  rw [← ie]
  exact gv_eq (gv_is ha fun M v h => pe _ _ _ h) (gv_is hb fun M v h => pe _ _ _ h) hz
theorem wipe1 {j : Nat} {v : V} : wipe ((wipe σ [j]).set j (some v)) [j] = wipe σ [j] := by
  show ((σ.set j none).set j (some v)).set j none = σ.set j none
  rw [List.set_set, List.set_set]
/-- a comprehension over a list or tuple -/
theorem gl_lc [Mon R] [Mon S] {j : Nat} {xs : List α} (hsrc : Gv ts σ M (SqR K R xs)) (hz : xs.length ≤ sizeLine) (t : α → Bool) (f : α → β)
    (ht : ∀ x ∈ xs, ∀ M1 v, Same M M1 → R x M1 v → GvT tt ((wipe σ [j]).set j (some v)) M1 (t x))
    (he : ∀ x ∈ xs, t x = true → ∀ M1 v, Same M M1 → R x M1 v → Gv te ((wipe σ [j]).set j (some v)) M1 (S (f x))) :
    GvL (tLc (iSq K ts) (gName j) tt te [j]) σ M fun M vs => Pd S M ((xs.filter t).map f) vs := by
  intro H mh Q q
  refine hsrc H mh _ fun v M1 H1 g1 hv => ?_
  have core : ∀ (J : It) (G : Hp → Prop) (vs : List V), Walk J vs.length G (YAt vs) → (∀ M2 H2, Same M1 M2 → Same M2 H2 → G H2) → Pd R M1 xs vs →
      ∀ D, H1 D = none → ∃ W : Nat → Nat → Hp → Prop, (∃ m, W 0 m (upd H1 D (.lst []))) ∧ ∀ i m H, W i m H →
        (J.stop i H ∧ Q (.ref D) H) ∨ (J.go i H ∧ ∃ Nx : Hp → Prop, (∀ H', Nx H' → ∃ m', m' < m ∧ W (i + 1) m' H') ∧ ∀ x H', J.yld i H x H' → gName j x (wipe σ [j]) H' fun σ2 H2 => wipe σ2 [j] = wipe σ [j] ∧ tt σ2 H2 fun b H3 =>
          if b = true then te σ2 H3 fun y H4 => ∃ acc, H4 D = some (.lst acc) ∧ acc.length < sizeLine ∧ Nx (upd H4 D (.lst (acc ++ [y]))) else Nx H3) := by
    intro J G vs w hG hp D hD
    refine lc_it w (fun i H' => ∃ M' ws, Gr M1 H1 M' H' ∧ M' D = none ∧ H' D = some (.lst ws) ∧ ws.length ≤ i ∧ Pd S M' (((xs.take i).filter t).map f) ws) ⟨M1, [], .own g1.mh hD, g1.mh.free hD, upd_same, Nat.le_refl _, .nil⟩ (fun i H' _ ⟨M', ws, g, _⟩ => hG M' H' g.mm g.mh) ?_ ?_
    · rintro i y H' H'' hi ⟨M', ws, g, m0, hw, hl, hpd⟩ ⟨rfl, hy⟩
      obtain ⟨x, hx, rx⟩ := pd_get' hp hy
      have hxm : x ∈ xs := List.mem_of_getElem? hx
      have et : xs.take (i + 1) = xs.take i ++ [x] := by rw [List.take_add_one, hx]; rfl
      have hil : i < xs.length := (List.getElem?_eq_some_iff.mp hx).1
      refine ⟨wipe1, ht x hxm M' y (g1.mm.trans g.mm) (Mon.mono g.mm rx) H'' g.mh _ fun M2 H2 g2 => ?_⟩
      cases ex : t x with
      | true =>
        refine he x hxm ex M2 y ((g1.mm.trans g.mm).trans g2.mm) (Mon.mono (g.mm.trans g2.mm) rx) H2 g2.mh _ fun z M3 H3 g3 hz3 => ?_
        have g' := (g.trans g2).trans g3
        have k3 : H3 D = some (.lst ws) := g3.hh _ _ (g2.hh _ _ hw)
        have m3 : M3 D = none := (g2.trans g3).keep m0 hw
        refine ⟨ws, k3, Nat.lt_of_lt_of_le (Nat.lt_of_le_of_lt hl hil) hz, M3, ws ++ [z], g'.mut hD m3, m3, upd_same, by rw [List.length_append]; exact Nat.succ_le_succ hl, ?_⟩
        rw [et, List.filter_append, List.map_append, List.filter_cons, ex]
        exact pd_app (hpd.mono (g2.mm.trans g3.mm)) (.cons hz3 .nil)
      | false =>
        refine ⟨M2, ws, g.trans g2, g2.keep m0 hw, g2.hh _ _ hw, Nat.le_succ_of_le hl, ?_⟩
        rw [et, List.filter_append, List.map_append, List.filter_cons, ex]
        show Pd S M2 (_ ++ []) ws
        rw [List.append_nil]
        exact hpd.mono g2.mm
    · rintro H' ⟨M', ws, g, m0, hw, hl, hpd⟩
      rw [List.take_of_length_le (by rw [hp.length]; exact Nat.le_refl _)] at hpd
      exact q D ws M' H' (g1.trans g) (g1.hh.free hD) m0 hw hpd
  rcases hv with ⟨a, vs, rfl, hs, hp⟩ | ⟨a, vs, rfl, hs, hp⟩
  · exact ⟨a, rfl, .inl ⟨vs, sl_mono g1.mh hs, core (Itl K a) (fun H => SqL K H a vs) vs walk_list (fun M2 H2 s1 s2 => sl_mono (s1.trans s2) hs) hp⟩⟩
  · exact ⟨a, rfl, .inr ⟨vs, st_mono g1.mh hs, core (Itt K a) (fun H => SqT K H a vs) vs walk_tup (fun M2 H2 s1 s2 => st_mono (s1.trans s2) hs) hp⟩⟩
end
end L3

set_option Elab.async false
set_option linter.all false
set_option maxRecDepth 100000
set_option maxHeartbeats 1000000
namespace L3
open PySem PySem.Spec PyProof.Rows L2
/-! promises of pure defs -/
section
variable {α β γ : Type}
def sp1 (R1 : Rl α) (pre : α → Prop) (R : α → Pr) : Sp := fun vs H Q _ => ∃ x M v, vs = [v] ∧ Same M H ∧ R1 x M v ∧ pre x ∧ ∀ u M' H', Gr M H M' H' → R x M' u → Q u H'
def sp2 (R1 : Rl α) (R2 : Rl β) (pre : α → β → Prop) (R : α → β → Pr) : Sp := fun vs H Q _ => ∃ x y M v w, vs = [v, w] ∧ Same M H ∧ R1 x M v ∧ R2 y M w ∧ pre x y ∧ ∀ u M' H', Gr M H M' H' → R x y M' u → Q u H'
def sp3 (R1 : Rl α) (R2 : Rl β) (R3 : Rl γ) (pre : α → β → γ → Prop) (R : α → β → γ → Pr) : Sp := fun vs H Q _ => ∃ x y z M v w u, vs = [v, w, u] ∧ Same M H ∧ R1 x M v ∧ R2 y M w ∧ R3 z M u ∧ pre x y z ∧ ∀ u M' H', Gr M H M' H' → R x y z M' u → Q u H'
/-- a new list comes back -/
def sl1 (R1 : Rl α) (pre : α → Prop) (R : α → Hp → List V → Prop) : Sp := fun vs H Q _ => ∃ x M v, vs = [v] ∧ Same M H ∧ R1 x M v ∧ pre x ∧
  ∀ p ws M' H', Gr M H M' H' → H p = none → M' p = none → H' p = some (.lst ws) → R x M' ws → Q (.ref p) H'
def sl2 (R1 : Rl α) (R2 : Rl β) (pre : α → β → Prop) (R : α → β → Hp → List V → Prop) : Sp := fun vs H Q _ => ∃ x y M v w, vs = [v, w] ∧ Same M H ∧ R1 x M v ∧ R2 y M w ∧ pre x y ∧
  ∀ p ws M' H', Gr M H M' H' → H p = none → M' p = none → H' p = some (.lst ws) → R x y M' ws → Q (.ref p) H'
variable {K : PySem.W.Frag} {σ : Sl} {M : Hp} {t1 t2 t3 ta te ts : TE} {R1 : Rl α} {R2 : Rl β} {R3 : Rl γ} {E : XK}
theorem gv_call1 {pre : α → Prop} {R : α → Pr} {x : α} (h1 : Gv t1 σ M (R1 x)) (hp : pre x) : Gv (tCall (sp1 R1 pre R) [] E (tCons t1 tNil)) σ M (R x) := fun H mh Q q =>
  h1 H mh _ fun v M1 H1 g1 p1 => ⟨x, M1, v, rfl, g1.mh, p1, hp, fun u M' H' g r => q u M' H' (g1.trans g) r⟩
theorem gv_call2 [Mon R1] [Mon R2] {pre : α → β → Prop} {R : α → β → Pr} {x : α} {y : β} (h1 : Gv t1 σ M (R1 x)) (h2 : Gv t2 σ M (R2 y)) (hp : pre x y) : Gv (tCall (sp2 R1 R2 pre R) [] E (tCons t1 (tCons t2 tNil))) σ M (R x y) := fun H mh Q q =>
  h1 H mh _ fun v M1 H1 g1 p1 => h2.le g1.mm H1 g1.mh _ fun w M2 H2 g2 p2 => ⟨x, y, M2, v, w, rfl, g2.mh, Mon.mono g2.mm p1, p2, hp, fun u M' H' g r => q u M' H' ((g1.trans g2).trans g) r⟩
theorem gv_call3 [Mon R1] [Mon R2] [Mon R3] {pre : α → β → γ → Prop} {R : α → β → γ → Pr} {x : α} {y : β} {z : γ} (h1 : Gv t1 σ M (R1 x)) (h2 : Gv t2 σ M (R2 y)) (h3 : Gv t3 σ M (R3 z)) (hp : pre x y z) :
    Gv (tCall (sp3 R1 R2 R3 pre R) [] E (tCons t1 (tCons t2 (tCons t3 tNil)))) σ M (R x y z) := fun H mh Q q =>
  h1 H mh _ fun v M1 H1 g1 p1 => h2.le g1.mm H1 g1.mh _ fun w M2 H2 g2 p2 => h3.le (g1.mm.trans g2.mm) H2 g2.mh _ fun u M3 H3 g3 p3 =>
    ⟨x, y, z, M3, v, w, u, rfl, g3.mh, Mon.mono (g2.mm.trans g3.mm) p1, Mon.mono g3.mm p2, p3, hp, fun u M' H' g r => q u M' H' (((g1.trans g2).trans g3).trans g) r⟩
theorem gl_call2 [Mon R1] [Mon R2] {pre : α → β → Prop} {R : α → β → Hp → List V → Prop} {x : α} {y : β} (h1 : Gv t1 σ M (R1 x)) (h2 : Gv t2 σ M (R2 y)) (hp : pre x y) : GvL (tCall (sl2 R1 R2 pre R) [] E (tCons t1 (tCons t2 tNil))) σ M (R x y) := fun H mh Q q =>
  h1 H mh _ fun v M1 H1 g1 p1 => h2.le g1.mm H1 g1.mh _ fun w M2 H2 g2 p2 => ⟨x, y, M2, v, w, rfl, g2.mh, Mon.mono g2.mm p1, p2, hp, fun p ws M' H' g h0 m0 hw r => q p ws M' H' ((g1.trans g2).trans g) ((g1.trans g2).hh.free h0) m0 hw r⟩
/-! built-ins -/
theorem gv_cb1 {r : List V → Hp → VK → Prop} {P P' : Pr} [Mono P] (h : Gv te σ M P) (hr : ∀ M' v, P M' v → RV (r [v]) M' P') : Gv (tCB r (tCons te tNil)) σ M P' := fun H mh Q q =>
  h H mh _ fun v M1 H1 g1 p1 => hr M1 v p1 H1 g1.mh Q fun u M' H' g r => q u M' H' (g1.trans g) r
theorem pd_bl {bs : List Bool} {M : Hp} : ∀ {vs : List V}, Pd Bl M bs vs → vs = bs.map V.bl := by
  induction bs with
  | nil => intro vs h; cases h; rfl
  | cons b bs ih => intro vs h; cases h with | cons q t => rw [ih t, (show _ = V.bl b from q)]; rfl
theorem pd_tx {xs : List Str} {M : Hp} : ∀ {vs : List V}, Pd Tx M xs vs → vs = xs.map V.str := by
  induction xs with
  | nil => intro vs h; cases h; rfl
  | cons b bs ih => intro vs h; cases h with | cons q t => rw [ih t, (show _ = V.str b from q)]; rfl
theorem pd_of_tx {M : Hp} : ∀ (xs : List Str), Pd Tx M xs (xs.map V.str)
  | [] => .nil
  | _ :: r => .cons rfl (pd_of_tx r)
theorem gv_all {bs : List Bool} (h : GvL te σ M fun M vs => Pd Bl M bs vs) : Gv (tCB (rAll K) (tCons te tNil)) σ M (Bl (bs.all id)) := fun H mh Q q =>
  h H mh _ fun p vs M' H' g h0 m0 hw r => ⟨p, bs, rfl, by rw [pd_bl r] at hw; exact .inl (.inl hw), q _ M' H' g rfl⟩
theorem gv_any {bs : List Bool} (h : GvL te σ M fun M vs => Pd Bl M bs vs) : Gv (tCB (rAny K) (tCons te tNil)) σ M (Bl (bs.any id)) := fun H mh Q q =>
  h H mh _ fun p vs M' H' g h0 m0 hw r => ⟨p, bs, rfl, by rw [pd_bl r] at hw; exact .inl (.inl hw), q _ M' H' g rfl⟩
def rTupOf (K : PySem.W.Frag) : List V → Hp → VK → Prop := fun xs H Q => ∃ p ys, xs = [.ref p] ∧ ((SqL K H p ys ∧ ∀ l, H l = none → Q (.ref l) (upd H l (.tup ys))) ∨ (SqT K H p ys ∧ Q (.ref p) H))
def rLstOf (K : PySem.W.Frag) : List V → Hp → VK → Prop := fun xs H Q => ∃ p ys, xs = [.ref p] ∧ (SqL K H p ys ∨ SqT K H p ys) ∧ ∀ l, H l = none → Q (.ref l) (upd H l (.lst ys))
def rLenOf (K : PySem.W.Frag) : List V → Hp → VK → Prop := fun xs H Q => ∃ p ys, xs = [.ref p] ∧ (SqL K H p ys ∨ SqT K H p ys) ∧ Q (.int ys.length) H
theorem gl_lstOf [Mon R1] {xs : List α} (h : Gv te σ M (SqR K R1 xs)) : GvL (tCB (rLstOf K) (tCons te tNil)) σ M fun M vs => Pd R1 M xs vs := fun H mh Q q =>
  h H mh _ fun v M1 H1 g1 hv => by
    rcases hv with ⟨a, vs, rfl, hs, hp⟩ | ⟨a, vs, rfl, hs, hp⟩
    · exact ⟨a, vs, rfl, .inl (sl_mono g1.mh hs), fun l nl => q l vs M1 _ (g1.trans (.own g1.mh nl)) (g1.hh.free nl) (g1.mh.free nl) upd_same hp⟩
    · exact ⟨a, vs, rfl, .inr (st_mono g1.mh hs), fun l nl => q l vs M1 _ (g1.trans (.own g1.mh nl)) (g1.hh.free nl) (g1.mh.free nl) upd_same hp⟩
/-! texts cut -/
/-! loops -/
variable {D : Ends} {tb : TS}
theorem s_for [Mon R1] {j : Nat} {xs : List α} {H : Hp} (mh : Same M H) (hsrc : Gv ts σ M (SqR K R1 xs)) (Pv : Hp → Nat → Sl → Hp → Hp → Prop)
    (h0 : ∀ M1 H1, Gr M H M1 H1 → Pv M1 0 σ M1 H1) (hk : ∀ M1 i σ' M' H', Pv M1 i σ' M' H' → Same M1 M' ∧ Same M' H')
    (hs : ∀ M1 i x v σ' M' H', Same M M1 → xs[i]? = some x → Pv M1 i σ' M' H' → R1 x M' v → tb { D with nx := fun σ2 H2 => ∃ M2, Pv M1 (i + 1) σ2 M2 H2, ct := fun σ2 H2 => ∃ M2, Pv M1 (i + 1) σ2 M2 H2, bk := D.nx } (σ'.set j (some v)) H')
    (hd : ∀ M1 σ' M' H', Same M M1 → Pv M1 xs.length σ' M' H' → D.nx σ' H') : tFor (iSq K ts) (gName j) tb D σ H := by
  refine hsrc H mh _ fun v M1 H1 g1 hv => ?_
  have core : ∀ (J : It) (G : Hp → Prop) (vs : List V), Walk J vs.length G (YAt vs) → (∀ M2 H2, Same M1 M2 → Same M2 H2 → G H2) → Pd R1 M1 xs vs →
      ∃ W : Nat → Nat → L2.St → Hp → Prop, (∃ m, W 0 m σ H1) ∧ ∀ i m σ H, W i m σ H →
        (J.stop i H ∧ D.nx σ H) ∨ (J.go i H ∧ ∃ N : L2.St → Hp → Prop, (∀ σ' H', N σ' H' → ∃ m', m' < m ∧ W (i + 1) m' σ' H') ∧ ∀ x H', J.yld i H x H' → gName j x σ H' fun σ2 H2 => tb { D with nx := N, ct := N, bk := D.nx } σ2 H2) := by
    intro J G vs w hG hp
    refine for_it w (fun i σ' H' => ∃ M', Pv M1 i σ' M' H') ⟨M1, h0 M1 H1 g1⟩ (fun i σ' H' _ ⟨M', p⟩ => hG M' H' (hk _ _ _ _ _ p).1 (hk _ _ _ _ _ p).2) ?_ ?_
    · rintro i y σ' H' H'' hi ⟨M', p⟩ ⟨rfl, hy⟩
      obtain ⟨x, hx, rx⟩ := pd_get' hp hy
      exact hs M1 i x y σ' M' _ g1.mm hx p (Mon.mono (hk _ _ _ _ _ p).1 rx)
    · rintro σ' H' ⟨M', p⟩
      rw [← hp.length] at p
      exact hd M1 σ' M' H' g1.mm p
  rcases hv with ⟨a, vs, rfl, hs', hp⟩ | ⟨a, vs, rfl, hs', hp⟩
  · exact ⟨a, rfl, .inl ⟨vs, sl_mono g1.mh hs', core (Itl K a) (fun H => SqL K H a vs) vs walk_list (fun M2 H2 s1 s2 => sl_mono (s1.trans s2) hs') hp⟩⟩
  · exact ⟨a, rfl, .inr ⟨vs, st_mono g1.mh hs', core (Itt K a) (fun H => SqT K H a vs) vs walk_tup (fun M2 H2 s1 s2 => st_mono (s1.trans s2) hs') hp⟩⟩
/-- for i, x in enumerate(xs) -/
theorem s_forE [Mon R1] {j k : Nat} {xs : List α} {H : Hp} (mh : Same M H) (hsrc : Gv ts σ M (SqR K R1 xs)) (Pv : Hp → Nat → Sl → Hp → Hp → Prop)
    (h0 : ∀ M1 H1, Gr M H M1 H1 → Pv M1 0 σ M1 H1) (hk : ∀ M1 i σ' M' H', Pv M1 i σ' M' H' → Same M1 M' ∧ Same M' H')
    (hs : ∀ M1 i x v σ' M' H' H'', Same M M1 → xs[i]? = some x → Pv M1 i σ' M' H' → Gr M' H' M' H'' → R1 x M' v →
      tb { D with nx := fun σ2 H2 => ∃ M2, Pv M1 (i + 1) σ2 M2 H2, ct := fun σ2 H2 => ∃ M2, Pv M1 (i + 1) σ2 M2 H2, bk := D.nx } ((σ'.set j (some (.int (i : Nat)))).set k (some v)) H'')
    (hd : ∀ M1 σ' M' H', Same M M1 → Pv M1 xs.length σ' M' H' → D.nx σ' H') : tFor (iEn K (tCons ts tNil)) (gTup K 2 (gCons (gName j) (gCons (gName k) gNil))) tb D σ H := by
  refine hsrc H mh _ fun v M1 H1 g1 hv => ?_
  have core : ∀ (J : It) (G : Hp → Prop) (vs : List V), Walk J vs.length G (YPair (fun i => some (.int (i : Nat))) fun i => vs[i]?) → (∀ M2 H2, Same M1 M2 → Same M2 H2 → G H2) → Pd R1 M1 xs vs →
      ∃ W : Nat → Nat → L2.St → Hp → Prop, (∃ m, W 0 m σ H1) ∧ ∀ i m σ H, W i m σ H →
        (J.stop i H ∧ D.nx σ H) ∨ (J.go i H ∧ ∃ N : L2.St → Hp → Prop, (∀ σ' H', N σ' H' → ∃ m', m' < m ∧ W (i + 1) m' σ' H') ∧ ∀ x H', J.yld i H x H' → gTup K 2 (gCons (gName j) (gCons (gName k) gNil)) x σ H' fun σ2 H2 => tb { D with nx := N, ct := N, bk := D.nx } σ2 H2) := by
    intro J G vs w hG hp
    refine for_it w (fun i σ' H' => ∃ M', Pv M1 i σ' M' H') ⟨M1, h0 M1 H1 g1⟩ (fun i σ' H' _ ⟨M', p⟩ => hG M' H' (hk _ _ _ _ _ p).1 (hk _ _ _ _ _ p).2) ?_ ?_
    · rintro i y σ' H' H'' hi ⟨M', p⟩ ⟨T, x1, x2, rfl, nT, rfl, e1, hy⟩
      cases e1
      obtain ⟨x, hx, rx⟩ := pd_get' hp hy
      have km := hk _ _ _ _ _ p
      refine ⟨T, _, rfl, .inl (.inl upd_same), rfl, _, _, rfl, _, _, rfl, rfl, ?_⟩
      exact hs M1 i x x2 σ' M' H' _ g1.mm hx p (.own km.2 nT) (Mon.mono km.1 rx)
    · rintro σ' H' ⟨M', p⟩
      rw [← hp.length] at p
      exact hd M1 σ' M' H' g1.mm p
  rcases hv with ⟨a, vs, rfl, hs', hp⟩ | ⟨a, vs, rfl, hs', hp⟩
  · exact ⟨a, rfl, .inl ⟨vs, sl_mono g1.mh hs', core (IeS fun H xs => SqL K H a xs) (fun H => SqL K H a vs) vs walk_eS (fun M2 H2 s1 s2 => sl_mono (s1.trans s2) hs') hp⟩⟩
  · exact ⟨a, rfl, .inr ⟨vs, st_mono g1.mh hs', core (IeS fun H xs => SqT K H a xs) (fun H => SqT K H a vs) vs walk_eS (fun M2 H2 s1 s2 => st_mono (s1.trans s2) hs') hp⟩⟩
end
end L3

set_option Elab.async false
set_option linter.all false
set_option maxRecDepth 100000
set_option maxHeartbeats 1000000
namespace L3
open PySem PySem.Spec PyProof.Rows L2
/-! one rule for each operator, whatever the kinds -/
def rDIn (neg : Bool) : R2 := fun x y H Q => ∃ a o, y = .ref a ∧ DGet H a x o ∧ Q (.bl (xor neg o.isSome)) H
def rSgn (neg : Bool) : R2 := fun x y H Q => ∃ (c : Nat) (z : Str), x = .str ⟨#[c]⟩ ∧ y = .str z ∧ Q (.bl (xor neg (decide (c ∈ z.cps.toList)))) H
def rInA (K : PySem.W.Frag) (neg : Bool) : R2 := fun x y H Q => rInP K neg x y H Q ∨ rDIn neg x y H Q ∨ rSgn neg x y H Q
def rAddI : R2 := rI0 fun i j => .int (i + j)
def rAddS : R2 := fun x y H Q => ∃ i j, x = .str i ∧ y = .str j ∧ i.length + j.length ≤ sizeLine ∧ Q (.str (i ++ j)) H
def rAddA (K : PySem.W.Frag) : R2 := fun x y H Q => rAddI x y H Q ∨ rAddS x y H Q ∨ rCatA K x y H Q ∨ rCat x y H Q
def rLenS : List V → Hp → VK → Prop := fun xs H Q => ∃ z, xs = [.str z] ∧ z.length ≤ sizeLine ∧ Q (.int z.length) H
def rLenD : List V → Hp → VK → Prop := fun xs H Q => ∃ a kvs, xs = [V.ref a] ∧ H a = some (.dK kvs) ∧ Q (.int kvs.length) H
def rLenA (K : PySem.W.Frag) : List V → Hp → VK → Prop := fun xs H Q => rLenOf K xs H Q ∨ rLenS xs H Q ∨ rLenD xs H Q
def rSlX (K : PySem.W.Frag) : V → Option Int → Option Int → Hp → VK → Prop := fun x lo hi H Q => rSlS x lo hi H Q ∨ rSlL K x lo hi H Q ∨ rSlA K x lo hi H Q
def rIxX (K : PySem.W.Frag) : R2 := fun x y H Q => rIxL K x y H Q ∨ rIxT K x y H Q ∨ rIxS x y H Q
section
variable {X : Cx}
theorem CallR.or {f : Value} {r r' : List V → Hp → VK → Prop} (h : CallR X f r) (h' : CallR X f r') : CallR X f (fun xs H Q => r xs H Q ∨ r' xs H Q) := fun pins s σ H xs us Q I rx q => q.elim (h pins s σ H xs us Q I rx) (h' pins s σ H xs us Q I rx)
theorem op_dIn (hu : X.A.units + 64 < cLine) : OpR X (compareOp .In) (rDIn false) := by
  intro pins s σ H x y v u Q I rx ry ⟨a, o, ey, g, q⟩
  subst ey
  cases ry
  exact d_in (by omega) I g rx fun s' I' => ⟨.bl _, H, I', rfl, by simpa using q⟩
theorem op_dNotIn (hu : X.A.units + 64 < cLine) : OpR X (compareOp .NotIn) (rDIn true) := by
  intro pins s σ H x y v u Q I rx ry ⟨a, o, ey, g, q⟩
  subst ey
  cases ry
  exact d_notIn (by omega) I g rx fun s' I' => ⟨.bl _, H, I', rfl, by simpa using q⟩
theorem op_sgn : OpR X (compareOp .In) (rSgn false) := by
  intro pins s σ H x y v u Q I rx ry ⟨c, z, e1, e2, q⟩
  exact op_in_sign pins s σ H x y v u Q I rx ry ⟨c, z, e1, e2, by simpa using q⟩
theorem op_nsgn : OpR X (compareOp .NotIn) (rSgn true) := by
  intro pins s σ H x y v u Q I rx ry ⟨c, z, e1, e2, q⟩
  exact op_notIn_sign pins s σ H x y v u Q I rx ry ⟨c, z, e1, e2, by simpa using q⟩
theorem op_inA (hu : X.A.units + 64 < cLine) : OpR X (compareOp .In) (rInA X.K false) := (op_inP hu).or ((op_dIn hu).or op_sgn)
theorem op_niA (hu : X.A.units + 64 < cLine) : OpR X (compareOp .NotIn) (rInA X.K true) := (op_notInP hu).or ((op_dNotIn hu).or op_nsgn)
theorem op_addA : OpR X (binaryOp .Add) (rAddA X.K) := OpR.or op_add (OpR.or op_add_str (OpR.or op_catA op_cat))
theorem call_lenA : CallR X (.builtin "len") (rLenA X.K) := CallR.or call_len_seq (CallR.or call_len_str call_lenD)
theorem sl_X : SlR X (rSlX X.K) := SlR.or sl_str (SlR.or sl_list sl_tupA)
theorem ix_X : IxR X (rIxX X.K) := IxR.or ix_list (IxR.or ix_tup ix_str)
theorem call_tupA : CallR X (.type "tuple") (rTupOf X.K) := call_tuple_of
theorem call_lstA : CallR X (.type "list") (rLstOf X.K) := call_list_of
end
/-! dicts whose keys are texts, each with True -/
def kvT (ks : List Str) : List (Key × V) := ks.map fun k => (Sum.inr k, V.bl true)
def DcR : Rl (List Str) := fun ks M v => ∃ a, v = .ref a ∧ Rd M a (.dK (kvT ks))
instance : Mon DcR := ⟨fun e ⟨a, h, r⟩ => ⟨a, h, rd_mono e r⟩⟩
theorem val_kvT (x : Str) : ∀ ks : List Str, (valV (kvT ks) (Sum.inr x : Key)).isSome = decide (x ∈ ks)
  | [] => rfl
  | k :: ks => by
    have ih := val_kvT x ks
    unfold valV kvT at ih ⊢
    rw [List.map_cons, List.find?_cons]
    by_cases h : k = x
    · subst h; simp
    · have h1 : ¬ (Sum.inr k : Key) = Sum.inr x := fun z => h (Sum.inr.inj z)
      have h2 : ¬ x = k := fun z => h z.symm
      simp only [h1, decide_false, List.mem_cons, h2, false_or]
      exact ih
/-- anything with texts that «in» asks -/
def CtR (K : PySem.W.Frag) : Rl (List Str) := fun xs M v => SqR K Tx xs M v ∨ DcR xs M v
instance {K : PySem.W.Frag} : Mon (CtR K) := ⟨fun e h => h.imp (Mon.mono e) (Mon.mono e)⟩
section
variable {K : PySem.W.Frag} {σ : Sl} {M : Hp} {ta tb te ts : TE} {tt : TT} {α β : Type} {R : Rl α} {S : Rl β}
theorem gv_inA {neg : Bool} {x : Str} {xs : List Str} (ha : Gv ta σ M (Tx x)) (hb : Gv tb σ M (CtR K xs)) : Gv (tOp (rInA K neg) ta tb) σ M (Bl (xor neg (decide (x ∈ xs)))) :=
  gv_op ha hb fun M' u w px py => rv_pure (fun H mh Q q => by
    rcases py with py | ⟨a, e, r⟩
    · exact .inl ⟨.str x, _, (by cases px; exact .str x), (py_sq py_str py).mono mh, (by simp [PyData.depth]), (by rw [any_mem inj_str]; exact q)⟩
    · subst e
      cases px
      exact .inr (.inl ⟨a, _, rfl, .inl ⟨_, Sum.inr x, rd_mono mh r, rfl, rfl⟩, by rw [val_kvT]; exact q⟩)) rfl
/-- .. of data -/
theorem gv_inD {e : α → PyData} [DecidableEq α] [Mon R] {neg : Bool} {x : α} {xs : List α} (pe : PyR K R e) (ie : Inj e) (ha : Gv ta σ M (R x)) (hb : Gv tb σ M (SqR K R xs)) (hz : (e x).depth ≤ 60) : Gv (tOp (rInA K neg) ta tb) σ M (Bl (xor neg (decide (x ∈ xs)))) :=
  gv_op ha hb fun M' u w px py => rv_pure (fun H mh Q q => .inl ⟨e x, _, dp_mono mh (pe _ _ _ px), (py_sq pe py).mono mh, hz, by rw [any_mem ie]; exact q⟩) rfl
theorem gv_sgn {neg : Bool} {c : Nat} {z : Str} (ha : Gv ta σ M (Tx ⟨#[c]⟩)) (hb : Gv tb σ M (Tx z)) : Gv (tOp (rInA K neg) ta tb) σ M (Bl (xor neg (decide (c ∈ z.cps.toList)))) :=
  gv_op ha hb fun M' u w px py => rv_pure (fun H mh Q q => .inr (.inr ⟨c, z, px, py, q⟩)) rfl
theorem gv_addSt {x y : Str} (ha : Gv ta σ M (Tx x)) (hb : Gv tb σ M (Tx y)) (hz : x.length + y.length ≤ sizeLine) : Gv (tOp (rAddA K) ta tb) σ M (Tx (x ++ y)) :=
  gv_op ha hb fun M' u w px py => rv_pure (fun H mh Q q => .inr (.inl ⟨x, y, px, py, hz, q⟩)) rfl
theorem gv_addIn {x y : Int} (ha : Gv ta σ M (It' x)) (hb : Gv tb σ M (It' y)) : Gv (tOp (rAddA K) ta tb) σ M (It' (x + y)) :=
  gv_op ha hb fun M' u w px py => rv_pure (fun H mh Q q => .inl ⟨x, y, px, py, q⟩) rfl
theorem gv_lenA [Mon R] {xs : List α} (h : Gv te σ M (SqR K R xs)) : Gv (tCB (rLenA K) (tCons te tNil)) σ M (It' xs.length) := gv_cb1 h fun M' v hv H mh Q q => by
  rcases hv with ⟨a, vs, rfl, hs, hp⟩ | ⟨a, vs, rfl, hs, hp⟩
  · exact .inl ⟨a, vs, rfl, .inl (sl_mono mh hs), q _ M' H (.refl mh) (by rw [hp.length])⟩
  · exact .inl ⟨a, vs, rfl, .inr (st_mono mh hs), q _ M' H (.refl mh) (by rw [hp.length])⟩
theorem gv_lenS {x : Str} (h : Gv te σ M (Tx x)) (hz : x.length ≤ sizeLine) : Gv (tCB (rLenA K) (tCons te tNil)) σ M (It' x.length) := gv_cb1 h fun M' v hv H mh Q q => .inr (.inl ⟨x, by rw [hv], hz, q _ M' H (.refl mh) rfl⟩)
theorem gv_cutS {tl th : TO} {x : Str} {lo hi : Option Int} (h : Gv te σ M (Tx x)) (hz : x.length ≤ sizeLine)
    (hl : ∀ (H : Hp) (Q : Option Int → Hp → Prop), Q lo H → tl σ H Q) (hh : ∀ (H : Hp) (Q : Option Int → Hp → Prop), Q hi H → th σ H Q) : Gv (tSl (rSlX K) te tl th) σ M (Tx (cutS x lo hi)) := fun H mh Q q =>
  h H mh _ fun v M1 H1 g1 p => hl H1 _ (hh H1 _ (.inl ⟨x, p, hz, q _ M1 H1 g1 rfl⟩))
/-- an item -/
theorem gv_ix [Mon R] {xs : List α} {i : Int} {x : α} (ha : Gv ta σ M (SqR K R xs)) (hb : Gv tb σ M (It' i)) (hx : atI xs i = some x) : Gv (tOp (rIxX K) ta tb) σ M (R x) := by
  refine gv_op ha hb fun M' u w pu pw => ?_
  cases (show w = .int i from pw)
  unfold atI at hx
  obtain ⟨j, hj, hx⟩ := Option.bind_eq_some_iff.mp hx
  rcases pu with ⟨a, vs, rfl, hs, hp⟩ | ⟨a, vs, rfl, hs, hp⟩
  all_goals
    obtain ⟨v, hv, rv⟩ := pd_get hp hx
    have ha : atI vs i = some v := by unfold atI; rw [← hp.length, hj]; exact hv
  · exact rv_pure (v := v) (fun H mh Q q => .inl ⟨a, vs, i, v, rfl, rfl, sl_mono mh hs, ha, q⟩) rv
  · exact rv_pure (v := v) (fun H mh Q q => .inr (.inl ⟨a, vs, i, v, rfl, rfl, st_mono mh hs, ha, q⟩)) rv
theorem gv_ixS {x : Str} {i : Int} {c : Nat} (ha : Gv ta σ M (Tx x)) (hb : Gv tb σ M (It' i)) (hz : x.length ≤ sizeLine) (hx : atI x.cps.toList i = some c) : Gv (tOp (rIxX K) ta tb) σ M (Tx ⟨#[c]⟩) :=
  gv_op ha hb fun M' u w pu pw => rv_pure (fun H mh Q q => .inr (.inr ⟨x, i, c, pu, pw, hz, hx, q⟩)) rfl
/-- a written tuple of two texts -/
theorem gv_tup2 {x y : Str} (h1 : Gv ta σ M (Tx x)) (h2 : Gv tb σ M (Tx y)) : Gv (tTup (tCons ta (tCons tb tNil))) σ M (TupR K Tx [x, y]) := fun H mh Q q =>
  h1 H mh _ fun v M1 H1 g1 p1 => h2.le g1.mm H1 g1.mh _ fun w M2 H2 g2 p2 => ⟨by show 2 ≤ sizeLine; decide, fun p np => q _ _ _ ((g1.trans g2).trans (.new g2.mh np)) ⟨p, _, rfl, .inl (.inl upd_same), .cons p1 (.cons p2 .nil)⟩⟩
end
end L3

set_option Elab.async false
set_option linter.all false
set_option maxRecDepth 100000
set_option maxHeartbeats 1000000
namespace L3
open PySem PySem.Spec PyProof.Rows L2
/-! calls of defs by name -/
def Cal (P : Program) (w : World) (K : PySem.W.Frag) (mg : Str → Option Value) (base : Heap) (k : Nat) (x : Str) (ps : List Str) (sp : Sp) : Prop :=
  ∃ f fd, FnOk P w K mg base CX0 k f fd ps sp ∧ mg x = some (.ref f) ∧ PySem.W.keepIn K (.ref f) = true ∧ Binds K fd ps []
theorem pe_f {X : Cx} {k : Nat} {x : Str} {ps : List Str} {sp : Sp} {e : Expr} {es : List Expr} {t : TA} {p pos : Pos} (c : Cal X.prog X.w X.K X.mg X.base k x ps sp) (hr : Room k X.A) (ha : PA X (e :: es) t) (hg : Gl X x := by rfl)
    (hdb : (x == ("__debug__" : Str)) = false := by decide) (he : starEach (e :: es) X.env = (false, eval e X.env) :: starEach es X.env := by rfl) (hpl : (backTo pos (starEach es X.env)).any (·.1) = false := by rfl) :
    PE X (.Call (.Name x p) (e :: es) [] pos) (tCall sp [] E0 t) :=
  let ⟨_, _, G, m, kp, b⟩ := c
  pe_call G hr hg m kp b .nil pass0 ha hdb he hpl
/-! small statements -/
section
variable {K : PySem.W.Frag} {σ : Sl} {M H : Hp} {te : TE} {P : Pr} {D : Ends} {tu tw tz : TS} {tt : TT} {b : Bool}
theorem s_ret (mh : Same M H) (h : Gv te σ M P) (k : ∀ v M' H', Gr M H M' H' → P M' v → D.rt v H') : tRet te D σ H := h H mh _ k
theorem s_retL {P : Hp → List V → Prop} (mh : Same M H) (h : GvL te σ M P) (k : ∀ p vs M' H', Gr M H M' H' → H p = none → M' p = none → H' p = some (.lst vs) → P M' vs → D.rt (.ref p) H') : tRet te D σ H := h H mh _ k
theorem s_asg {i : Nat} (mh : Same M H) (h : Gv te σ M P) (k : ∀ v M' H', Gr M H M' H' → P M' v → D.nx (σ.set i (some v)) H') : tAsg te (gName i) D σ H := h H mh _ k
theorem q_asg {i : Nat} (mh : Same M H) (h : Gv te σ M P) (k : ∀ v M' H', Gr M H M' H' → P M' v → tz D (σ.set i (some v)) H') : tSeq (tAsg te (gName i)) tz D σ H := h H mh _ k
theorem q_asgL {i : Nat} {P : Hp → List V → Prop} (mh : Same M H) (h : GvL te σ M P) (k : ∀ p vs M' H', Gr M H M' H' → H p = none → M' p = none → H' p = some (.lst vs) → P M' vs → tz D (σ.set i (some (.ref p))) H') : tSeq (tAsg te (gName i)) tz D σ H := h H mh _ k
theorem q_if (mh : Same M H) (h : GvT tt σ M b) (h1 : b = true → ∀ H', Same H H' → tu { D with nx := tz D } σ H') (h2 : b = false → ∀ H', Same H H' → tw { D with nx := tz D } σ H') : tSeq (tIfS tt tu tw) tz D σ H := h H mh _ fun M' H' g => by
  cases b with
  | true => exact h1 rfl H' g.hh
  | false => exact h2 rfl H' g.hh
theorem s_if (mh : Same M H) (h : GvT tt σ M b) (h1 : b = true → ∀ H', Same H H' → tu D σ H') (h2 : b = false → ∀ H', Same H H' → tw D σ H') : tIfS tt tu tw D σ H := h H mh _ fun M' H' g => by
  cases b with
  | true => exact h1 rfl H' g.hh
  | false => exact h2 rfl H' g.hh
theorem Gr.idle {M H H' : Hp} (mh : Same M H) (hh : Same H H') : Gr M H M H' := ⟨Same.refl M, hh, mh.trans hh, fun _ _ e => .inl e, fun _ _ e => e⟩
/-- an empty list, ours -/
theorem gl_nil : GvL (tLst tNil) σ M fun _ vs => vs = [] := gl_lst ga_nil fun _ vs h => by rw [h]; exact Nat.zero_le _
/-- xs.append(e), xs in slot i at p -/
theorem s_app {i : Nat} {p : Addr} {vs : List V} (mh : Same M H) (hi : σ[i]? = some (some (.ref p))) (hp : H p = some (.lst vs)) (hz : vs.length < sizeLine) (h : Gv te σ M P)
    (k : ∀ v M' H', Gr M H M' H' → P M' v → D.nx σ (upd H' p (.lst (vs ++ [v])))) : tDrop (tBM K "list" rAppend (tVar i) (tCons te tNil)) D σ H :=
  ⟨.ref p, hi, .inl ⟨rfl, _, .inl (.inl hp)⟩, h H mh _ fun v M' H' g r => ⟨p, vs, v, rfl, rfl, g.hh _ _ hp, hz, k v M' H' g r⟩⟩
/-- xs.extend(e), e a new list -/
theorem s_ext {i : Nat} {p : Addr} {vs : List V} {P : Hp → List V → Prop} (mh : Same M H) (hi : σ[i]? = some (some (.ref p))) (hp : H p = some (.lst vs)) (h : GvL te σ M P) (hz : ∀ M' ws, P M' ws → vs.length + ws.length ≤ sizeLine)
    (k : ∀ ws M' H', Gr M H M' H' → P M' ws → D.nx σ (upd H' p (.lst (vs ++ ws)))) : tDrop (tBM K "list" rExtend (tVar i) (tCons te tNil)) D σ H :=
  ⟨.ref p, hi, .inl ⟨rfl, _, .inl (.inl hp)⟩, h H mh _ fun b ws M' H' g h0 m0 hb r => ⟨p, b, vs, ws, rfl, rfl, g.hh _ _ hp, hb, hz M' ws r, k ws M' H' g r⟩⟩
end
/-- what we own: new since H0, not known to M -/
structure Own (H0 M H : Hp) (p : Addr) (vs : List V) : Prop where
  h0 : H0 p = none
  m : M p = none
  h : H p = some (.lst vs)
theorem Own.fr {H0 M H : Hp} {p : Addr} {vs : List V} (o : Own H0 M H p vs) (mh : Same M H) : Same (upd M p (.lst vs)) H := fun b u e => by
  by_cases hb : b = p
  · subst hb; rw [upd_same] at e; rw [o.h]; exact e
  · rw [upd_ne hb] at e; exact mh b u e
theorem Own.up {H0 M H : Hp} {p : Addr} {vs : List V} (o : Own H0 M H p vs) : Same M (upd M p (.lst vs)) := same_new o.m
theorem Own.idle {H0 M H H' : Hp} {p : Addr} {vs : List V} (o : Own H0 M H p vs) (hh : Same H H') : Own H0 M H' p vs := ⟨o.h0, o.m, hh _ _ o.h⟩
theorem Own.put {H0 M H : Hp} {p : Addr} {vs ws : List V} (o : Own H0 M H p vs) : Own H0 M (upd H p (.lst ws)) p ws := ⟨o.h0, o.m, upd_same⟩
theorem Own.lst {K : PySem.W.Frag} {α : Type} {R : Rl α} {H0 M H : Hp} {p : Addr} {vs : List V} {xs : List α} [Mon R] (o : Own H0 M H p vs) (h : Pd R M xs vs) : LstR K R xs (upd M p (.lst vs)) (.ref p) := ⟨p, vs, rfl, .inl (.inl upd_same), h.mono o.up⟩
theorem Own.step {H0 M H M' H' : Hp} {p : Addr} {vs : List V} (o : Own H0 M H p vs) (g : Gr M H M' H') : Own H0 M' H' p vs := ⟨o.h0, g.keep o.m o.h, g.hh _ _ o.h⟩
section
variable {K : PySem.W.Frag} {σ : Sl} {M : Hp} {ts : TE} {α : Type} {R1 : Rl α} {D : Ends} {tb tz : TS}
theorem q_for [Mon R1] {j : Nat} {xs : List α} {H : Hp} (mh : Same M H) (hsrc : Gv ts σ M (SqR K R1 xs)) (Pv : Hp → Nat → Sl → Hp → Hp → Prop)
    (h0 : ∀ M1 H1, Gr M H M1 H1 → Pv M1 0 σ M1 H1) (hk : ∀ M1 i σ' M' H', Pv M1 i σ' M' H' → Same M1 M' ∧ Same M' H')
    (hs : ∀ M1 i x v σ' M' H', Same M M1 → xs[i]? = some x → Pv M1 i σ' M' H' → R1 x M' v → tb { D with nx := fun σ2 H2 => ∃ M2, Pv M1 (i + 1) σ2 M2 H2, ct := fun σ2 H2 => ∃ M2, Pv M1 (i + 1) σ2 M2 H2, bk := tz D } (σ'.set j (some v)) H')
    (hd : ∀ M1 σ' M' H', Same M M1 → Pv M1 xs.length σ' M' H' → tz D σ' H') : tSeq (tFor (iSq K ts) (gName j) tb) tz D σ H := s_for (D := { D with nx := tz D }) mh hsrc Pv h0 hk hs hd
theorem q_forE [Mon R1] {j k : Nat} {xs : List α} {H : Hp} (mh : Same M H) (hsrc : Gv ts σ M (SqR K R1 xs)) (Pv : Hp → Nat → Sl → Hp → Hp → Prop)
    (h0 : ∀ M1 H1, Gr M H M1 H1 → Pv M1 0 σ M1 H1) (hk : ∀ M1 i σ' M' H', Pv M1 i σ' M' H' → Same M1 M' ∧ Same M' H')
    (hs : ∀ M1 i x v σ' M' H' H'', Same M M1 → xs[i]? = some x → Pv M1 i σ' M' H' → Gr M' H' M' H'' → R1 x M' v →
      tb { D with nx := fun σ2 H2 => ∃ M2, Pv M1 (i + 1) σ2 M2 H2, ct := fun σ2 H2 => ∃ M2, Pv M1 (i + 1) σ2 M2 H2, bk := tz D } ((σ'.set j (some (.int (i : Nat)))).set k (some v)) H'')
    (hd : ∀ M1 σ' M' H', Same M M1 → Pv M1 xs.length σ' M' H' → tz D σ' H') : tSeq (tFor (iEn K (tCons ts tNil)) (gTup K 2 (gCons (gName j) (gCons (gName k) gNil))) tb) tz D σ H := s_forE (D := { D with nx := tz D }) mh hsrc Pv h0 hk hs hd
/-- the whole of a tuple of ours: tuple(xs) -/
theorem s_retTup {i : Nat} {p : Addr} {vs : List V} {H : Hp} (mh : Same M H) (hi : σ[i]? = some (some (.ref p))) (hp : H p = some (.lst vs))
    (k : ∀ l, H l = none → D.rt (.ref l) (upd H l (.tup vs))) : tRet (tCB (rTupOf K) (tCons (tVar i) tNil)) D σ H := ⟨.ref p, hi, p, vs, rfl, .inl ⟨.inl (.inl hp), k⟩⟩
end
end L3

set_option Elab.async false
set_option linter.all false
set_option maxRecDepth 100000
set_option maxHeartbeats 1000000
namespace L3
open PySem PySem.Spec PyProof.Rows L2
/-! isinstance of data -/
def tyN : PyData → String
  | .none => "NoneType" | .bool _ => "bool" | .int _ => "int" | .str _ => "str" | .list _ => "list" | .tuple _ => "tuple" | .dict _ => "dict"
theorem ty_of {K : PySem.W.Frag} {H : Hp} {v : V} {d : PyData} (h : Dp K H v d) : TyX K H v (.type (tyN d)) := by
  cases h with
  | non => exact .base .non
  | bl b => exact .base (.bl b)
  | int i => exact .base (.int i)
  | str x => exact .base (.str x)
  | lst hs ha =>
    rcases hs with (h | ⟨o, h⟩) | ⟨o, its, n, hk, hc, _⟩
    · exact .base (.lst h)
    · exact .base (.frz h)
    · exact .kList hk hc
  | tup hs ha =>
    rcases hs with (h | ⟨o, h⟩) | ⟨o, its, n, hk, hc, _⟩
    · exact .base (.tup h)
    · exact .fTuple h
    · exact .kTuple hk hc
section
variable {K : PySem.W.Frag} {σ : Sl} {M : Hp} {ta tb te ts : TE} {α : Type} {R : Rl α}
theorem gv_isi {d : PyData} {n : String} {b : Bool} (h : Gv ta σ M (Dd K d)) (hk : kitB (tyN d) n = some b) : Gv (tCB (rIsi K) (tCons ta (tCons (tC (.ty n)) tNil))) σ M (Bl b) := fun H mh Q q =>
  h H mh _ fun v M1 H1 g1 p => ⟨v, .ty n, _, _, b, rfl, .ty n, ty_of (dp_mono g1.mh p), kit_ty hk, q _ M1 H1 g1 rfl⟩
theorem gv_isi2 {d : PyData} {n m : String} {b c : Bool} (h : Gv ta σ M (Dd K d)) (hk : kitB (tyN d) n = some b) (hm : kitB (tyN d) m = some c) : Gv (tCB (rIsiT K) (tCons ta (tCons (tTup (tCons (tC (.ty n)) (tCons (tC (.ty m)) tNil))) tNil))) σ M (Bl (b || c)) := fun H mh Q q =>
  h H mh _ fun v M1 H1 g1 p => ⟨by show 2 ≤ sizeLine; decide, fun tp ntp => by
    refine ⟨v, tp, _, _, _, b || c, rfl, upd_same, .cons (.ty n) (.cons (.ty m) .nil), ty_of (dp_mono ((g1.mh).trans (same_new ntp)) p), ?_, q _ M1 _ (g1.trans (.own g1.mh ntp)) rfl⟩
    refine kitAny_cons (kit_ty hk) (fun hb => kitAny_cons (kit_ty hm) (fun hc => ?_) fun hc => ?_) fun h => ?_
    · rw [hb, hc]; exact kitAny_nil
    · rw [hb, hc]; rfl
    · rw [h]; rfl⟩
/-- None or a number -/
def OpN : Rl (Option Nat) := fun o _ v => v = match o with | none => .non | some i => .int (i : Nat)
instance : Mon OpN := ⟨fun _ h => h⟩
/-- None or something -/
def OpR' (R : Rl α) : Rl (Option α) := fun o M v => match o with | none => v = .non | some x => R x M v
instance [Mon R] : Mon (OpR' R) := ⟨fun {o M M' v} e h => by
  cases o with
  | none => exact h
  | some x => exact Mon.mono (R := R) e h⟩
theorem pd_d {M : Hp} : ∀ {vs : List V} {ds : List PyData}, DpAll K M vs ds → Pd (Dd K) M ds vs
  | _, _, .nil => .nil
  | _, _, .cons q t => .cons q (pd_d t)
theorem dp_sqL {ds : List PyData} {M : Hp} {v : V} (h : Dp K M v (.list ds)) : SqR K (Dd K) ds M v := by
  cases h with
  | lst hs ha => exact .inl ⟨_, _, rfl, hs, pd_d ha⟩
theorem dp_sqT {ds : List PyData} {M : Hp} {v : V} (h : Dp K M v (.tuple ds)) : SqR K (Dd K) ds M v := by
  cases h with
  | tup hs ha => exact .inr ⟨_, _, rfl, hs, pd_d ha⟩
end
end L3

set_option Elab.async false
set_option linter.all false
set_option maxRecDepth 100000
set_option maxHeartbeats 1000000
namespace L3
open PySem PySem.Spec PyProof.Rows L2
/-! anything walked: the items xs, each told by R -/
def GW {α : Type} (M1 : Hp) (J : It) (xs : List α) (R : Rl α) : Prop := ∃ (G : Hp → Prop) (Y : Nat → Hp → V → Hp → Prop), Walk J xs.length G Y ∧ (∀ M2 H2, Same M1 M2 → Same M2 H2 → G H2) ∧
  ∀ i M2 H2 v H3, Same M1 M2 → Same M2 H2 → i < xs.length → Y i H2 v H3 → ∃ x M3, xs[i]? = some x ∧ Gr M2 H2 M3 H3 ∧ R x M3 v
def GvI {α : Type} (wi : TI) (σ : Sl) (M : Hp) (xs : List α) (R : Rl α) : Prop := ∀ H, Same M H → ∀ Q : It → Hp → Prop, (∀ J M1 H1, Gr M H M1 H1 → GW M1 J xs R → Q J H1) → wi σ H Q
/-- a target: how the slots change -/
def TgOk {α : Type} (g : TG) (R : Rl α) (U : α → Hp → Sl → Sl → Prop) : Prop := ∀ x M v H σ (Q : L2.St → Hp → Prop), R x M v → Same M H → (∀ σ', U x M σ σ' → Q σ' H) → g v σ H Q
abbrev U1 {α : Type} (R : Rl α) (j : Nat) : α → Hp → Sl → Sl → Prop := fun x M σ σ' => ∃ v, R x M v ∧ σ' = σ.set j (some v)
/-- a pair in a tuple -/
def PrR (K : PySem.W.Frag) {α β : Type} (R : Rl α) (S : Rl β) : Rl (α × β) := fun x M v => ∃ a u w, v = .ref a ∧ SqT K M a [u, w] ∧ R x.1 M u ∧ S x.2 M w
instance {K : PySem.W.Frag} {α β : Type} {R : Rl α} {S : Rl β} [Mon R] [Mon S] : Mon (PrR K R S) := ⟨fun e ⟨a, u, w, h1, h2, h3, h4⟩ => ⟨a, u, w, h1, st_mono e h2, Mon.mono e h3, Mon.mono e h4⟩⟩
abbrev U2 {α β : Type} (R : Rl α) (S : Rl β) (j k : Nat) : α × β → Hp → Sl → Sl → Prop := fun x M σ σ' => ∃ v w, R x.1 M v ∧ S x.2 M w ∧ σ' = (σ.set j (some v)).set k (some w)
section
variable {K : PySem.W.Frag} {σ : Sl} {M : Hp} {ta tb te ts : TE} {tt : TT} {α β : Type} {R : Rl α} {S : Rl β} {wi : TI} {g : TG}
theorem tg_1 {j : Nat} : TgOk (gName j) R (U1 R j) := fun x M v H σ Q r mh q => q _ ⟨v, r, rfl⟩
theorem tg_2 {j k : Nat} : TgOk (gTup K 2 (gCons (gName j) (gCons (gName k) gNil))) (PrR K R S) (U2 R S j k) := by
  rintro x M v H σ Q ⟨a, u, w, rfl, h2, h3, h4⟩ mh q
  exact ⟨a, _, rfl, st_mono mh h2, rfl, u, _, rfl, w, _, rfl, rfl, q _ ⟨u, w, h3, h4, rfl⟩⟩
theorem gi_sq [Mon R] {xs : List α} (h : Gv ts σ M (SqR K R xs)) : GvI (iSq K ts) σ M xs R := fun H mh Q q => h H mh _ fun v M1 H1 g1 hv => by
  rcases hv with ⟨a, vs, rfl, hs, hp⟩ | ⟨a, vs, rfl, hs, hp⟩
  · refine ⟨a, rfl, .inl ⟨vs, sl_mono g1.mh hs, q _ M1 H1 g1 ⟨_, _, (by rw [hp.length]; exact walk_list (xs := vs)), fun M2 H2 s1 s2 => sl_mono (s1.trans s2) hs, ?_⟩⟩⟩
    rintro i M2 H2 v H3 s1 s2 hi ⟨rfl, hy⟩
    obtain ⟨x, hx, rx⟩ := pd_get' hp hy
    exact ⟨x, M2, hx, .refl s2, Mon.mono s1 rx⟩
  · refine ⟨a, rfl, .inr ⟨vs, st_mono g1.mh hs, q _ M1 H1 g1 ⟨_, _, (by rw [hp.length]; exact walk_tup (xs := vs)), fun M2 H2 s1 s2 => st_mono (s1.trans s2) hs, ?_⟩⟩⟩
    rintro i M2 H2 v H3 s1 s2 hi ⟨rfl, hy⟩
    obtain ⟨x, hx, rx⟩ := pd_get' hp hy
    exact ⟨x, M2, hx, .refl s2, Mon.mono s1 rx⟩
theorem gi_str {x : Str} (h : Gv ts σ M (Tx x)) : GvI (iStr ts) σ M x.cps.toList (fun c => Tx ⟨#[c]⟩) := fun H mh Q q => h H mh _ fun v M1 H1 g1 hv => by
  refine ⟨x, hv, q _ M1 H1 g1 ⟨_, _, (by rw [Array.length_toList]; exact walk_str (z := x)), fun _ _ _ _ => trivial, ?_⟩⟩
  rintro i M2 H2 v H3 s1 s2 hi ⟨rfl, c, hc, rfl⟩
  exact ⟨c, M2, by simpa using hc, .refl s2, rfl⟩
theorem gi_rng1 {n : Nat} (h : Gv te σ M (It' (n : Int))) (hn : n ≤ 1000000000) : GvI (iRng1 (tCons te tNil)) σ M (List.range n) (fun i => It' (i : Nat)) := fun H mh Q q => h H mh _ fun v M1 H1 g1 hv => by
  cases (show v = _ from hv)
  refine ⟨(n : Int), rfl, by omega, by omega, q _ M1 H1 g1 ⟨_, _, (by rw [List.length_range, Int.toNat_natCast]; exact walk_range), fun _ _ _ _ => trivial, ?_⟩⟩
  rintro i M2 H2 v H3 s1 s2 hi ⟨rfl, rfl⟩
  rw [List.length_range] at hi
  exact ⟨i, M2, by simp [hi], .refl s2, by show V.int _ = V.int _; rw [Int.zero_add]⟩
/-- the keys of a dict that is locked -/
def DcF : Rl (List Str) := fun ks M v => ∃ a o, v = .ref a ∧ M a = some (.frz o (.dK (kvT ks)))
instance : Mon DcF := ⟨fun e ⟨a, o, h, r⟩ => ⟨a, o, h, e _ _ r⟩⟩
theorem DcF.dc {ks : List Str} {M : Hp} {v : V} (h : DcF ks M v) : DcR ks M v := let ⟨a, o, e, r⟩ := h; ⟨a, e, .inr ⟨o, r⟩⟩
theorem gl_comp [Mon S] {U : α → Hp → Sl → Sl → Prop} {vs : List Nat} {xs : List α} (hsrc : GvI wi σ M xs R) (htg : TgOk g R U) (hw : ∀ x M' σ', U x M' (wipe σ vs) σ' → wipe σ' vs = wipe σ vs) (hz : xs.length ≤ sizeLine) (t : α → Bool) (f : α → β)
    (ht : ∀ x ∈ xs, ∀ M1 σ', Same M M1 → U x M1 (wipe σ vs) σ' → GvT tt σ' M1 (t x))
    (he : ∀ x ∈ xs, t x = true → ∀ M1 σ', Same M M1 → U x M1 (wipe σ vs) σ' → Gv te σ' M1 (S (f x))) :
    GvL (tLc wi g tt te vs) σ M fun M ws => Pd S M ((xs.filter t).map f) ws := by
  intro H mh Q q
  refine hsrc H mh _ fun J M1 H1 g1 ⟨G, Y, w, hG, hY⟩ D hD => ?_
  refine lc_it w (fun i H' => ∃ M' ws, Gr M1 H1 M' H' ∧ M' D = none ∧ H' D = some (.lst ws) ∧ ws.length ≤ i ∧ Pd S M' (((xs.take i).filter t).map f) ws) ⟨M1, [], .own g1.mh hD, g1.mh.free hD, upd_same, Nat.le_refl _, .nil⟩ (fun i H' _ ⟨M', ws, g, _⟩ => hG M' H' g.mm g.mh) ?_ ?_
  · rintro i y H' H'' hi ⟨M', ws, g, m0, hw', hl, hpd⟩ hy
    obtain ⟨x, M0, hx, g0, rx⟩ := hY i M' H' y H'' g.mm g.mh hi hy
    have hxm : x ∈ xs := List.mem_of_getElem? hx
    have et : xs.take (i + 1) = xs.take i ++ [x] := by rw [List.take_add_one, hx]; rfl
    have gg := g.trans g0
    have sm := g1.mm.trans gg.mm
    have k0 : H'' D = some (.lst ws) := g0.hh _ _ hw'
    have m0' : M0 D = none := g0.keep m0 hw'
    refine htg x M0 y H'' _ _ rx gg.mh fun σ2 hU => ⟨hw x M0 σ2 hU, ht x hxm M0 σ2 sm hU H'' gg.mh _ fun M2 H2 g2 => ?_⟩
    cases ex : t x with
    | true =>
      refine (he x hxm ex M0 σ2 sm hU).le g2.mm H2 g2.mh _ fun z M3 H3 g3 hz3 => ?_
      have m3 : M3 D = none := (g2.trans g3).keep m0' k0
      refine ⟨ws, g3.hh _ _ (g2.hh _ _ k0), Nat.lt_of_lt_of_le (Nat.lt_of_le_of_lt hl hi) hz, M3, ws ++ [z], ((gg.trans g2).trans g3).mut hD m3, m3, upd_same, by rw [List.length_append]; exact Nat.succ_le_succ hl, ?_⟩
      rw [et, List.filter_append, List.map_append, List.filter_cons, ex]
      exact pd_app (hpd.mono ((g0.mm.trans g2.mm).trans g3.mm)) (.cons hz3 .nil)
    | false =>
      refine ⟨M2, ws, gg.trans g2, g2.keep m0' k0, g2.hh _ _ k0, Nat.le_succ_of_le hl, ?_⟩
      rw [et, List.filter_append, List.map_append, List.filter_cons, ex]
      show Pd S M2 (_ ++ []) ws
      rw [List.append_nil]
      exact hpd.mono (g0.mm.trans g2.mm)
  · rintro H' ⟨M', ws, g, m0, hw', hl, hpd⟩
    rw [List.take_length] at hpd
    exact q D ws M' H' (g1.trans g) (g1.hh.free hD) m0 hw' hpd
theorem wipe2 {j k : Nat} {u w : V} : wipe (((wipe σ [j, k]).set j (some u)).set k (some w)) [j, k] = wipe σ [j, k] := by
  show (((((σ.set k none).set j none).set j (some u)).set k (some w)).set k none).set j none = (σ.set k none).set j none
  rw [List.set_set, List.set_set]
  by_cases h : j = k
  · subst h; simp
  · rw [List.set_comm _ _ h, List.set_set, List.set_set]
/-- the plain form: a name for the target -/
theorem gl_c1 [Mon S] {j : Nat} {xs : List α} (hsrc : GvI wi σ M xs R) (hz : xs.length ≤ sizeLine) (t : α → Bool) (f : α → β)
    (ht : ∀ x ∈ xs, ∀ M1 v, Same M M1 → R x M1 v → GvT tt ((wipe σ [j]).set j (some v)) M1 (t x))
    (he : ∀ x ∈ xs, t x = true → ∀ M1 v, Same M M1 → R x M1 v → Gv te ((wipe σ [j]).set j (some v)) M1 (S (f x))) : GvL (tLc wi (gName j) tt te [j]) σ M fun M ws => Pd S M ((xs.filter t).map f) ws :=
  gl_comp hsrc tg_1 (fun x M' σ' ⟨v, _, e⟩ => by subst e; exact wipe1) hz t f (fun x hx M1 σ' sm ⟨v, r, e⟩ => by subst e; exact ht x hx M1 v sm r) (fun x hx e M1 σ' sm ⟨v, r, e'⟩ => by subst e'; exact he x hx e M1 v sm r)
theorem gt_yes : GvT tYes σ M true := fun H mh Q q => q M H (.refl mh)
/-- without a test -/
theorem gl_m1 [Mon S] {j : Nat} {xs : List α} (hsrc : GvI wi σ M xs R) (hz : xs.length ≤ sizeLine) (f : α → β)
    (he : ∀ x ∈ xs, ∀ M1 v, Same M M1 → R x M1 v → Gv te ((wipe σ [j]).set j (some v)) M1 (S (f x))) : GvL (tLc wi (gName j) tYes te [j]) σ M fun M ws => Pd S M (xs.map f) ws := by
  have h := gl_c1 (tt := tYes) (te := te) (S := S) (j := j) hsrc hz (fun _ => true) f (fun _ _ _ _ _ _ => gt_yes) (fun x hx _ M1 v sm r => he x hx M1 v sm r)
  rw [List.filter_eq_self.mpr fun _ _ => rfl] at h
  exact h
variable {D : Ends} {tz tbd : TS}
/-- for over anything -/
theorem q_forG {U : α → Hp → Sl → Sl → Prop} {xs : List α} {H : Hp} (mh : Same M H) (hsrc : GvI wi σ M xs R) (htg : TgOk g R U) (Pv : Hp → Nat → Sl → Hp → Hp → Prop)
    (h0 : ∀ M1 H1, Gr M H M1 H1 → Pv M1 0 σ M1 H1) (hk : ∀ M1 i σ' M' H', Pv M1 i σ' M' H' → Same M1 M' ∧ Same M' H')
    (hs : ∀ M1 i x σ' M' H' M2 H2 σ2, Same M M1 → xs[i]? = some x → Pv M1 i σ' M' H' → Gr M' H' M2 H2 → U x M2 σ' σ2 →
      tbd { D with nx := fun σ2 H2 => ∃ M2, Pv M1 (i + 1) σ2 M2 H2, ct := fun σ2 H2 => ∃ M2, Pv M1 (i + 1) σ2 M2 H2, bk := tz D } σ2 H2)
    (hd : ∀ M1 σ' M' H', Same M M1 → Pv M1 xs.length σ' M' H' → tz D σ' H') : tSeq (tFor wi g tbd) tz D σ H := by
  refine hsrc H mh _ fun J M1 H1 g1 ⟨G, Y, w, hG, hY⟩ => ?_
  refine for_it w (fun i σ' H' => ∃ M', Pv M1 i σ' M' H') ⟨M1, h0 M1 H1 g1⟩ (fun i σ' H' _ ⟨M', p⟩ => hG M' H' (hk _ _ _ _ _ p).1 (hk _ _ _ _ _ p).2) ?_ ?_
  · rintro i y σ' H' H'' hi ⟨M', p⟩ hy
    have km := hk _ _ _ _ _ p
    obtain ⟨x, M2, hx, g2, rx⟩ := hY i M' H' y H'' km.1 km.2 hi hy
    exact htg x M2 y H'' σ' _ rx g2.mh fun σ2 hU => hs M1 i x σ' M' H' M2 H'' σ2 g1.mm hx p g2 hU
  · rintro σ' H' ⟨M', p⟩
    exact hd M1 σ' M' H' g1.mm p
/-- i ≤ j ≤ k -/
theorem gv_chain {tc : TE} {i j k : Int} (ha : Gv ta σ M (It' i)) (hb : Gv tb σ M (It' j)) (hc : Gv tc σ M (It' k)) :
    Gv (tChain (rI0 fun i j => .bl (decide (i ≤ j))) (rI0 fun i j => .bl (decide (i ≤ j))) ta tb tc) σ M (Bl (decide (i ≤ j) && decide (j ≤ k))) := fun H mh Q q =>
  ha H mh _ fun x M1 H1 g1 p1 => hb.le g1.mm H1 g1.mh _ fun y M2 H2 g2 p2 => ⟨i, j, p1, p2, decide (i ≤ j), rfl, by
    cases hd : decide (i ≤ j) with
    | true =>
      refine (hc.le (g1.mm.trans g2.mm)) H2 g2.mh _ fun z M3 H3 g3 p3 => ⟨j, k, p2, p3, q _ M3 H3 ((g1.trans g2).trans g3) ?_⟩
      rw [hd]; rfl
    | false =>
      refine q _ M2 H2 (g1.trans g2) ?_
      rw [hd]; rfl⟩
end
end L3

set_option Elab.async false
set_option linter.all false
set_option maxRecDepth 100000
set_option maxHeartbeats 2000000
namespace L3
open PySem PySem.Spec PyProof.Rows L2
/-! tuple(x) where x is collected -/
theorem tup_by {prog : Program} {w : World} {A : Around} {E : Value → Shared → Prop} {s : Shared} {T : String} {r : Addr} {n : Nat} {P : Nat → Value → Prop} {Q : Value → Shared → Prop} (ty : s.TypeIs (.ref r) T) (nt : (Value.type T == Value.type "tuple") = false) (hn : n ≤ sizeLine)
    (col : ∀ (B : Around) (F : Value → Shared → Prop) (R : List Value → Shared → Prop), B.handled = A.handled → (∀ (h' : Heap) (tk : Nat) (acc : Array Value), (∀ b o, s.heap.get? b = some o → h'.get? b = some o) → ItemsOf P acc n → R acc.toList { s with heap := h', toks := tk }) → wpAny (model prog w) B (collect (.ref r)) R F s)
    (fin : ∀ (h' : Heap) (tk : Nat) (acc : Array Value), (∀ b o, s.heap.get? b = some o → h'.get? b = some o) → ItemsOf P acc n → Q (.ref h'.objs.size) { s with heap := h'.push { cls := .type "tuple", data := .seq acc }, toks := tk }) :
    wpAny (model prog w) A (call (.type "tuple") [.ref r]) Q E s := by
  have made : codeAny (model prog w) A.in1 (.call (.builtin "tuple.__new__") ⟨[.type "tuple", .ref r], []⟩) (wants (fun v s1 => s1.TypeIs v "tuple" ∧ Q v s1) E) s := by
    apply codeAny_of_tree
    apply wpAny_bind
    apply wpAny_of_eq (F.newCall_tuple_1 _)
    refine wpAny_pure ⟨plainId_quiet F.plain_tuple_new _, codeAny_builtin F.entry_tuple_new ?_⟩
    rw [Around.under_plainId F.plain_tuple_new _]
    have a1 := sub_tuple_self
    have a2 := init_tuple_lookup
    have a3 := madeHere_tuple
    have here {F : Value → Shared → Prop} {R : List Value → Shared → Prop} := col A.in1.in1 F R rfl
    wp_walk using wpAny_typeOf ty, here
    intro h' tk acc kp it
    have sz : acc.size ≤ sizeLine := it.1 ▸ hn
    have same : acc.toList.toArray = acc := by simp
    rw [same]
    refine wpAny_bind (wpAny_pure (wpAny_bind (wpAny_newObj_type ?_ (show sizeOk (Data.seq acc) from sz))))
    exact wpAny_pure ⟨⟨_, Heap.get?_push_size _ rfl, rfl⟩, fin h' tk acc kp it⟩
  refine callType_codes F.called_tuple (F.typeCall_tuple_1 _) F.entry_object_init made fun v s1 h => ⟨h.1, F.args_object_init_2 v _, ?_⟩
  exact object_init_meets F.called_tuple.init.lookup F.called_tuple.made (by decide) prog w A.in1 _ s1 ⟨h.1, rfl, h.2⟩
/-- the keys of a dict with tuple keys -/
def rTupD : List V → Hp → VK → Prop := fun xs H Q => ∃ d kvs, xs = [V.ref d] ∧ Rd H d (.dT kvs) ∧ ∀ p bs, H p = none → IsKeys H kvs bs → Q (.ref p) (upd H p (.tup (bs.map V.ref)))
theorem call_tupD {X : Cx} (hc : X.calm = true) : CallR X (.type "tuple") rTupD := fun pins s σ H xs us Q I r ⟨d, kvs, ex, hd, q⟩ => by
  subst ex
  obtain ⟨_, rfl, rfl⟩ := r.one
  obtain ⟨z, low, ks, pr, o, es, ep, ho, exact_, hdt, he, _⟩ := (show ObjOk X.prog X.w H s.heap d (.dT kvs) from hd.ok I.hok)
  have S := kdl_raw (prog := X.prog) (w := X.w) low exact_ hdt
  have n1 : es.size = ks.length := size_of_entries he
  have n2 := Paired.length pr
  refine tup_by (S.type s ho) S.notTuple (n := es.size) (by omega) (fun B F R hB h => PySem.W.kdu_collect S (hB.trans (I.ok.hd hc)) ho (by omega) h) fun h' tk acc kp it => ?_
  have vals : acc.toList = (ks.map (·.2.1)).map Value.ref := by
    apply List.ext_getElem
    · rw [Array.length_toList, List.length_map, List.length_map, it.1, n1]
    · intro j h1 h2
      rw [Array.length_toList] at h1
      have hj : j < ks.length := by rw [← n1, ← it.1]; exact h1
      obtain ⟨en, g, v⟩ := it.2 j acc[j] (Array.getElem?_eq_getElem h1)
      have g2 := entry_at he j
      rw [g, List.getElem?_eq_getElem hj] at g2
      rw [Array.getElem_toList, v, List.getElem_map, List.getElem_map, Option.some.inj g2]
      rfl
  have I' : Inv X pins σ H { s with heap := h', toks := tk } := I.kept kp
  refine ⟨.ref h'.objs.size, _, I'.laid (t' := tk) (o := .tup ((ks.map (·.2.1)).map V.ref)) (fun b u e => Heap.get?_push_of_some _ e) (Nat.le_refl _) ?_, rfl, q _ _ (I'.hok.fresh (Nat.le_refl _)) (isKeys_of pr)⟩
  refine ⟨by simp only [List.length_map]; omega, acc.toList, vals ▸ vals_refs _, ⟨_, Heap.get?_push_size _ rfl, rfl, 0, ?_⟩⟩
  simp
/-! the frame of a comprehension -/
abbrev InBlk (X : Cx) (scope : Scope) (J : Cx → Prop) : Prop := ∀ (s : Shared) (H : Hp) (C : Addr) (cl : List (Str × Addr)) (fp : List Addr), J (X.blk s H scope (compEnvC scope cl C X.env) fp)
section
variable {X : Cx} {pins : List (Addr × Obj)} {σ τ : Sl} {H0 H : Hp} {s0 s : Shared} {scope : Scope} {ce : Env} {fp : List Addr} {tn : Nat → Heap → Prop} {i : Nat}
theorem blk_fp (I : Inv (X.blk s0 H0 scope ce fp) [] τ H s) (h : ∀ b ∈ fp, H b = none) : ∀ b ∈ fp, FpOk (X.blk s0 H0 scope ce fp) [] H b := fun b hb =>
  have x := I.ok.exf b hb
  ⟨h b hb, x.1, I.ok.exfs b hb, .inl hb, x.2, fun p hp => (List.not_mem_nil (a := p) hp).elim⟩
/-- out of the frame -/
theorem blk_out (I0 : Inv X pins σ H0 s0) (f0 : ∀ b ∈ fp, FpOk X pins H0 b) (I : Inv (X.blk s0 H0 scope ce fp) [] τ H s) : Inv X pins σ H s :=
  I0.call' (ch := fp) I.os I.base I.hok I.bare fun b hb => have z := (f0 b hb).2; ⟨z.2.2.1, z.1, z.2.2.2.1, z.2.2.2.2⟩
/-- its variables let go -/
theorem blk_end (I0 : Inv X pins σ H0 s0) (f0 : ∀ b ∈ fp, FpOk X pins H0 b) (hC : ce.locals = s0.heap.objs.size) (I : Inv (X.blk s0 H0 scope ce fp) [] τ H s) :
    ∃ m, s.heap.Ns s0.heap.objs.size m ∧ ∀ h', Heap.SameBut s0.heap.objs.size s.heap h' → Inv X pins σ H { s with heap := h' } := by
  have fr : H s0.heap.objs.size = none := hC ▸ I.free
  have z := I0.fpOk (Nat.le_refl _) fr
  have O := blk_out I0 f0 I
  obtain ⟨m, ns, _⟩ := I.loc
  exact ⟨m, hC ▸ ns, fun h' sb => O.turned (t' := s.toks) (fun b o hb e => (sb.2 b hb).trans e) fr z.2.1 z.2.2.2.1 z.2.2.2.2.1 z.2.2.2.2.2⟩
/-- the frame between two turns: the walk stands ahead of item i -/
structure Ahead (Y : Cx) (fp : List Addr) (tn : Nat → Heap → Prop) (τ : Sl) (i : Nat) (H : Hp) (s : Shared) : Prop where
  inv : Inv Y [] τ H s
  at_ : tn i s.heap
  off : ∀ b ∈ fp, H b = none
/-- one item drawn, stored, looked at; whoever goes on from there may close the turn -/
theorem blk_turn {tg : Expr} {ifs : List Expr} {J : It} {it : Addr} {g : TG} {tt : TT} {vs : List Nat} {Body : Sl → Hp → Prop} {Nx : Hp → Prop} {E : Value → Shared → Prop} {F0 : Shared → Prop} {Fy Fn : Shared → Prop}
    (T : Turn X.prog X.w X.K tg J fp it tn) (hc : X.calm = true) (pg : PG (X.blk s0 H0 scope ce fp) tg g) (pt : PTs (X.blk s0 H0 scope ce fp) ifs tt) (a : Ahead (X.blk s0 H0 scope ce fp) fp tn (wipe σ vs) i H s) (go : J.go i H)
    (step : ∀ x H', J.yld i H x H' → g x (wipe σ vs) H' fun σ2 H2 => wipe σ2 vs = wipe σ vs ∧ tt σ2 H2 fun b H3 => if b = true then Body σ2 H3 else Nx H3)
    (yes : ∀ pl σ2 H2 s2, Inv (X.blk s0 H0 scope ce fp) pl σ2 H2 s2 → Body σ2 H2 → (∀ H' s', Inv (X.blk s0 H0 scope ce fp) pl σ2 H' s' → Ahead (X.blk s0 H0 scope ce fp) fp tn (wipe σ vs) (i + 1) H' s') → Fy s2)
    (no : ∀ H' s', Ahead (X.blk s0 H0 scope ce fp) fp tn (wipe σ vs) (i + 1) H' s' → Nx H' → Fn s') :
    wpAny (model X.prog X.w) X.A (pyNext (.ref it)) (fun r s1 => match r with
      | none => F0 s1
      | some v => wpAny (model X.prog X.w) X.A (letOwnedTupleGo tg (.ref it) v) (fun _ s2 => wpAny (model X.prog X.w) X.A (assign tg ce v) (fun _ s3 =>
          wpAny (model X.prog X.w) X.A (forIn ifs true fun c r => if r = true then do let ok ← isTrue c ce (eval c ce); pure (ForInStep.yield ok) else pure (ForInStep.yield r)) (fun ok s4 => if ok = true then Fy s4 else Fn s4) E s3) E s2) E s1) E s := by
  refine thnF (T.item (X.blk s0 H0 scope ce fp) rfl rfl rfl hc i [] s _ H _ a.inv (blk_fp a.inv a.off) a.at_ go) fun r s1 ⟨v, hr, h1⟩ => ?_
  subst hr
  refine thnF h1 fun _ s2 ⟨x, H2, I2, rx, y2, st2, off2⟩ => ?_
  have P2 := I2.pinned (blk_fp I2 off2) (T.obj _ _ st2)
  refine thnF (pg.run _ s2 _ H2 x v _ P2 rx (step x H2 y2)) fun _ s3 ⟨σ3, H3, I3, hw, q3⟩ => ?_
  have close : ∀ H' s', Inv (X.blk s0 H0 scope ce fp) ([] ++ pinsAt fp s2.heap) σ3 H' s' → Ahead (X.blk s0 H0 scope ce fp) fp tn (wipe σ vs) (i + 1) H' s' := fun H' s' I' => by
    have pin : ∀ b ∈ fp, ∀ o, s2.heap.get? b = some o → s'.heap.get? b = some o ∧ H' b = none := fun b hb o e =>
      have z := I'.pin (b, o) (List.mem_append_right _ (List.mem_append_right _ (mem_pinsAt hb e)))
      ⟨z.1, z.2.1⟩
    refine ⟨(I'.unpinned (pins := [])).weak (hw ▸ wipe_length σ3 vs) fun j v e => (wipe_some (hw ▸ e : (wipe σ3 vs)[j]? = _)).1, T.keep _ _ _ st2 fun b hb o e => (pin b hb o e).1, fun b hb => ?_⟩
    obtain ⟨o, e, _⟩ := T.obj _ _ st2 b hb
    exact (pin b hb o e).2
  refine thnF (pt.run _ s3 σ3 H3 _ I3 q3) fun ok s4 ⟨H4, I4, q4⟩ => ?_
  cases ok with
  | true => exact yes _ σ3 H4 s4 I4 q4 close
  | false => exact no H4 s4 (close H4 s4 I4) q4
/-- D[b] = r, b a tuple key -/
theorem put_T {E : Value → Shared → Prop} {D b : Addr} {kvs : List (List Key × V)} {k : List Key} {v : V} {r : Value} {Q : Unit → Shared → Prop} (hu : X.A.units + 1 < cLine) (I : Inv X pins σ H s) (hD : H D = some (.dT kvs)) (hz : kvs.length < sizeLine) (hb : H b = some (.tup (k.map kV))) (rv : RelV v r)
    (h : ∀ s', Inv X pins σ (upd H D (.dT (putK kvs k v))) s' → Q () s') : wpAny (model X.prog X.w) X.A (dictSet D (.ref b) r) Q E s := by
  have ⟨_, low, xs, rel, dd⟩ := dt_of I.hok hD
  have room : (tupleKind (mixKind X.prog X.w)).room X.A := Nat.lt_of_succ_lt hu
  apply wpAny_dictSet_heap room (key_of I.hok hb) dd (hsz := Paired.length rel ▸ Nat.le_of_lt hz)
  intro h' ⟨q, es, ep, hq, d1, d2, d3, _, d4⟩ sb
  have len : (putK kvs k v).length ≤ sizeLine := Nat.le_trans (length_putK kvs k v) hz
  have other : ∀ c ys, H c = some (.tup ys) → upd H D (.dT (putK kvs k v)) c = some (.tup ys) := fun c ys e => (upd_ne (ne_of e hD nofun)).trans e
  exact h _ (d_write I (by rw [hD]; trivial) sb ⟨q, hq⟩ ⟨len, low, _, (rel.put k hb rv).keeps other, q, es, ep, hq, d1, d2, d3, d4⟩)
end
/-! a dict comprehension whose keys are tuples -/
/-- the key c, the value z put in; then nx -/
def KeyPut (D : Addr) (tk tv : TE) (nx : Hp → Prop) : Sl → Hp → Prop := fun σ H => tk σ H fun y H1 => tv σ H1 fun z H2 => ∃ kvs k c, y = .ref c ∧ H2 c = some (.tup (List.map kV k)) ∧ H2 D = some (.dT kvs) ∧ kvs.length < sizeLine ∧ nx (upd H2 D (.dT (putK kvs k z)))
/-- what a turn is asked: the end, or an item with which the count goes down -/
def DcTurn (J : It) (g : TG) (tt : TT) (tk tv : TE) (τ : Sl) (vs : List Nat) (D : Addr) (fin : Hp → Prop) (W : Nat → Nat → Hp → Prop) (i m : Nat) (H : Hp) : Prop :=
  J.stop i H ∧ fin H ∨ J.go i H ∧ ∀ x H', J.yld i H x H' → g x τ H' fun σ2 H2 => wipe σ2 vs = τ ∧ tt σ2 H2 fun b H3 =>
    if b = true then KeyPut D tk tv (fun H4 => ∃ m', m' < m ∧ W (i + 1) m' H4) σ2 H3 else ∃ m', m' < m ∧ W (i + 1) m' H3
def tDcT (wi : TI) (g : TG) (tt : TT) (tk tv : TE) (vs : List Nat) : TE := fun σ H Q => wi σ H fun J H1 => ∀ D, H1 D = none → ∃ W : Nat → Nat → Hp → Prop,
  (∃ m, W 0 m (upd H1 D (.dT []))) ∧ ∀ i m H, W i m H → DcTurn J g tt tk tv (wipe σ vs) vs D (Q (.ref D)) W i m H
section
variable {X : Cx} {kx vx tg iter : Expr} {ifs : List Expr} {scope : Scope} {own : List (Str × Nat)} {pos : Pos} {wi : TI} {g : TG} {tt : TT} {tk tv : TE}
/-- the loop, once the frame stands -/
theorem dcT_loop {pins : List (Addr × Obj)} {σ : Sl} {H0 : Hp} {s0 s : Shared} {ce : Env} {fp : List Addr} {it D : Addr} {J : It} {tn : Nat → Heap → Prop} {Q : VK} {W : Nat → Nat → Hp → Prop} {m0 : Nat} (hu : X.A.units + 64 < cLine) (hc : X.calm = true) (T : Turn X.prog X.w X.K tg J fp it tn)
    (I0 : Inv X pins σ H0 s0) (f0 : ∀ b ∈ fp, FpOk X pins H0 b) (hC : ce.locals = s0.heap.objs.size) (pg : PG (X.blk s0 H0 scope ce fp) tg g) (pt : PTs (X.blk s0 H0 scope ce fp) ifs tt) (pk : PE (X.blk s0 H0 scope ce fp) kx tk) (pv : PE (X.blk s0 H0 scope ce fp) vx tv)
    (turn : ∀ i m H, W i m H → DcTurn J g tt tk tv (wipe σ (own.map (·.2))) (own.map (·.2)) D (Q (.ref D)) W i m H)
    (w0 : W 0 m0 H0) (a0 : Ahead (X.blk s0 H0 scope ce fp) fp tn (wipe σ (own.map (·.2))) 0 H0 s) :
    codeAny (model X.prog X.w) X.A (.compLoop (.DictComp kx vx [⟨tg, iter, ifs, 0⟩] scope pos) 0 (.ref it) (.ref D) ce) (compPost (model X.prog X.w) X.A X.xe none (EP X pins σ Q) (.ref D) s0.heap.objs.size) s := by
  refine compLoop_anyD (fun n s' => ∃ i H', W i n H' ∧ Ahead (X.blk s0 H0 scope ce fp) fp tn (wipe σ (own.map (·.2))) i H' s') (fun n s1 ⟨i, H1, w1, a1⟩ => ?_) m0 ⟨0, H0, w0, a0⟩
  rcases turn i n H1 w1 with ⟨stop, q⟩ | ⟨go, step⟩
  · refine thnF (T.done (X.blk s0 H0 scope ce fp) rfl rfl rfl hc i [] s1 _ H1 _ a1.inv (blk_fp a1.inv a1.off) a1.at_ stop) fun r s2 ⟨hr, I2⟩ => ?_
    subst hr
    obtain ⟨m, ns, out⟩ := blk_end I0 f0 hC I2
    exact ⟨m, ns, fun h' sb => ⟨.ref D, H1, out h' sb, rfl, q⟩⟩
  · have on : ∀ H' s', Ahead (X.blk s0 H0 scope ce fp) fp tn (wipe σ (own.map (·.2))) (i + 1) H' s' → (∃ m', m' < n ∧ W (i + 1) m' H') → ∃ m, m < n ∧ ∃ i H', W i m H' ∧ Ahead (X.blk s0 H0 scope ce fp) fp tn (wipe σ (own.map (·.2))) i H' s' := fun H' s' a' ⟨m', lt, w'⟩ => ⟨m', lt, i + 1, H', w', a'⟩
    refine blk_turn T hc pg pt a1 go step (fun pl σ2 H2 s2 I2 q2 close => ?_) on
    refine thnF (pk.run pl s2 σ2 H2 _ I2 q2) fun kv s3 ⟨y, H3, I3, ry, q3⟩ => thnF (pv.run pl s3 σ2 H3 _ I3 q3) fun vv s4 ⟨z, H4, I4, rz, kvs, k, c, ey, hk, hD, hz, nx⟩ => ?_
    subst ey
    obtain rfl : kv = .ref c := ry
    exact put_T (X := X.blk s0 H0 scope ce fp) (by show X.A.units + 1 < cLine; omega) I4 hD hz hk rz fun s5 I5 => on _ _ (close _ _ I5) nx
theorem pe_dcT (hu : X.A.units + 64 < cLine) (hc : X.calm = true) (hN : X.N.Nodup) (hi : PI X tg iter wi) (ok : BlkOk X.N X.env.scope scope own) (hg : InBlk X scope fun Y => PG Y tg g) (ht : InBlk X scope fun Y => PTs Y ifs tt)
    (hk : InBlk X scope fun Y => PE Y kx tk) (he : InBlk X scope fun Y => PE Y vx tv) (hs : ∀ x, foldedSetIterable iter X.env x = pure x := by intro _; rfl) :
    PE X (.DictComp kx vx [⟨tg, iter, ifs, 0⟩] scope pos) (tDcT wi g tt tk tv (own.map (·.2))) where
  run pins s σ H Q I h := by
    rw [arm_eval_DictComp]
    have cells : closureFor scope X.env = pure (cloFrom X.env.cells scope.names []) := closure_ok fun y hy e => I.ok.has _ (ok.free y hy e)
    refine wpAny_comprehension_free rfl hs cells ok.kind (fun y hy e => e ▸ ok.uniq y hy) (thn (hi.run pins s σ H _ I h) fun _ s1 h1 => thn h1 fun _ s2 ⟨it, fp, tn, J, H2, e, I2, T, st, f2, q⟩ => ?_)
    subst e
    have nD := I2.hok.fresh (Nat.le_refl s2.heap.objs.size)
    obtain ⟨W, ⟨m0, w0⟩, turn⟩ := q _ nD
    have below : ∀ b ∈ fp, b < s2.heap.objs.size := fun b hb => let ⟨_, e, _⟩ := T.obj _ _ st b hb; Heap.lt_size e
    have I3 := I2.laid (t' := s2.toks) (h' := s2.heap.push { cls := .type "dict", data := .dict #[] }) (fun b o e => Heap.get?_push_of_some _ e) (Nat.le_refl _) (dt_empty s2.heap I2.big)
    have off : ∀ b ∈ fp, upd H2 s2.heap.objs.size (.dT []) b = none := fun b hb => (upd_ne (Nat.ne_of_lt (below b hb))).trans (f2 b hb).1
    have f3 : ∀ b ∈ fp, FpOk X pins (upd H2 s2.heap.objs.size (.dT [])) b := fun b hb => ⟨off b hb, (f2 b hb).2⟩
    refine wpAny_newObj_type (newEnv_comp ?_)
    have I4 := block_start I3 ok hN fun b hb => ⟨f3 b hb, by show b < (s2.heap.push _).objs.size; rw [Heap.size_push]; exact Nat.lt_succ_of_lt (below b hb)⟩
    have st4 := T.keep _ _ _ st fun b _ o e => pushCells_keeps scope.names _ _ _ (Heap.get?_push_of_some { cls := .type "dict", data := .dict #[] } (Heap.get?_push_of_some { cls := .type "dict", data := .dict #[] } e))
    have loop := dcT_loop (kx := kx) (vx := vx) (iter := iter) (pos := pos) (Q := Q) hu hc T I3 f3 rfl (hg _ _ _ _ _) (ht _ _ _ _ _) (hk _ _ _ _ _) (he _ _ _ _ _) turn w0 ⟨I4, st4, off⟩
    exact codeAny_compStart_dict loop (T.self X.A 0 _ _ _ st4 loop)
end
end L3

set_option Elab.async false
set_option linter.all false
set_option maxRecDepth 100000
set_option maxHeartbeats 1000000
namespace L3
open PySem PySem.Spec PyProof.Rows L2
/-- a tuple of texts that stands in the heap itself; a tuple of anything -/
def TT : Rl (List Str) := fun xs M v => ∃ a, v = .ref a ∧ M a = some (.tup (xs.map V.str))
instance : Mon TT := ⟨fun e ⟨a, h, r⟩ => ⟨a, h, e _ _ r⟩⟩
theorem TT.tup {K : PySem.W.Frag} {xs : List Str} {M : Hp} {v : V} (h : TT xs M v) : TupR K Tx xs M v := let ⟨a, e, r⟩ := h; ⟨a, _, e, .inl (.inl r), pd_of_tx xs⟩
theorem TT.sq {K : PySem.W.Frag} {xs : List Str} {M : Hp} {v : V} (h : TT xs M v) : SqR K Tx xs M v := .inr h.tup
theorem py_TT {K : PySem.W.Frag} : PyR K TT fun xs => .tuple (xs.map .str) := fun xs M v h => py_tup py_str _ _ _ h.tup
theorem TT.new {M : Hp} {p : Addr} (xs : List Str) : TT xs (upd M p (.tup (xs.map V.str))) (.ref p) := ⟨p, rfl, upd_same⟩
theorem inj_TT : Inj fun xs : List Str => PyData.tuple (xs.map .str) := inj_tup inj_str
def TuR {α : Type} (R : Rl α) : Rl (List α) := fun xs M v => ∃ a vs, v = .ref a ∧ M a = some (.tup vs) ∧ Pd R M xs vs
def LiR {α : Type} (R : Rl α) : Rl (List α) := fun xs M v => ∃ a vs, v = .ref a ∧ M a = some (.lst vs) ∧ Pd R M xs vs
section
variable {K : PySem.W.Frag} {α : Type} {R : Rl α}
instance [Mon R] : Mon (TuR R) := ⟨fun e ⟨a, vs, h1, h2, h3⟩ => ⟨a, vs, h1, e _ _ h2, h3.mono e⟩⟩
instance [Mon R] : Mon (LiR R) := ⟨fun e ⟨a, vs, h1, h2, h3⟩ => ⟨a, vs, h1, e _ _ h2, h3.mono e⟩⟩
theorem TuR.tup {xs : List α} {M : Hp} {v : V} (h : TuR R xs M v) : TupR K R xs M v := let ⟨a, vs, e, r, p⟩ := h; ⟨a, vs, e, .inl (.inl r), p⟩
theorem TuR.sq {xs : List α} {M : Hp} {v : V} (h : TuR R xs M v) : SqR K R xs M v := .inr h.tup
theorem LiR.lst {xs : List α} {M : Hp} {v : V} (h : LiR R xs M v) : LstR K R xs M v := let ⟨a, vs, e, r, p⟩ := h; ⟨a, vs, e, .inl (.inl r), p⟩
theorem LiR.sq {xs : List α} {M : Hp} {v : V} (h : LiR R xs M v) : SqR K R xs M v := .inl h.lst
end
/-! tuple({x: True for x in xs}): each once -/
def onceP {α : Type} [DecidableEq α] (acc : List α) (x : α) : List α := if x ∈ acc then acc else acc ++ [x]
def once {α : Type} [DecidableEq α] (xs : List α) : List α := xs.foldl onceP []
def ent (acc : List (List Str)) : List (List Key × V) := acc.map fun c => (c.map Sum.inr, V.bl true)
theorem inr_inj : ∀ {a b : List Str}, a.map (Sum.inr : Str → Key) = b.map Sum.inr → a = b
  | [], [], _ => rfl
  | [], _ :: _, h => by simp at h
  | _ :: _, [], h => by simp at h
  | x :: a, y :: b, h => by
    simp only [List.map_cons, List.cons.injEq, Sum.inr.injEq] at h
    rw [h.1, inr_inj h.2]
theorem putK_ent (acc : List (List Str)) (c : List Str) : putK (ent acc) (c.map Sum.inr) (V.bl true) = ent (onceP acc c) := by
  unfold putK onceP
  have e : ((ent acc).any fun kv => decide (kv.1 = c.map Sum.inr)) = decide (c ∈ acc) := by
    unfold ent
    rw [List.any_map]
    induction acc with
    | nil => simp
    | cons x r ih =>
      rw [List.any_cons, ih]
      by_cases h : c = x
      · subst h; simp
      · have h1 : ¬ x.map (Sum.inr : Str → Key) = c.map Sum.inr := fun z => h (inr_inj z).symm
        simp [h, h1]
  rw [e]
  by_cases h : c ∈ acc
  · rw [decide_eq_true h, if_pos rfl, if_pos h]
    unfold ent
    rw [List.map_map]
    refine List.map_congr_left fun x _ => ?_
    show (if _ then _ else _) = _
    by_cases h2 : x.map (Sum.inr : Str → Key) = c.map Sum.inr
    · rw [if_pos h2]
    · rw [if_neg h2]
  · rw [decide_eq_false h, if_neg (by simp), if_neg h]
    unfold ent
    rw [List.map_append]
    rfl
theorem key_V (c : List Str) : (c.map (Sum.inr : Str → Key)).map kV = c.map V.str := by rw [List.map_map]; rfl
theorem onceP_len {α : Type} [DecidableEq α] (acc : List α) (x : α) : (onceP acc x).length ≤ acc.length + 1 := by
  unfold onceP; split
  · omega
  · simp
section
variable {K : PySem.W.Frag} {σ : Sl} {M : Hp} {wi : TI}
theorem gv_once {j : Nat} {xs : List (List Str)} (hj : j < σ.length) (hsrc : GvI wi σ M xs TT) (hz : xs.length ≤ sizeLine) :
    Gv (tCB rTupD (tCons (tDcT wi (gName j) tYes (tVar j) (tC (.bl true)) [j]) tNil)) σ M (TuR TT (once xs)) := by
  intro H mh Q q
  refine hsrc H mh _ fun J M1 H1 g1 ⟨G, Y, w, hG, hY⟩ D hD => ?_
  let Pv : Nat → Hp → Prop := fun i H' => ∃ M' acc, Gr M1 H1 M' H' ∧ M' D = none ∧ acc = (xs.take i).foldl onceP [] ∧ acc.length ≤ i ∧ H' D = some (.dT (ent acc))
  refine ⟨fun i m H' => m = xs.length - i ∧ i ≤ xs.length ∧ Pv i H', ⟨xs.length, by omega, Nat.zero_le _, M1, [], .own g1.mh hD, g1.mh.free hD, rfl, Nat.le_refl _, upd_same⟩, ?_⟩
  rintro i m H' ⟨rfl, hi, M', acc, g, m0, eacc, hl, hw⟩
  by_cases hlt : i < xs.length
  · refine .inr ⟨w.goes i H' hlt (hG M' H' g.mm g.mh), fun y H2 hy => ?_⟩
    obtain ⟨x, M2, hx, g2, ⟨b, rfl, rb⟩⟩ := hY i M' H' y H2 g.mm g.mh hlt (w.yields i H' y H2 hlt (hG M' H' g.mm g.mh) hy)
    have et : xs.take (i + 1) = xs.take i ++ [x] := by rw [List.take_add_one, hx]; rfl
    have hs : ((wipe σ [j]).set j (some (V.ref b)))[j]? = some (some (V.ref b)) := by rw [List.getElem?_set_self (by rw [wipe_length]; exact hj)]
    refine ⟨wipe1, .ref b, hs, ent acc, x.map Sum.inr, b, rfl, by rw [key_V]; exact g2.mh _ _ rb, g2.hh _ _ hw, by unfold ent; rw [List.length_map]; exact Nat.lt_of_le_of_lt hl (Nat.lt_of_lt_of_le hlt hz), ?_⟩
    refine ⟨xs.length - (i + 1), by omega, rfl, hlt, M2, onceP acc x, (g.trans g2).mut hD (g2.keep m0 hw), g2.keep m0 hw, by rw [et, List.foldl_append, ← eacc]; rfl, Nat.le_trans (onceP_len acc x) (Nat.succ_le_succ hl), ?_⟩
    rw [upd_same, putK_ent]
  · have e : i = xs.length := by omega
    subst e
    rw [List.take_length] at eacc
    refine .inl ⟨w.stops H' (hG M' H' g.mm g.mh), D, ent acc, rfl, .inl hw, fun p bs np hk => ?_⟩
    have hbs : ∀ b ∈ bs, ∃ ys, H' b = some (.tup ys) := by
      intro b hb
      have go : ∀ {kvs : List (List Key × V)} {bs : List Addr}, IsKeys H' kvs bs → ∀ b ∈ bs, ∃ ys, H' b = some (.tup ys) := by
        intro kvs bs h
        induction h with
        | nil => intro b hb; cases hb
        | cons q _ ih =>
          intro b hb
          rcases List.mem_cons.mp hb with rfl | hb
          · exact ⟨_, q⟩
          · exact ih b hb
      exact go hk b hb
    have gt := Gr.tups g.mh hbs
    have hpd : Pd TT (withT M' H' bs) acc (bs.map V.ref) := by
      have go : ∀ {acc : List (List Str)} {cs : List Addr}, (∀ c ∈ cs, c ∈ bs) → IsKeys H' (ent acc) cs → Pd TT (withT M' H' bs) acc (cs.map V.ref) := by
        intro acc
        induction acc with
        | nil => intro cs _ h; cases h; exact .nil
        | cons x r ih =>
          intro cs hc h
          cases h with
          | cons q t => exact .cons ⟨_, rfl, withT_in g.mh (hc _ List.mem_cons_self) (by rw [← key_V]; exact q)⟩ (ih (fun c h => hc c (List.mem_cons_of_mem _ h)) t)
      exact go (fun c h => h) hk
    have gn := Gr.new (o := .tup (bs.map V.ref)) gt.mh np
    refine q _ _ _ (((g1.trans g).trans gt).trans gn) ⟨p, _, rfl, upd_same, ?_⟩
    unfold once
    rw [← eacc]
    exact hpd.mono gn.mm
end
end L3

set_option Elab.async false
set_option linter.all false
set_option maxRecDepth 100000
set_option maxHeartbeats 1000000
namespace L3
open PySem PySem.Spec PyProof.Rows L2
/-! something of ours is lent to the known part while an expression runs -/
def del (M : Hp) (x : Addr) : Hp := fun a => if a = x then none else M a
theorem del_ne {M : Hp} {x a : Addr} (h : a ≠ x) : del M x a = M a := if_neg h
theorem del_at {M : Hp} {x : Addr} : del M x x = none := if_pos rfl
class Stb (P : Pr) : Prop where
  del : ∀ {M : Hp} {v : V} {x : Addr} {o : HO}, (∀ xs, o ≠ HO.tup xs) → M x = some o → P M v → P (del M x) v
class Stl {α : Type} (R : Rl α) : Prop where
  del : ∀ {y : α} {M : Hp} {v : V} {x : Addr} {o : HO}, (∀ xs, o ≠ HO.tup xs) → M x = some o → R y M v → R y (del M x) v
instance {α : Type} {R : Rl α} [h : Stl R] {y : α} : Stb (R y) := ⟨fun a b c => h.del a b c⟩
instance : Stl Tx := ⟨fun _ _ h => h⟩
instance : Stl It' := ⟨fun _ _ h => h⟩
instance : Stl Bl := ⟨fun _ _ h => h⟩
instance : Stl OpN := ⟨fun _ _ h => h⟩
theorem tup_ne {M : Hp} {a x : Addr} {o : HO} {xs : List V} (hn : ∀ xs, o ≠ HO.tup xs) (hx : M x = some o) (ha : M a = some (.tup xs)) : a ≠ x := fun z => by
  subst z; rw [hx] at ha; exact hn xs (Option.some.inj ha)
instance : Stl TT := ⟨fun hn hx ⟨a, e, r⟩ => ⟨a, e, by rw [del_ne (tup_ne hn hx r)]; exact r⟩⟩
theorem Pd.del {α : Type} {R : Rl α} [Stl R] {M : Hp} {x : Addr} {o : HO} (hn : ∀ xs, o ≠ HO.tup xs) (hx : M x = some o) {ys : List α} {vs : List V} (h : Pd R M ys vs) : Pd R (L3.del M x) ys vs := Paired.mapP h fun _ _ q => Stl.del hn hx q
instance {α : Type} {R : Rl α} [Stl R] : Stl (TuR R) := ⟨fun hn hx ⟨a, vs, e, r, p⟩ => ⟨a, vs, e, by rw [del_ne (tup_ne hn hx r)]; exact r, p.del hn hx⟩⟩
theorem same_lent {M H : Hp} {x : Addr} {o : HO} (mh : Same M H) (hx : H x = some o) : Same (upd M x o) H := fun b u e => by
  by_cases hb : b = x
  · subst hb; rw [upd_same] at e; rw [hx]; exact e
  · rw [upd_ne hb] at e; exact mh b u e
theorem Gr.back {M H M' H' : Hp} {x : Addr} {o : HO} (g : Gr (upd M x o) H M' H') (hm : M x = none) : Gr M H (del M' x) H' := by
  refine ⟨fun a u e => ?_, g.hh, fun a u e => ?_, fun a u e => ?_, fun a ps e => by
    by_cases ha : a = x
    · subst ha; rw [del_at] at e; cases e
    · rw [del_ne ha] at e
      have h := g.nt a ps e
      rw [upd_ne ha] at h
      exact h⟩
  · have na : a ≠ x := ne_of_none e hm
    rw [del_ne na]
    exact g.mm a u (by rw [upd_ne na]; exact e)
  · by_cases ha : a = x
    · subst ha; rw [del_at] at e; cases e
    · rw [del_ne ha] at e; exact g.mh a u e
  · by_cases ha : a = x
    · subst ha; rw [del_at] at e; cases e
    · rw [del_ne ha] at e
      rcases g.nw a u e with h | h
      · rw [upd_ne ha] at h; exact .inl h
      · exact .inr h
section
variable {K : PySem.W.Frag} {σ : Sl} {M H : Hp} {te : TE} {P : Pr} {x : Addr} {o : HO}
theorem Gv.lend [Stb P] (h : Gv te σ (upd M x o) P) (hm : M x = none) (mh : Same M H) (hx : H x = some o) (hn : ∀ xs, o ≠ HO.tup xs) {Q : VK} (q : ∀ v M' H', Gr M H M' H' → M' x = none → H' x = some o → P M' v → Q v H') : te σ H Q :=
  h H (same_lent mh hx) Q fun v M' H' g p => q v _ H' (g.back hm) del_at (g.hh _ _ hx) (Stb.del hn (g.mm x o upd_same) p)
end
/-! our instance -/
structure OwnI (H0 M H : Hp) (x C dx : Addr) (fs : List (Str × V)) : Prop where
  h0 : H0 x = none
  m : M x = none
  h : H x = some (.ins C dx fs)
theorem ins_nt {C dx : Addr} {fs : List (Str × V)} : ∀ xs, HO.ins C dx fs ≠ HO.tup xs := by intro _ z; cases z
/-- self.f = e, self in slot i -/
theorem s_fld {K : PySem.W.Frag} {σ : Sl} {M H : Hp} {te : TE} {P : Pr} {D : Ends} {i : Nat} {x C dx : Addr} {fs : List (Str × V)} {f : Str} [Stb P] (mh : Same M H) (hm : M x = none) (hx : H x = some (.ins C dx fs)) (hi : σ[i]? = some (some (.ref x))) (cl : Cls K C) (na : NoAttr K C f) (hl : fs.length < 1000)
    (h : Gv te σ (upd M x (.ins C dx fs)) P) (k : ∀ v M' H', Gr M H M' H' → M' x = none → P M' v → D.nx σ (upd H' x (.ins C dx (putF f v fs)))) : sFld K (tVar i) te f D σ H :=
  h.lend hm mh hx ins_nt fun v M' H' g m0 hx' p => ⟨.ref x, hi, x, C, dx, fs, rfl, hx', cl, na, hl, k v M' H' g m0 p⟩
theorem q_fld {K : PySem.W.Frag} {σ : Sl} {M H : Hp} {te : TE} {P : Pr} {D : Ends} {tz : TS} {i : Nat} {x C dx : Addr} {fs : List (Str × V)} {f : Str} [Stb P] (mh : Same M H) (hm : M x = none) (hx : H x = some (.ins C dx fs)) (hi : σ[i]? = some (some (.ref x))) (cl : Cls K C) (na : NoAttr K C f) (hl : fs.length < 1000)
    (h : Gv te σ (upd M x (.ins C dx fs)) P) (k : ∀ v M' H', Gr M H M' H' → M' x = none → P M' v → tz D σ (upd H' x (.ins C dx (putF f v fs)))) : tSeq (sFld K (tVar i) te f) tz D σ H :=
  s_fld (D := { D with nx := tz D }) mh hm hx hi cl na hl h k
theorem gv_self {K : PySem.W.Frag} {σ : Sl} {M : Hp} {P : Pr} {i : Nat} {x C dx : Addr} {fs : List (Str × V)} {f : Str} {u : V} (hi : σ[i]? = some (some (.ref x))) (hx : M x = some (.ins C dx fs)) (cl : Cls K C) (na : NoAttr K C f) (l : fs.lookup f = some u) (p : P M u) : Gv (tFld K (tVar i) f) σ M P :=
  fun H mh Q q => ⟨.ref x, hi, x, C, dx, fs, u, rfl, mh _ _ hx, cl, na, l, q u M H (.refl mh) p⟩
theorem putF_len {f : Str} {v : V} {fs : List (Str × V)} {n : Nat} (h : fs.length ≤ n) : (putF f v fs).length ≤ n + 1 := Nat.le_trans (length_putF f v fs) (Nat.succ_le_succ h)
theorem lt1000 {n m : Nat} (h : n ≤ m) (hm : m < 1000 := by decide) : n < 1000 := Nat.lt_of_le_of_lt h hm
/-- e.f of an instance that is known -/
theorem gv_fld {K : PySem.W.Frag} {σ : Sl} {M : Hp} {te : TE} {P P' : Pr} {f : Str} [Mono P'] (h : Gv te σ M P') (hf : ∀ M' v, P' M' v → ∃ a C dx fs u, v = .ref a ∧ M' a = some (.ins C dx fs) ∧ Cls K C ∧ NoAttr K C f ∧ fs.lookup f = some u ∧ P M' u) : Gv (tFld K te f) σ M P := fun H mh Q q =>
  h H mh _ fun v M1 H1 g1 p1 => let ⟨a, C, dx, fs, u, e, hm, cl, na, l, p⟩ := hf M1 v p1; ⟨a, C, dx, fs, u, e, g1.mh _ _ hm, cl, na, l, q _ M1 H1 g1 p⟩
section
variable {K : PySem.W.Frag} {σ : Sl} {M : Hp} {ta tb te : TE} {α : Type} {R : Rl α}
/-- tuple + tuple -/
theorem gv_addT [Mon R] {xs ys : List α} (ha : Gv ta σ M (TuR R xs)) (hb : Gv tb σ M (TuR R ys)) (hz : xs.length + ys.length ≤ sizeLine) : Gv (tOp (rAddA K) ta tb) σ M (TuR R (xs ++ ys)) := by
  refine gv_op ha hb fun M' u w ⟨a, vs, e1, r1, p1⟩ ⟨b, ws, e2, r2, p2⟩ H mh Q q => .inr (.inr (.inl ⟨a, b, vs, ws, e1, e2, .inl (.inl (mh _ _ r1)), .inl (.inl (mh _ _ r2)), by rw [← p1.length, ← p2.length]; exact hz, fun e => ?_, fun e1 e2 => ?_, fun _ _ p np => ?_⟩))
  · subst e; cases p1
    exact q _ M' H (.refl mh) ⟨b, ws, rfl, r2, p2⟩
  · subst e2; cases p2
    exact q _ M' H (.refl mh) ⟨a, vs, rfl, r1, by rw [List.append_nil]; exact p1⟩
  · exact q _ _ _ (.new mh np) ⟨p, _, rfl, upd_same, Pd.mono (R := R) (same_new (mh.free np)) (pd_app p1 p2)⟩
theorem TT.ts {xs : List Str} {M : Hp} {v : V} (h : TT xs M v) : TuR Tx xs M v := let ⟨a, e, r⟩ := h; ⟨a, _, e, r, pd_of_tx xs⟩
theorem TuR.tt {xs : List Str} {M : Hp} {v : V} (h : TuR Tx xs M v) : TT xs M v := let ⟨a, vs, e, r, p⟩ := h; ⟨a, e, by rw [← pd_tx p]; exact r⟩
theorem gv_addTT {xs ys : List Str} (ha : Gv ta σ M (TT xs)) (hb : Gv tb σ M (TT ys)) (hz : xs.length + ys.length ≤ sizeLine) : Gv (tOp (rAddA K) ta tb) σ M (TT (xs ++ ys)) :=
  gv_is (gv_addT (R := Tx) (gv_is ha fun _ _ h => h.ts) (gv_is hb fun _ _ h => h.ts) hz) fun _ _ h => h.tt
theorem gv_nilT : Gv (tTup tNil) σ M (TT []) := gv_tup ga_nil (fun _ vs h => by rw [h]; exact Nat.zero_le _) fun M' vs p h _ => by subst h; exact ⟨p, rfl, upd_same⟩
end
/-- a def with defaults, no exception leaves it -/
theorem funD_ok {P : Program} {w : World} {K : PySem.W.Frag} {mg : Str → Option Value} {base : Heap} {x qual : Str} {params : Arguments} {body : List Stmt} {scope : Scope} {dvs : List V} {kws : List (Str × V)} {f : Addr} {fd : FuncData} {N ps : List Str} {k : Nat} {sp : Sp}
    (F : FunD K x qual params body scope dvs kws f fd) (S : FnScope N ps scope) (len : ∀ vs H Q E, sp vs H Q E → vs.length = ps.length)
    (hb : ∀ (cdv : Value) (A : Around) (outer : List Env) (s : Shared) (H : Hp) (vs : List V) (Q : VK) (E : XK), Room k (A.deeper (envOfC qual scope s.heap.objs.size f cdv)) → sp vs H Q E →
      ∃ t, PSs (cxOf CX0 P w K mg base N qual scope f cdv A outer s H E).nox body t ∧ t { nx := fun _ H' => Q .non H', rt := Q } (start N vs) H) : FnOk P w K mg base CX0 (k + 1) f fd ps sp :=
  FunD.ok F S len fun cdv A outer s H vs Q E hr hs => let ⟨t, h, q⟩ := hb cdv A outer s H vs Q E hr hs; ⟨t, h.nox, q⟩
end L3

set_option Elab.async false
set_option linter.all false
set_option maxRecDepth 100000
set_option maxHeartbeats 1000000
namespace L3
open PySem PySem.Spec PyProof.Rows L2
/-! a dict of ours whose keys are texts -/
def GvK (te : TE) (σ : Sl) (M : Hp) (ks : List Str) : Prop := ∀ H, Same M H → ∀ Q : VK, (∀ p M' H', Gr M H M' H' → H p = none → M' p = none → H' p = some (.dK (kvT ks)) → Q (.ref p) H') → te σ H Q
theorem putK_kvT (acc : List Str) (x : Str) : putK (kvT acc) (Sum.inr x : Key) (V.bl true) = kvT (onceP acc x) := by
  unfold putK onceP
  have e : ((kvT acc).any fun kv => decide (kv.1 = (Sum.inr x : Key))) = decide (x ∈ acc) := by
    unfold kvT
    rw [List.any_map]
    induction acc with
    | nil => simp
    | cons y r ih =>
      rw [List.any_cons, ih]
      by_cases h : x = y
      · subst h; simp
      · have h1 : ¬ (Sum.inr y : Key) = Sum.inr x := fun z => h (Sum.inr.inj z).symm
        simp [h, h1]
  rw [e]
  by_cases h : x ∈ acc
  · rw [decide_eq_true h, if_pos rfl, if_pos h]
    unfold kvT
    rw [List.map_map]
    refine List.map_congr_left fun y _ => ?_
    show (if _ then _ else _) = _
    by_cases h2 : (Sum.inr y : Key) = Sum.inr x
    · rw [if_pos h2]
    · rw [if_neg h2]
  · rw [decide_eq_false h, if_neg (by simp), if_neg h]
    unfold kvT
    rw [List.map_append]
    rfl
theorem kvT_len (ks : List Str) : (kvT ks).length = ks.length := by unfold kvT; rw [List.length_map]
section
variable {K : PySem.W.Frag} {σ : Sl} {M : Hp} {wi : TI}
theorem gk_dc {j : Nat} {xs : List Str} (hj : j < σ.length) (hsrc : GvI wi σ M xs Tx) (hz : xs.length ≤ sizeLine) : GvK (tDc wi (gName j) tYes (tVar j) (tC (.bl true)) [j]) σ M (once xs) := by
  intro H mh Q q
  refine hsrc H mh _ fun J M1 H1 g1 ⟨G, Y, w, hG, hY⟩ D hD => ?_
  let Pv : Nat → Hp → Prop := fun i H' => ∃ M' acc, Gr M1 H1 M' H' ∧ M' D = none ∧ acc = (xs.take i).foldl onceP [] ∧ acc.length ≤ i ∧ H' D = some (.dK (kvT acc))
  refine ⟨fun i m H' => m = xs.length - i ∧ i ≤ xs.length ∧ Pv i H', ⟨xs.length, by omega, Nat.zero_le _, M1, [], .own g1.mh hD, g1.mh.free hD, rfl, Nat.le_refl _, upd_same⟩, ?_⟩
  rintro i m H' ⟨rfl, hi, M', acc, g, m0, eacc, hl, hw⟩
  by_cases hlt : i < xs.length
  · refine .inr ⟨w.goes i H' hlt (hG M' H' g.mm g.mh), Pv (i + 1), fun H2 p2 => ⟨xs.length - (i + 1), by omega, rfl, hlt, p2⟩, fun y H2 hy => ?_⟩
    obtain ⟨x, M2, hx, g2, ry⟩ := hY i M' H' y H2 g.mm g.mh hlt (w.yields i H' y H2 hlt (hG M' H' g.mm g.mh) hy)
    cases (show y = _ from ry)
    have et : xs.take (i + 1) = xs.take i ++ [x] := by rw [List.take_add_one, hx]; rfl
    have hs : ((wipe σ [j]).set j (some (V.str x)))[j]? = some (some (V.str x)) := by rw [List.getElem?_set_self (by rw [wipe_length]; exact hj)]
    refine ⟨wipe1, .str x, hs, kvT acc, Sum.inr x, rfl, g2.hh _ _ hw, by rw [kvT_len]; exact Nat.lt_of_le_of_lt hl (Nat.lt_of_lt_of_le hlt hz), ?_⟩
    refine ⟨M2, onceP acc x, (g.trans g2).mut hD (g2.keep m0 hw), g2.keep m0 hw, by rw [et, List.foldl_append, ← eacc]; rfl, Nat.le_trans (onceP_len acc x) (Nat.succ_le_succ hl), ?_⟩
    rw [upd_same, putK_kvT]
  · have e : i = xs.length := by omega
    subst e
    rw [List.take_length] at eacc
    unfold once at q
    rw [← eacc] at q
    exact .inl ⟨w.stops H' (hG M' H' g.mm g.mh), q D M' H' (g1.trans g) (g1.hh.free hD) m0 hw⟩
end
/-- what we own: a dict -/
structure OwnK (H0 M H : Hp) (p : Addr) (ks : List Str) : Prop where
  h0 : H0 p = none
  m : M p = none
  h : H p = some (.dK (kvT ks))
theorem OwnK.step {H0 M H M' H' : Hp} {p : Addr} {ks : List Str} (o : OwnK H0 M H p ks) (g : Gr M H M' H') : OwnK H0 M' H' p ks := ⟨o.h0, g.keep o.m o.h, g.hh _ _ o.h⟩
theorem OwnK.idle {H0 M H H' : Hp} {p : Addr} {ks : List Str} (o : OwnK H0 M H p ks) (hh : Same H H') : OwnK H0 M H' p ks := ⟨o.h0, o.m, hh _ _ o.h⟩
theorem OwnK.put {H0 M H : Hp} {p : Addr} {ks ls : List Str} (o : OwnK H0 M H p ks) : OwnK H0 M (upd H p (.dK (kvT ls))) p ls := ⟨o.h0, o.m, upd_same⟩
/-- another thing of ours changes -/
theorem OwnK.off {H0 M H : Hp} {p b : Addr} {ks : List Str} {u : HO} (o : OwnK H0 M H p ks) (h : p ≠ b) : OwnK H0 M (upd H b u) p ks := ⟨o.h0, o.m, by rw [upd_ne h]; exact o.h⟩
theorem Own.off {H0 M H : Hp} {p b : Addr} {vs : List V} {u : HO} (o : Own H0 M H p vs) (h : p ≠ b) : Own H0 M (upd H b u) p vs := ⟨o.h0, o.m, by rw [upd_ne h]; exact o.h⟩
theorem OwnK.ne {H0 M H : Hp} {p b : Addr} {ks : List Str} {vs : List V} (o : OwnK H0 M H p ks) (q : Own H0 M H b vs) : p ≠ b := ne_of o.h q.h (by intro z; cases z)
theorem OwnK.lent {H0 M H : Hp} {p : Addr} {ks : List Str} (o : OwnK H0 M H p ks) (mh : Same M H) : Same (upd M p (.dK (kvT ks))) H := same_lent mh o.h
theorem OwnK.ct {K : PySem.W.Frag} {M : Hp} {p : Addr} {ks : List Str} : CtR K ks (upd M p (.dK (kvT ks))) (.ref p) := .inr ⟨p, rfl, .inl upd_same⟩
theorem kt_nt {kvs : List (Key × V)} : ∀ xs, HO.dK kvs ≠ HO.tup xs := by intro _ z; cases z
theorem ls_nt {vs : List V} : ∀ xs, HO.lst vs ≠ HO.tup xs := by intro _ z; cases z
/-! a thing is locked for good behind an expression -/
def tFrz (te : TE) : TE := fun σ H Q => te σ H fun v H1 => ∃ a u, v = .ref a ∧ H1 a = some u ∧ Mut (some u) ∧ ∀ o, Q v (upd H1 a (.frz o u))
theorem pe_frz {X : Cx} {e : Expr} {te : TE} (h : PE X e te) : PE X e (tFrz te) := by
  refine ⟨fun pins s σ H Q I hw => thn (h.run pins s σ H _ I hw) fun v s1 ⟨x, H1, I1, r, a, u, ex, ha, mu, q⟩ => ?_⟩
  obtain ⟨od, I2⟩ := I1.lock ha mu
  exact ⟨x, _, I2, r, q od⟩
section
variable {K : PySem.W.Frag} {σ : Sl} {M : Hp} {D : Ends} {tc : L2.TT} {tb tz : TS}
theorem q_while {H : Hp} (W : Nat → Sl → Hp → Hp → Prop) {m0 : Nat} (h0 : W m0 σ M H) (hs : ∀ m σ' M' H', W m σ' M' H' → ∃ b Mp, Same Mp H' ∧ GvT tc σ' Mp b ∧
      (b = true → ∀ H1, Same H' H1 → tb { D with nx := fun σ2 H2 => ∃ m' M2, m' < m ∧ W m' σ2 M2 H2, ct := fun σ2 H2 => ∃ m' M2, m' < m ∧ W m' σ2 M2 H2, bk := tz D } σ' H1) ∧ (b = false → ∀ H1, Same H' H1 → tz D σ' H1)) :
    tSeq (tWhile tc tb) tz D σ H := by
  refine ⟨fun m σ' H' => ∃ M', W m σ' M' H', ⟨m0, M, h0⟩, ?_⟩
  rintro m σ' H' ⟨M', w⟩
  obtain ⟨b, Mp, mp, hb, h1, h2⟩ := hs m σ' M' H' w
  refine hb H' mp _ fun M2 H2 g => ?_
  cases b with
  | true => exact ⟨_, fun σ2 H3 ⟨m', M3, hm, w'⟩ => ⟨m', hm, M3, w'⟩, h1 rfl H2 g.hh⟩
  | false => exact h2 rfl H2 g.hh
end
end L3

set_option Elab.async false
set_option linter.all false
set_option maxRecDepth 100000
set_option maxHeartbeats 1000000
namespace L3
open PySem PySem.Spec PyProof.Rows L2
/-! a dict of ours is lent -/
class Sdk (P : Pr) : Prop where
  del : ∀ {M : Hp} {v : V} {x : Addr} {kvs : List (Key × V)}, M x = some (.dK kvs) → P M v → P (L3.del M x) v
class Sdl {α : Type} (R : Rl α) : Prop where
  del : ∀ {y : α} {M : Hp} {v : V} {x : Addr} {kvs : List (Key × V)}, M x = some (.dK kvs) → R y M v → R y (L3.del M x) v
instance {α : Type} {R : Rl α} [h : Sdl R] {y : α} : Sdk (R y) := ⟨fun b c => h.del b c⟩
instance {α : Type} {R : Rl α} [h : Stl R] : Sdl R := ⟨fun b c => h.del kt_nt b c⟩
theorem Pd.delK {α : Type} {R : Rl α} [Sdl R] {M : Hp} {x : Addr} {kvs : List (Key × V)} (hx : M x = some (.dK kvs)) {ys : List α} {vs : List V} (h : Pd R M ys vs) : Pd R (L3.del M x) ys vs := Paired.mapP h fun _ _ q => Sdl.del hx q
instance {α : Type} {R : Rl α} [Sdl R] : Sdl (LiR R) := ⟨fun hx ⟨a, vs, e, r, p⟩ => ⟨a, vs, e, by
  rw [del_ne (fun z => by subst z; rw [hx] at r; cases r)]; exact r, p.delK hx⟩⟩
instance {α : Type} {R : Rl α} [h : Sdl R] : Sdl (OpR' R) := ⟨fun {y M v x kvs} hx r => by
  cases y with
  | none => exact r
  | some y => exact h.del hx r⟩
section
variable {K : PySem.W.Frag} {σ : Sl} {M H : Hp} {te : TE} {P : Pr} {x : Addr} {kvs : List (Key × V)} {D : Ends} {tz : TS}
theorem Gv.lendK [Sdk P] (h : Gv te σ (upd M x (.dK kvs)) P) (hm : M x = none) (mh : Same M H) (hx : H x = some (.dK kvs)) {Q : VK} (q : ∀ v M' H', Gr M H M' H' → M' x = none → H' x = some (.dK kvs) → P M' v → Q v H') : te σ H Q :=
  h H (same_lent mh hx) Q fun v M' H' g p => q v _ H' (g.back hm) del_at (g.hh _ _ hx) (Sdk.del (g.mm x _ upd_same) p)
theorem q_asgK {i : Nat} [Sdk P] (mh : Same M H) (hm : M x = none) (hx : H x = some (.dK kvs)) (h : Gv te σ (upd M x (.dK kvs)) P) (k : ∀ v M' H', Gr M H M' H' → P M' v → tz D (σ.set i (some v)) H') : tSeq (tAsg te (gName i)) tz D σ H :=
  h.lendK hm mh hx fun v M' H' g _ _ p => k v M' H' g p
theorem q_if0 {tt : L2.TT} {b : Bool} {tu : TS} (mh : Same M H) (h : GvT tt σ M b) (h1 : b = true → ∀ H', Same H H' → tu { D with nx := tz D } σ H') (h2 : b = false → ∀ H', Same H H' → tz D σ H') : tSeq (tIfS tt tu tNext) tz D σ H := q_if mh h h1 h2
theorem s_if0 {tt : L2.TT} {b : Bool} {tu : TS} (mh : Same M H) (h : GvT tt σ M b) (h1 : b = true → ∀ H', Same H H' → tu D σ H') (h2 : b = false → ∀ H', Same H H' → D.nx σ H') : tIfS tt tu tNext D σ H := s_if mh h h1 h2
/-! arguments one by one -/
variable {tr ta : TA} {QA : List V → Hp → Prop}
theorem a_V (mh : Same M H) (h : Gv te σ M P) (k : ∀ v M' H', Gr M H M' H' → P M' v → tr σ H' fun vs H2 => QA (v :: vs) H2) : tCons te tr σ H QA := h H mh _ k
theorem a_L {P : Hp → List V → Prop} (mh : Same M H) (h : GvL te σ M P) (k : ∀ p vs M' H', Gr M H M' H' → H p = none → M' p = none → H' p = some (.lst vs) → P M' vs → tr σ H' fun us H2 => QA (.ref p :: us) H2) : tCons te tr σ H QA := h H mh _ k
theorem a_K {ks : List Str} (mh : Same M H) (h : GvK te σ M ks) (k : ∀ p M' H', Gr M H M' H' → H p = none → M' p = none → H' p = some (.dK (kvT ks)) → tr σ H' fun us H2 => QA (.ref p :: us) H2) : tCons te tr σ H QA := h H mh _ k
theorem a_nil (k : QA [] H) : tNil σ H QA := k
theorem q_par3 {i j l : Nat} (h : ta σ H fun vs H1 => ∃ u v w, vs = [u, v, w] ∧ tz D (((σ.set i (some u)).set j (some v)).set l (some w)) H1) : tSeq (tPar3 i j l ta) tz D σ H := h
theorem q_par2 {i j : Nat} (h : ta σ H fun vs H1 => ∃ u v, vs = [u, v] ∧ tz D ((σ.set i (some u)).set j (some v)) H1) : tSeq (tPar i j ta) tz D σ H := h
theorem s_dputT {i : Nat} {p : Addr} {so : List Str} {l : Str} {tk : TE} (mh : Same M H) (hi : σ[i]? = some (some (.ref p))) (hp : H p = some (.dK (kvT so))) (hz : so.length < sizeLine) (h : Gv tk σ M (Tx l))
    (k : ∀ M' H', Gr M H M' H' → D.nx σ (upd H' p (.dK (kvT (onceP so l))))) : sDPut (tVar i) tk (tC (.bl true)) D σ H :=
  ⟨.ref p, hi, h H mh _ fun v M' H' g r => ⟨p, _, rfl, .inl ⟨kvT so, Sum.inr l, g.hh _ _ hp, r, by rw [kvT_len]; exact hz, rfl⟩, by rw [putK_kvT]; exact k M' H' g⟩⟩
theorem q_dputT {i : Nat} {p : Addr} {so : List Str} {l : Str} {tk : TE} (mh : Same M H) (hi : σ[i]? = some (some (.ref p))) (hp : H p = some (.dK (kvT so))) (hz : so.length < sizeLine) (h : Gv tk σ M (Tx l))
    (k : ∀ M' H', Gr M H M' H' → tz D σ (upd H' p (.dK (kvT (onceP so l))))) : tSeq (sDPut (tVar i) tk (tC (.bl true))) tz D σ H := s_dputT (D := { D with nx := tz D }) mh hi hp hz h k
theorem q_app {i : Nat} {p : Addr} {vs : List V} (mh : Same M H) (hi : σ[i]? = some (some (.ref p))) (hp : H p = some (.lst vs)) (hz : vs.length < sizeLine) (h : Gv te σ M P)
    (k : ∀ v M' H', Gr M H M' H' → P M' v → tz D σ (upd H' p (.lst (vs ++ [v])))) : tSeq (tDrop (tBM K "list" rAppend (tVar i) (tCons te tNil))) tz D σ H := s_app (D := { D with nx := tz D }) mh hi hp hz h k
theorem Own.new' {M0 H0 M H : Hp} {p : Addr} {vs : List V} (g : Gr M0 H0 M H) (np : H p = none) : Own H0 M (upd H p (.lst vs)) p vs := ⟨g.hh.free np, g.mh.free np, upd_same⟩
theorem Own.both {H0 M H : Hp} {p b : Addr} {vs : List V} {u : HO} (o : Own H0 M H p vs) (h : p ≠ b) : Own H0 (upd M b u) (upd H b u) p vs := ⟨o.h0, by rw [upd_ne h]; exact o.m, by rw [upd_ne h]; exact o.h⟩
end
end L3

set_option Elab.async false
set_option linter.all false
set_option maxRecDepth 100000
set_option maxHeartbeats 1000000
namespace L3
open PySem PySem.Spec PyProof.Rows L2
/-! len(x) by an own __len__ -/
section
variable {X : Cx} {CX : CXT} {pins : List (Addr × Obj)} {σ : L2.St} {H : Hp} {s : Shared} {a C dx f : Addr} {fs : List (Str × V)} {k : Nat} {fd : FuncData} {ps : List Str} {sp : Sp} {E : XK}
/-- a class with an own __len__ -/
structure OwnLen (P : Program) (w : World) (K : PySem.W.Frag) (mg : Str → Option Value) (base : Heap) (k : Nat) (C : Addr) (sp : Sp) : Prop where
  ok : ∃ f fd, FnOk P w K mg base CX0 k f fd ["self"] sp ∧ PySem.W.findIn K (.ref C) "__len__" = some (some (.ref f)) ∧ PySem.W.isFn K (.ref f) = true ∧ Binds K fd ["self"] []
end
section
end
section
variable {σ : Sl} {M H : Hp} {te : TE} {ta : TA} {P : Pr} {D : Ends} {tz : TS} {g : TG} {sp : Sp}
theorem q_drop (mh : Same M H) (h : Gv te σ M P) (k : ∀ v M' H', Gr M H M' H' → P M' v → tz D σ H') : tSeq (tDrop te) tz D σ H := h H mh _ k
theorem q_asgC (h : ta σ H fun vs H1 => sp (vs ++ []) H1 (fun v H2 => g v σ H2 fun σ' H3 => tz D σ' H3) E0) : tSeq (tAsg (tCall sp [] E0 ta) g) tz D σ H := h
end
end L3

set_option Elab.async false
set_option linter.all false
set_option maxRecDepth 100000
set_option maxHeartbeats 1000000
namespace L3
open PySem PySem.Spec PyProof.Rows L2
/-! the law's stream: two lists that change behind all else -/
structure Strm where
  a : Addr
  b : Addr
namespace Strm
def off (S : Strm) (x : Addr) : Prop := x = S.a ∨ x = S.b
instance {S : Strm} {x : Addr} : Decidable (S.off x) := by unfold off; infer_instance
def cut (S : Strm) (H : Hp) : Hp := fun x => if S.off x then none else H x
/-- the stream stands, k draws are left -/
structure At (S : Strm) (k : Nat) (H : Hp) : Prop where
  ne : S.a ≠ S.b
  ex : ∃ (cells : List Int) (x n m : Int), H S.a = some (.lst [.ref S.b, .int x, .int n, .int m]) ∧ H S.b = some (.lst (cells.map V.int)) ∧ 0 ≤ x ∧ 0 ≤ n ∧ n + k ≤ 10000000 ∧ 0 ≤ m ∧ m < 2147483647
variable {S : Strm} {H H' M M' : Hp} {x p : Addr} {o : HO} {j k : Nat}
theorem cut_off (h : S.off x) : S.cut H x = none := if_pos h
theorem cut_on (h : ¬ S.off x) : S.cut H x = H x := if_neg h
theorem on_of (h : S.cut H x = some o) : ¬ S.off x := fun z => by rw [cut_off z] at h; cases h
theorem of_cut (h : S.cut H x = some o) : H x = some o := by rw [← cut_on (S := S) (H := H) (on_of h)]; exact h
theorem cut_same : Same (S.cut H) H := fun _ _ h => of_cut h
theorem cut_upd (h : ¬ S.off p) : S.cut (upd H p o) = upd (S.cut H) p o := by
  funext y
  by_cases hy : y = p
  · subst hy; rw [cut_on h, upd_same, upd_same]
  · rw [upd_ne hy]
    by_cases ho : S.off y
    · rw [cut_off ho, cut_off ho]
    · rw [cut_on ho, cut_on ho, upd_ne hy]
theorem At.le (h : S.At k H) (e : j ≤ k) : S.At j H := let ⟨c, x, n, m, h1, h2, h3, h4, h5, h6⟩ := h.ex; ⟨h.ne, c, x, n, m, h1, h2, h3, h4, by omega, h6⟩
theorem At.same (h : S.At k H) (e : Same H H') : S.At k H' := let ⟨c, x, n, m, h1, h2, h3⟩ := h.ex; ⟨h.ne, c, x, n, m, e _ _ h1, e _ _ h2, h3⟩
theorem At.upd (h : S.At k H) (hp : ¬ S.off p) : S.At k (upd H p o) := let ⟨c, x, n, m, h1, h2, h3⟩ := h.ex
  ⟨h.ne, c, x, n, m, by rw [upd_ne (fun z => hp (.inl z.symm))]; exact h1, by rw [upd_ne (fun z => hp (.inr z.symm))]; exact h2, h3⟩
theorem At.at_ (h : S.At k H) (ho : S.off x) : ∃ vs, H x = some (.lst vs) := let ⟨c, y, n, m, h1, h2, h3⟩ := h.ex; by
  rcases ho with rfl | rfl
  · exact ⟨_, h1⟩
  · exact ⟨_, h2⟩
theorem At.fresh (h : S.At k H) (hp : H p = none) : ¬ S.off p := fun z => by obtain ⟨vs, e⟩ := h.at_ z; rw [hp] at e; cases e
theorem At.cutn (h : S.At k H) (hp : H p = none) : S.cut H p = none := by rw [cut_on (h.fresh hp)]; exact hp
theorem off_none (mh : Same M (S.cut H)) (ho : S.off x) : M x = none := by
  cases e : M x with
  | none => rfl
  | some o => have := mh x o e; rw [cut_off ho] at this; cases this
theorem lift (mh : Same M (S.cut H)) (h : S.At k H) (g : Gr M H M' H') : Gr M (S.cut H) M' (S.cut H') := by
  refine ⟨g.mm, fun y u e => ?_, fun y u e => ?_, fun y u e => ?_, g.nt⟩
  · rw [cut_on (on_of e)]; exact g.hh y u (of_cut e)
  · have ny : ¬ S.off y := fun z => by
      obtain ⟨vs, hy⟩ := h.at_ z
      rw [g.keep (off_none mh z) hy] at e
      cases e
    rw [cut_on ny]; exact g.mh y u e
  · rcases g.nw y u e with z | z | z
    · exact .inl z
    · by_cases ho : S.off y
      · exact .inr (.inl (cut_off ho))
      · exact .inr (.inl (by rw [cut_on ho]; exact z))
    · exact .inr (.inr z)
end Strm
open Strm
/-- a value behind draws -/
def GvS (S : Strm) (c : Nat) (te : TE) (σ : Sl) (M : Hp) (P : Pr) : Prop := ∀ H k, Same M (S.cut H) → S.At (k + c) H → ∀ Q : VK, (∀ v M' H', Gr M (S.cut H) M' (S.cut H') → S.At k H' → P M' v → Q v H') → te σ H Q
def GvTS (S : Strm) (c : Nat) (tt : L2.TT) (σ : Sl) (M : Hp) (B : Bool → Prop) : Prop := ∀ H k, Same M (S.cut H) → S.At (k + c) H → ∀ Q : Bool → Hp → Prop, (∀ b M' H', Gr M (S.cut H) M' (S.cut H') → S.At k H' → B b → Q b H') → tt σ H Q
def GvLS (S : Strm) (c : Nat) (te : TE) (σ : Sl) (M : Hp) (P : Hp → List V → Prop) : Prop := ∀ H k, Same M (S.cut H) → S.At (k + c) H → ∀ Q : VK,
  (∀ p vs M' H', Gr M (S.cut H) M' (S.cut H') → S.At k H' → S.cut H p = none → M' p = none → S.cut H' p = some (.lst vs) → P M' vs → Q (.ref p) H') → te σ H Q
def GvIS {α : Type} (S : Strm) (c : Nat) (wi : TI) (σ : Sl) (M : Hp) (G : List α → Prop) (R : Rl α) : Prop := ∀ H k, Same M (S.cut H) → S.At (k + c) H → ∀ Q : It → Hp → Prop, (∀ J xs M1 H1, Gr M (S.cut H) M1 (S.cut H1) → S.At k H1 → G xs → GW M1 J xs R → Q J H1) → wi σ H Q
/-- some x that is good -/
def Ex {α : Type} (R : Rl α) (good : α → Prop) : Pr := fun M v => ∃ x, good x ∧ R x M v
instance {α : Type} {R : Rl α} [Mon R] {good : α → Prop} : Mono (Ex R good) := ⟨fun e ⟨x, g, r⟩ => ⟨x, g, Mon.mono e r⟩⟩
section
variable {K : PySem.W.Frag} {S : Strm} {c c1 c2 : Nat} {σ : Sl} {M M1 : Hp} {ta tb te : TE} {tt tu : L2.TT} {P P1 : Pr} {α : Type} {R : Rl α}
theorem Gv.s (h : Gv te σ M P) : GvS S 0 te σ M P := fun H k mh at_ Q q => h H (mh.trans cut_same) Q fun v M' H' g p => q v M' H' (lift mh at_ g) (at_.same g.hh) p
theorem GvT.s {b : Bool} (h : GvT tt σ M b) : GvTS S 0 tt σ M (· = b) := fun H k mh at_ Q q => h H (mh.trans cut_same) Q fun M' H' g => q b M' H' (lift mh at_ g) (at_.same g.hh) rfl
theorem GvI.s {wi : TI} {xs : List α} (h : GvI wi σ M xs R) : GvIS S 0 wi σ M (· = xs) R := fun H k mh at_ Q q => h H (mh.trans cut_same) Q fun J M' H' g w => q J xs M' H' (lift mh at_ g) (at_.same g.hh) rfl w
theorem GvL.s {P : Hp → List V → Prop} (h : GvL te σ M P) : GvLS S 0 te σ M P := fun H k mh at_ Q q => h H (mh.trans cut_same) Q fun p vs M' H' g h0 m0 hp r =>
  q p vs M' H' (lift mh at_ g) (at_.same g.hh) (Strm.At.cutn at_ h0) m0 (by rw [cut_on (Strm.At.fresh at_ h0)]; exact hp) r
theorem GvS.is {P' : Pr} (h : GvS S c te σ M P) (e : ∀ M v, P M v → P' M v) : GvS S c te σ M P' := fun H k mh at_ Q q => h H k mh at_ Q fun v M' H' g a p => q v M' H' g a (e M' v p)
theorem GvS.cost (h : GvS S c te σ M P) (e : c ≤ c1) : GvS S c1 te σ M P := fun H k mh at_ Q q => h H k mh (at_.le (by omega)) Q q
theorem GvLS.cost {P : Hp → List V → Prop} (h : GvLS S c te σ M P) (e : c ≤ c1) : GvLS S c1 te σ M P := fun H k mh at_ Q q => h H k mh (at_.le (by omega)) Q q
theorem GvTS.cost {B : Bool → Prop} (h : GvTS S c tt σ M B) (e : c ≤ c1) : GvTS S c1 tt σ M B := fun H k mh at_ Q q => h H k mh (at_.le (by omega)) Q q
theorem GvTS.is {B B' : Bool → Prop} (h : GvTS S c tt σ M B) (e : ∀ b, B b → B' b) : GvTS S c tt σ M B' := fun H k mh at_ Q q => h H k mh at_ Q fun b M' H' g a p => q b M' H' g a (e b p)
theorem GvS.le [Mono P] (h : GvS S c te σ M P) (e : Same M M1) : GvS S c te σ M1 P := fun H k mh at_ Q q =>
  h H k (e.trans mh) at_ Q fun v M' H' g a p => q v _ H' (g.join e mh).1 a (Mono.mono (g.join e mh).2 p)
theorem GvTS.le {B : Bool → Prop} (h : GvTS S c tt σ M B) (e : Same M M1) : GvTS S c tt σ M1 B := fun H k mh at_ Q q => h H k (e.trans mh) at_ Q fun b M' H' g a p => q b _ H' (g.join e mh).1 a p
theorem GvLS.gv {R : Hp → List V → Prop} (h : GvLS S c te σ M R) (hp : ∀ M vs p, R M vs → M p = none → P (upd M p (.lst vs)) (.ref p)) : GvS S c te σ M P := fun H k mh at_ Q q =>
  h H k mh at_ Q fun p vs M' H' g a h0 m0 hw r => q (.ref p) _ H' (g.freeze h0 m0 hw) a (hp M' vs p r m0)
theorem GvLS.is {R R' : Hp → List V → Prop} (h : GvLS S c te σ M R) (e : ∀ M vs, R M vs → R' M vs) : GvLS S c te σ M R' := fun H k mh at_ Q q => h H k mh at_ Q fun p vs M' H' g a h0 m0 hw r => q p vs M' H' g a h0 m0 hw (e M' vs r)
theorem gs_op {r : R2} {R : Pr} [Mono P] [Mono P1] (ha : GvS S c1 ta σ M P) (hb : GvS S c2 tb σ M P1) (hr : ∀ M' x y, P M' x → P1 M' y → RV (r x y) M' R) : GvS S (c1 + c2) (tOp r ta tb) σ M R := fun H k mh at_ Q q =>
  ha H (k + c2) mh (at_.le (by omega)) _ fun x M1 H1 g1 a1 p1 => hb.le g1.mm H1 k g1.mh a1 _ fun y M2 H2 g2 a2 p2 =>
    hr M2 x y (Mono.mono g2.mm p1) p2 H2 (g2.mh.trans cut_same) _ fun v M3 H3 g3 p3 => q v M3 H3 ((g1.trans g2).trans (lift g2.mh a2 g3)) (a2.same g3.hh) p3
theorem gts_test (h : GvS S c te σ M P) {B : Bool → Prop} (e : ∀ M v, P M v → ∃ b, v = .bl b ∧ B b) : GvTS S c (tTest te) σ M B := fun H k mh at_ Q q => h H k mh at_ _ fun v M' H' g a p => let ⟨b, e1, e2⟩ := e M' v p; ⟨b, e1, q b M' H' g a e2⟩
theorem gts_or {B C : Bool → Prop} (h : GvTS S c1 tt σ M B) (h2 : B false → GvTS S c2 tu σ M C) : GvTS S (c1 + c2) (tOr tt tu) σ M (fun b => (b = true ∧ B true) ∨ (B false ∧ C b)) := fun H k mh at_ Q q => h H (k + c2) mh (at_.le (by omega)) _ fun b M1 H1 g1 a1 p => by
  cases b with
  | true => exact q true M1 H1 g1 (a1.le (by omega)) (.inl ⟨rfl, p⟩)
  | false => exact (h2 p).le g1.mm H1 k g1.mh a1 _ fun b2 M2 H2 g2 a2 p2 => q b2 M2 H2 (g1.trans g2) a2 (.inr ⟨p, p2⟩)
theorem gs_if {B : Bool → Prop} [Mono P] (h : GvTS S c1 tt σ M B) (h1 : B true → GvS S c2 ta σ M P) (h2 : B false → GvS S c2 tb σ M P) : GvS S (c1 + c2) (tIf tt ta tb) σ M P := fun H k mh at_ Q q => h H (k + c2) mh (at_.le (by omega)) _ fun b M1 H1 g1 a1 p => by
  cases b with
  | true => exact (h1 p).le g1.mm H1 k g1.mh a1 _ fun v M2 H2 g2 a2 p2 => q v M2 H2 (g1.trans g2) a2 p2
  | false => exact (h2 p).le g1.mm H1 k g1.mh a1 _ fun v M2 H2 g2 a2 p2 => q v M2 H2 (g1.trans g2) a2 p2
theorem gis_sq [Mon R] {ts : TE} {good : List α → Prop} (h : GvS S c ts σ M (Ex (SqR K R) good)) : GvIS S c (iSq K ts) σ M good R := fun H k mh at_ Q q => h H k mh at_ _ fun v M1 H1 g1 a1 ⟨xs, gx, hv⟩ =>
  gi_sq (K := K) (σ := σ) (M := M1) (ts := tC v) (gv_c hv) H1 (g1.mh.trans cut_same) _ fun J M2 H2 g2 w => q J xs M2 H2 (g1.trans (lift g1.mh a1 g2)) (a1.same g2.hh) gx w
theorem gis_rng1 {good : Nat → Prop} (h : GvS S c te σ M (Ex (fun n : Nat => It' (n : Int)) good)) (hn : ∀ n, good n → n ≤ 1000000000) : GvIS S c (iRng1 (tCons te tNil)) σ M (fun xs => ∃ n, good n ∧ xs = List.range n) (fun i => It' (i : Nat)) := fun H k mh at_ Q q => h H k mh at_ _ fun v M1 H1 g1 a1 ⟨n, gx, hv⟩ =>
  gi_rng1 (σ := σ) (M := M1) (te := tC v) (gv_c hv) (hn n gx) H1 (g1.mh.trans cut_same) _ fun J M2 H2 g2 w => q J _ M2 H2 (g1.trans (lift g1.mh a1 g2)) (a1.same g2.hh) ⟨n, gx, rfl⟩ w
end
end L3

set_option Elab.async false
set_option linter.all false
set_option maxRecDepth 100000
set_option maxHeartbeats 1000000
namespace L3
open PySem PySem.Spec PyProof.Rows L2
open Strm
instance {α : Type} {R : Rl α} [h : Stl R] {good : α → Prop} : Stb (Ex R good) := ⟨fun a b ⟨x, g, r⟩ => ⟨x, g, h.del a b r⟩⟩
/-! statements behind draws -/
section
variable {K : PySem.W.Frag} {S : Strm} {c c1 c2 k : Nat} {σ : Sl} {M H : Hp} {ta tb te : TE} {tt tu : L2.TT} {P P1 : Pr} {α β : Type} {R : Rl α} {D : Ends} {tz tx tw : TS}
theorem z_ret (mh : Same M (S.cut H)) (a : S.At (k + c) H) (h : GvS S c te σ M P) (q : ∀ v M' H', Gr M (S.cut H) M' (S.cut H') → S.At k H' → P M' v → D.rt v H') : tRet te D σ H := h H k mh a _ q
theorem z_retL {P : Hp → List V → Prop} (mh : Same M (S.cut H)) (a : S.At (k + c) H) (h : GvLS S c te σ M P)
    (q : ∀ p vs M' H', Gr M (S.cut H) M' (S.cut H') → S.At k H' → S.cut H p = none → M' p = none → S.cut H' p = some (.lst vs) → P M' vs → D.rt (.ref p) H') : tRet te D σ H := h H k mh a _ q
theorem z_asg {i : Nat} (mh : Same M (S.cut H)) (a : S.At (k + c) H) (h : GvS S c te σ M P) (q : ∀ v M' H', Gr M (S.cut H) M' (S.cut H') → S.At k H' → P M' v → tz D (σ.set i (some v)) H') : tSeq (tAsg te (gName i)) tz D σ H := h H k mh a _ q
theorem z_asgL {i : Nat} {P : Hp → List V → Prop} (mh : Same M (S.cut H)) (a : S.At (k + c) H) (h : GvLS S c te σ M P)
    (q : ∀ p vs M' H', Gr M (S.cut H) M' (S.cut H') → S.At k H' → S.cut H p = none → M' p = none → S.cut H' p = some (.lst vs) → P M' vs → tz D (σ.set i (some (.ref p))) H') : tSeq (tAsg te (gName i)) tz D σ H := h H k mh a _ q
theorem z_if {B : Bool → Prop} (mh : Same M (S.cut H)) (a : S.At (k + c) H) (h : GvTS S c tt σ M B) (h1 : B true → ∀ M' H', Gr M (S.cut H) M' (S.cut H') → S.At k H' → tx { D with nx := tz D } σ H') (h2 : B false → ∀ M' H', Gr M (S.cut H) M' (S.cut H') → S.At k H' → tz D σ H') :
    tSeq (tIfS tt tx tNext) tz D σ H := h H k mh a _ fun b M' H' g a' p => by
  cases b with
  | true => exact h1 p M' H' g a'
  | false => exact h2 p M' H' g a'
/-- a list of ours changes -/
theorem cut_put {p : Addr} {o u : HO} (hp : S.cut H p = some o) : S.cut (upd H p u) = upd (S.cut H) p u := cut_upd (on_of hp)
/-- something of ours is lent -/
theorem GvS.lend {x : Addr} {o : HO} [Stb P] (h : GvS S c te σ (upd M x o) P) (hm : M x = none) (mh : Same M (S.cut H)) (a : S.At (k + c) H) (hx : S.cut H x = some o) (hn : ∀ xs, o ≠ HO.tup xs) {Q : VK}
    (q : ∀ v M' H', Gr M (S.cut H) M' (S.cut H') → S.At k H' → P M' v → Q v H') : te σ H Q :=
  h H k (same_lent mh hx) a Q fun v M' H' g a' p => q v _ H' (g.back hm) a' (Stb.del hn (g.mm x o upd_same) p)
/-- for over anything, drawing -/
theorem z_for {wi : TI} {g : TG} {tbd : TS} {U : α → Hp → Sl → Sl → Prop} {G : List α → Prop} (mh : Same M (S.cut H)) (a : S.At (k + c) H) (hsrc : GvIS S c wi σ M G R) (htg : TgOk g R U) (Pv : List α → Hp → Nat → Sl → Hp → Hp → Prop)
    (h0 : ∀ xs M1 H1, G xs → Gr M (S.cut H) M1 (S.cut H1) → S.At k H1 → Pv xs M1 0 σ M1 H1) (hk : ∀ xs M1 i σ' M' H', Pv xs M1 i σ' M' H' → Same M1 M' ∧ Same M' (S.cut H') ∧ S.At 0 H')
    (hs : ∀ xs M1 i x σ' M' H' M2 H2 σ2, G xs → Same M M1 → xs[i]? = some x → Pv xs M1 i σ' M' H' → Gr M' H' M2 H2 → U x M2 σ' σ2 →
      tbd { D with nx := fun σ2 H2 => ∃ M2, Pv xs M1 (i + 1) σ2 M2 H2, ct := fun σ2 H2 => ∃ M2, Pv xs M1 (i + 1) σ2 M2 H2, bk := tz D } σ2 H2)
    (hd : ∀ xs M1 σ' M' H', G xs → Same M M1 → Pv xs M1 xs.length σ' M' H' → tz D σ' H') : tSeq (tFor wi g tbd) tz D σ H := by
  refine hsrc H k mh a _ fun J xs M1 H1 g1 a1 gx ⟨GG, Y, w, hG, hY⟩ => ?_
  refine for_it w (fun i σ' H' => ∃ M', Pv xs M1 i σ' M' H') ⟨M1, h0 xs M1 H1 gx g1 a1⟩ (fun i σ' H' _ ⟨M', p⟩ => hG M' H' (hk _ _ _ _ _ _ p).1 ((hk _ _ _ _ _ _ p).2.1.trans cut_same)) ?_ ?_
  · rintro i y σ' H' H'' hi ⟨M', p⟩ hy
    have km := hk _ _ _ _ _ _ p
    obtain ⟨x, M2, hx, g2, rx⟩ := hY i M' H' y H'' km.1 (km.2.1.trans cut_same) hi hy
    exact htg x M2 y H'' σ' _ rx g2.mh fun σ2 hU => hs xs M1 i x σ' M' H' M2 H'' σ2 gx g1.mm hx p g2 hU
  · rintro σ' H' ⟨M', p⟩
    exact hd xs M1 σ' M' H' gx g1.mm p
/-- a comprehension without a test, drawing at each item -/
theorem gls_m1 {T : Rl β} [Mon T] {j n : Nat} {wi : TI} {G : List α → Prop} {good : α → β → Prop} (hsrc : GvIS S c1 wi σ M G R) (hn : ∀ xs, G xs → xs.length ≤ n) (hz : n ≤ sizeLine)
    (he : ∀ xs, G xs → ∀ x ∈ xs, ∀ M1 v, Same M M1 → R x M1 v → GvS S c2 te ((wipe σ [j]).set j (some v)) M1 (Ex T (good x))) :
    GvLS S (c1 + n * c2) (tLc wi (gName j) tYes te [j]) σ M fun M ws => ∃ xs ys, G xs ∧ Paired good xs ys ∧ Pd T M ys ws := by
  intro H k mh at_ Q q
  refine hsrc H (k + n * c2) mh (at_.le (by omega)) _ fun J xs M1 H1 g1 a1 gx ⟨GG, Y, w, hG, hY⟩ D hD => ?_
  have hxn := hn xs gx
  have nD := a1.fresh hD
  refine lc_it w (fun i H' => ∃ M' ys ws, Gr M1 (S.cut H1) M' (S.cut H') ∧ S.At (k + (n - i) * c2) H' ∧ M' D = none ∧ S.cut H' D = some (.lst ws) ∧ ws.length ≤ i ∧ Paired good (xs.take i) ys ∧ Pd T M' ys ws)
    ⟨M1, [], [], by rw [cut_upd nD]; exact .own g1.mh (a1.cutn hD), a1.upd nD, g1.mh.free (a1.cutn hD), by rw [cut_upd nD, upd_same], Nat.le_refl _, .nil, .nil⟩ (fun i H' _ ⟨M', ys, ws, g, _⟩ => hG M' H' g.mm (g.mh.trans cut_same)) ?_ ?_
  · rintro i y H' H'' hi ⟨M', ys, ws, g, a', m0, hw', hl, hg, hpd⟩ hy
    obtain ⟨x, M0, hx, g0, rx⟩ := hY i M' H' y H'' g.mm (g.mh.trans cut_same) hi hy
    have hxm : x ∈ xs := List.mem_of_getElem? hx
    have et : xs.take (i + 1) = xs.take i ++ [x] := by rw [List.take_add_one, hx]; rfl
    have gg := g.trans (lift g.mh a' g0)
    have ag := a'.same g0.hh
    have k0 : S.cut H'' D = some (.lst ws) := (lift g.mh a' g0).hh _ _ hw'
    have m0' : M0 D = none := (lift g.mh a' g0).keep m0 hw'
    have hni : n - i = (n - (i + 1)) + 1 := by omega
    refine ⟨wipe1, ?_⟩
    show te _ H'' _
    refine he xs gx x hxm M0 y (g1.mm.trans gg.mm) rx H'' (k + (n - (i + 1)) * c2) gg.mh (ag.le (by rw [hni, Nat.add_mul]; omega)) _ fun z M3 H3 g3 a3 ⟨b, gb, hb⟩ => ?_
    have m3 : M3 D = none := g3.keep m0' k0
    have k3 := g3.hh _ _ k0
    have n3 := on_of k3
    refine ⟨ws, of_cut k3, Nat.lt_of_lt_of_le (Nat.lt_of_le_of_lt hl hi) (Nat.le_trans hxn hz), M3, ys ++ [b], ws ++ [z], by rw [cut_upd n3]; exact (gg.trans g3).mut (a1.cutn hD) m3, a3.upd n3, m3, by rw [cut_upd n3, upd_same], by rw [List.length_append]; exact Nat.succ_le_succ hl, ?_, ?_⟩
    · rw [et]; exact pd_app hg (.cons gb .nil)
    · exact pd_app (hpd.mono ((lift g.mh a' g0).mm.trans g3.mm)) (.cons hb .nil)
  · rintro H' ⟨M', ys, ws, g, a', m0, hw', hl, hg, hpd⟩
    rw [List.take_length] at hg
    exact q D ws M' H' (g1.trans g) (a'.le (by omega)) (g1.hh.free (a1.cutn hD)) m0 hw' ⟨xs, ys, gx, hg, hpd⟩
end
/-! promises of defs that draw -/
section
variable {α β γ : Type} {S : Strm} {c : Nat} {σ : Sl} {M : Hp} {t1 t2 t3 : TE} {R1 : Rl α} {R2 : Rl β} {R3 : Rl γ} {i : Nat}
def spS1 (R1 : Rl α) (pre : α → Prop) (c : α → Nat) (R : α → Pr) : Sp := fun vs H Q _ => ∃ (S : Strm) (x : α) (M : Hp) (v : V) (k : Nat), vs = [.ref S.a, v] ∧ Same M (S.cut H) ∧ S.At (k + c x) H ∧ R1 x M v ∧ pre x ∧ ∀ u M' H', Gr M (S.cut H) M' (S.cut H') → S.At k H' → R x M' u → Q u H'
def slS1 (R1 : Rl α) (pre : α → Prop) (c : α → Nat) (R : α → Hp → List V → Prop) : Sp := fun vs H Q _ => ∃ (S : Strm) (x : α) (M : Hp) (v : V) (k : Nat), vs = [.ref S.a, v] ∧ Same M (S.cut H) ∧ S.At (k + c x) H ∧ R1 x M v ∧ pre x ∧
  ∀ p ws M' H', Gr M (S.cut H) M' (S.cut H') → S.At k H' → S.cut H p = none → M' p = none → S.cut H' p = some (.lst ws) → R x M' ws → Q (.ref p) H'
def slS2 (R1 : Rl α) (R2 : Rl β) (pre : α → β → Prop) (c : α → β → Nat) (R : α → β → Hp → List V → Prop) : Sp := fun vs H Q _ => ∃ (S : Strm) (x : α) (y : β) (M : Hp) (v w : V) (k : Nat), vs = [.ref S.a, v, w] ∧ Same M (S.cut H) ∧ S.At (k + c x y) H ∧ R1 x M v ∧ R2 y M w ∧ pre x y ∧
  ∀ p ws M' H', Gr M (S.cut H) M' (S.cut H') → S.At k H' → S.cut H p = none → M' p = none → S.cut H' p = some (.lst ws) → R x y M' ws → Q (.ref p) H'
theorem gs_call1 {pre : α → Prop} {cs : α → Nat} {R : α → Pr} {x : α} (hi : σ[i]? = some (some (.ref S.a))) (h1 : Gv t1 σ M (R1 x)) (hp : pre x) : GvS S (cs x) (tCall (spS1 R1 pre cs R) [] E0 (tCons (tVar i) (tCons t1 tNil))) σ M (R x) := fun H k mh a Q q =>
  ⟨_, hi, h1 H (mh.trans cut_same) _ fun v M1 H1 g1 p1 => ⟨S, x, M1, v, k, rfl, (lift mh a g1).mh, a.same g1.hh, p1, hp, fun u M' H' g a' r => q u M' H' ((lift mh a g1).trans g) a' r⟩⟩
theorem gls_call1 {pre : α → Prop} {cs : α → Nat} {R : α → Hp → List V → Prop} {x : α} (hi : σ[i]? = some (some (.ref S.a))) (h1 : Gv t1 σ M (R1 x)) (hp : pre x) : GvLS S (cs x) (tCall (slS1 R1 pre cs R) [] E0 (tCons (tVar i) (tCons t1 tNil))) σ M (R x) := fun H k mh a Q q =>
  ⟨_, hi, h1 H (mh.trans cut_same) _ fun v M1 H1 g1 p1 => ⟨S, x, M1, v, k, rfl, (lift mh a g1).mh, a.same g1.hh, p1, hp, fun p ws M' H' g a' h0 m0 hw r => q p ws M' H' ((lift mh a g1).trans g) a' ((lift mh a g1).hh.free h0) m0 hw r⟩⟩
theorem gls_call2 [Mon R1] [Mon R2] {pre : α → β → Prop} {cs : α → β → Nat} {R : α → β → Hp → List V → Prop} {x : α} {y : β} (hi : σ[i]? = some (some (.ref S.a))) (h1 : Gv t1 σ M (R1 x)) (h2 : Gv t2 σ M (R2 y)) (hp : pre x y) :
    GvLS S (cs x y) (tCall (slS2 R1 R2 pre cs R) [] E0 (tCons (tVar i) (tCons t1 (tCons t2 tNil)))) σ M (R x y) := fun H k mh a Q q =>
  ⟨_, hi, h1 H (mh.trans cut_same) _ fun v M1 H1 g1 p1 => h2.le g1.mm H1 g1.mh _ fun w M2 H2 g2 p2 => ⟨S, x, y, M2, v, w, k, rfl, (lift mh a (g1.trans g2)).mh, a.same (g1.trans g2).hh, Mon.mono g2.mm p1, p2, hp,
    fun p ws M' H' g a' h0 m0 hw r => q p ws M' H' ((lift mh a (g1.trans g2)).trans g) a' ((lift mh a (g1.trans g2)).hh.free h0) m0 hw r⟩⟩
end
end L3

set_option Elab.async false
set_option linter.all false
set_option maxRecDepth 100000
set_option maxHeartbeats 1000000
namespace L3
open PySem PySem.Spec PyProof.Rows L2
open Strm
namespace Strm
variable {S : Strm} {H H' M M' : Hp} {x p : Addr} {o : HO} {j k : Nat}
/-- the stream lent -/
def full (S : Strm) (M H : Hp) : Hp := fun x => if S.off x then H x else M x
theorem full_off (h : S.off x) : S.full M H x = H x := if_pos h
theorem full_on (h : ¬ S.off x) : S.full M H x = M x := if_neg h
theorem full_same (mh : Same M (S.cut H)) : Same (S.full M H) H := fun y u e => by
  by_cases h : S.off y
  · rw [full_off h] at e; exact e
  · rw [full_on h] at e; exact of_cut (mh y u e)
theorem cut_updo (h : S.off p) : S.cut (upd H p o) = S.cut H := by
  funext y
  by_cases ho : S.off y
  · rw [cut_off ho, cut_off ho]
  · rw [cut_on ho, cut_on ho, upd_ne (fun z => ho (by rw [z]; exact h))]
theorem unfull (mh : Same M (S.cut H)) (g : Gr (S.full M H) H M' H') : Gr M (S.cut H) (S.cut M') (S.cut H') := by
  refine ⟨fun y u e => ?_, fun y u e => ?_, fun y u e => ?_, fun y u e => ?_, fun y ps e => by
    have h := g.nt y ps (of_cut e)
    rw [full_on (on_of e)] at h
    exact h⟩
  · have ny := on_of (mh y u e)
    rw [cut_on ny]; exact g.mm y u (by rw [full_on ny]; exact e)
  · rw [cut_on (on_of e)]; exact g.hh y u (of_cut e)
  · rw [cut_on (on_of e)]; exact g.mh y u (of_cut e)
  · have ny := on_of e
    rcases g.nw y u (of_cut e) with z | z | z
    · rw [full_on ny] at z; exact .inl z
    · exact .inr (.inl (by rw [cut_on ny]; exact z))
    · exact .inr (.inr z)
end Strm
def cellD (cells : List Int) (x n m : Int) : List PyData := [.list (cells.map .int), .int x, .int n, .int m]
structure StAt (S : Strm) (H : Hp) (cells : List Int) (x n m : Int) : Prop where
  ne : S.a ≠ S.b
  a : H S.a = some (.lst [.ref S.b, .int x, .int n, .int m])
  b : H S.b = some (.lst (cells.map V.int))
/-- one statement, then what follows it is proved once -/
theorem q_cut {t tz : TS} {D : Ends} {σ : Sl} {H : Hp} (J : Sl → Hp → Prop) (h : ∀ nx, (∀ σ H, J σ H → nx σ H) → t { D with nx := nx } σ H) (hz : ∀ σ H, J σ H → tz D σ H) : tSeq t tz D σ H := h _ hz
section
variable {K : PySem.W.Frag} {S : Strm} {c k : Nat} {σ : Sl} {M H H' : Hp} {te : TE} {D : Ends} {tz tb : TS} {cells : List Int} {x n m : Int}
theorem StAt.same (st : StAt S H cells x n m) (e : Same H H') : StAt S H' cells x n m := ⟨st.ne, e _ _ st.a, e _ _ st.b⟩
theorem pd_int {M : Hp} : ∀ (cs : List Int), Pd (Dd K) M (cs.map PyData.int) (cs.map V.int)
  | [] => .nil
  | c :: r => .cons (.int c) (pd_int r)
theorem dpa_pd {M : Hp} {ds : List PyData} {vs : List V} (h : Pd (Dd K) M ds vs) : DpAll K M vs ds := by
  induction h with
  | nil => exact .nil
  | cons q _ ih => exact .cons q ih
theorem StAt.sq (st : StAt S H cells x n m) : SqR K (Dd K) (cellD cells x n m) (S.full M H) (.ref S.a) :=
  .inl ⟨_, _, rfl, .inl (.inl (by rw [full_off (.inl rfl)]; exact st.a)), .cons (.lst (.inl (.inl (by rw [full_off (.inr rfl)]; exact st.b))) (dpa_pd (pd_int cells))) (.cons (.int x) (.cons (.int n) (.cons (.int m) .nil)))⟩
/-- stream[j] = e -/
theorem z_subE {j : Int} {jn : Nat} {z : Int} (hσ : σ[0]? = some (some (.ref S.a))) (mh : Same M (S.cut H)) (st : StAt S H cells x n m) (hj : ixN 4 j = some jn) (h : Gv te σ (S.full M H) (It' z))
    (q : ∀ M' H', Gr M (S.cut H) M' (S.cut H') → H' S.a = some (.lst ([V.ref S.b, .int x, .int n, .int m].set jn (.int z))) → H' S.b = some (.lst (cells.map V.int)) → D.nx σ H') :
    tAsg te (gSub (tVar 0) (tC (.int j)) rSetL) D σ H := h H (full_same mh) _ fun v M' H' g p => by
  have st' := st.same g.hh
  refine ⟨.ref S.a, hσ, S.a, _, j, jn, rfl, rfl, st'.a, hj, ?_⟩
  cases (show v = _ from p)
  refine q _ _ (by rw [cut_updo (.inl rfl)]; exact unfull mh g) upd_same ?_
  rw [upd_ne (Ne.symm st.ne)]
  exact st'.b
theorem z_sub {j : Int} {jn : Nat} {z : Int} (hσ : σ[0]? = some (some (.ref S.a))) (mh : Same M (S.cut H)) (st : StAt S H cells x n m) (hj : ixN 4 j = some jn) (h : Gv te σ (S.full M H) (It' z))
    (q : ∀ M' H', Gr M (S.cut H) M' (S.cut H') → H' S.a = some (.lst ([V.ref S.b, .int x, .int n, .int m].set jn (.int z))) → H' S.b = some (.lst (cells.map V.int)) → tz D σ H') :
    tSeq (tAsg te (gSub (tVar 0) (tC (.int j)) rSetL)) tz D σ H := z_subE (D := { D with nx := tz D }) hσ mh st hj h q
end
end L3

set_option Elab.async false
set_option linter.all false
set_option maxRecDepth 100000
set_option maxHeartbeats 1000000
namespace L3
open PySem PySem.Spec PyProof.Rows L2
open Strm
section
variable {σ : Sl} {M H : Hp} {te0 te : TE}
/-- [e for k in range(n)], n told while something of ours is lent -/
theorem lc_rngL {x : Addr} {o : HO} {n j : Nat} (h : Gv te0 σ (upd M x o) (It' (n : Int))) (hm : M x = none) (mh : Same M H) (hx : H x = some o) (hn : n ≤ 1000000000) (ho : ∀ xs, o ≠ HO.tup xs) {Q : VK} (Pv : Addr → Nat → Hp → Hp → Prop)
    (h0 : ∀ M1 H1 D, Gr M H M1 H1 → H1 D = none → Pv D 0 M1 (upd H1 D (.lst [])))
    (hs : ∀ D i M' H', i < n → Pv D i M' H' → te ((wipe σ [j]).set j (some (.int (i : Nat)))) H' fun z H3 => ∃ acc, H3 D = some (.lst acc) ∧ acc.length < sizeLine ∧ ∃ M3, Pv D (i + 1) M3 (upd H3 D (.lst (acc ++ [z]))))
    (hd : ∀ D M' H', Pv D n M' H' → Q (.ref D) H') : tLc (iRng1 (tCons te0 tNil)) (gName j) tYes te [j] σ H Q := by
  refine h.lend hm mh hx ho fun v M1 H1 g1 _ _ hv => ?_
  cases (show v = _ from hv)
  refine ⟨(n : Int), rfl, by omega, by omega, fun D hD => ?_⟩
  have w := walk_range (lo := 0) (n := (n : Int).toNat)
  refine lc_it w (fun i H' => ∃ M', Pv D i M' H') ⟨M1, h0 M1 H1 D g1 hD⟩ (fun _ _ _ _ => trivial) ?_ ?_
  · rintro i y H' H'' hi ⟨M', p⟩ ⟨rfl, rfl⟩
    rw [Int.toNat_natCast] at hi
    have e0 : (fun i : Nat => V.int (0 + (i : Int))) i = V.int (i : Nat) := by show V.int _ = V.int _; rw [Int.zero_add]
    rw [e0]
    exact ⟨wipe1, hs D i M' _ hi p⟩
  · rintro H' ⟨M', p⟩
    rw [Int.toNat_natCast] at p
    exact hd D M' H' p
end
end L3
namespace L3
open PySem PySem.Spec PyProof.Rows L2
open Strm
section
variable {K : PySem.W.Frag} {S : Strm} {c k : Nat} {σ : Sl} {M H : Hp} {te ta tb : TE} {P : Pr} {α β : Type} {R : Rl α} {T : Rl β} {D : Ends} {tz : TS} {g : TG} {U : α → Hp → Sl → Sl → Prop}
theorem z_asgT {x : α} (mh : Same M (S.cut H)) (a : S.At (k + c) H) (h : GvS S c te σ M (R x)) (htg : TgOk g R U) (q : ∀ σ' M' H', Gr M (S.cut H) M' (S.cut H') → S.At k H' → U x M' σ σ' → tz D σ' H') : tSeq (tAsg te g) tz D σ H :=
  h H k mh a _ fun v M' H' g' a' r => htg x M' v H' σ _ r (g'.mh.trans cut_same) fun σ' u => q σ' M' H' g' a' u
theorem gv_pair [Mon R] [Mon T] {x : α} {y : β} (h1 : Gv ta σ M (R x)) (h2 : Gv tb σ M (T y)) : Gv (tTup (tCons ta (tCons tb tNil))) σ M (PrR K R T (x, y)) := fun H mh Q q =>
  h1 H mh _ fun v M1 H1 g1 p1 => h2.le g1.mm H1 g1.mh _ fun w M2 H2 g2 p2 => ⟨by show 2 ≤ sizeLine; decide, fun p np => q _ _ _ ((g1.trans g2).trans (.new g2.mh np)) ⟨p, _, _, rfl, .inl (.inl upd_same), Mon.mono (g2.mm.trans (same_new (g2.mh.free np))) p1, Mon.mono (same_new (g2.mh.free np)) p2⟩⟩
/-- constants in a row -/
def tCs : List V → TA
  | [] => tNil
  | v :: r => tCons (tC v) (tCs r)
theorem ga_cs : ∀ vs : List V, GvA (tCs vs) σ M fun _ ws => ws = vs
  | [] => ga_nil
  | v :: r => fun H mh Q q => ga_cs r H mh _ fun ws M' H' g e => q _ M' H' g (by rw [e])
theorem gl_cs (vs : List V) (hz : vs.length ≤ 1000) : GvL (tLst (tCs vs)) σ M fun _ ws => ws = vs := gl_lst (ga_cs vs) fun _ ws e => by rw [e]; exact Nat.le_trans hz (by decide)
theorem gv_strs (xs : List Str) (hz : xs.length ≤ 1000) : Gv (tLst (tCs (xs.map V.str))) σ M (LiR Tx xs) := (gl_cs _ (by rw [List.length_map]; exact hz)).gv fun M vs p e m => by subst e; exact ⟨p, _, rfl, upd_same, pd_of_tx xs⟩
theorem pd_of_it {M : Hp} : ∀ (xs : List Int), Pd It' M xs (xs.map V.int)
  | [] => .nil
  | _ :: r => .cons rfl (pd_of_it r)
theorem gv_ints (xs : List Int) (hz : xs.length ≤ 1000) : Gv (tLst (tCs (xs.map V.int))) σ M (LiR It' xs) := (gl_cs _ (by rw [List.length_map]; exact hz)).gv fun M vs p e m => by subst e; exact ⟨p, _, rfl, upd_same, pd_of_it xs⟩
/-- sep.join(a new list of texts) -/
theorem gs_join {good : List Str → Prop} {x : Str} (h : GvLS S c te σ M fun M ws => ∃ ys, good ys ∧ Pd Tx M ys ws) (hz : ∀ ys, good ys → (ys.map (·.length)).sum + ys.length * x.length ≤ 16777216) :
    GvS S c (tM1 (fun x xs H Q => ∃ a p, ∃ ys : List Str, x = .str a ∧ xs = [.ref p] ∧ (SqL K H p (ys.map V.str) ∨ SqT K H p (ys.map V.str)) ∧ (ys.map (·.length)).sum + ys.length * a.length ≤ 16777216 ∧ Q (.str (Txt.join a ys)) H) (tC (.str x)) te) σ M (Ex (fun ys => Tx (Txt.join x ys)) good) := fun H k mh a Q q =>
  ⟨⟨x, rfl⟩, h H k mh a _ fun p vs M' H' g a' h0 m0 hw ⟨ys, gy, hp⟩ => ⟨x, p, ys, rfl, rfl, .inl (.inl (.inl (by rw [← pd_tx hp]; exact of_cut hw))), hz ys gy, q _ M' H' g a' ⟨ys, gy, rfl⟩⟩⟩
end
end L3
namespace L3
open PySem PySem.Spec PyProof.Rows L2
open Strm
section
variable {K : PySem.W.Frag} {S : Strm} {c k : Nat} {σ : Sl} {M H : Hp} {te : TE} {P : Pr} {D : Ends} {tz : TS}
/-- xs.append(e), e asks xs itself -/
theorem z_appL {i : Nat} {p : Addr} {vs : List V} [Stb P] (mh : Same M (S.cut H)) (a : S.At (k + c) H) (hi : σ[i]? = some (some (.ref p))) (hm : M p = none) (hp : S.cut H p = some (.lst vs)) (hz : vs.length < sizeLine) (h : GvS S c te σ (upd M p (.lst vs)) P)
    (q : ∀ v M' H', Gr M (S.cut H) M' (S.cut H') → S.At k H' → P M' v → D.nx σ (upd H' p (.lst (vs ++ [v])))) : tDrop (tBM K "list" rAppend (tVar i) (tCons te tNil)) D σ H :=
  ⟨.ref p, hi, .inl ⟨rfl, _, .inl (.inl (of_cut hp))⟩, h.lend hm mh a hp ls_nt fun v M' H' g a' r => ⟨p, vs, v, rfl, rfl, of_cut (g.hh _ _ hp), hz, q v M' H' g a' r⟩⟩
end
/-- a list of ours behind the stream -/
structure OwS (S : Strm) (H0 M H : Hp) (p : Addr) (vs : List V) : Prop where
  o : Own (S.cut H0) M (S.cut H) p vs
theorem OwS.put {S : Strm} {H0 M H : Hp} {p : Addr} {vs ws : List V} (o : OwS S H0 M H p vs) : OwS S H0 M (upd H p (.lst ws)) p ws := ⟨by rw [cut_put o.o.h]; exact o.o.put⟩
theorem OwS.step {S : Strm} {H0 M H M' H' : Hp} {p : Addr} {vs : List V} (o : OwS S H0 M H p vs) (g : Gr M (S.cut H) M' (S.cut H')) : OwS S H0 M' H' p vs := ⟨o.o.step g⟩
theorem OwS.mut {S : Strm} {M0 H0 M H : Hp} {p : Addr} {vs ws : List V} (o : OwS S H0 M H p vs) (g : Gr M0 (S.cut H0) M (S.cut H)) : Gr M0 (S.cut H0) M (S.cut (upd H p (.lst ws))) := by rw [cut_put o.o.h]; exact g.mut o.o.h0 o.o.m
theorem OwS.on {S : Strm} {H0 M H : Hp} {p : Addr} {vs : List V} (o : OwS S H0 M H p vs) : ¬ S.off p := on_of o.o.h
end L3
namespace L3
open PySem PySem.Spec PyProof.Rows L2
open Strm
def cutL {α : Type} (xs : List α) (lo hi : Option Int) : List α := (xs.drop (HT.sIx xs.length 0 lo)).take (HT.sIx xs.length xs.length hi - HT.sIx xs.length 0 lo)
theorem pd_cut {α : Type} {R : Rl α} {M : Hp} {xs : List α} {vs : List V} {lo hi : Option Int} (h : Pd R M xs vs) : Pd R M (cutL xs lo hi) (cutV vs lo hi) := by
  have e : cutV vs lo hi = cutL vs lo hi := rfl
  rw [e]
  unfold cutL
  rw [← h.length]
  exact pd_take _ (pd_drop _ h)
theorem cut_sub {α : Type} (xs : List α) (lo hi : Option Int) : (cutL xs lo hi).Sublist xs := (List.take_sublist _ _).trans (List.drop_sublist _ _)
section
variable {K : PySem.W.Frag} {S : Strm} {c1 c2 : Nat} {σ : Sl} {M : Hp} {te th : TE} {α : Type} {R : Rl α}
theorem gl_cut [Mon R] {tl th : TO} {xs : List α} {lo hi : Option Int} (h : Gv te σ M (LstR K R xs)) (hl : ∀ (H : Hp) (Q : Option Int → Hp → Prop), Q lo H → tl σ H Q) (hh : ∀ (H : Hp) (Q : Option Int → Hp → Prop), Q hi H → th σ H Q) :
    GvL (tSl (rSlX K) te tl th) σ M fun M ws => Pd R M (cutL xs lo hi) ws := fun H mh Q q =>
  h H mh _ fun v M1 H1 g1 ⟨a, vs, e, hs, hp⟩ => hl H1 _ (hh H1 _ (.inr (.inl ⟨a, vs, e, sl_mono g1.mh hs, fun p np => q p _ M1 _ (g1.trans (.own g1.mh np)) (g1.hh.free np) (g1.mh.free np) upd_same (pd_cut hp)⟩)))
theorem gls_cut [Mon R] {good : List α → Prop} (h : GvS S c1 te σ M (Ex (LiR R) good)) (hh : GvS S c2 th σ M (Ex It' fun _ => True)) :
    GvLS S (c1 + c2) (tSl (rSlX K) te tNoPart (tPart th)) σ M fun M ws => ∃ xs i, good xs ∧ Pd R M (cutL xs none (some i)) ws := fun H k mh at_ Q q =>
  h H (k + c2) mh (at_.le (by omega)) _ fun v M1 H1 g1 a1 ⟨xs, gx, a, vs, e, hs, hp⟩ => hh.le g1.mm H1 k g1.mh a1 _ fun w M2 H2 g2 a2 ⟨i, _, ew⟩ =>
    ⟨i, ew, .inr (.inl ⟨a, vs, e, .inl (.inl (of_cut (g2.mh _ _ (g2.mm _ _ hs)))), fun p np => by
      have n2 := a2.fresh np
      exact q p _ M2 _ ((g1.trans g2).trans (by rw [cut_upd n2]; exact .own g2.mh (a2.cutn np))) (a2.upd n2) ((g1.trans g2).hh.free (a2.cutn np)) (g2.mh.free (a2.cutn np)) (by rw [cut_upd n2, upd_same]) ⟨xs, i, gx, (pd_cut hp).mono g2.mm⟩⟩)⟩
end
end L3
namespace L3
open PySem PySem.Spec PyProof.Rows L2
section
variable {K : PySem.W.Frag} {σ : Sl} {M : Hp} {ta tb tc : TE}
/-- a written tuple of three texts -/
theorem gv_tup3 {x y z : Str} (h1 : Gv ta σ M (Tx x)) (h2 : Gv tb σ M (Tx y)) (h3 : Gv tc σ M (Tx z)) : Gv (tTup (tCons ta (tCons tb (tCons tc tNil)))) σ M (TupR K Tx [x, y, z]) := fun H mh Q q =>
  h1 H mh _ fun v M1 H1 g1 p1 => h2.le g1.mm H1 g1.mh _ fun w M2 H2 g2 p2 => h3.le (g1.mm.trans g2.mm) H2 g2.mh _ fun u M3 H3 g3 p3 => ⟨by show 3 ≤ sizeLine; decide, fun p np => q _ _ _ (((g1.trans g2).trans g3).trans (.new g3.mh np)) ⟨p, _, rfl, .inl (.inl upd_same), .cons p1 (.cons p2 (.cons p3 .nil))⟩⟩
end
end L3

set_option Elab.async false
set_option linter.all false
set_option maxRecDepth 100000
set_option maxHeartbeats 1000000
namespace L3
open PySem PySem.Spec PyProof.Rows L2
open Strm
/-! instances made by name -/
def Mak (P : Program) (w : World) (K : PySem.W.Frag) (mg : Str → Option Value) (base : Heap) (k : Nat) (x : Str) (C : Addr) (ps : List Str) (sp : Sp) : Prop :=
  ∃ f fd, Mk K C f ∧ FnOk P w K mg base CX0 k f fd ps sp ∧ mg x = some (.ref C) ∧ Binds K fd ps []
theorem pe_mk {X : Cx} {k : Nat} {x : Str} {C : Addr} {ps : List Str} {sp : Sp} {e : Expr} {es : List Expr} {t : TA} {p pos : Pos} (c : Mak X.prog X.w X.K X.mg X.base k x C ps sp) (hr : Room (k + 1) X.A) (ha : PA X (e :: es) t) (hg : Gl X x := by rfl)
    (hdb : (x == ("__debug__" : Str)) = false := by decide) (he : starEach (e :: es) X.env = (false, eval e X.env) :: starEach es X.env := by rfl) (hpl : (backTo pos (starEach es X.env)).any (·.1) = false := by rfl) :
    PE X (.Call (.Name x p) (e :: es) [] pos) (tMake C sp [] E0 t) :=
  let ⟨_, _, M, F, m, b⟩ := c
  pe_make M F hr hg m b .nil pass0 ha hdb he hpl
theorem cut_take {α : Type} (xs : List α) (n : Nat) : cutL xs none (some (n : Int)) = xs.take n := by
  unfold cutL
  rw [HT.sIx_none, HT.sIx_nat]
  simp only [List.drop_zero, Nat.sub_zero]
  by_cases h : n ≤ xs.length
  · rw [Nat.min_eq_left h]
  · rw [Nat.min_eq_right (by omega), List.take_length, List.take_of_length_le (by omega)]
theorem cut_drop {α : Type} (xs : List α) (n : Nat) : cutL xs (some (n : Int)) none = xs.drop n := by
  unfold cutL
  rw [HT.sIx_none, HT.sIx_nat]
  by_cases h : n ≤ xs.length
  · rw [Nat.min_eq_left h, List.take_of_length_le (by rw [List.length_drop]; omega)]
  · rw [Nat.min_eq_right (by omega), List.drop_length, List.drop_of_length_le (by omega)]; simp
/-- three keys -/
theorem merge3 {a b c : Str} {u v w : V} (h1 : a ≠ b) (h2 : a ≠ c) (h3 : b ≠ c) : mergeK [] [(Sum.inr a, u), (Sum.inr b, v), (Sum.inr c, w)] = [(Sum.inr a, u), (Sum.inr b, v), (Sum.inr c, w)] := by
  have e1 : ¬ (Sum.inr a : Key) = Sum.inr b := fun z => h1 (Sum.inr.inj z)
  have e2 : ¬ (Sum.inr a : Key) = Sum.inr c := fun z => h2 (Sum.inr.inj z)
  have e3 : ¬ (Sum.inr b : Key) = Sum.inr c := fun z => h3 (Sum.inr.inj z)
  simp [mergeK, putK, e1, e2, e3]
section
variable {σ : Sl} {M : Hp} {td : TE} {P : Pr}
theorem gv_dget {R : Pr} {k : Str} (h : Gv td σ M P) (hr : ∀ M v, P M v → ∃ a kvs u, v = .ref a ∧ M a = some (.dK kvs) ∧ valV kvs (Sum.inr k : Key) = some u ∧ R M u) : Gv (tDGet td (tC (.str k))) σ M R := fun H mh Q q => h H mh _ fun v M1 H1 g1 p1 => by
  obtain ⟨a, kvs, u, rfl, ha, hu, r⟩ := hr M1 v p1
  exact ⟨a, u, rfl, .inl ⟨kvs, Sum.inr k, .inl (g1.mh _ _ ha), rfl, hu.symm⟩, q u M1 H1 g1 r⟩
end
end L3
namespace L3
open PySem PySem.Spec PyProof.Rows L2
open Strm
section
variable {K : PySem.W.Frag} {S : Strm} {c k : Nat} {σ : Sl} {M H : Hp} {te t1 t2 t3 : TE} {P : Pr} {tr : TA} {QA : List V → Hp → Prop}
theorem z_V (mh : Same M (S.cut H)) (a : S.At (k + c) H) (h : GvS S c te σ M P) (q : ∀ v M' H', Gr M (S.cut H) M' (S.cut H') → S.At k H' → P M' v → tr σ H' fun vs H2 => QA (v :: vs) H2) : tCons te tr σ H QA := h H k mh a _ q
def Dc3 (a b c : Str) (R1 R2 R3 : Pr) : Pr := fun M v => ∃ p u1 u2 u3, v = .ref p ∧ M p = some (.dK [(Sum.inr a, u1), (Sum.inr b, u2), (Sum.inr c, u3)]) ∧ R1 M u1 ∧ R2 M u2 ∧ R3 M u3
/-- a written dict with three texts for keys -/
theorem gv_disp3 {a b c : Str} {R1 R2 R3 : Pr} [Mono R1] [Mono R2] [Mono R3] (h1 : Gv t1 σ M R1) (h2 : Gv t2 σ M R2) (h3 : Gv t3 σ M R3) (n1 : a ≠ b) (n2 : a ≠ c) (n3 : b ≠ c) :
    Gv (tDisp [(tC (.str a), t1), (tC (.str b), t2), (tC (.str c), t3)]) σ M (Dc3 a b c R1 R2 R3) := fun H mh Q q p np => by
  have g0 := Gr.own (o := .dK []) mh np
  have m0 : M p = none := mh.free np
  have p0 : (upd H p (.dK [])) p = some (.dK []) := upd_same
  refine h1 _ g0.mh _ fun u1 M1 H1 g1 r1 => ?_
  refine h2.le g1.mm H1 g1.mh _ fun u2 M2 H2 g2 r2 => ?_
  refine h3.le (g1.mm.trans g2.mm) H2 g2.mh _ fun u3 M3 H3 g3 r3 => ?_
  have G := (g1.trans g2).trans g3
  have m3 : M3 p = none := G.keep m0 p0
  have e3 := same_new (o := .dK [(Sum.inr a, u1), (Sum.inr b, u2), (Sum.inr c, u3)]) m3
  refine ⟨G.hh _ _ p0, [(Sum.inr a, u1), (Sum.inr b, u2), (Sum.inr c, u3)], rfl, by show 3 ≤ 15; decide, ?_⟩
  rw [merge3 n1 n2 n3]
  exact q _ _ _ (((g0.trans G).mut np m3).freeze np m3 upd_same) ⟨p, u1, u2, u3, rfl, upd_same, Mono.mono ((g2.mm.trans g3.mm).trans e3) r1, Mono.mono (g3.mm.trans e3) r2, Mono.mono e3 r3⟩
end
end L3
namespace L3
open PySem PySem.Spec PyProof.Rows L2
/-- a, b = x, y through a real tuple -/
def Fin2 (K : PySem.W.Frag) (i j : Nat) (tz : TS) (D : Ends) (σ : Sl) : List V → Hp → Prop := fun vs H1 => vs.length ≤ sizeLine ∧ ∀ p, H1 p = none → gTup K 2 (gCons (gName i) (gCons (gName j) gNil)) (.ref p) σ (upd H1 p (.tup vs)) fun σ' H' => tz D σ' H'
theorem q_asg2 {K : PySem.W.Frag} {i j : Nat} {tz : TS} {D : Ends} {σ : Sl} {H : Hp} {ta : TA} (h : ta σ H (Fin2 K i j tz D σ)) : tSeq (tAsg (tTup ta) (gTup K 2 (gCons (gName i) (gCons (gName j) gNil)))) tz D σ H := h
theorem fin2 {K : PySem.W.Frag} {i j : Nat} {tz : TS} {D : Ends} {σ : Sl} {H1 : Hp} {u v : V} (h : ∀ p, H1 p = none → tz D ((σ.set i (some u)).set j (some v)) (upd H1 p (.tup [u, v]))) : Fin2 K i j tz D σ [u, v] H1 :=
  ⟨by show 2 ≤ sizeLine; decide, fun p np => ⟨p, _, rfl, .inl (.inl upd_same), rfl, u, _, rfl, v, _, rfl, rfl, h p np⟩⟩
end L3
namespace L3
open PySem PySem.Spec PyProof.Rows L2
end L3
namespace L3
open PySem PySem.Spec PyProof.Rows L2
def CalG (P : Program) (w : World) (K : PySem.W.Frag) (mg : Str → Option Value) (base : Heap) (k : Nat) (x : Str) (ps : List Str) (sp : Sp) : Prop :=
  ∃ f fd, FnG P w K mg base CX0 k f fd ps sp ∧ mg x = some (.ref f) ∧ PySem.W.keepIn K (.ref f) = true ∧ Binds K fd ps []
theorem pe_fG {X : Cx} {k : Nat} {x : Str} {ps : List Str} {sp : Sp} {e : Expr} {es : List Expr} {t : TA} {p pos : Pos} (c : CalG X.prog X.w X.K X.mg X.base k x ps sp) (hgu : X.A.guards = some []) (hr : Room k X.A) (ha : PA X (e :: es) t) (hg : Gl X x := by rfl)
    (hdb : (x == ("__debug__" : Str)) = false := by decide) (he : starEach (e :: es) X.env = (false, eval e X.env) :: starEach es X.env := by rfl) (hpl : (backTo pos (starEach es X.env)).any (·.1) = false := by rfl) :
    PE X (.Call (.Name x p) (e :: es) [] pos) (tCall sp [] E0 t) :=
  let ⟨_, _, G, m, kp, b⟩ := c
  pe_callG G hgu hr hg m kp b .nil pass0 ha hdb he hpl
end L3

set_option Elab.async false
set_option linter.all false
set_option maxRecDepth 100000
set_option maxHeartbeats 1000000
namespace L3
open PySem PySem.Spec PyProof.Rows L2
open Strm
section
variable {K : PySem.W.Frag} {S : Strm} {c k : Nat} {σ : Sl} {M H : Hp} {te t1 t2 t3 : TE} {ta tr : TA} {tt : L2.TT} {tx tz : TS} {P : Pr} {D : Ends} {α β γ : Type} {R : Rl α} {R1 : Rl α} {R2 : Rl β} {R3 : Rl γ} {QA : List V → Hp → Prop} {E : XK}
theorem q_asgS {i : Nat} (h : te σ H fun v H1 => tz D (σ.set i (some v)) H1) : tSeq (tAsg te (gName i)) tz D σ H := h
theorem lst_in {Q : VK} (h : ta σ H fun vs H1 => vs.length ≤ sizeLine ∧ ∀ p, H1 p = none → Q (.ref p) (upd H1 p (.lst vs))) : tLst ta σ H Q := h
theorem z_ifE {B : Bool → Prop} (mh : Same M (S.cut H)) (a : S.At (k + c) H) (h : GvTS S c tt σ M B) (h1 : B true → ∀ M' H', Gr M (S.cut H) M' (S.cut H') → S.At k H' → tx D σ H') (h2 : B false → ∀ M' H', Gr M (S.cut H) M' (S.cut H') → S.At k H' → D.nx σ H') :
    tIfS tt tx tNext D σ H := h H k mh a _ fun b M' H' g a' p => by
  cases b with
  | true => exact h1 p M' H' g a'
  | false => exact h2 p M' H' g a'
/-- list + list -/
theorem gl_addL [Mon R] {xs ys : List α} (h1 : Gv t1 σ M (LiR R xs)) (h2 : Gv t2 σ M (LiR R ys)) (hz : xs.length + ys.length ≤ sizeLine) : GvL (tOp (rAddA K) t1 t2) σ M fun M ws => Pd R M (xs ++ ys) ws := fun H mh Q q =>
  h1 H mh _ fun v M1 H1 g1 p1 => h2.le g1.mm H1 g1.mh _ fun w M2 H2 g2 p2 => by
    obtain ⟨a, us, e1, r1, d1⟩ := (Mon.mono g2.mm p1 : LiR R xs M2 v)
    obtain ⟨b, ws, e2, r2, d2⟩ := p2
    exact .inr (.inr (.inr ⟨a, b, us, ws, e1, e2, g2.mh _ _ r1, g2.mh _ _ r2, by rw [← d1.length, ← d2.length]; exact hz, fun p np => q p _ M2 _ ((g1.trans g2).trans (.own g2.mh np)) ((g1.trans g2).hh.free np) (g2.mh.free np) upd_same (pd_app d1 d2)⟩))
/-- .. whose first argument draws -/
theorem gs_sp2 [Mon R1] [Mon R2] {pre : α → β → Prop} {Rr : α → β → Pr} {y : β} {good : α → Prop} (h1 : GvS S c t1 σ M (Ex R1 good)) (h2 : Gv t2 σ M (R2 y)) (hp : ∀ x, good x → pre x y) :
    GvS S c (tCall (sp2 R1 R2 pre Rr) [] E (tCons t1 (tCons t2 tNil))) σ M (fun M v => ∃ x, good x ∧ Rr x y M v) := fun H k mh a Q q =>
  h1 H k mh a _ fun v M1 H1 g1 a1 ⟨x, gx, px⟩ => h2.le g1.mm H1 (g1.mh.trans cut_same) _ fun w M2 H2 g2 p2 =>
    ⟨x, y, M2, v, w, rfl, g2.mh, Mon.mono g2.mm px, p2, hp x gx, fun r M' H' g hr => q r M' H' (g1.trans (lift g1.mh a1 (g2.trans g))) (a1.same (g2.trans g).hh) ⟨x, gx, hr⟩⟩
end
section
variable {S : Strm} {c k : Nat} {σ : Sl} {M H : Hp} {α : Type} {R : Rl α} {D : Ends}
/-- for over anything, drawing, at the end of a block -/
theorem z_forE {wi : TI} {g : TG} {tbd : TS} {U : α → Hp → Sl → Sl → Prop} {G : List α → Prop} (mh : Same M (S.cut H)) (a : S.At (k + c) H) (hsrc : GvIS S c wi σ M G R) (htg : TgOk g R U) (Pv : List α → Hp → Nat → Sl → Hp → Hp → Prop)
    (h0 : ∀ xs M1 H1, G xs → Gr M (S.cut H) M1 (S.cut H1) → S.At k H1 → Pv xs M1 0 σ M1 H1) (hk : ∀ xs M1 i σ' M' H', Pv xs M1 i σ' M' H' → Same M1 M' ∧ Same M' (S.cut H') ∧ S.At 0 H')
    (hs : ∀ xs M1 i x σ' M' H' M2 H2 σ2, G xs → Same M M1 → xs[i]? = some x → Pv xs M1 i σ' M' H' → Gr M' H' M2 H2 → U x M2 σ' σ2 →
      tbd { D with nx := fun σ2 H2 => ∃ M2, Pv xs M1 (i + 1) σ2 M2 H2, ct := fun σ2 H2 => ∃ M2, Pv xs M1 (i + 1) σ2 M2 H2, bk := D.nx } σ2 H2)
    (hd : ∀ xs M1 σ' M' H', G xs → Same M M1 → Pv xs M1 xs.length σ' M' H' → D.nx σ' H') : tFor wi g tbd D σ H := by
  refine hsrc H k mh a _ fun J xs M1 H1 g1 a1 gx ⟨GG, Y, w, hG, hY⟩ => ?_
  refine for_it w (fun i σ' H' => ∃ M', Pv xs M1 i σ' M' H') ⟨M1, h0 xs M1 H1 gx g1 a1⟩ (fun i σ' H' _ ⟨M', p⟩ => hG M' H' (hk _ _ _ _ _ _ p).1 ((hk _ _ _ _ _ _ p).2.1.trans cut_same)) ?_ ?_
  · rintro i y σ' H' H'' hi ⟨M', p⟩ hy
    have km := hk _ _ _ _ _ _ p
    obtain ⟨x, M2, hx, g2, rx⟩ := hY i M' H' y H'' km.1 (km.2.1.trans cut_same) hi hy
    exact htg x M2 y H'' σ' _ rx g2.mh fun σ2 hU => hs xs M1 i x σ' M' H' M2 H'' σ2 gx g1.mm hx p g2 hU
  · rintro σ' H' ⟨M', p⟩
    exact hd xs M1 σ' M' H' gx g1.mm p
end
theorem pd_itv {M : Hp} {xs : List Int} {vs : List V} (h : Pd It' M xs vs) : vs = xs.map V.int := by
  induction h with
  | nil => rfl
  | cons q _ ih => rw [ih, show _ = V.int _ from q]; rfl
end L3

set_option Elab.async false
set_option linter.all false
set_option maxRecDepth 100000
set_option maxHeartbeats 1000000
namespace L3
open PySem PySem.Spec PyProof.Rows L2
open Strm
/-- a walk whose turns are told by one statement -/
theorem turns_of {J : It} {n : Nat} {G : Hp → Prop} {Y : Nat → Hp → V → Hp → Prop} (w : Walk J n G Y) {H1 : Hp} {fin : Hp → Prop} {B : V → Hp → (Hp → Prop) → Prop} (Pv : Nat → Hp → Prop) (h0 : Pv 0 H1) (hG : ∀ i H, i ≤ n → Pv i H → G H)
    (hs : ∀ i x H H', i < n → Pv i H → Y i H x H' → B x H' (Pv (i + 1))) (hd : ∀ H, Pv n H → fin H) :
    ∃ W : Nat → Nat → Hp → Prop, (∃ m, W 0 m H1) ∧ ∀ i m H, W i m H → (J.stop i H ∧ fin H) ∨ (J.go i H ∧ ∃ N : Hp → Prop, (∀ H', N H' → ∃ m', m' < m ∧ W (i + 1) m' H') ∧ ∀ x H', J.yld i H x H' → B x H' N) := by
  refine ⟨fun i m H => i + m = n ∧ Pv i H, ⟨n, Nat.zero_add n, h0⟩, fun i m H ⟨e, p⟩ => ?_⟩
  cases m with
  | zero =>
    have e' : i = n := e
    subst e'
    exact .inl ⟨w.stops H (hG _ H (Nat.le_refl _) p), hd H p⟩
  | succ m =>
    have hi : i < n := by omega
    have g := hG i H (Nat.le_of_lt hi) p
    exact .inr ⟨w.goes i H hi g, Pv (i + 1), fun H' p' => ⟨m, Nat.lt_succ_self m, by omega, p'⟩, fun x H' y => hs i x H H' hi p (w.yields i H x H' hi g y)⟩
section
variable {K : PySem.W.Frag} {σ : Sl} {M : Hp} {ta tb te ts : TE} {tt : L2.TT} {α β γ : Type} {R : Rl α} {R1 : Rl β} {T : Rl γ} {wi wi1 : TI} {g : TG}
theorem wipe2a {i j : Nat} {u : V} : wipe ((wipe σ [i, j]).set i (some u)) [i, j] = wipe σ [i, j] := by
  show ((((σ.set j none).set i none).set i (some u)).set j none).set i none = (σ.set j none).set i none
  rw [List.set_set]
  by_cases h : i = j
  · subst h; simp
  · rw [List.set_comm _ _ h, List.set_set, List.set_set]
theorem take_flat {α β : Type} {xs : List α} {i : Nat} {x : α} (f : α → List β) (h : xs[i]? = some x) : (xs.take (i + 1)).flatMap f = (xs.take i).flatMap f ++ f x := by
  rw [List.take_add_one, h]
  simp
/-- [e for x in xs for y in ys] -/
theorem gl_two [Mon T] {i j : Nat} {xs : List α} {ys : α → List β} {f : α → β → γ} (hsrc : GvI wi σ M xs R) (hz : (xs.flatMap ys).length ≤ sizeLine)
    (hy : ∀ x ∈ xs, ∀ M1 v, Same M M1 → R x M1 v → GvI wi1 ((wipe σ [i, j]).set i (some v)) M1 (ys x) R1)
    (he : ∀ x ∈ xs, ∀ y ∈ ys x, ∀ M1 v w, Same M M1 → R x M1 v → R1 y M1 w → Gv te ((wipe ((wipe σ [i, j]).set i (some v)) [j]).set j (some w)) M1 (T (f x y))) [Mon R] :
    GvL (tLc2 wi (gName i) tYes wi1 (gName j) tYes te [i, j] [j]) σ M fun M ws => Pd T M (xs.flatMap fun x => (ys x).map (f x)) ws := by
  intro H mh Q q
  refine hsrc H mh _ fun J M1 H1 g1 ⟨G, Y, w, hG, hY⟩ D hD => ?_
  have lens : ∀ zs : List α, (zs.flatMap fun x => (ys x).map (f x)).length = (zs.flatMap ys).length := fun zs => by
    induction zs with
    | nil => rfl
    | cons z zs ih => rw [List.flatMap_cons, List.flatMap_cons, List.length_append, List.length_append, List.length_map, ih]
  refine turns_of w (fun a H' => ∃ M' ws, Gr M1 H1 M' H' ∧ M' D = none ∧ H' D = some (.lst ws) ∧ Pd T M' ((xs.take a).flatMap fun x => (ys x).map (f x)) ws) ⟨M1, [], .own g1.mh hD, g1.mh.free hD, upd_same, .nil⟩ (fun a H' _ ⟨M', ws, g, _⟩ => hG M' H' g.mm g.mh) ?_ ?_
  · rintro a y H' H'' ha ⟨M', ws, gr, m0, hw, hpd⟩ hya
    obtain ⟨x, M0, hx, g0, rx⟩ := hY a M' H' y H'' gr.mm gr.mh ha hya
    have hxm := List.mem_of_getElem? hx
    have G0 := gr.trans g0
    have sm := g1.mm.trans G0.mm
    refine ⟨wipe2a, hy x hxm M0 y sm rx H'' G0.mh _ fun J1 M2 H2 g2 ⟨GG, YY, w2, hG2, hY2⟩ => ?_⟩
    have whole : ((xs.take a).flatMap ys).length + (ys x).length ≤ sizeLine := by
      have e : (xs.flatMap ys).length = ((xs.take (a + 1)).flatMap ys).length + ((xs.drop (a + 1)).flatMap ys).length := by rw [← List.length_append, ← List.flatMap_append, List.take_append_drop]
      rw [take_flat ys hx, List.length_append] at e
      omega
    have s02 : Gr M1 H1 M2 H2 := G0.trans g2
    have mm02 : Same M' M2 := g0.mm.trans g2.mm
    have w2D : H2 D = some (.lst ws) := g2.hh _ _ (g0.hh _ _ hw)
    have m2D : M2 D = none := (g0.trans g2).keep m0 hw
    refine turns_of w2 (fun b H3 => ∃ M3 us, Gr M1 H1 M3 H3 ∧ Same M2 M3 ∧ M3 D = none ∧ H3 D = some (.lst us) ∧ Pd T M3 (((xs.take a).flatMap fun x => (ys x).map (f x)) ++ ((ys x).take b).map (f x)) us) ⟨M2, ws, s02, Same.refl _, m2D, w2D, by simpa using hpd.mono mm02⟩ (fun b H3 _ ⟨M3, us, g3, s3, _⟩ => hG2 M3 H3 s3 g3.mh) ?_ ?_
    · rintro b z H3 H4 hb ⟨M3, us, g3, s3, m3, hw3, hp3⟩ hz4
      obtain ⟨c, M4, hc, g4, rc⟩ := hY2 b M3 H3 z H4 s3 g3.mh hb hz4
      have G4 := g3.trans g4
      have up : Same M0 M4 := g2.mm.trans (s3.trans g4.mm)
      have h4 : H4 D = some (.lst us) := g4.hh _ _ hw3
      refine ⟨wipe1, he x hxm c (List.mem_of_getElem? hc) M4 y z (sm.trans up) (Mon.mono up rx) rc H4 G4.mh _ fun u M5 H5 g5 hu => ?_⟩
      have m5 : M5 D = none := g5.keep (g4.keep m3 hw3) h4
      have len := hp3.length
      rw [List.length_append, lens, List.length_map, List.length_take] at len
      refine ⟨us, g5.hh _ _ h4, by omega, M5, us ++ [u], (G4.trans g5).mut hD m5, s3.trans (g4.mm.trans g5.mm), m5, upd_same, ?_⟩
      rw [List.take_add_one, hc]
      simp only [Option.toList_some, List.map_append, List.map_cons, List.map_nil, ← List.append_assoc]
      exact pd_app (hp3.mono (g4.mm.trans g5.mm)) (.cons hu .nil)
    · rintro H3 ⟨M3, us, g3, s3, m3, hw3, hp3⟩
      refine ⟨M3, us, g3, m3, hw3, ?_⟩
      rw [take_flat _ hx]
      rw [List.take_length] at hp3
      exact hp3
  · rintro H' ⟨M', ws, gr, m0, hw, hpd⟩
    rw [List.take_length] at hpd
    exact q D ws M' H' (g1.trans gr) (g1.hh.free hD) m0 hw hpd
/-- range(i, j) -/
theorem gi_rng2 {i j : Nat} (h1 : Gv ta σ M (It' (i : Int))) (h2 : Gv tb σ M (It' (j : Int))) (hn : i ≤ 1000000000 ∧ j ≤ 1000000000) : GvI (iRng2 (tCons ta (tCons tb tNil))) σ M (List.range' i (j - i)) (fun i => It' (i : Nat)) := fun H mh Q q =>
  h1 H mh _ fun u M1 H1 g1 e1 => h2.le g1.mm H1 g1.mh _ fun v M2 H2 g2 e2 => by
    cases (show u = _ from e1)
    cases (show v = _ from e2)
    refine ⟨i, j, rfl, by omega, q _ M2 H2 (g1.trans g2) ⟨_, _, (by rw [List.length_range', show ((j : Int) - i).toNat = j - i by omega]; exact walk_range), fun _ _ _ _ => trivial, ?_⟩⟩
    rintro a M3 H3 v H4 s1 s2 ha ⟨rfl, rfl⟩
    rw [List.length_range'] at ha
    refine ⟨i + a, M3, by rw [List.getElem?_range' (by omega), Nat.one_mul], .refl s2, ?_⟩
    show V.int _ = V.int _
    rw [Int.natCast_add]
end
/-! methods -/
def Met (P : Program) (w : World) (K : PySem.W.Frag) (mg : Str → Option Value) (base : Heap) (k : Nat) (C : Addr) (m : Str) (ps : List Str) (sp : Sp) : Prop := ∃ f fd, Cls K C ∧ Meth K C m f ∧ FnOk P w K mg base CX0 k f fd ps sp ∧ Binds K fd ps []
section
variable {X : Cx} {k : Nat} {C : Addr} {m : Str} {ps : List Str} {sp : Sp} {o e : Expr} {es : List Expr} {to : TE} {t : TA} {apos pos : Pos} {pl : Sem Bool}
theorem pe_m (c : Met X.prog X.w X.K X.mg X.base k C m ps sp) (hr : Room k X.A) (ho : PE X o to) (ha : PA X (e :: es) t) (hst : starEach (e :: es) X.env = (false, eval e X.env) :: starEach es X.env := by rfl) (hpl : (backTo pos (starEach es X.env)).any (·.1) = false := by rfl)
    (ht : eval (.Call (.Attribute o m apos) (e :: es) [] pos) X.env = (do let ov ← eval o X.env; standAt apos.atName; let (f, first) ← holding [ov] (getMethod ov m pl); callWith pos f first (backTo pos (starEach (e :: es) X.env)) (backToKw pos (keywordEach [] X.env))) := by rfl) :
    PE X (.Call (.Attribute o m apos) (e :: es) [] pos) (tMeth C m sp [] E0 to t) := by
  obtain ⟨f, fd, cl, hm, F, hb⟩ := c
  exact pe_meth ho cl hm F hr hb .nil pass0 ha hst hpl ht
theorem pe_m0 (c : Met X.prog X.w X.K X.mg X.base k C m ps sp) (hr : Room k X.A) (ho : PE X o to)
    (ht : eval (.Call (.Attribute o m apos) [] [] pos) X.env = (do let ov ← eval o X.env; standAt apos.atName; let (f, first) ← holding [ov] (getMethod ov m pl); callWith pos f first (backTo pos (starEach [] X.env)) (backToKw pos (keywordEach [] X.env))) := by rfl) :
    PE X (.Call (.Attribute o m apos) [] [] pos) (tMeth C m sp [] E0 to tNil) := by
  obtain ⟨f, fd, cl, hm, F, hb⟩ := c
  exact pe_meth0 ho cl hm F hr hb .nil pass0 ht
end
section
variable {σ : Sl} {M : Hp} {α β : Type} {R1 : Rl α} {R2 : Rl β} {to te : TE} {C : Addr} {m : Str}
/-- an instance of C without a variable of the method's name -/
def InsR (C : Addr) (m : Str) (P : Pr) : Prop := ∀ M v, P M v → ∃ a dx fs, v = .ref a ∧ M a = some (.ins C dx fs) ∧ fs.lookup m = none
theorem gv_met1 {pre : α → Prop} {R : α → Pr} {x : α} (hi : InsR C m (R1 x)) (h : Gv to σ M (R1 x)) (hp : pre x) : Gv (tMeth C m (sp1 R1 pre R) [] E0 to tNil) σ M (R x) := fun H mh Q q => h H mh _ fun v M1 H1 g1 p1 => by
  obtain ⟨a, dx, fs, e, ha, hl⟩ := hi M1 v p1
  exact ⟨a, dx, fs, e, g1.mh _ _ ha, hl, x, M1, v, rfl, g1.mh, p1, hp, fun u M' H' g r => q u M' H' (g1.trans g) r⟩
theorem gl_met1 {pre : α → Prop} {R : α → Hp → List V → Prop} {x : α} (hi : InsR C m (R1 x)) (h : Gv to σ M (R1 x)) (hp : pre x) : GvL (tMeth C m (sl1 R1 pre R) [] E0 to tNil) σ M (R x) := fun H mh Q q => h H mh _ fun v M1 H1 g1 p1 => by
  obtain ⟨a, dx, fs, e, ha, hl⟩ := hi M1 v p1
  exact ⟨a, dx, fs, e, g1.mh _ _ ha, hl, x, M1, v, rfl, g1.mh, p1, hp, fun p vs M' H' g h0 m0 hw r => q p vs M' H' (g1.trans g) (g1.hh.free h0) m0 hw r⟩
theorem gv_met2 [Mon R1] [Mon R2] {pre : α → β → Prop} {R : α → β → Pr} {x : α} {y : β} (hi : InsR C m (R1 x)) (h : Gv to σ M (R1 x)) (h2 : Gv te σ M (R2 y)) (hp : pre x y) : Gv (tMeth C m (sp2 R1 R2 pre R) [] E0 to (tCons te tNil)) σ M (R x y) := fun H mh Q q => h H mh _ fun v M1 H1 g1 p1 => by
  obtain ⟨a, dx, fs, e, ha, hl⟩ := hi M1 v p1
  refine ⟨a, dx, fs, e, g1.mh _ _ ha, hl, h2.le g1.mm H1 g1.mh _ fun w M2 H2 g2 p2 => ⟨x, y, M2, v, w, rfl, g2.mh, Mon.mono g2.mm p1, p2, hp, fun u M' H' g r => q u M' H' ((g1.trans g2).trans g) r⟩⟩
end
/-! dicts with tuple keys, known -/
def DtR : Rl (List (List Str)) := fun ks M v => ∃ a, v = .ref a ∧ M a = some (.dT (ent ks))
instance : Mon DtR := ⟨fun e ⟨a, h, r⟩ => ⟨a, h, e _ _ r⟩⟩
theorem val_ent (x : List Str) : ∀ ks : List (List Str), (valV (ent ks) (x.map (Sum.inr : Str → Key))).isSome = decide (x ∈ ks)
  | [] => rfl
  | k :: ks => by
    have ih := val_ent x ks
    unfold valV ent at ih ⊢
    rw [List.map_cons, List.find?_cons]
    by_cases h : k = x
    · subst h
      simp
    · have h1 : ¬ (k.map (Sum.inr : Str → Key)) = x.map Sum.inr := fun e => h (inr_inj e)
      rw [decide_eq_false (by simpa using h1)]
      rw [ih]
      simp [Ne.symm h]
section
variable {K : PySem.W.Frag} {σ : Sl} {M : Hp} {ta tb : TE} {wi : TI}
theorem gv_inDt {neg : Bool} {x : List Str} {ks : List (List Str)} (ha : Gv ta σ M (TT x)) (hb : Gv tb σ M (DtR ks)) : Gv (tOp (rInA K neg) ta tb) σ M (Bl (xor neg (decide (x ∈ ks)))) :=
  gv_op ha hb fun M' u v pu pv => by
    obtain ⟨b, e1, r1⟩ := pu
    obtain ⟨d, e2, r2⟩ := pv
    subst e1 e2
    refine rv_pure (v := .bl (xor neg (decide (x ∈ ks)))) (fun H mh Q q => .inr (.inl ⟨d, _, rfl, .inr ⟨ent ks, x.map Sum.inr, b, .inl (mh _ _ r2), rfl, (by rw [key_V]; exact mh _ _ r1), rfl⟩, ?_⟩)) rfl
    rw [val_ent]
    exact q
/-- {x: True for x in xs}, known from now on -/
theorem gv_dcTd {j : Nat} {xs : List (List Str)} (hj : j < σ.length) (hsrc : GvI wi σ M xs TT) (hz : xs.length ≤ sizeLine) : Gv (tDcT wi (gName j) tYes (tVar j) (tC (.bl true)) [j]) σ M (DtR (once xs)) := by
  intro H mh Q q
  refine hsrc H mh _ fun J M1 H1 g1 ⟨G, Y, w, hG, hY⟩ D hD => ?_
  refine ⟨fun i m H' => i + m = xs.length ∧ ∃ M', Gr M1 H1 M' H' ∧ M' D = none ∧ ((xs.take i).foldl onceP []).length ≤ i ∧ H' D = some (.dT (ent ((xs.take i).foldl onceP []))), ⟨xs.length, Nat.zero_add _, M1, .own g1.mh hD, g1.mh.free hD, Nat.le_refl _, upd_same⟩, fun i m H' ⟨e, M', gr, m0, hl, hw⟩ => ?_⟩
  have gG := hG M' H' gr.mm gr.mh
  cases m with
  | zero =>
    have e' : i = xs.length := e
    subst e'
    rw [List.take_length] at hw
    exact .inl ⟨w.stops H' gG, q _ _ H' (g1.trans (gr.freeze hD m0 hw)) ⟨D, rfl, upd_same⟩⟩
  | succ m =>
    have hi : i < xs.length := by omega
    refine .inr ⟨w.goes i H' hi gG, fun y H2 hy => ?_⟩
    obtain ⟨x, M2, hx, g2, b, ey, rb⟩ := hY i M' H' y H2 gr.mm gr.mh hi (w.yields i H' y H2 hi gG hy)
    subst ey
    have at_j : ((wipe σ [j]).set j (some (V.ref b)))[j]? = some (some (V.ref b)) := List.getElem?_set_self (by rw [wipe_length]; exact hj)
    refine ⟨wipe1, _, at_j, ent ((xs.take i).foldl onceP []), x.map Sum.inr, b, rfl, by rw [key_V]; exact g2.mh _ _ rb, g2.hh _ _ hw, ?_, m, Nat.lt_succ_self m, by omega, M2, (gr.trans g2).mut hD (g2.keep m0 hw), g2.keep m0 hw, ?_, ?_⟩
    · unfold ent; rw [List.length_map]; omega
    · rw [List.take_add_one, hx, List.foldl_append]
      exact Nat.le_trans (onceP_len _ x) (Nat.succ_le_succ hl)
    · rw [upd_same, putK_ent, List.take_add_one, hx, List.foldl_append]
      rfl
end
end L3

set_option Elab.async false
set_option linter.all false
set_option maxRecDepth 100000
set_option maxHeartbeats 1000000
namespace L3
open PySem PySem.Spec PyProof.Rows L2
/-! *d in a display, d a dict with texts for keys -/
def tStarK (te : TE) (t : TA) : TA := fun σ H Q => te σ H fun x H1 => ∃ d ks, x = V.ref d ∧ Rd H1 d (.dK (kvT ks)) ∧ t σ H1 fun ys H2 => Q (ks.map V.str ++ ys) H2
section
variable {X : Cx} {e : Expr} {es : List Expr} {te : TE} {t : TA} {p : Pos}
theorem pa_starK (hc : X.calm = true) (he : PE X e te) (hr : PA X es t) (hs : starEach (.Starred e p :: es) X.env = (true, eval e X.env) :: starEach es X.env := by rfl) : PA X (.Starred e p :: es) (tStarK te t) where
  run pos pins s σ H Q I h := by
    apply PySem.W.items_star _ hs
    refine thn (he.run pins s σ H _ I h) fun v s1 z => ?_
    obtain ⟨_, H1, I1, rv, d, ks, rfl, hd, q⟩ := z
    obtain rfl : v = Value.ref d := rv
    have ⟨z, low, vs, rk, dd⟩ := (show ObjOk X.prog X.w H1 s1.heap d (.dK (kvT ks)) from hd.ok I1.hok)
    have ⟨ep, at_⟩ := dd.dictAt
    have S := PySem.W.kdl_dict (prog := X.prog) (w := X.w) (knd := mixKind X.prog X.w) (kvs := vs) (ep := ep) low
    have n1 : (kvT ks).length = vs.length := Paired.length rk
    have n2 : (kvT ks).length = ks.length := by unfold kvT; rw [List.length_map]
    unfold PySem.W.StarOf notIterableAtAll
    refine wpAny_bind (wpAny_specialOf (S.type s1 at_) PySem.F.slot_dict_iter.lookup (wpAny_pure ⟨rfl, PySem.W.kdu_collect S (I1.ok.hd hc) at_ (by omega) fun h' tk acc kp it => ?_⟩))
    have I2 : Inv X pins σ H1 { s1 with heap := h', toks := tk } := I1.kept kp
    have rel : Vals (ks.map V.str) acc.toList := by
      refine vals_of_at (by have h1 := it.1; have h2 : acc.toList.length = acc.size := Array.length_toList; rw [List.length_map, h2]; omega) fun j x u hx hu => ?_
      rw [Array.getElem?_toList] at hu
      obtain ⟨k, y, hk, is⟩ := it.2 j u hu
      have keys := congrArg (fun l => l[j]?) (KV.keys rk)
      simp only [kvT, List.map_map, List.getElem?_map, hk] at keys
      rw [List.getElem?_map] at hx
      cases hj : ks[j]? with
      | none => rw [hj] at hx; cases hx
      | some a =>
        rw [hj] at hx keys
        cases Option.some.inj hx
        have ek : (Sum.inr a : Key) = k := Option.some.inj keys
        rw [← ek] at is
        exact keyIs_rel (show keyIs (Sum.inr a) u = true from is)
    exact thn (hr.run pos pins _ σ H1 _ I2 q) fun ws s3 ⟨us, H3, I3, r3, q3⟩ => ⟨_, H3, I3, rel.append r3, q3⟩
end
/-! defs called with defaults -/
section
end
end L3

set_option Elab.async false
set_option linter.all false
set_option maxRecDepth 100000
set_option maxHeartbeats 1000000
namespace L3
open PySem PySem.Spec PyProof.Rows L2
/-! x in o, x not in o by an own __contains__; o == p, o != p by an own __eq__ -/
section
variable {X : Cx} {CX : CXT} {pins : List (Addr × Obj)} {σ : L2.St} {H : Hp} {s : Shared} {C : Addr} {k : Nat} {ps : List Str} {sp : Sp} {E : XK}
/-- a class that has object's != -/
structure NeObj (K : PySem.W.Frag) (C : Addr) : Prop where
  ne : PySem.W.findIn K (.ref C) "__ne__" = some (some (.builtin "object.__ne__"))
  ob : PySem.W.subIn K (.ref C) (.type "object") = some true
end
end L3

set_option Elab.async false
set_option linter.all false
set_option maxRecDepth 100000
set_option maxHeartbeats 1000000
namespace L3
open PySem PySem.Spec PyProof.Rows L2
/-! lists of data: remove, index; insert -/
section
variable {K : PySem.W.Frag} {σ : Sl} {M H : Hp} {te tb : TE} {P : Pr} {D : Ends} {tz : TS} {α : Type} {R : Rl α}
/-- what isinstance asks of a class of the text -/
structure InsF (K : PySem.W.Frag) (C : Addr) : Prop where
  cl : Cls K C
  gc : PySem.W.findIn K (.ref C) "__class__" = some (some (.builtin "object.__class__"))
  sp : PySem.W.specialIn K (.builtin "object.__class__") "__get__" = some (some (.builtin "getset_descriptor.__get__"))
  tk : PySem.W.takesIn K (.builtin "object.__class__") = some true
  mr : PySem.W.mroIn K C (.type "object") = some true
end
section
end
end L3

set_option Elab.async false
set_option linter.all false
set_option maxRecDepth 100000
set_option maxHeartbeats 1000000
namespace L3
open PySem PySem.Spec PyProof.Rows L2
/-! instances made with defaults -/
end L3

set_option Elab.async false
set_option linter.all false
set_option maxRecDepth 100000
set_option maxHeartbeats 1000000
namespace L3
open PySem PySem.Spec PyProof.Rows L2
section
end
end L3

set_option Elab.async false
set_option linter.all false
set_option maxRecDepth 100000
set_option maxHeartbeats 4000000
namespace My
open PySem PySem.Spec PyProof.Rows L2 L3
def topS (i : Nat) : Stmt := PySem.Challenge.pw_lastopen_k50_whole_no_fewer_clauses.main.body.getD i (.Pass ⟨0, 0, 0, 0⟩)
/-! the plain functions -/
def nameOf (x : Str) : Str := if cutS x none (some 1) = "-" then cutS x (some 1) none else x
def opp (x : Str) : Str := if cutS x none (some 1) = "-" then cutS x (some 1) none else "-" ++ x
def isListD : PyData → Bool
  | .list _ => true | .tuple _ => true | _ => false
def isLit (ns : List Str) : PyData → Bool
  | .str x => decide (nameOf x ∈ ns) | _ => false
def nameD : PyData → Str
  | .str x => nameOf x | _ => ""
def fwGo (ns : List Str) : List PyData → List Str → Nat → Option Nat
  | [], _, _ => none
  | d :: r, met, i => if isLit ns d = false ∨ nameD d ∈ met then some i else fwGo ns r (met ++ [nameD d]) (i + 1)
/-- the index of the first thing that is no literal, or whose name stood before -/
def firstWrong (ns : List Str) : PyData → Option Nat
  | .list ds => fwGo ns ds [] 0 | .tuple ds => fwGo ns ds [] 0 | _ => some 0
def shortD : PyData → Prop
  | .str x => x.length ≤ 1000 | _ => True
def shortL : PyData → Prop
  | .list ds => ds.length ≤ 1000000 ∧ ∀ d ∈ ds, shortD d | .tuple ds => ds.length ≤ 1000000 ∧ ∀ d ∈ ds, shortD d | _ => True
def asc (ls ns : List Str) : List Str := ns.flatMap fun n => [n, ("-" : Str) ++ n].filter fun l => decide (l ∈ ls)
/-- built-ins that the module does not shade -/
structure Bi (mg : Str → Option Value) : Prop where
  len : mg "len" = none
  tuple : mg "tuple" = none
  list : mg "list" = none
  str : mg "str" = none
  int : mg "int" = none
  all : mg "all" = none
  any : mg "any" = none
  isinstance : mg "isinstance" = none
  enumerate : mg "enumerate" = none
  range : mg "range" = none
  repr : mg "repr" = none
theorem sz1000 {n : Nat} (h : n ≤ 1000) : n ≤ sizeLine := Nat.le_trans h (by decide)
theorem szM {n : Nat} (h : n ≤ 16000000) : n ≤ sizeLine := Nat.le_trans h (by decide)
theorem szL {n : Nat} (h : n ≤ 16000000) : n < sizeLine := Nat.lt_of_le_of_lt h (by decide)
section
variable {P : Program} {w : World} {K : PySem.W.Frag} {mg : Str → Option Value} {base : Heap}
abbrev s_name_of : Stmt := topS 15
theorem sc_name_of : FnScope ["literal"] ["literal"] (defScope s_name_of) := ⟨rfl, rfl, rfl, by decide +kernel, rfl, by decide +kernel, by decide +kernel⟩
def sp_name_of (K : PySem.W.Frag) : Sp := sp1 Tx (fun x => x.length ≤ 1000) fun x => Tx (nameOf x)
theorem ok_name_of {f : Addr} {fd : FuncData} (F : Fun K "name_of" "name_of" s_name_of f fd) : FnOk P w K mg base CX0 1 f fd ["literal"] (sp_name_of K) := by
  refine F.ok sc_name_of (fun vs H Q E h => ?_) (fun cdv A outer s H vs Q E hr h => ?_)
  · obtain ⟨x, M, v, rfl, _⟩ := h
    rfl
  · obtain ⟨x, M, v, rfl, mh, r1, hp, q⟩ := h
    have hu := hr.units
    refine ⟨_, (pss_one (ps_ret (pe_ifExp (pt_cmpR (op_eqP hu) (pe_slice sl_X (pv 0) po_none (po_some pe_int)) pe_str (nomark _)) (pe_slice sl_X (pv 0) (po_some pe_int) po_none) (pv 0)))), ?_⟩
    have hv : Gv (tVar 0) (start ["literal"] [v]) M (Tx x) := gv_var rfl r1
    refine s_ret mh (gv_if (gt_test (gv_eqT py_str inj_str (gv_cutS hv (sz1000 hp) (fun _ _ h => h) (fun _ _ h => ⟨1, rfl, h⟩)) (gv_c rfl) (by simp [PyData.depth]))) (fun hb => gv_is (gv_cutS hv (sz1000 hp) (fun _ _ h => ⟨1, rfl, h⟩) fun _ _ h => h) fun M' v h => ?_) fun hb => gv_is hv fun M' v h => ?_) q
    · show Tx (nameOf x) M' v
      rw [show nameOf x = _ from if_pos (by simpa using hb)]; exact h
    · show Tx (nameOf x) M' v
      rw [show nameOf x = _ from if_neg (by simpa using hb)]; exact h
abbrev s_opposite : Stmt := topS 16
theorem sc_opposite : FnScope ["literal"] ["literal"] (defScope s_opposite) := ⟨rfl, rfl, rfl, by decide +kernel, rfl, by decide +kernel, by decide +kernel⟩
def sp_opposite (K : PySem.W.Frag) : Sp := sp1 Tx (fun x => x.length ≤ 1000) fun x => Tx (opp x)
theorem ok_opposite {f : Addr} {fd : FuncData} (F : Fun K "opposite" "opposite" s_opposite f fd) : FnOk P w K mg base CX0 1 f fd ["literal"] (sp_opposite K) := by
  refine F.ok sc_opposite (fun vs H Q E h => ?_) (fun cdv A outer s H vs Q E hr h => ?_)
  · obtain ⟨x, M, v, rfl, _⟩ := h
    rfl
  · obtain ⟨x, M, v, rfl, mh, r1, hp, q⟩ := h
    have hu := hr.units
    refine ⟨_, (pss_one (ps_ret (pe_ifExp (pt_cmpR (op_eqP hu) (pe_slice sl_X (pv 0) po_none (po_some pe_int)) pe_str (nomark _)) (pe_slice sl_X (pv 0) (po_some pe_int) po_none) (pe_op op_addA pe_str (pv 0))))), ?_⟩
    have hv : Gv (tVar 0) (start ["literal"] [v]) M (Tx x) := gv_var rfl r1
    refine s_ret mh (gv_if (gt_test (gv_eqT py_str inj_str (gv_cutS hv (sz1000 hp) (fun _ _ h => h) (fun _ _ h => ⟨1, rfl, h⟩)) (gv_c rfl) (by simp [PyData.depth]))) (fun hb => gv_is (gv_cutS hv (sz1000 hp) (fun _ _ h => ⟨1, rfl, h⟩) fun _ _ h => h) fun M' v h => ?_) fun hb => gv_is (gv_addSt (gv_c rfl) hv (szM (by show 1 + x.length ≤ _; omega))) fun M' v h => ?_) q
    · show Tx (opp x) M' v
      rw [show opp x = _ from if_pos (by simpa using hb)]; exact h
    · show Tx (opp x) M' v
      rw [show opp x = _ from if_neg (by simpa using hb)]; exact h
abbrev s_is_list : Stmt := topS 12
theorem sc_is_list : FnScope ["thing"] ["thing"] (defScope s_is_list) := ⟨rfl, rfl, rfl, by decide +kernel, rfl, by decide +kernel, by decide +kernel⟩
def sp_is_list (K : PySem.W.Frag) : Sp := sp1 (Dd K) (fun _ => True) fun d => Bl (isListD d)
theorem ok_is_list {f : Addr} {fd : FuncData} (F : Fun K "is_list" "is_list" s_is_list f fd) (T : Bi mg) : FnOk P w K mg base CX0 1 f fd ["thing"] (sp_is_list K) := by
  refine F.ok sc_is_list (fun vs H Q E h => ?_) (fun cdv A outer s H vs Q E hr h => ?_)
  · obtain ⟨x, M, v, rfl, _⟩ := h
    rfl
  · obtain ⟨d, M, v, rfl, mh, r1, hp, q⟩ := h
    refine ⟨_, (pss_one (ps_ret (pe_callB call_isiT (by rfl) T.isinstance boot_isinstance (pa_cons (pv 0) (pa_cons (pe_tup (pa_cons (pe_bltn (v := .ty "list") (u := .type "list") (by rfl) T.list (by decide +kernel) rfl) (pa_cons (pe_bltn (v := .ty "tuple") (u := .type "tuple") (by rfl) T.tuple (by decide +kernel) rfl) pa_nil))) pa_nil))))), ?_⟩
    have hv : Gv (tVar 0) (start ["thing"] [v]) M (Dd K d) := gv_var rfl r1
    cases d with
    | list _ => exact s_ret mh (gv_isi2 (b := true) (c := false) hv (by simp only [tyN]; decide +kernel) (by simp only [tyN]; decide +kernel)) q
    | tuple _ => exact s_ret mh (gv_isi2 (b := false) (c := true) hv (by simp only [tyN]; decide +kernel) (by simp only [tyN]; decide +kernel)) q
    | _ => exact s_ret mh (gv_isi2 (b := false) (c := false) hv (by simp only [tyN]; decide +kernel) (by simp only [tyN]; decide +kernel)) q
abbrev s_is_literal : Stmt := topS 18
theorem sc_is_literal : FnScope ["thing", "names"] ["thing", "names"] (defScope s_is_literal) := ⟨rfl, rfl, rfl, by decide +kernel, rfl, by decide +kernel, by decide +kernel⟩
def sp_is_literal (K : PySem.W.Frag) : Sp := sp2 (Dd K) (SqR K Tx) (fun d _ => shortD d) fun d ns => Bl (isLit ns d)
theorem ok_is_literal {f : Addr} {fd : FuncData} (F : Fun K "is_literal" "is_literal" s_is_literal f fd) (T : Bi mg) (c_name_of : Cal P w K mg base 1 "name_of" ["literal"] (sp_name_of K)) : FnOk P w K mg base CX0 2 f fd ["thing", "names"] (sp_is_literal K) := by
  refine F.ok sc_is_literal (fun vs H Q E h => ?_) (fun cdv A outer s H vs Q E hr h => ?_)
  · obtain ⟨x, y, M, v, w, rfl, _⟩ := h
    rfl
  · obtain ⟨d, ns, M, v, w, rfl, mh, r1, r2, hp, q⟩ := h
    have hu := hr.units
    refine ⟨_, (pss_one (ps_ret (pe_and (pe_callB call_isi (by rfl) T.isinstance boot_isinstance (pa_cons (pv 0) (pa_cons (pe_bltn (v := .ty "str") (u := .type "str") (by rfl) T.str (by decide +kernel) rfl) pa_nil))) (pe_one (pe_cmpR (op_inA hu) (pe_f c_name_of (hr.mono (by decide)) (pa_cons (pv 0) pa_nil)) (pv 1) (by rfl)))))), ?_⟩
    have hv : Gv (tVar 0) (start ["thing", "names"] [v, w]) M (Dd K d) := gv_var rfl r1
    cases d with
    | str x =>
      cases r1
      exact s_ret mh (gv_is (gv_andV (gv_isi (b := true) hv (by simp only [tyN]; decide +kernel)) fun _ => gv_inA (K := K) (gv_call1 (gv_var rfl rfl) hp) (gv_var rfl (.inl r2))) fun M' v h => by simpa [isLit] using h) q
    | _ => exact s_ret mh (gv_andV (c := false) (gv_isi (b := false) hv (by simp only [tyN]; decide +kernel)) fun h => nomatch h) q
end
end My

set_option Elab.async false
set_option linter.all false
set_option maxRecDepth 100000
set_option maxHeartbeats 4000000
namespace My
open PySem PySem.Spec PyProof.Rows L2 L3
section
variable {P : Program} {w : World} {K : PySem.W.Frag} {mg : Str → Option Value} {base : Heap}
abbrev s_first_wrong : Stmt := topS 19
theorem sc_first_wrong : FnScope ["things", "names", "met", "index", "thing"] ["things", "names"] (defScope s_first_wrong) := ⟨rfl, rfl, rfl, by decide +kernel, rfl, by decide +kernel, by decide +kernel⟩
def sp_first_wrong (K : PySem.W.Frag) : Sp := sp2 (Dd K) (SqR K Tx) (fun d _ => shortL d) fun d ns => OpN (firstWrong ns d)
theorem lit_shape {ns : List Str} {d : PyData} (h : isLit ns d = true) : ∃ x, d = .str x ∧ nameOf x ∈ ns := by
  cases d with
  | str x => exact ⟨x, rfl, by simpa [isLit] using h⟩
  | _ => exact absurd h (by simp [isLit])
theorem ok_first_wrong {f : Addr} {fd : FuncData} (F : Fun K "first_wrong" "first_wrong" s_first_wrong f fd) (T : Bi mg) (c_is_list : Cal P w K mg base 1 "is_list" ["thing"] (sp_is_list K)) (c_name_of : Cal P w K mg base 1 "name_of" ["literal"] (sp_name_of K))
    (c_is_literal : Cal P w K mg base 2 "is_literal" ["thing", "names"] (sp_is_literal K)) : FnOk P w K mg base CX0 3 f fd ["things", "names"] (sp_first_wrong K) := by
  refine F.ok sc_first_wrong (fun vs H Q E h => ?_) (fun cdv A outer s H vs Q E hr h => ?_)
  · obtain ⟨x, y, M, v, w, rfl, _⟩ := h
    rfl
  · obtain ⟨d, ns, M, v, w, rfl, mh, r1, r2, hp, q⟩ := h
    have hu := hr.units
    refine ⟨_, (pss_cons (ps_if (pt_not (pt_val (pe_f c_is_list (hr.mono (by decide)) (pa_cons (pv 0) pa_nil)))) (pss_one (ps_ret pe_int)) pss_nil)
      (pss_cons (ps_set (i := 2) sc_first_wrong.nd rfl (by first | exact .inl rfl | exact .inr rfl) (pe_lst pa_nil))
      (pss_cons (ps_for PassesOwn.never (by rfl) (pi_en (by rfl) T.enumerate (pa_cons (pv 0) pa_nil)) (pg_tup (by rfl) (pgs_cons (pg_name (i := 3) sc_first_wrong.nd rfl (by first | exact .inl rfl | exact .inr rfl)) (pgs_cons (pg_name (i := 4) sc_first_wrong.nd rfl (by first | exact .inl rfl | exact .inr rfl)) pgs_nil))) (pss_cons (ps_if (PW.pt (pw_or (pt_not (pt_val (pe_f c_is_literal (hr.mono (by decide)) (pa_cons (pv 4) (pa_cons (pv 1) pa_nil))))) (pw_or1 (pt_cmpR (op_inA hu) (pe_f c_name_of (hr.mono (by decide)) (pa_cons (pv 4) pa_nil)) (pv 2) (by rfl))))) (pss_one (ps_ret (pv 3))) pss_nil)
      (pss_one (ps_expr (pe_bm PySem.F.plainAttrs_list PySem.F.slot_list_append PySem.F.type_list_append mt_append (pv 2) (pa_cons (pe_f c_name_of (hr.mono (by decide)) (pa_cons (pv 4) pa_nil)) pa_nil))))))
      (pss_one (ps_ret pe_non))))), ?_⟩
    refine q_if mh (gt_not (gt_B (gv_call1 (gv_var rfl r1) trivial))) (fun hb H1 hh1 => ?_) (fun hb H1 hh1 => ?_)
    all_goals have g1 := Gr.idle mh hh1
    · refine s_ret g1.mh (P := It' 0) (gv_c rfl) fun v M' H' g r => q v M' H' (g1.trans g) ?_
      have : firstWrong ns d = some 0 := by
        cases d with
        | list _ => simp [isListD] at hb
        | tuple _ => simp [isListD] at hb
        | _ => rfl
      show v = match firstWrong ns d with | none => V.non | some i => V.int (i : Nat)
      rw [this]
      exact r
    · obtain ⟨ds, sq, efw, hlen, hsh⟩ : ∃ ds, SqR K (Dd K) ds M v ∧ firstWrong ns d = fwGo ns ds [] 0 ∧ ds.length ≤ 1000000 ∧ ∀ d ∈ ds, shortD d := by
        cases d with
        | list ds => exact ⟨ds, dp_sqL r1, rfl, hp.1, hp.2⟩
        | tuple ds => exact ⟨ds, dp_sqT r1, rfl, hp.1, hp.2⟩
        | _ => simp [isListD] at hb
      refine q_asgL g1.mh gl_nil fun p vs M2 H2 g2 h0 m0 hp2 hv => ?_
      subst hv
      have g02 := g1.trans g2
      refine q_forE (R1 := Dd K) (xs := ds) g2.mh (gv_var rfl (Mon.mono g02.mm sq))
        (fun M1' i σ' M' H' => ∃ y3 y4, Gr M H M' H' ∧ Same M1' M' ∧ Same M M' ∧ Own H M' H' p ((((ds.take i).map nameD)).map V.str) ∧ σ' = [some v, some w, some (.ref p), y3, y4] ∧ fwGo ns ds [] 0 = fwGo ns (ds.drop i) ((ds.take i).map nameD) i)
        (fun M3 H3 g3 => ⟨none, none, g02.trans g3, Same.refl _, (g02.trans g3).mm, Own.step ⟨g1.hh.free h0, m0, hp2⟩ g3, rfl, rfl⟩)
        (fun M3 i σ' M' H' ⟨_, _, g, s1, _⟩ => ⟨s1, g.mh⟩) ?_ ?_
      · rintro M3 i x v' σ' M' H' H'' sM hx ⟨y3, y4, g, s1, s2, ow, rfl, efw2⟩ gE rx
        have hxm : x ∈ ds := List.mem_of_getElem? hx
        have hil : i < ds.length := (List.getElem?_eq_some_iff.mp hx).1
        have g' := g.trans gE
        have ow' := ow.step gE
        have r2' : SqR K Tx ns M' w := Mon.mono s2 r2
        have et : ds.take (i + 1) = ds.take i ++ [x] := by rw [List.take_add_one, hx]; rfl
        have ed : ds.drop i = x :: ds.drop (i + 1) := by rw [List.drop_eq_getElem_cons hil]; congr 1; exact (List.getElem?_eq_some_iff.mp hx).2
        have up := ow'.up
        have pd := pd_of_tx (M := M') ((ds.take i).map nameD)
        refine q_if (ow'.fr g'.mh) (gt_or (c := decide (nameD x ∈ (ds.take i).map nameD)) (gt_not (gt_B (gv_call2 (R1 := Dd K) (R2 := SqR K Tx) (gv_var rfl (Mon.mono up rx)) (gv_var rfl (Mon.mono up r2')) (hsh x hxm)))) fun hl => ?_) (fun hb H4 hh4 => ?_) (fun hb H4 hh4 => ?_)
        · obtain ⟨y, rfl, _⟩ := lit_shape (d := x) (ns := ns) (by simpa using hl)
          cases rx
          exact gt_is (gt_test (gv_inA (K := K) (gv_call1 (gv_var rfl rfl) (hsh _ hxm)) (gv_var rfl (.inl (.inl (ow'.lst pd)))))) (by simp [nameD])
        · refine s_ret (P := It' (i : Nat)) (g'.mh.trans hh4) (gv_var rfl rfl) fun v5 M5 H5 g5 r5 => q v5 M5 H5 ((g'.trans (.idle g'.mh hh4)).trans g5) ?_
          show v5 = match firstWrong ns d with | none => V.non | some i => V.int (i : Nat)
          rw [efw, efw2, ed, fwGo, if_pos (by simpa using hb)]
          exact r5
        · obtain ⟨hb1, hb2⟩ : isLit ns x = true ∧ ¬ nameD x ∈ (ds.take i).map nameD := by simpa using hb
          obtain ⟨y, rfl, _⟩ := lit_shape hb1
          cases rx
          have g4 := g'.trans (.idle g'.mh hh4)
          have ow4 := ow'.idle hh4
          refine s_app (P := Tx (nameOf y)) g4.mh rfl ow4.h (szL (by simp; omega)) (gv_call1 (gv_var rfl rfl) (hsh _ hxm)) fun v5 M5 H5 g5 r5 => ?_
          cases r5
          have ow5 := ow4.step g5
          refine ⟨M5, _, _, (g4.trans g5).mut ow5.h0 ow5.m, s1.trans g5.mm, s2.trans g5.mm, ?_, rfl, ?_⟩
          · rw [et, List.map_append, List.map_append]
            exact ow5.put
          · rw [efw2, ed, fwGo, if_neg (by simpa using hb), et, List.map_append]
            rfl
      · rintro M3 σ' M' H' sM ⟨y3, y4, g, s1, s2, ow, rfl, efw2⟩
        refine s_ret g.mh (P := fun _ v => v = .non) (gv_c rfl) fun v M' H' g3 r => q v M' H' (g.trans g3) ?_
        show v = match firstWrong ns d with | none => V.non | some i => V.int (i : Nat)
        rw [efw, efw2, List.drop_length]
        exact r
end
end My

set_option Elab.async false
set_option linter.all false
set_option maxRecDepth 100000
set_option maxHeartbeats 4000000
namespace My
open PySem PySem.Spec PyProof.Rows L2 L3
section
variable {P : Program} {w : World} {K : PySem.W.Frag} {mg : Str → Option Value} {base : Heap}
def Shorts (ns : List Str) : Prop := ns.length ≤ 1000 ∧ ∀ n ∈ ns, n.length ≤ 900
abbrev s_ascending : Stmt := topS 20
theorem sc_ascending : FnScope ["literals", "names", "found", "name", "literal"] ["literals", "names"] (defScope s_ascending) := ⟨rfl, rfl, rfl, by decide +kernel, rfl, by decide +kernel, by decide +kernel⟩
def sp_ascending (K : PySem.W.Frag) : Sp := sp2 (CtR K) (SqR K Tx) (fun _ ns => Shorts ns) fun ls ns => TT (asc ls ns)
theorem asc_len (ls : List Str) : ∀ ns : List Str, (asc ls ns).length ≤ 2 * ns.length
  | [] => Nat.le_refl _
  | n :: ns => by
    have ih := asc_len ls ns
    have h2 := List.length_filter_le (fun l => decide (l ∈ ls)) [n, ("-" : Str) ++ n]
    unfold asc at ih ⊢
    rw [List.flatMap_cons, List.length_append, List.length_cons]
    simp only [List.length_cons, List.length_nil] at h2
    omega
theorem ok_ascending {f : Addr} {fd : FuncData} (F : Fun K "ascending" "ascending" s_ascending f fd) (T : Bi mg) : FnOk P w K mg base CX0 1 f fd ["literals", "names"] (sp_ascending K) := by
  refine F.ok sc_ascending (fun vs H Q E h => ?_) (fun cdv A outer s H vs Q E hr h => ?_)
  · obtain ⟨x, y, M, v, w, rfl, _⟩ := h
    rfl
  · obtain ⟨ls, ns, M, v, w, rfl, mh, r1, r2, hp, q⟩ := h
    have hu := hr.units
    refine ⟨_, (pss_cons (ps_set (i := 2) sc_ascending.nd rfl (by first | exact .inl rfl | exact .inr rfl) (pe_lst pa_nil))
      (pss_cons (ps_for PassesOwn.never (by rfl) (pi_sq (pv 1)) (pg_name (i := 3) sc_ascending.nd rfl (by first | exact .inl rfl | exact .inr rfl)) (pss_one (ps_expr (pe_bm PySem.F.plainAttrs_list PySem.F.slot_list_extend PySem.F.type_list_extend mt_extend (pv 2) (pa_cons (pe_lc (own := [("literal", 4)]) (g := (gName 4)) (tt := (tTest (tOp (rInA K false) (tVar 4) (tVar 0)))) (te := (tVar 4)) (by rfl) sc_ascending.nd (pi_sq (pe_tup (pa_cons (pv 3) (pa_cons (pe_op op_addA pe_str (pv 3)) pa_nil)))) (blkOk_by (by rfl)) (fun _ _ _ _ _ => (pg_name (i := 4) sc_ascending.nd rfl (by first | exact .inl rfl | exact .inr rfl))) (fun _ _ _ _ _ => (pts_one (pt_cmpR (op_inA hu) (pv 4) (pv 0) (by rfl)))) (fun _ _ _ _ _ => (pv 4))) pa_nil)))))
      (pss_one (ps_ret (pe_callTy call_tupA (by rfl) T.tuple boot_tuple (pa_cons (pv 2) pa_nil)))))), ?_⟩
    refine q_asgL mh gl_nil fun p vs M2 H2 g2 h0 m0 hp2 hv => ?_
    subst hv
    refine q_for (R1 := Tx) (xs := ns) g2.mh (gv_var rfl (Mon.mono g2.mm r2))
      (fun M1' i σ' M' H' => ∃ y3 y4, Gr M H M' H' ∧ Same M1' M' ∧ Same M M' ∧ Own H M' H' p ((asc ls (ns.take i)).map V.str) ∧ σ' = [some v, some w, some (.ref p), y3, y4])
      (fun M3 H3 g3 => ⟨none, none, g2.trans g3, Same.refl _, (g2.trans g3).mm, Own.step ⟨h0, m0, hp2⟩ g3, rfl⟩)
      (fun M3 i σ' M' H' ⟨_, _, g, s1, _⟩ => ⟨s1, g.mh⟩) ?_ ?_
    · rintro M3 i n v' σ' M' H' sM hx ⟨y3, y4, g, s1, s2, ow, rfl⟩ rx
      cases rx
      have hn : n.length ≤ 900 := hp.2 n (List.mem_of_getElem? hx)
      have hil : i < ns.length := (List.getElem?_eq_some_iff.mp hx).1
      have et : ns.take (i + 1) = ns.take i ++ [n] := by rw [List.take_add_one, hx]; rfl
      refine s_ext g.mh rfl ow.h (gl_lc (R := Tx) (S := Tx) (gv_is (gv_tup2 (K := K) (gv_var rfl rfl) (gv_addSt (gv_c rfl) (gv_var rfl rfl) (szM (by show 1 + n.length ≤ _; omega)))) fun _ _ h => .inr h) (by show 2 ≤ sizeLine; decide) (fun l => decide (l ∈ ls)) id
        (fun l _ M1 vl sm hl => gt_is (gt_test (gv_inA (K := K) (gv_var rfl hl) (gv_var rfl (Mon.mono (s2.trans sm) r1)))) (by simp)) (fun l _ _ M1 vl sm hl => gv_var rfl hl)) (fun M4 ws h => ?_) fun ws M4 H4 g4 h => ?_
      · have l1 := h.length
        have l2 := asc_len ls (ns.take i)
        have l3 := List.length_filter_le (fun l => decide (l ∈ ls)) [n, ("-" : Str) ++ n]
        have l4 := hp.1
        rw [List.length_map] at l1 ⊢
        rw [List.length_take] at l2
        simp only [List.length_cons, List.length_nil] at l3
        exact szM (by omega)
      · have e4 := pd_tx h
        subst e4
        have ow4 := ow.step g4
        refine ⟨M4, _, _, (g.trans g4).mut ow4.h0 ow4.m, s1.trans g4.mm, s2.trans g4.mm, ?_, rfl⟩
        have e5 : asc ls (ns.take (i + 1)) = asc ls (ns.take i) ++ ([n, ("-" : Str) ++ n].filter fun l => decide (l ∈ ls)).map id := by
          rw [et, List.map_id]; unfold asc; rw [List.flatMap_append]; simp
        rw [e5, List.map_append]
        exact ow4.put
    · rintro M3 σ' M' H' sM ⟨y3, y4, g, s1, s2, ow, rfl⟩
      rw [List.take_length] at ow
      exact s_retTup g.mh rfl ow.h fun l nl => q _ _ _ (g.trans (.new g.mh nl)) (TT.new _)
end
end My

set_option Elab.async false
set_option linter.all false
set_option maxRecDepth 100000
set_option maxHeartbeats 4000000
namespace My
open PySem PySem.Spec PyProof.Rows L2 L3
def g_LETTERS : Str := "abcdefghijklmnopqrstuvwxyz"
structure Gb (mg : Str → Option Value) : Prop extends Bi mg where
  g_LETTERS : ∃ t, mg "LETTERS" = some (.str My.g_LETTERS t)
def isNm (x : Str) : Bool := decide (1 ≤ x.length) && decide (x.length ≤ 8) && x.cps.toList.all fun c => decide (c ∈ g_LETTERS.cps.toList)
def isNmD : PyData → Bool
  | .str x => isNm x | _ => false
section
variable {P : Program} {w : World} {K : PySem.W.Frag} {mg : Str → Option Value} {base : Heap}
abbrev s_is_name : Stmt := topS 13
theorem sc_is_name : FnScope ["thing", "sign"] ["thing"] (defScope s_is_name) := ⟨rfl, rfl, rfl, by decide +kernel, rfl, by decide +kernel, by decide +kernel⟩
def sp_is_name (K : PySem.W.Frag) : Sp := sp1 (Dd K) (fun d => shortD d) fun d => Bl (isNmD d)
theorem ok_is_name {f : Addr} {fd : FuncData} (F : Fun K "is_name" "is_name" s_is_name f fd) (T : Gb mg) : FnOk P w K mg base CX0 1 f fd ["thing"] (sp_is_name K) := by
  refine F.ok sc_is_name (fun vs H Q E h => ?_) (fun cdv A outer s H vs Q E hr h => ?_)
  · obtain ⟨x, M, v, rfl, _⟩ := h
    rfl
  · obtain ⟨d, M, v, rfl, mh, r1, hp, q⟩ := h
    have hu := hr.units
    obtain ⟨tk, hL⟩ := T.g_LETTERS
    refine ⟨_, (pss_one (ps_ret (pe_and (pe_callB call_isi (by rfl) T.isinstance boot_isinstance (pa_cons (pv 0) (pa_cons (pe_bltn (v := .ty "str") (u := .type "str") (by rfl) T.str (by decide +kernel) rfl) pa_nil))) (pe_and (pe_chain op_le op_le pe_int (pe_callB call_lenA (by rfl) T.len boot_len (pa_cons (pv 0) pa_nil)) pe_int) (pe_one (pe_callB (cr_all rfl) (by rfl) T.all boot_all (pa_cons (pe_lc (own := [("sign", 1)]) (g := (gName 1)) (tt := tYes) (te := (tOp (rInA K false) (tVar 1) (tC (.str g_LETTERS)))) (by rfl) sc_is_name.nd (pi_str (pv 0)) (blkOk_by (by rfl)) (fun _ _ _ _ _ => (pg_name (i := 1) sc_is_name.nd rfl (by first | exact .inl rfl | exact .inr rfl))) (fun _ _ _ _ _ => pts_nil) (fun _ _ _ _ _ => (pe_cmpR (op_inA hu) (pv 1) (pe_glob (by rfl) hL ⟨_, rfl⟩) (by rfl)))) pa_nil))))))), ?_⟩
    have hv : Gv (tVar 0) (start ["thing", "sign"] [v]) M (Dd K d) := gv_var rfl r1
    cases d with
    | str x =>
      cases r1
      have hx : Gv (tVar 0) (start ["thing", "sign"] [.str x]) M (Tx x) := gv_var rfl rfl
      refine s_ret mh (gv_is (gv_andV (gv_isi (b := true) hv (by simp only [tyN]; decide +kernel)) fun _ => gv_andV (gv_chain (gv_c rfl) (gv_lenS (K := K) hx (sz1000 hp)) (gv_c rfl)) fun hb => gv_all (K := K)
        (gl_m1 (S := Bl) (gi_str hx) ?_ (fun c => decide (c ∈ g_LETTERS.cps.toList)) fun c _ M1 v sm r => gv_is (gv_sgn (K := K) (c := c) (gv_var rfl r) (gv_c rfl)) fun M' v h => by simpa using h)) fun M' v h => ?_) q
      · exact sz1000 (by rw [Array.length_toList]; exact hp)
      · show v = .bl (isNm x)
        rw [show v = _ from h]
        have e1 : ∀ n : Nat, decide ((1 : Int) ≤ (n : Int)) = decide (1 ≤ n) := fun n => by simp only [decide_eq_decide]; omega
        have e2 : ∀ n : Nat, decide ((n : Int) ≤ 8) = decide (n ≤ 8) := fun n => by simp only [decide_eq_decide]; omega
        simp only [isNm, List.all_map, Bool.true_and, e1, e2]
        rfl
    | _ => exact s_ret mh (gv_andV (c := false) (gv_isi (b := false) hv (by simp only [tyN]; decide +kernel)) fun h => nomatch h) q
abbrev s_checked_names : Stmt := topS 14
theorem sc_checked_names : FnScope ["things", "known", "found", "index", "thing"] ["things", "known"] (defScope s_checked_names) := ⟨rfl, rfl, rfl, by decide +kernel, rfl, by decide +kernel, by decide +kernel⟩
/-- names, no one twice, none known -/
def NamesOk (xs known : List Str) : Prop := xs.Nodup ∧ (∀ x ∈ xs, isNm x = true ∧ x ∉ known) ∧ xs.length ≤ 1000
theorem isNm_len {x : Str} (h : isNm x = true) : x.length ≤ 8 := by
  simp only [isNm, Bool.and_eq_true, decide_eq_true_eq] at h
  exact h.1.2
def sp_checked_names (K : PySem.W.Frag) : Sp := sp2 (SqR K Tx) (SqR K Tx) (fun xs known => NamesOk xs known) fun xs _ => TT xs
theorem ok_checked_names {f : Addr} {fd : FuncData} (F : Fun K "checked_names" "checked_names" s_checked_names f fd) (T : Gb mg) (c_is_name : Cal P w K mg base 1 "is_name" ["thing"] (sp_is_name K)) : FnOk P w K mg base CX0 2 f fd ["things", "known"] (sp_checked_names K) := by
  refine F.ok sc_checked_names (fun vs H Q E h => ?_) (fun cdv A outer s H vs Q E hr h => ?_)
  · obtain ⟨x, y, M, v, w, rfl, _⟩ := h
    rfl
  · obtain ⟨xs, kn, M, v, w, rfl, mh, r1, r2, hp, q⟩ := h
    have hu := hr.units
    refine ⟨_, (pss_cons (ps_set (i := 2) sc_checked_names.nd rfl (by first | exact .inl rfl | exact .inr rfl) (pe_lst pa_nil))
      (pss_cons (ps_for PassesOwn.never (by rfl) (pi_en (by rfl) T.enumerate (pa_cons (pv 0) pa_nil)) (pg_tup (by rfl) (pgs_cons (pg_name (i := 3) sc_checked_names.nd rfl (by first | exact .inl rfl | exact .inr rfl)) (pgs_cons (pg_name (i := 4) sc_checked_names.nd rfl (by first | exact .inl rfl | exact .inr rfl)) pgs_nil))) (pss_cons (ps_if (PW.pt (pw_or (pt_not (pt_val (pe_f c_is_name (hr.mono (by decide)) (pa_cons (pv 4) pa_nil)))) (pw_or (pt_cmpR (op_inA hu) (pv 4) (pv 2) (by rfl)) (pw_or1 (pt_cmpR (op_inA hu) (pv 4) (pv 1) (by rfl)))))) (pss_one ps_never) pss_nil)
      (pss_one (ps_expr (pe_bm PySem.F.plainAttrs_list PySem.F.slot_list_append PySem.F.type_list_append mt_append (pv 2) (pa_cons (pv 4) pa_nil))))))
      (pss_one (ps_ret (pe_callTy call_tupA (by rfl) T.tuple boot_tuple (pa_cons (pv 2) pa_nil)))))), ?_⟩
    obtain ⟨nd, ok, hl⟩ := hp
    refine q_asgL mh gl_nil fun p vs M2 H2 g2 h0 m0 hp2 hv => ?_
    subst hv
    refine q_forE (R1 := Tx) (xs := xs) g2.mh (gv_var rfl (Mon.mono g2.mm r1))
      (fun M1' i σ' M' H' => ∃ y3 y4, Gr M H M' H' ∧ Same M1' M' ∧ Same M M' ∧ Own H M' H' p ((xs.take i).map V.str) ∧ σ' = [some v, some w, some (.ref p), y3, y4])
      (fun M3 H3 g3 => ⟨none, none, g2.trans g3, Same.refl _, (g2.trans g3).mm, Own.step ⟨h0, m0, hp2⟩ g3, rfl⟩)
      (fun M3 i σ' M' H' ⟨_, _, g, s1, _⟩ => ⟨s1, g.mh⟩) ?_ ?_
    · rintro M3 i x v' σ' M' H' H'' sM hx ⟨y3, y4, g, s1, s2, ow, rfl⟩ gE rx
      cases rx
      have hxm : x ∈ xs := List.mem_of_getElem? hx
      have hil : i < xs.length := (List.getElem?_eq_some_iff.mp hx).1
      have et : xs.take (i + 1) = xs.take i ++ [x] := by rw [List.take_add_one, hx]; rfl
      have hnt : x ∉ xs.take i := fun hm => by
        obtain ⟨k, hk, ek⟩ := List.mem_take_iff_getElem.mp hm
        have e2 := (List.getElem?_eq_some_iff.mp hx).2
        have := (List.getElem_inj nd).mp (ek.trans e2.symm)
        omega
      have g' := g.trans gE
      have ow' := ow.step gE
      have up := ow'.up
      refine q_if (ow'.fr g'.mh) (b := false) (gt_is (gt_or (c := false) (gt_not (gt_B (gv_call1 (R1 := Dd K) (x := .str x) (gv_var rfl (.str x)) (Nat.le_trans (isNm_len (ok x hxm).1) (by decide))))) fun _ => gt_is (gt_or (c := false)
          (gt_test (gv_inA (K := K) (gv_var rfl rfl) (gv_var rfl (.inl (.inl (ow'.lst (pd_of_tx _))))))) fun _ => gt_is (gt_test (gv_inA (K := K) (gv_var rfl rfl) (gv_var rfl (.inl (Mon.mono (s2.trans up) r2))))) (by simp [(ok x hxm).2])) (by simp [hnt])) (by simp [isNmD, (ok x hxm).1]))
        (fun hb => nomatch hb) (fun _ H4 hh4 => ?_)
      have g4 := g'.trans (.idle g'.mh hh4)
      have ow4 := ow'.idle hh4
      refine s_app (P := Tx x) g4.mh rfl ow4.h (szL (by simp; omega)) (gv_var rfl rfl) fun v5 M5 H5 g5 r5 => ?_
      cases r5
      have ow5 := ow4.step g5
      refine ⟨M5, _, _, (g4.trans g5).mut ow5.h0 ow5.m, s1.trans g5.mm, s2.trans g5.mm, ?_, rfl⟩
      rw [et, List.map_append]
      exact ow5.put
    · rintro M3 σ' M' H' sM ⟨y3, y4, g, s1, s2, ow, rfl⟩
      rw [List.take_length] at ow
      exact s_retTup g.mh rfl ow.h fun l nl => q _ _ _ (g.trans (.new g.mh nl)) (TT.new _)
end
end My

set_option Elab.async false
set_option linter.all false
set_option maxRecDepth 100000
set_option maxHeartbeats 4000000
namespace My
open PySem PySem.Spec PyProof.Rows L2 L3
/-- a code: signs, helpers, clauses -/
structure CodeD where
  signs : List Str
  helpers : List Str
  clauses : List (List Str)
def CodeD.names (c : CodeD) : List Str := c.signs ++ c.helpers
def codeF (va vb vn vc : V) : List (Str × V) := putF "clause_row" vc (putF "names" vn (putF "helper_row" vb (putF "sign_row" va [])))
def CodeR (C : Addr) : Rl CodeD := fun c M v => ∃ a dx va vb vn vc, v = .ref a ∧ M a = some (.ins C dx (codeF va vb vn vc)) ∧ TT c.signs M va ∧ TT c.helpers M vb ∧ TT c.names M vn ∧ TuR TT c.clauses M vc
instance {C : Addr} : Mon (CodeR C) := ⟨fun e ⟨a, dx, va, vb, vn, vc, h1, h2, h3, h4, h5, h6⟩ => ⟨a, dx, va, vb, vn, vc, h1, e _ _ h2, Mon.mono e h3, Mon.mono e h4, Mon.mono e h5, Mon.mono e h6⟩⟩
/-- the class as the top has made it -/
structure CodeT (K : PySem.W.Frag) (mg : Str → Option Value) (C : Addr) : Prop where
  cl : Cls K C
  nS : NoAttr K C "sign_row"
  nH : NoAttr K C "helper_row"
  nN : NoAttr K C "names"
  nC : NoAttr K C "clause_row"
def mkCode (ss hs : List Str) (cs : List (List Str)) : CodeD := ⟨ss, hs, once (cs.map fun c => asc c (ss ++ hs))⟩
theorem codeF_sign (va vb vn vc : V) : (codeF va vb vn vc).lookup ("sign_row" : Str) = some va := by
  unfold codeF
  rw [lookup_putF, if_neg (by decide +kernel), lookup_putF, if_neg (by decide +kernel), lookup_putF, if_neg (by decide +kernel), lookup_putF, if_pos rfl]
theorem codeF_helper (va vb vn vc : V) : (codeF va vb vn vc).lookup ("helper_row" : Str) = some vb := by
  unfold codeF
  rw [lookup_putF, if_neg (by decide +kernel), lookup_putF, if_neg (by decide +kernel), lookup_putF, if_pos rfl]
theorem codeF_names (va vb vn vc : V) : (codeF va vb vn vc).lookup ("names" : Str) = some vn := by
  unfold codeF
  rw [lookup_putF, if_neg (by decide +kernel), lookup_putF, if_pos rfl]
theorem codeF_clause (va vb vn vc : V) : (codeF va vb vn vc).lookup ("clause_row" : Str) = some vc := by
  unfold codeF
  rw [lookup_putF, if_pos rfl]
section
variable {K : PySem.W.Frag} {mg : Str → Option Value} {σ : Sl} {M : Hp} {te : TE} {C : Addr} {c : CodeD}
theorem gv_sign (T : CodeT K mg C) (h : Gv te σ M (CodeR C c)) : Gv (tFld K te "sign_row") σ M (TT c.signs) := gv_fld h fun M' v ⟨a, dx, va, vb, vn, vc, h1, h2, h3, h4, h5, h6⟩ => ⟨a, C, dx, _, va, h1, h2, T.cl, T.nS, codeF_sign .., h3⟩
theorem gv_helper (T : CodeT K mg C) (h : Gv te σ M (CodeR C c)) : Gv (tFld K te "helper_row") σ M (TT c.helpers) := gv_fld h fun M' v ⟨a, dx, va, vb, vn, vc, h1, h2, h3, h4, h5, h6⟩ => ⟨a, C, dx, _, vb, h1, h2, T.cl, T.nH, codeF_helper .., h4⟩
theorem gv_names (T : CodeT K mg C) (h : Gv te σ M (CodeR C c)) : Gv (tFld K te "names") σ M (TT c.names) := gv_fld h fun M' v ⟨a, dx, va, vb, vn, vc, h1, h2, h3, h4, h5, h6⟩ => ⟨a, C, dx, _, vn, h1, h2, T.cl, T.nN, codeF_names .., h5⟩
theorem gv_clause (T : CodeT K mg C) (h : Gv te σ M (CodeR C c)) : Gv (tFld K te "clause_row") σ M (TuR TT c.clauses) := gv_fld h fun M' v ⟨a, dx, va, vb, vn, vc, h1, h2, h3, h4, h5, h6⟩ => ⟨a, C, dx, _, vc, h1, h2, T.cl, T.nC, codeF_clause .., h6⟩
end
section
variable {P : Program} {w : World} {K : PySem.W.Frag} {mg : Str → Option Value} {base : Heap}
def ClOk (ns c : List Str) : Prop := fwGo ns (c.map PyData.str) [] 0 = none ∧ c.length ≤ 1000000 ∧ ∀ l ∈ c, l.length ≤ 1000
theorem cl_d {ns c : List Str} {M : Hp} {v : V} (h : SqR K Tx c M v) (ok : ClOk ns c) : ∃ d, Dp K M v d ∧ shortL d ∧ firstWrong ns d = none := by
  have hs : ∀ d ∈ c.map PyData.str, shortD d := fun d hd => by
    obtain ⟨l, hl, rfl⟩ := List.mem_map.mp hd
    exact ok.2.2 l hl
  rcases h with h | h
  · exact ⟨_, py_lst py_str _ _ _ h, ⟨by rw [List.length_map]; exact ok.2.1, hs⟩, ok.1⟩
  · exact ⟨_, py_tup py_str _ _ _ h, ⟨by rw [List.length_map]; exact ok.2.1, hs⟩, ok.1⟩
abbrev s_checked_clauses : Stmt := topS 36
theorem sc_checked_clauses : FnScope ["clauses", "names", "found", "index", "thing"] ["clauses", "names"] (defScope s_checked_clauses) := ⟨rfl, rfl, rfl, by decide +kernel, rfl, by decide +kernel, by decide +kernel⟩
def sp_checked_clauses (K : PySem.W.Frag) : Sp := sl2 (SqR K (SqR K Tx)) (SqR K Tx) (fun cs ns => Shorts ns ∧ cs.length ≤ 1000000 ∧ ∀ c ∈ cs, ClOk ns c) fun cs ns M ws => Pd TT M (cs.map fun c => asc c ns) ws
theorem ok_checked_clauses {f : Addr} {fd : FuncData} (F : Fun K "checked_clauses" "checked_clauses" s_checked_clauses f fd) (T : Gb mg) (c_first_wrong : Cal P w K mg base 3 "first_wrong" ["things", "names"] (sp_first_wrong K)) (c_ascending : Cal P w K mg base 1 "ascending" ["literals", "names"] (sp_ascending K)) :
    FnOk P w K mg base CX0 4 f fd ["clauses", "names"] (sp_checked_clauses K) := by
  refine F.ok sc_checked_clauses (fun vs H Q E h => ?_) (fun cdv A outer s H vs Q E hr h => ?_)
  · obtain ⟨x, y, M, v, w, rfl, _⟩ := h
    rfl
  · obtain ⟨cs, ns, M, v, w, rfl, mh, r1, r2, ⟨hsh, hcl, hok⟩, q⟩ := h
    have hu := hr.units
    refine ⟨_, (pss_cons (ps_set (i := 2) sc_checked_clauses.nd rfl (by first | exact .inl rfl | exact .inr rfl) (pe_lst pa_nil))
      (pss_cons (ps_for PassesOwn.never (by rfl) (pi_en (by rfl) T.enumerate (pa_cons (pv 0) pa_nil)) (pg_tup (by rfl) (pgs_cons (pg_name (i := 3) sc_checked_clauses.nd rfl (by first | exact .inl rfl | exact .inr rfl)) (pgs_cons (pg_name (i := 4) sc_checked_clauses.nd rfl (by first | exact .inl rfl | exact .inr rfl)) pgs_nil))) (pss_cons (ps_if (pt_cmp (pc_notN (pe_f c_first_wrong (hr.mono (by decide)) (pa_cons (pv 4) (pa_cons (pv 1) pa_nil))))) (pss_one ps_never) pss_nil)
      (pss_one (ps_expr (pe_bm PySem.F.plainAttrs_list PySem.F.slot_list_append PySem.F.type_list_append mt_append (pv 2) (pa_cons (pe_f c_ascending (hr.mono (by decide)) (pa_cons (pv 4) (pa_cons (pv 1) pa_nil))) pa_nil))))))
      (pss_one (ps_ret (pv 2))))), ?_⟩
    refine q_asgL mh gl_nil fun p vs M2 H2 g2 h0 m0 hp2 hv => ?_
    subst hv
    refine q_forE (R1 := SqR K Tx) (xs := cs) g2.mh (gv_var rfl (Mon.mono g2.mm r1))
      (fun M1' i σ' M' H' => ∃ y3 y4 ws, Gr M H M' H' ∧ Same M1' M' ∧ Same M M' ∧ Own H M' H' p ws ∧ Pd TT M' ((cs.take i).map fun c => asc c ns) ws ∧ σ' = [some v, some w, some (.ref p), y3, y4])
      (fun M3 H3 g3 => ⟨none, none, [], g2.trans g3, Same.refl _, (g2.trans g3).mm, Own.step ⟨h0, m0, hp2⟩ g3, .nil, rfl⟩)
      (fun M3 i σ' M' H' ⟨_, _, _, g, s1, _⟩ => ⟨s1, g.mh⟩) ?_ ?_
    · rintro M3 i c v' σ' M' H' H'' sM hx ⟨y3, y4, ws, g, s1, s2, ow, hpd, rfl⟩ gE rx
      have hxm : c ∈ cs := List.mem_of_getElem? hx
      have hil : i < cs.length := (List.getElem?_eq_some_iff.mp hx).1
      have et : cs.take (i + 1) = cs.take i ++ [c] := by rw [List.take_add_one, hx]; rfl
      obtain ⟨d, hd, hshd, hfw⟩ := cl_d rx (hok c hxm)
      have g' := g.trans gE
      have ow' := ow.step gE
      have r2' : SqR K Tx ns M' w := Mon.mono s2 r2
      refine q_if g'.mh (b := false) (gt_B (gv_is (gv_notN (b := true) (gv_call2 (R1 := Dd K) (R2 := SqR K Tx) (gv_var rfl hd) (gv_var rfl r2') hshd) fun M4 v4 h4 => ?_) fun _ _ h => h)) (fun hb => nomatch hb) (fun _ H4 hh4 => ?_)
      · have h4' : v4 = match firstWrong ns d with | none => V.non | some i => V.int (i : Nat) := h4
        rw [hfw] at h4'
        rw [h4']
        rfl
      · have g4 := g'.trans (.idle g'.mh hh4)
        have ow4 := ow'.idle hh4
        have hwl : ws.length = i := by rw [← hpd.length, List.length_map, List.length_take]; omega
        refine s_app (P := TT (asc c ns)) g4.mh rfl ow4.h (szL (by omega)) (gv_call2 (R1 := CtR K) (R2 := SqR K Tx) (gv_var rfl (.inl rx)) (gv_var rfl r2') hsh) fun v5 M5 H5 g5 r5 => ?_
        have ow5 := ow4.step g5
        refine ⟨M5, _, _, ws ++ [v5], (g4.trans g5).mut ow5.h0 ow5.m, s1.trans g5.mm, s2.trans g5.mm, ow5.put, ?_, rfl⟩
        rw [et, List.map_append]
        exact pd_app (hpd.mono g5.mm) (.cons r5 .nil)
    · rintro M3 σ' M' H' sM ⟨y3, y4, ws, g, s1, s2, ow, hpd, rfl⟩
      rw [List.take_length] at hpd
      exact ⟨.ref p, rfl, q p ws M' H' g ow.h0 ow.m ow.h hpd⟩
abbrev s_Code_init : Stmt := inClass (topS 37) 0
theorem sc_Code_init : FnScope ["self", "signs", "clauses", "helpers", "clause"] ["self", "signs", "clauses", "helpers"] (defScope s_Code_init) := ⟨rfl, rfl, rfl, by decide +kernel, rfl, by decide +kernel, by decide +kernel⟩
/-- names and clauses that a code takes -/
structure CodeOk (ss hs : List Str) (cs : List (List Str)) : Prop where
  s : NamesOk ss []
  h : NamesOk hs ss
  n : cs.length ≤ 1000000
  c : ∀ c ∈ cs, ClOk (ss ++ hs) c
  k : (ss ++ hs).length ≤ 1000
def sp_Code_init (K : PySem.W.Frag) (C : Addr) : Sp := fun vs H Q _ => ∃ ss hs cs M Hb x dx v1 v2 v3, vs = [.ref x, v1, v2, v3] ∧ Gr M Hb M H ∧ Hb x = none ∧ M x = none ∧ H x = some (.ins C dx []) ∧
  SqR K Tx ss M v1 ∧ SqR K (SqR K Tx) cs M v2 ∧ SqR K Tx hs M v3 ∧ CodeOk ss hs cs ∧ ∀ M' H', Gr M Hb M' H' → CodeR C (mkCode ss hs cs) M' (.ref x) → Q .non H'
theorem ok_Code_init {f C : Addr} {fd : FuncData} {dvs : List V} (F : FunD K "__init__" "Code.__init__" (defArgs s_Code_init) (defBody s_Code_init) (defScope s_Code_init) dvs [] f fd) (T : Gb mg) (TC : CodeT K mg C) (c_checked_names : Cal P w K mg base 2 "checked_names" ["things", "known"] (sp_checked_names K)) (c_checked_clauses : Cal P w K mg base 4 "checked_clauses" ["clauses", "names"] (sp_checked_clauses K)) :
    FnOk P w K mg base CX0 5 f fd ["self", "signs", "clauses", "helpers"] (sp_Code_init K C) := by
  refine funD_ok F sc_Code_init (fun vs H Q E h => ?_) (fun cdv A outer s H vs Q E hr h => ?_)
  · obtain ⟨_, _, _, _, _, _, _, _, _, _, rfl, _⟩ := h
    rfl
  · obtain ⟨ss, hs, cs, M, Hb, x, dx, v1, v2, v3, rfl, g0, hb, hm, hx, r1, r2, r3, ok, q⟩ := h
    have hu := hr.units
    refine ⟨_, (pss_cons (ps_fld (pv 0) (pe_f c_checked_names (hr.mono (by decide)) (pa_cons (pv 1) (pa_cons (pe_tup pa_nil) pa_nil))) rfl)
      (pss_cons (ps_fld (pv 0) (pe_f c_checked_names (hr.mono (by decide)) (pa_cons (pv 3) (pa_cons (pe_fld (pv 0) rfl) pa_nil))) rfl)
      (pss_cons (ps_fld (pv 0) (pe_op op_addA (pe_fld (pv 0) rfl) (pe_fld (pv 0) rfl)) rfl)
      (pss_one (ps_fld (pv 0) (pe_callTy (call_tupD (by rfl)) (by rfl) T.tuple boot_tuple (pa_cons (pe_dcT (own := [("clause", 4)]) (g := (gName 4)) (tt := tYes) (tk := (tVar 4)) (tv := (tC (.bl true))) hu (by rfl) sc_Code_init.nd (pi_sq (pe_f c_checked_clauses (hr.mono (by decide)) (pa_cons (pv 2) (pa_cons (pe_fld (pv 0) rfl) pa_nil)))) (blkOk_by (by rfl)) (fun _ _ _ _ _ => (pg_name (i := 4) sc_Code_init.nd rfl (by first | exact .inl rfl | exact .inr rfl))) (fun _ _ _ _ _ => pts_nil) (fun _ _ _ _ _ => (pv 4)) (fun _ _ _ _ _ => pe_bl)) pa_nil)) rfl))))), ?_⟩
    -- self.sign_row = checked_names(signs, ())
    refine q_fld (P := TT ss) g0.mh hm hx rfl TC.cl TC.nS (by decide) (gv_call2 (R1 := SqR K Tx) (R2 := SqR K Tx) (x := ss) (y := []) (gv_var rfl (Mon.mono (same_new hm) r1)) (gv_is gv_nilT fun _ _ h => h.sq) ok.s) fun va M1 H1 g1 m1 ra => ?_
    have G1 := (g0.trans g1).mut (o := .ins C dx (putF "sign_row" va [])) hb m1
    -- self.helper_row = checked_names(helpers, self.sign_row)
    have z1 : (putF "sign_row" va []).length ≤ 1 := putF_len (Nat.le_refl 0)
    have e1 := same_new (o := .ins C dx (putF "sign_row" va [])) m1
    refine q_fld (P := TT hs) G1.mh m1 upd_same rfl TC.cl TC.nH (lt1000 z1) (gv_call2 (R1 := SqR K Tx) (R2 := SqR K Tx) (x := hs) (y := ss) (gv_var rfl (Mon.mono (g1.mm.trans e1) r3))
      (gv_is (gv_self (P := TT ss) rfl upd_same TC.cl TC.nS (by rw [lookup_putF, if_pos rfl]) (Mon.mono e1 ra)) fun _ _ h => h.sq) ok.h) fun vb M2 H2 g2 m2 rb => ?_
    have G2 := (G1.trans g2).mut (o := .ins C dx (putF "helper_row" vb (putF "sign_row" va []))) hb m2
    -- self.names = self.sign_row + self.helper_row
    have z2 : (putF "helper_row" vb (putF "sign_row" va [])).length ≤ 2 := putF_len z1
    have e2 := same_new (o := .ins C dx (putF "helper_row" vb (putF "sign_row" va []))) m2
    refine q_fld (P := TT (ss ++ hs)) G2.mh m2 upd_same rfl TC.cl TC.nN (lt1000 z2) (gv_addTT
      (gv_self rfl upd_same TC.cl TC.nS (by rw [lookup_putF, if_neg (by decide +kernel), lookup_putF, if_pos rfl]) (Mon.mono (g2.mm.trans e2) ra)) (gv_self rfl upd_same TC.cl TC.nH (by rw [lookup_putF, if_pos rfl]) (Mon.mono e2 rb))
      (sz1000 (by have := ok.k; rw [List.length_append] at this; exact this))) fun vn M3 H3 g3 m3 rn => ?_
    have G3 := (G2.trans g3).mut (o := .ins C dx (putF "names" vn (putF "helper_row" vb (putF "sign_row" va [])))) hb m3
    -- self.clause_row = tuple({clause: True for clause in checked_clauses(clauses, self.names)})
    have z3 : (putF "names" vn (putF "helper_row" vb (putF "sign_row" va []))).length ≤ 3 := putF_len z2
    have e3 := same_new (o := .ins C dx (putF "names" vn (putF "helper_row" vb (putF "sign_row" va [])))) m3
    have hshort : Shorts (ss ++ hs) := ⟨ok.k, fun n hn => by
      rcases List.mem_append.mp hn with h | h
      · exact Nat.le_trans (isNm_len (ok.s.2.1 n h).1) (by decide)
      · exact Nat.le_trans (isNm_len (ok.h.2.1 n h).1) (by decide)⟩
    refine s_fld (P := TuR TT (once (cs.map fun c => asc c (ss ++ hs)))) G3.mh m3 upd_same rfl TC.cl TC.nC (lt1000 z3) (gv_once (by show 4 < 5; decide) (gi_sq (K := K) ((gl_call2 (R1 := SqR K (SqR K Tx)) (R2 := SqR K Tx) (x := cs) (y := ss ++ hs)
      (gv_var rfl (Mon.mono ((g1.mm.trans g2.mm).trans (g3.mm.trans e3)) r2)) (gv_is (gv_self (P := TT (ss ++ hs)) rfl upd_same TC.cl TC.nN (by rw [lookup_putF, if_pos rfl]) (Mon.mono e3 rn)) fun _ _ h => h.sq) ⟨hshort, ok.n, ok.c⟩).gv
        fun M' vs p r m0 => .inl ⟨p, vs, rfl, .inl (.inl upd_same), Pd.mono (R := TT) (same_new m0) r⟩)) (by rw [List.length_map]; exact szM (Nat.le_trans ok.n (by decide)))) fun vc M4 H4 g4 m4 rc => ?_
    have G4 := ((G3.trans g4).mut (o := .ins C dx (codeF va vb vn vc)) hb m4).freeze hb m4 upd_same
    have e4 := same_new (o := .ins C dx (codeF va vb vn vc)) m4
    exact q _ _ G4 ⟨x, dx, va, vb, vn, vc, rfl, upd_same, Mon.mono ((g2.mm.trans g3.mm).trans (g4.mm.trans e4)) ra, Mon.mono (g3.mm.trans (g4.mm.trans e4)) rb, Mon.mono (g4.mm.trans e4) rn, Mon.mono e4 rc⟩
end
end My

set_option Elab.async false
set_option linter.all false
set_option maxRecDepth 100000
set_option maxHeartbeats 4000000
namespace My
open PySem PySem.Spec PyProof.Rows L2 L3
/-! the literals of a clause that are not denied -/
def openGo (so : List Str) : List Str → List Str → Option (List Str)
  | [], acc => some acc
  | l :: r, acc => if l ∈ so then none else openGo so r (if opp l ∈ so then acc else acc ++ [l])
def openOnes (so c : List Str) : Option (List Str) := openGo so c []
theorem openGo_eq (so : List Str) : ∀ c acc : List Str, openGo so c acc = if c.any (fun l => decide (l ∈ so)) then none else some (acc ++ c.filter fun l => decide (opp l ∉ so))
  | [], acc => by simp [openGo]
  | l :: r, acc => by
    rw [openGo, openGo_eq so r]
    by_cases h : l ∈ so
    · simp [h]
    · by_cases h2 : opp l ∈ so
      · simp [h, h2]
      · simp [h, h2]
theorem openOnes_eq (so c : List Str) : openOnes so c = if c.any (fun l => decide (l ∈ so)) then none else some (c.filter fun l => decide (opp l ∉ so)) := by
  unfold openOnes; rw [openGo_eq]; simp
def shortT (c : List Str) : Prop := c.length ≤ 1000000 ∧ ∀ l ∈ c, l.length ≤ 1000
section
variable {P : Program} {w : World} {K : PySem.W.Frag} {mg : Str → Option Value} {base : Heap}
abbrev s_open_ones : Stmt := topS 31
theorem sc_open_ones : FnScope ["clause", "so", "found", "literal"] ["clause", "so"] (defScope s_open_ones) := ⟨rfl, rfl, rfl, by decide +kernel, rfl, by decide +kernel, by decide +kernel⟩
def sp_open_ones (K : PySem.W.Frag) : Sp := sp2 (SqR K Tx) (CtR K) (fun c _ => shortT c) fun c so => OpR' (LiR Tx) (openOnes so c)
theorem ok_open_ones {f : Addr} {fd : FuncData} (F : Fun K "open_ones" "open_ones" s_open_ones f fd) (c_opposite : Cal P w K mg base 1 "opposite" ["literal"] (sp_opposite K)) : FnOk P w K mg base CX0 2 f fd ["clause", "so"] (sp_open_ones K) := by
  refine F.ok sc_open_ones (fun vs H Q E h => ?_) (fun cdv A outer s H vs Q E hr h => ?_)
  · obtain ⟨x, y, M, v, w, rfl, _⟩ := h
    rfl
  · obtain ⟨c, so, M, v, w, rfl, mh, r1, r2, hp, q⟩ := h
    have hu := hr.units
    refine ⟨_, (pss_cons (ps_set (i := 2) sc_open_ones.nd rfl (by first | exact .inl rfl | exact .inr rfl) (pe_lst pa_nil))
      (pss_cons (ps_for PassesOwn.never (by rfl) (pi_sq (pv 0)) (pg_name (i := 3) sc_open_ones.nd rfl (by first | exact .inl rfl | exact .inr rfl)) (pss_cons (ps_if (pt_cmpR (op_inA hu) (pv 3) (pv 1) (by rfl)) (pss_one (ps_ret pe_non)) pss_nil)
      (pss_one (ps_if (pt_cmpR (op_niA hu) (pe_f c_opposite (hr.mono (by decide)) (pa_cons (pv 3) pa_nil)) (pv 1) (by rfl)) (pss_one (ps_expr (pe_bm PySem.F.plainAttrs_list PySem.F.slot_list_append PySem.F.type_list_append mt_append (pv 2) (pa_cons (pv 3) pa_nil)))) pss_nil))))
      (pss_one (ps_ret (pv 2))))), ?_⟩
    refine q_asgL mh gl_nil fun p vs M2 H2 g2 h0 m0 hp2 hv => ?_
    subst hv
    refine q_for (R1 := Tx) (xs := c) g2.mh (gv_var rfl (Mon.mono g2.mm r1))
      (fun M1' i σ' M' H' => ∃ y3 acc, Gr M H M' H' ∧ Same M1' M' ∧ Same M M' ∧ acc.length ≤ i ∧ Own H M' H' p (acc.map V.str) ∧ σ' = [some v, some w, some (.ref p), y3] ∧ openOnes so c = openGo so (c.drop i) acc)
      (fun M3 H3 g3 => ⟨none, [], g2.trans g3, Same.refl _, (g2.trans g3).mm, Nat.le_refl _, Own.step ⟨h0, m0, hp2⟩ g3, rfl, rfl⟩)
      (fun M3 i σ' M' H' ⟨_, _, g, s1, _⟩ => ⟨s1, g.mh⟩) ?_ ?_
    · rintro M3 i x v' σ' M' H' sM hx ⟨y3, acc, g, s1, s2, hl, ow, rfl, eo⟩ rx
      cases rx
      have hxm : x ∈ c := List.mem_of_getElem? hx
      have hil : i < c.length := (List.getElem?_eq_some_iff.mp hx).1
      have ed : c.drop i = x :: c.drop (i + 1) := by rw [List.drop_eq_getElem_cons hil]; congr 1; exact (List.getElem?_eq_some_iff.mp hx).2
      have r2' : CtR K so M' w := Mon.mono s2 r2
      refine q_if0 g.mh (gt_test (gv_inA (K := K) (gv_var rfl rfl) (gv_var rfl r2'))) (fun hb H4 hh4 => ?_) (fun hb H4 hh4 => ?_)
      · refine s_ret (P := fun _ v => v = .non) (g.mh.trans hh4) (gv_c rfl) fun v5 M5 H5 g5 r5 => q v5 M5 H5 ((g.trans (.idle g.mh hh4)).trans g5) ?_
        show OpR' (LiR Tx) (openOnes so c) _ _
        rw [eo, ed, openGo, if_pos (by simpa using hb)]
        exact r5
      · have g4 := g.trans (.idle g.mh hh4)
        have ow4 := ow.idle hh4
        refine s_if0 g4.mh (gt_test (gv_inA (K := K) (gv_call1 (gv_var rfl rfl) (hp.2 x hxm)) (gv_var rfl r2'))) (fun hb2 H5 hh5 => ?_) (fun hb2 H5 hh5 => ?_)
        · have g5 := g4.trans (.idle g4.mh hh5)
          have ow5 := ow4.idle hh5
          refine s_app (P := Tx x) g5.mh rfl ow5.h (szL (by rw [List.length_map]; have := hp.1; omega)) (gv_var rfl rfl) fun v6 M6 H6 g6 r6 => ?_
          cases r6
          have ow6 := ow5.step g6
          refine ⟨M6, _, acc ++ [x], (g5.trans g6).mut ow6.h0 ow6.m, s1.trans g6.mm, s2.trans g6.mm, by rw [List.length_append]; exact Nat.succ_le_succ hl, ?_, rfl, ?_⟩
          · rw [List.map_append]
            exact ow6.put
          · rw [eo, ed, openGo, if_neg (by simpa using hb), if_neg (by simpa using hb2)]
        · have g5 := g4.trans (.idle g4.mh hh5)
          refine ⟨M', _, acc, g5, s1, s2, Nat.le_succ_of_le hl, ow4.idle hh5, rfl, ?_⟩
          rw [eo, ed, openGo, if_neg (by simpa using hb), if_pos (by simpa using hb2)]
    · rintro M3 σ' M' H' sM ⟨y3, acc, g, s1, s2, hl, ow, rfl, eo⟩
      refine ⟨.ref p, rfl, q _ _ _ (g.freeze ow.h0 ow.m ow.h) ?_⟩
      show OpR' (LiR Tx) (openOnes so c) _ _
      rw [eo, List.drop_length]
      exact ⟨p, _, rfl, upd_same, pd_of_tx acc⟩
end
end My

set_option Elab.async false
set_option linter.all false
set_option maxRecDepth 100000
set_option maxHeartbeats 4000000
namespace My
open PySem PySem.Spec PyProof.Rows L2 L3
abbrev Stp := Nat × Option Str
def optV : Option Str → V
  | none => .non | some l => .str l
/-- a step: a tuple (index, literal or None) -/
def StepR : Rl Stp := fun s M v => ∃ a, v = .ref a ∧ M a = some (.tup [.int (s.1 : Nat), optV s.2])
instance : Mon StepR := ⟨fun e ⟨a, h, r⟩ => ⟨a, h, e _ _ r⟩⟩
instance : Stl StepR := ⟨fun hn hx ⟨a, e, r⟩ => ⟨a, e, by rw [L3.del_ne (tup_ne hn hx r)]; exact r⟩⟩
/-- one walk over all clauses -/
def passGo : List (List Str) → Nat → List Str → List Stp → Bool → Except (List Stp) (List Str × List Stp × Bool)
  | [], _, so, st, mv => .ok (so, st, mv)
  | c :: r, i, so, st, mv => match openOnes so c with
    | some [] => .error (st ++ [(i, none)])
    | some [l] => passGo r (i + 1) (so ++ [l]) (st ++ [(i, some l)]) true
    | _ => passGo r (i + 1) so st mv
abbrev Res := Option (List Str) × List Stp
/-- following to its end -/
inductive Chase (cs : List (List Str)) : List Str → List Stp → Res → Prop
  | dead {so st st'} : passGo cs 0 so st false = .error st' → Chase cs so st (none, st')
  | done {so st so' st'} : passGo cs 0 so st false = .ok (so', st', false) → Chase cs so st (some so', st')
  | more {so st so' st' r} : passGo cs 0 so st false = .ok (so', st', true) → Chase cs so' st' r → Chase cs so st r
theorem Chase.fn {cs : List (List Str)} {so : List Str} {st : List Stp} {r : Res} (h : Chase cs so st r) : ∀ {r'}, Chase cs so st r' → r = r' := by
  induction h with
  | dead e =>
    intro r' h'
    cases h' with
    | dead e' => rw [e] at e'; cases e'; rfl
    | done e' => rw [e] at e'; cases e'
    | more e' _ => rw [e] at e'; cases e'
  | done e =>
    intro r' h'
    cases h' with
    | dead e' => rw [e] at e'; cases e'
    | done e' => rw [e] at e'; cases e'; rfl
    | more e' _ => rw [e] at e'; cases e'
  | more e _ ih =>
    intro r' h'
    cases h' with
    | dead e' => rw [e] at e'; cases e'
    | done e' => rw [e] at e'; cases e'
    | more e' h2 => rw [e] at e'; cases e'; exact ih h2
/-- how many literals of the clauses are not so yet -/
def mu (cs : List (List Str)) (so : List Str) : Nat := (cs.flatten.filter fun l => decide (l ∉ so)).length
theorem filter_lt {l : Str} {p q : Str → Bool} : ∀ {xs : List Str}, (∀ x, q x = true → p x = true) → l ∈ xs → p l = true → q l = false → (xs.filter q).length < (xs.filter p).length
  | [], _, h, _, _ => by cases h
  | x :: xs, hi, h, hp, hq => by
    have le : ∀ ys : List Str, (ys.filter q).length ≤ (ys.filter p).length := fun ys => by
      induction ys with
      | nil => exact Nat.le_refl _
      | cons y ys ih =>
        rw [List.filter_cons, List.filter_cons]
        by_cases hy : q y = true
        · rw [if_pos hy, if_pos (hi y hy)]; exact Nat.succ_le_succ ih
        · rw [if_neg hy]
          by_cases hy' : p y = true
          · rw [if_pos hy']; exact Nat.le_succ_of_le ih
          · rw [if_neg hy']; exact ih
    rw [List.filter_cons, List.filter_cons]
    rcases List.mem_cons.mp h with rfl | h
    · rw [if_neg (by rw [hq]; simp), if_pos hp]
      exact Nat.lt_succ_of_le (le xs)
    · have ih := filter_lt hi h hp hq
      by_cases hy : q x = true
      · rw [if_pos hy, if_pos (hi x hy)]; exact Nat.succ_lt_succ ih
      · rw [if_neg hy]
        by_cases hy' : p x = true
        · rw [if_pos hy']; exact Nat.lt_succ_of_lt ih
        · rw [if_neg hy']; exact ih
theorem mu_put {cs : List (List Str)} {c so : List Str} {l : Str} (hc : c ∈ cs) (hl : l ∈ c) (hs : l ∉ so) : mu cs (so ++ [l]) < mu cs so := by
  refine filter_lt (l := l) (fun x h => ?_) (List.mem_flatten.mpr ⟨c, hc, hl⟩) (by simpa using hs) (by simp)
  simp only [List.mem_append, decide_eq_true_eq, not_or] at h ⊢
  exact h.1
theorem open_one {so c : List Str} {l : Str} (h : openOnes so c = some [l]) : l ∈ c ∧ l ∉ so := by
  rw [openOnes_eq] at h
  split at h
  · cases h
  · rename_i hn
    have e := Option.some.inj h
    have hm : l ∈ c.filter fun l => decide (opp l ∉ so) := by rw [e]; simp
    have h1 := List.mem_filter.mp hm
    refine ⟨h1.1, fun hs => hn ?_⟩
    rw [List.any_eq_true]
    exact ⟨l, h1.1, by simpa using hs⟩
theorem onceP_new {so : List Str} {l : Str} (h : l ∉ so) : onceP so l = so ++ [l] := by unfold onceP; rw [if_neg h]
def optD : Option (List Str) → PyData
  | none => .none | some ls => .list (ls.map .str)
theorem optD_eq (o : Option (List Str)) (xs : List Str) : PyData.eqv (optD o) (.list (xs.map .str)) = decide (o = some xs) := by
  cases o with
  | none => simp [optD, PyData.eqv]
  | some ls =>
    have h := inj_lst inj_str ls xs
    simp only [optD]
    rw [h]
    simp
theorem depthS : ∀ ls : List Str, PyData.depthAll (ls.map .str) = 0
  | [] => by simp [PyData.depthAll]
  | l :: r => by simp [PyData.depthAll, PyData.depth, depthS r]
theorem depthO (o : Option (List Str)) : (optD o).depth ≤ 60 := by
  cases o with
  | none => simp [optD, PyData.depth]
  | some ls => simp [optD, PyData.depth, depthS]
section
variable {K : PySem.W.Frag} {σ : Sl} {M : Hp} {ta tb : TE}
theorem py_opL : PyR K (OpR' (LiR Tx)) optD := fun o M v h => by
  cases o with
  | none => cases (show v = .non from h); exact .non
  | some ls => exact py_lst py_str _ _ _ (LiR.lst (K := K) (show LiR Tx ls M v from h))
theorem gv_nilD : Gv (tLst tNil) σ M (Dd K (.list [])) := gl_nil.gv fun M vs p h m => by subst h; exact .lst (.inl (.inl upd_same)) .nil
theorem gv_step {i : Nat} {l : Str} (ha : Gv ta σ M (It' (i : Int))) (hb : Gv tb σ M (Tx l)) : Gv (tTup (tCons ta (tCons tb tNil))) σ M (StepR (i, some l)) := fun H mh Q q =>
  ha H mh _ fun v M1 H1 g1 p1 => hb.le g1.mm H1 g1.mh _ fun w M2 H2 g2 p2 => ⟨by show 2 ≤ sizeLine; decide, fun p np => q _ _ _ ((g1.trans g2).trans (.new g2.mh np)) ⟨p, rfl, by rw [upd_same, show v = _ from p1, show w = _ from p2]; rfl⟩⟩
theorem opL_non {o : Option (List Str)} {M : Hp} {v : V} (h : OpR' (LiR Tx) o M v) : decide (v = .non) = o.isNone := by
  cases o with
  | none => cases (show v = .non from h); rfl
  | some ls => obtain ⟨a, vs, e, _⟩ := (show LiR Tx ls M v from h); subst e; rfl
end
section
variable {P : Program} {w : World} {K : PySem.W.Frag} {mg : Str → Option Value} {base : Heap}
abbrev s_chase : Stmt := topS 32
theorem sc_chase : FnScope ["clauses", "setting", "so", "steps", "is_moved", "index", "clause", "left", "literal"] ["clauses", "setting"] (defScope s_chase) := ⟨rfl, rfl, rfl, by decide +kernel, rfl, by decide +kernel, by decide +kernel⟩
structure ChOk (cs : List (List Str)) (hs : List Str) : Prop where
  c : ∀ c ∈ cs, shortT c
  n : cs.flatten.length ≤ 1000000
  k : cs.length ≤ 1000000
  h : hs.length ≤ 1000000
def sp_chase (K : PySem.W.Frag) : Sp := fun vs H Q _ => ∃ cs hs M v w, vs = [v, w] ∧ Same M H ∧ SqR K (SqR K Tx) cs M v ∧ SqR K Tx hs M w ∧ ChOk cs hs ∧
  ∀ r t u p ws M' H', Chase cs (once hs) [] r → Gr M H M' H' → H p = none → M' p = none → H' p = some (.lst ws) → Pd StepR M' r.2 ws → OpR' DcF r.1 M' u → M' t = some (.tup [u, .ref p]) → Q (.ref t) H'
theorem once_len' (hs : List Str) : (once hs).length ≤ hs.length := by
  have go : ∀ (xs acc : List Str), (xs.foldl onceP acc).length ≤ acc.length + xs.length := by
    intro xs
    induction xs with
    | nil => intro acc; exact Nat.le_refl _
    | cons x xs ih =>
      intro acc
      have h1 := ih (onceP acc x)
      have h2 := onceP_len acc x
      rw [List.foldl_cons, List.length_cons]
      omega
  have := go hs []
  simpa [once] using this
theorem ok_chase {f : Addr} {fd : FuncData} (F : Fun K "chase" "chase" s_chase f fd) (T : Gb mg) (c_open_ones : Cal P w K mg base 2 "open_ones" ["clause", "so"] (sp_open_ones K)) : FnOk P w K mg base CX0 3 f fd ["clauses", "setting"] (sp_chase K) := by
  refine F.ok sc_chase (fun vs H Q E h => ?_) (fun cdv A outer s H vs Q E hr h => ?_)
  · obtain ⟨x, y, M, v, w, rfl, _⟩ := h
    rfl
  · obtain ⟨cs, hs, M, v, w, rfl, mh, r1, r2, ok, q⟩ := h
    have hu := hr.units
    refine ⟨_, (pss_cons (ps_par3 (i := 2) (j := 3) (l := 4) (by rfl) sc_chase.nd rfl rfl rfl (by decide) (by decide) (by decide) rfl rfl rfl (pa_cons (pe_dc (own := [("literal", 8)]) (g := (gName 8)) (tt := tYes) (tk := (tVar 8)) (tv := (tC (.bl true))) (by rfl) sc_chase.nd (pi_sq (pv 1)) (blkOk_by (by rfl)) (fun _ _ _ _ _ => (pg_name (i := 8) sc_chase.nd rfl (by first | exact .inl rfl | exact .inr rfl))) (fun _ _ _ _ _ => pts_nil) (fun _ _ _ _ _ => (pv 8)) (fun _ _ _ _ _ => pe_bl)) (pa_cons (pe_lst pa_nil) (pa_cons pe_bl pa_nil))) (by rfl))
      (pss_cons (ps_while PassesOwn.never (pt_val (pv 4)) (pss_cons (ps_set (i := 4) sc_chase.nd rfl (by first | exact .inl rfl | exact .inr rfl) pe_bl)
      (pss_one (ps_for PassesOwn.never (by rfl) (pi_en (by rfl) T.enumerate (pa_cons (pv 0) pa_nil)) (pg_tup (by rfl) (pgs_cons (pg_name (i := 5) sc_chase.nd rfl (by first | exact .inl rfl | exact .inr rfl)) (pgs_cons (pg_name (i := 6) sc_chase.nd rfl (by first | exact .inl rfl | exact .inr rfl)) pgs_nil))) (pss_cons (ps_set (i := 7) sc_chase.nd rfl (by first | exact .inl rfl | exact .inr rfl) (pe_f c_open_ones (hr.mono (by decide)) (pa_cons (pv 6) (pa_cons (pv 2) pa_nil))))
      (pss_cons (ps_if (pt_cmpR (op_eqP hu) (pv 7) (pe_lst pa_nil) (nomark _)) (pss_one (ps_ret (pe_tup (pa_cons pe_non (pa_cons (pe_op op_addA (pv 3) (pe_lst (pa_cons (pe_tup (pa_cons (pv 5) (pa_cons pe_non pa_nil))) pa_nil))) pa_nil))))) pss_nil)
      (pss_one (ps_if (PW.pt (pw_and (pt_cmp (pc_notN (pv 7))) (pw_and1 (pt_cmpR (op_eqP hu) (pe_callB call_lenA (by rfl) T.len boot_len (pa_cons (pv 7) pa_nil)) pe_int (nomark _))))) (pss_cons (ps_dput (Nat.lt_of_le_of_lt (Nat.add_le_add_left (by decide) _) hu) (pv 2) (pe_ix ix_X (pv 7) pe_int (fun _ _ => rfl)) pe_bl rfl)
      (pss_cons (ps_expr (pe_bm PySem.F.plainAttrs_list PySem.F.slot_list_append PySem.F.type_list_append mt_append (pv 3) (pa_cons (pe_tup (pa_cons (pv 5) (pa_cons (pe_ix ix_X (pv 7) pe_int (fun _ _ => rfl)) pa_nil))) pa_nil)))
      (pss_one (ps_set (i := 4) sc_chase.nd rfl (by first | exact .inl rfl | exact .inr rfl) pe_bl)))) pss_nil))))))))
      (pss_one (ps_ret (pe_tup (pa_cons (pe_frz (pv 2)) (pa_cons (pv 3) pa_nil))))))), ?_⟩
    have hlo : (once hs).length ≤ 1000000 := Nat.le_trans (once_len' hs) ok.h
    -- so, steps, is_moved = {..}, [], True
    refine q_par3 (a_K mh (gk_dc (xs := hs) (by show 8 < 9; decide) (gi_sq (K := K) (gv_var rfl r2)) (szM (Nat.le_trans ok.h (by decide)))) fun p M1 H1 g1 hp0 hpm hpk => a_L g1.mh gl_nil fun p2 vs M2 H2 g2 h02 m02 hp2 ev => ?_)
    subst ev
    refine ⟨_, _, _, rfl, ?_⟩
    have k0 : OwnK H M2 H2 p (once hs) := OwnK.step ⟨hp0, hpm, hpk⟩ g2
    have w0 : Own H M2 H2 p2 [] := ⟨g1.hh.free h02, m02, hp2⟩
    have G2 := g1.trans g2
    have mul : mu cs (once hs) ≤ 1000000 := Nat.le_trans (List.length_filter_le _ _) ok.n
    refine q_while (M := M2) (m0 := 2 * mu cs (once hs) + 1) (fun m σ' M' H' => ∃ so st mv ws y5 y6 y7 y8, m = 2 * mu cs so + (if mv = true then 1 else 0) ∧ Gr M H M' H' ∧ OwnK H M' H' p so ∧ Own H M' H' p2 ws ∧ Pd StepR M' st ws ∧ σ' = [some v, some w, some (.ref p), some (.ref p2), some (.bl mv), y5, y6, y7, y8] ∧
      (∀ r, (if mv = true then Chase cs so st r else r = (some so, st)) → Chase cs (once hs) [] r) ∧ st.length + mu cs so ≤ mu cs (once hs) ∧ so.length ≤ (once hs).length + st.length)
      ⟨once hs, [], true, [], _, _, _, _, rfl, G2, k0, w0, .nil, rfl, fun r h => h, by simp, by simp⟩ ?_
    rintro m σ' M' H' ⟨so, st, mv, ws, y5, y6, y7, y8, rfl, g, ok1, ow1, hpd, rfl, hch, hmu, hso⟩
    refine ⟨mv, M', g.mh, gt_B (gv_var rfl rfl), fun hb H3 hh3 => ?_, fun hb H3 hh3 => ?_⟩
    · subst hb
      have g3 := g.trans (.idle g.mh hh3)
      refine q_asg (P := Bl false) g3.mh (gv_c rfl) fun v4 M4 H4 g4 r4 => ?_
      cases r4
      have G4 := g3.trans g4
      refine s_forE (R1 := SqR K Tx) (xs := cs) g4.mh (gv_var rfl (Mon.mono G4.mm r1))
        (fun M1' i σ' M' H' => ∃ so2 st2 mv2 ws2 y5 y6 y7, Gr M H M' H' ∧ Same M1' M' ∧ Same M M' ∧ OwnK H M' H' p so2 ∧ Own H M' H' p2 ws2 ∧ Pd StepR M' st2 ws2 ∧ σ' = [some v, some w, some (.ref p), some (.ref p2), some (.bl mv2), y5, y6, y7, y8] ∧
          passGo cs 0 so st false = passGo (cs.drop i) i so2 st2 mv2 ∧ (mv2 = false → so2 = so ∧ st2 = st) ∧ (mv2 = true → mu cs so2 < mu cs so) ∧ st2.length + mu cs so2 ≤ mu cs (once hs) ∧ so2.length ≤ (once hs).length + st2.length)
        (fun M5 H5 g5 => ⟨so, st, false, ws, _, _, _, G4.trans g5, Same.refl _, (G4.trans g5).mm, ((ok1.idle hh3).step g4).step g5, ((ow1.idle hh3).step g4).step g5, hpd.mono (g4.trans g5).mm, rfl, rfl, fun _ => ⟨rfl, rfl⟩, (fun h => nomatch h), hmu, hso⟩)
        (fun M5 i σ' M' H' ⟨_, _, _, _, _, _, _, g, s1, _⟩ => ⟨s1, g.mh⟩) ?_ ?_
      · rintro M5 i c v' σ' M' H' H'' sM hx ⟨so2, st2, mv2, ws2, y5, y6, y7, g, s1, s2, ok2, ow2, hpd2, rfl, ep, hf, ht, hmu2, hso2⟩ gE rx
        have hxm : c ∈ cs := List.mem_of_getElem? hx
        have hil : i < cs.length := (List.getElem?_eq_some_iff.mp hx).1
        have ed : cs.drop i = c :: cs.drop (i + 1) := by rw [List.drop_eq_getElem_cons hil]; congr 1; exact (List.getElem?_eq_some_iff.mp hx).2
        have g' := g.trans gE
        have ok2' := ok2.step gE
        have ow2' := ow2.step gE
        refine q_asgK (P := OpR' (LiR Tx) (openOnes so2 c)) g'.mh ok2'.m ok2'.h (gv_call2 (R1 := SqR K Tx) (R2 := CtR K) (gv_var rfl (Mon.mono (same_new ok2'.m) rx)) (gv_var rfl OwnK.ct) (ok.c c hxm)) fun v7 M7 H7 g7 r7 => ?_
        have G7 := g'.trans g7
        have ok7 := ok2'.step g7
        have ow7 := ow2'.step g7
        have hpd7 := hpd2.mono g7.mm
        have hwl : ws2.length = st2.length := hpd7.length.symm
        refine q_if0 (b := decide (openOnes so2 c = some [])) g7.mh (gt_test (gv_is (gv_eq (K := K) (neg := false) (d := optD (openOnes so2 c)) (e := .list []) (gv_var rfl (py_opL _ _ _ r7)) gv_nilD (depthO _)) fun M v h => by
            rw [show v = _ from h]
            have := optD_eq (openOnes so2 c) []
            simp only [List.map_nil] at this
            rw [this]; simp)) (fun hb H8 hh8 => ?_) (fun hb H8 hh8 => ?_)
        · -- a dead end
          have e0 : openOnes so2 c = some [] := by simpa using hb
          have g8 : Gr M7 H7 M7 H8 := .idle g7.mh hh8
          have ow8 := ow7.idle hh8
          refine ⟨.ref p2, rfl, .int (i : Nat), rfl, by show 2 ≤ sizeLine; decide, fun t1 nt1 => ⟨by show 1 ≤ sizeLine; decide, fun l1 nl1 => .inr (.inr (.inr ⟨p2, l1, ws2, [.ref t1], rfl, rfl, ?_, upd_same, szM (by simp; omega), fun p3 np3 => ⟨by show 2 ≤ sizeLine; decide, fun t nt => ?_⟩⟩))⟩⟩
          · have nt1' : H8 t1 = none := nt1
            have n1 : (upd H8 t1 (.tup [V.int (i : Nat), .non])) p2 = some (.lst ws2) := same_new nt1' _ _ ow8.h
            rw [upd_ne (ne_of_none n1 nl1)]
            exact n1
          · have nt1' : H8 t1 = none := nt1
            have G8 := G7.trans g8
            have ga := G8.trans (.new (o := .tup [V.int (i : Nat), .non]) G8.mh nt1')
            have gb := ga.trans (.own (o := .lst [.ref t1]) ga.mh nl1)
            have gc := gb.trans (.own (o := .lst (ws2 ++ [.ref t1])) gb.mh np3)
            have o3 := Own.new' (vs := ws2 ++ [.ref t1]) gb np3
            have gd := Gr.new (o := .tup [.non, .ref p3]) gc.mh nt
            have o4 := o3.step gd
            refine q (none, st2 ++ [(i, none)]) t .non p3 _ _ _ (hch _ ?_) (gc.trans gd) o4.h0 o4.m o4.h ?_ rfl upd_same
            · rw [if_pos rfl]
              refine .dead ?_
              rw [ep, ed, passGo, e0]
            · exact pd_app (hpd7.mono ((same_new (G8.mh.free nt1')).trans gd.mm)) (.cons ⟨t1, rfl, gd.mm _ _ upd_same⟩ .nil)
        · have hne : openOnes so2 c ≠ some [] := by simpa using hb
          have g8 := G7.trans (.idle G7.mh hh8)
          have ok8 := ok7.idle hh8
          have ow8 := ow7.idle hh8
          have m78 : Same M7 H8 := g7.mh.trans hh8
          cases eo : openOnes so2 c with
          | none =>
            rw [eo] at r7
            refine s_if0 (b := false) m78 (gt_and (c := false) (gt_B (gv_notN (b := true) (gv_var (P := OpR' (LiR Tx) none) rfl r7) fun M v h => opL_non h)) fun h => nomatch h) (fun h => nomatch h) fun _ H9 hh9 => ?_
            refine ⟨M7, so2, st2, mv2, ws2, _, _, _, g8.trans (.idle g8.mh hh9), s1.trans g7.mm, s2.trans g7.mm, ok8.idle hh9, ow8.idle hh9, hpd7, rfl, ?_, hf, ht, hmu2, hso2⟩
            rw [ep, ed, passGo, eo]
          | some ls =>
            rw [eo] at r7 hne
            have r7' : LiR Tx ls M7 v7 := r7
            refine s_if0 (b := decide (ls.length = 1)) m78 (gt_is (gt_and (c := decide (ls.length = 1)) (gt_B (gv_notN (b := false) (gv_var (P := OpR' (LiR Tx) (some ls)) rfl r7) fun M v h => opL_non h)) fun _ => gt_test (gv_is (gv_eqT (K := K) (neg := false) py_int inj_int (gv_lenA (K := K) (gv_var rfl (r7'.sq (K := K)))) (gv_c rfl) (by simp [PyData.depth])) fun M v h => ?_)) (by simp)) (fun hb2 H9 hh9 => ?_) (fun hb2 H9 hh9 => ?_)
            · rw [show v = _ from h]
              simp only [Bool.false_bne, V.bl.injEq, decide_eq_decide]
              omega
            · obtain ⟨l, rfl⟩ : ∃ l, ls = [l] := by
                match ls, hb2 with
                | [l], _ => exact ⟨l, rfl⟩
                | [], h => simp at h
                | _ :: _ :: _, h => simp at h
              obtain ⟨hlc, hls⟩ := open_one eo
              have hml := mu_put hxm hlc hls
              have g9 := g8.trans (.idle g8.mh hh9)
              have ok9 := ok8.idle hh9
              have ow9 := ow8.idle hh9
              refine q_dputT (l := l) (g9.mh) rfl ok9.h (szL (by omega)) (gv_ix (K := K) (R := Tx) (xs := [l]) (i := 0) (gv_var rfl (r7'.sq (K := K))) (gv_c rfl) rfl) fun M10 H10 g10 => ?_
              rw [onceP_new hls]
              have ok10 := ok9.step g10
              have ow10 := ow9.step g10
              have g10' := (g9.trans g10).mut (o := .dK (kvT (so2 ++ [l]))) ok10.h0 ok10.m
              have ok11 := ok10.put (ls := so2 ++ [l])
              have ow11 := ow10.off (u := .dK (kvT (so2 ++ [l]))) (Ne.symm (ok10.ne ow10))
              have r10 : LiR Tx [l] M10 v7 := Mon.mono g10.mm r7'
              refine q_app (P := StepR (i, some l)) g10'.mh rfl ow11.h (szL (by omega)) (gv_step (gv_var rfl rfl) (gv_ix (K := K) (R := Tx) (xs := [l]) (i := 0) (gv_var rfl (r10.sq (K := K))) (gv_c rfl) rfl)) fun v12 M12 H12 g12 r12 => ?_
              have ok12 := ok11.step g12
              have ow12 := ow11.step g12
              have g12' := (g10'.trans g12).mut (o := .lst (ws2 ++ [v12])) ow12.h0 ow12.m
              have ok13 := ok12.off (u := .lst (ws2 ++ [v12])) (ok12.ne ow12)
              have ow13 := ow12.put (ws := ws2 ++ [v12])
              refine s_asg (P := Bl true) g12'.mh (gv_c rfl) fun v14 M14 H14 g14 r14 => ?_
              cases r14
              have g710 := (g10.mm.trans g12.mm).trans g14.mm
              refine ⟨M14, so2 ++ [l], st2 ++ [(i, some l)], true, ws2 ++ [v12], _, _, _, g12'.trans g14, s1.trans (g7.mm.trans g710), s2.trans (g7.mm.trans g710), ok13.step g14, ow13.step g14, pd_app (hpd7.mono g710) (.cons (Mon.mono g14.mm r12) .nil), rfl, ?_, (fun h => nomatch h), fun _ => ?_, ?_, ?_⟩
              · rw [ep, ed, passGo, eo]
              · cases mv2 with
                | true => have := ht rfl; omega
                | false => rw [(hf rfl).1] at hml ⊢; exact hml
              · rw [List.length_append, List.length_singleton]; omega
              · rw [List.length_append, List.length_append, List.length_singleton, List.length_singleton]; omega
            · refine ⟨M7, so2, st2, mv2, ws2, _, _, _, g8.trans (.idle g8.mh hh9), s1.trans g7.mm, s2.trans g7.mm, ok8.idle hh9, ow8.idle hh9, hpd7, rfl, ?_, hf, ht, hmu2, hso2⟩
              rw [ep, ed, passGo, eo]
              match ls, hne, hb2 with
              | [], h, _ => exact absurd rfl h
              | [l], _, h => simp at h
              | _ :: _ :: _, _, _ => rfl
      · rintro M5 σ' M' H' sM ⟨so2, st2, mv2, ws2, y5, y6, y7, g, s1, s2, ok2, ow2, hpd2, rfl, ep, hf, ht, hmu2, hso2⟩
        rw [List.drop_length, passGo] at ep
        refine ⟨_, M', ?_, so2, st2, mv2, ws2, y5, y6, y7, y8, rfl, g, ok2, ow2, hpd2, rfl, fun r hr => hch r ?_, hmu2, hso2⟩
        · rw [if_pos rfl]
          cases mv2 with
          | true => have := ht rfl; simp only [if_true]; omega
          | false => rw [(hf rfl).1]; simp
        · rw [if_pos rfl]
          cases mv2 with
          | true => rw [if_pos rfl] at hr; exact .more ep hr
          | false => rw [if_neg (by decide)] at hr; subst hr; exact .done ep
    · subst hb
      have g3 := g.trans (.idle g.mh hh3)
      have ok3 := ok1.idle hh3
      have ow3 := ow1.idle hh3
      refine ⟨.ref p, rfl, p, _, rfl, ok3.h, trivial, fun o => ⟨.ref p2, rfl, by show 2 ≤ sizeLine; decide, fun t nt => ?_⟩⟩
      have ga := (g3.mut (o := .frz o (.dK (kvT so))) ok3.h0 ok3.m).freeze ok3.h0 ok3.m upd_same
      have ow4 := ow3.both (u := .frz o (.dK (kvT so))) (Ne.symm (ok3.ne ow3))
      have gd := Gr.new (o := .tup [.ref p, .ref p2]) ga.mh nt
      have ow5 := ow4.step gd
      refine q (some so, st) t (.ref p) p2 _ _ _ (hch _ (by rw [if_neg (by decide)])) (ga.trans gd) ow5.h0 ow5.m ow5.h (hpd.mono ((same_new ok3.m).trans gd.mm)) ⟨p, o, rfl, gd.mm _ _ upd_same⟩ upd_same
end
end My

set_option Elab.async false
set_option linter.all false
set_option maxRecDepth 100000
set_option maxHeartbeats 4000000
namespace My
open PySem PySem.Spec PyProof.Rows L2 L3
structure Gc (mg : Str → Option Value) : Prop extends Gb mg where
  bool : mg "bool" = none
structure CodeW (cd : CodeD) : Prop where
  c : ∀ x ∈ cd.clauses, shortT x
  n : cd.clauses.flatten.length ≤ 1000000
  k : cd.clauses.length ≤ 1000000
  s : Shorts cd.names
theorem _root_.L3.TuR.sqq {K : PySem.W.Frag} {cs : List (List Str)} {M : Hp} {v : V} (h : TuR TT cs M v) : SqR K (SqR K Tx) cs M v :=
  let ⟨a, vs, e, r, p⟩ := h
  .inr ⟨a, vs, e, .inl (.inl r), Paired.mapP p fun _ _ q => TT.sq q⟩
section
end
section
end
end My

set_option Elab.async false
set_option linter.all false
set_option maxRecDepth 100000
set_option maxHeartbeats 4000000
namespace My
open PySem PySem.Spec PyProof.Rows L2 L3
open L3.Strm
section
variable {K : PySem.W.Frag} {σ : Sl} {M : Hp} {ta tb te : TE} {i j : Int}
theorem gv_mul (ha : Gv ta σ M (It' i)) (hb : Gv tb σ M (It' j)) (hc : CMul i j) : Gv (tOp (rI CMul fun i j => .int (i * j)) ta tb) σ M (It' (i * j)) := gv_op ha hb fun M' u w px py => rv_pure (fun H mh Q q => ⟨i, j, px, py, hc, q⟩) rfl
theorem gv_mod (ha : Gv ta σ M (It' i)) (hb : Gv tb σ M (It' j)) (hc : 0 < j) : Gv (tOp (rI (fun _ j => 0 < j) fun i j => .int (i % j)) ta tb) σ M (It' (i % j)) := gv_op ha hb fun M' u w px py => rv_pure (fun H mh Q q => ⟨i, j, px, py, hc, q⟩) rfl
theorem gv_fdiv (ha : Gv ta σ M (It' i)) (hb : Gv tb σ M (It' j)) (hc : CDiv i j) : Gv (tOp (rI CDiv fun i j => .int (i / j)) ta tb) σ M (It' (i / j)) := gv_op ha hb fun M' u w px py => rv_pure (fun H mh Q q => ⟨i, j, px, py, hc, q⟩) rfl
theorem gv_pow (ha : Gv ta σ M (It' i)) (hb : Gv tb σ M (It' j)) (hc : CPow i j) : Gv (tOp (rI CPow fun i j => .int (i ^ j.toNat)) ta tb) σ M (It' (i ^ j.toNat)) := gv_op ha hb fun M' u w px py => rv_pure (fun H mh Q q => ⟨i, j, px, py, hc, q⟩) rfl
theorem gv_lt (ha : Gv ta σ M (It' i)) (hb : Gv tb σ M (It' j)) : Gv (tOp (rI0 fun i j => .bl (decide (i < j))) ta tb) σ M (Bl (decide (i < j))) := gv_op ha hb fun M' u w px py => rv_pure (fun H mh Q q => ⟨i, j, px, py, q⟩) rfl
theorem gv_gt {g : Int → Int → V} (ha : Gv ta σ M (It' i)) (hb : Gv tb σ M (It' j)) : Gv (tOp (rI0 g) ta tb) σ M (fun _ v => v = g i j) := gv_op ha hb fun M' u w px py => rv_pure (fun H mh Q q => ⟨i, j, px, py, q⟩) rfl
theorem gv_int1 (ha : Gv ta σ M (It' i)) : Gv (tCB (fun xs H Q => (∃ i, xs = [V.int i] ∧ Q (.int i) H) ∨ ∃ k, xs = [V.bl k] ∧ Q (.int (if k then 1 else 0)) H) (tCons ta tNil)) σ M (It' i) := gv_cb1 ha fun M' v hv H mh Q q => .inl ⟨i, by rw [hv], q _ M' H (.refl mh) rfl⟩
theorem gv_int1b {b : Bool} (ha : Gv ta σ M (Bl b)) : Gv (tCB (fun xs H Q => (∃ i, xs = [V.int i] ∧ Q (.int i) H) ∨ ∃ k, xs = [V.bl k] ∧ Q (.int (if k then 1 else 0)) H) (tCons ta tNil)) σ M (It' (if b then 1 else 0)) := gv_cb1 ha fun M' v hv H mh Q q => .inr ⟨b, by rw [hv], q _ M' H (.refl mh) rfl⟩
/-- an int of a mixed list -/
theorem gv_ixI {ds : List PyData} {z : Int} (ha : Gv ta σ M (SqR K (Dd K) ds)) (hb : Gv tb σ M (It' i)) (hx : atI ds i = some (.int z)) : Gv (tOp (rIxX K) ta tb) σ M (It' z) := gv_is (gv_ix (K := K) (R := Dd K) ha hb hx) fun M v h => by cases h; rfl
end
theorem depthI (cs : List Int) : (PyData.list (cs.map .int)).depth ≤ 60 := by
  have : ∀ cs : List Int, PyData.depthAll (cs.map .int) = 0 := fun cs => by
    induction cs with
    | nil => simp [PyData.depthAll]
    | cons c r ih => simp [PyData.depthAll, PyData.depth, ih]
  simp [PyData.depth, this]
theorem nilI (cs : List Int) : PyData.eqv (.list (cs.map .int)) (.list []) = decide (cs = []) := by
  cases cs <;> simp [PyData.eqv, PyData.eqvAll]
section
variable {P : Program} {w : World} {K : PySem.W.Frag} {mg : Str → Option Value} {base : Heap}
abbrev s__law_draw : Stmt := topS 57
theorem sc__law_draw : FnScope ["_law_stream", "_law_many", "_law_mixed_here", "_law_digit"] ["_law_stream", "_law_many"] (defScope s__law_draw) := ⟨rfl, rfl, rfl, by decide +kernel, rfl, by decide +kernel, by decide +kernel⟩
def sp__law_draw (K : PySem.W.Frag) : Sp := spS1 It' (fun n => 0 < n ∧ n < 1073741824) (fun _ => 1) fun n => Ex It' fun i => 0 ≤ i ∧ i < n
theorem ok__law_draw {f : Addr} {fd : FuncData} (F : Fun K "_law_draw" "_law_draw" s__law_draw f fd) (T : Gc mg) : FnOk P w K mg base CX0 1 f fd ["_law_stream", "_law_many"] (sp__law_draw K) := by
  refine F.ok sc__law_draw (fun vs H Q E h => ?_) (fun cdv A outer s H vs Q E hr h => ?_)
  · obtain ⟨S, x, M, v, k, rfl, _⟩ := h
    rfl
  · obtain ⟨S, many, M, v, k, rfl, mh, at_, r1, ⟨hm1, hm2⟩, q⟩ := h
    cases r1
    have hu := hr.units
    refine ⟨_, (pss_cons (ps_asg (pe_op op_addA (pe_ix ix_X (pv 0) pe_int (fun _ _ => rfl)) pe_int) (pg_sub (pv 0) pe_int set_list))
      (pss_cons (ps_if (PW.pt (pw_and (pt_cmpR (op_eqP hu) (pe_ix ix_X (pv 0) pe_int (fun _ _ => rfl)) pe_int (nomark _)) (pw_and1 (pt_cmpR (op_neP hu) (pe_ix ix_X (pv 0) pe_int (fun _ _ => rfl)) (pe_lst pa_nil) (nomark _))))) (pss_cons (ps_asg (pe_bm PySem.F.plainAttrs_list PySem.F.slot_list_pop PySem.F.type_list_pop mt_popAt (pe_ix ix_X (pv 0) pe_int (fun _ _ => rfl)) (pa_cons pe_int pa_nil)) (pg_sub (pv 0) pe_int set_list))
      (pss_one (ps_if (pt_cmpR op_lt (pe_ix ix_X (pv 0) pe_int (fun _ _ => rfl)) (pe_op op_pow pe_int pe_int) (nomark _)) (pss_cons (ps_asg (pe_op op_mod (pe_callTy call_int1 (by rfl) T.int boot_int (pa_cons (pe_op op_addA (pe_op op_addA (pe_op op_mul (pe_ix ix_X (pv 0) pe_int (fun _ _ => rfl)) pe_int) (pe_ix ix_X (pv 0) pe_int (fun _ _ => rfl))) pe_int) pa_nil)) pe_int) (pg_sub (pv 0) pe_int set_list))
      (pss_one (ps_asg pe_int (pg_sub (pv 0) pe_int set_list)))) pss_nil))) pss_nil)
      (pss_cons (ps_if (pt_cmpR op_gt (pe_ix ix_X (pv 0) pe_int (fun _ _ => rfl)) pe_int (nomark _)) (pss_cons (ps_set (i := 3) sc__law_draw.nd rfl (by first | exact .inl rfl | exact .inr rfl) (pe_op op_mod (pe_callTy call_int1 (by rfl) T.int boot_int (pa_cons (pe_ix ix_X (pv 0) pe_int (fun _ _ => rfl)) pa_nil)) (pv 1)))
      (pss_cons (ps_asg (pe_op op_fdiv (pe_ix ix_X (pv 0) pe_int (fun _ _ => rfl)) (pv 1)) (pg_sub (pv 0) pe_int set_list))
      (pss_one (ps_ret (pv 3))))) pss_nil)
      (pss_cons (ps_set (i := 2) sc__law_draw.nd rfl (by first | exact .inl rfl | exact .inr rfl) (pe_op op_mod (pe_op op_pow (pe_op op_addA (pe_op op_addA (pe_ix ix_X (pv 0) pe_int (fun _ _ => rfl)) (pe_op op_mul pe_int (pe_ix ix_X (pv 0) pe_int (fun _ _ => rfl)))) pe_int) pe_int) pe_int))
      (pss_one (ps_ret (pe_op op_mod (pe_op op_mod (pe_op op_pow (pe_op op_addA (pe_op op_addA (pe_op op_mul (pv 2) pe_int) (pe_op op_mul (pe_op op_mul pe_int (pe_ix ix_X (pv 0) pe_int (fun _ _ => rfl))) (pe_ix ix_X (pv 0) pe_int (fun _ _ => rfl)))) pe_int) pe_int) pe_int) (pv 1)))))))), ?_⟩
    obtain ⟨hne, cells, x, n, m, h1, h2, hx, hn, hk, hm0, hm⟩ := at_
    have hk : n + ((k + 1 : Nat) : Int) ≤ 10000000 := hk
    have st0 : StAt S H cells x n m := ⟨hne, h1, h2⟩
    -- stream[2] = stream[2] + 1
    refine z_sub (j := 2) (jn := 2) (z := n + 1) rfl mh st0 rfl (gv_addIn (K := K) (gv_ixI (K := K) (i := 2) (gv_var rfl st0.sq) (gv_c rfl) rfl) (gv_c rfl)) fun M1 H1 g1 ha1 hb1 => ?_
    have st1 : StAt S H1 cells x (n + 1) m := ⟨hne, ha1, hb1⟩
    have hp18 : ((10 : Int) ^ (18 : Int).toNat) = 1000000000000000000 := by decide
    refine q_cut (fun σ' H2 => ∃ M2 cells x m, σ' = [some (.ref S.a), some (.int many), none, none] ∧ Gr M (S.cut H) M2 (S.cut H2) ∧ StAt S H2 cells x (n + 1) m ∧ 0 ≤ x ∧ 0 ≤ m ∧ m < 2147483647) (fun nx hnx => ?_) ?_
    · refine s_if0 (b := decide (x = 0) && !decide (cells = [])) (full_same g1.mh) (gt_and (gt_test (gv_is (gv_eqT (K := K) (neg := false) py_int inj_int (gv_ixI (K := K) (i := 1) (gv_var rfl st1.sq) (gv_c rfl) rfl) (gv_c rfl) (by simp [PyData.depth])) fun M v h => by simpa using h)) fun _ =>
          gt_test (gv_is (gv_eq (K := K) (neg := true) (d := .list (cells.map .int)) (e := .list []) (gv_ix (K := K) (R := Dd K) (i := 0) (gv_var rfl st1.sq) (gv_c rfl) rfl) gv_nilD (depthI cells)) fun M v h => ?_)) (fun hb H2 hh2 => ?_) (fun hb H2 hh2 => ?_)
      · rw [show v = _ from h, nilI]; simp
      · -- a cell is taken
        obtain ⟨ex, hc⟩ : x = 0 ∧ cells ≠ [] := by simpa using hb
        have st2 := st1.same hh2
        have g2 : Gr M (S.cut H) M1 (S.cut H2) := g1.trans (.idle g1.mh fun y u e => by rw [cut_on (on_of e)]; exact hh2 y u (of_cut e))
        obtain ⟨cell, rest, rfl⟩ : ∃ c r, cells = c :: r := by cases cells with | nil => exact absurd rfl hc | cons c r => exact ⟨c, r, rfl⟩
        refine ⟨.ref S.a, rfl, .inl ⟨S.a, _, 0, .ref S.b, rfl, rfl, .inl (.inl st2.a), rfl, .inl ⟨rfl, _, .inl (.inl st2.b)⟩, S.b, _, 0, 0, .int cell, rfl, rfl, st2.b, by decide, by decide, ?_, rfl, .ref S.a, rfl, S.a, _, 1, 1, rfl, rfl, (by rw [upd_ne hne]; exact st2.a), rfl, ?_⟩⟩
        · simp [seqIndex?]
        · have st3 : StAt S (upd (upd H2 S.b (.lst (((cell :: rest).map V.int).eraseIdx 0))) S.a (.lst ([V.ref S.b, .int x, .int (n + 1), .int m].set 1 (.int cell)))) rest cell (n + 1) m := ⟨hne, upd_same, by rw [upd_ne (Ne.symm hne), upd_same]; rfl⟩
          have g3 : Gr M (S.cut H) M1 (S.cut (upd (upd H2 S.b (.lst (((cell :: rest).map V.int).eraseIdx 0))) S.a (.lst ([V.ref S.b, .int x, .int (n + 1), .int m].set 1 (.int cell))))) := by rw [cut_updo (.inl rfl), cut_updo (.inr rfl)]; exact g2
          revert st3 g3
          generalize upd (upd H2 S.b (.lst (((cell :: rest).map V.int).eraseIdx 0))) S.a (.lst ([V.ref S.b, .int x, .int (n + 1), .int m].set 1 (.int cell))) = H3
          intro st3 g3
          refine s_if0 (b := decide (cell < 1000000000000000000)) (full_same g3.mh) (gt_test (gv_is (gv_lt (gv_ixI (K := K) (i := 1) (gv_var rfl st3.sq) (gv_c rfl) rfl) (gv_pow (i := 10) (j := 18) (gv_c rfl) (gv_c rfl) ⟨by decide, by decide, by decide⟩)) fun M v h => by rw [hp18] at h; exact h)) (fun hb4 H4 hh4 => ?_) (fun hb4 H4 hh4 => ?_)
          · have st4 := st3.same hh4
            have g4 : Gr M (S.cut H) M1 (S.cut H4) := g3.trans (.idle g3.mh fun y u e => by rw [cut_on (on_of e)]; exact hh4 y u (of_cut e))
            refine z_sub (j := 3) (jn := 3) (z := (m * 31 + cell + 7) % 2147483647) rfl g4.mh st4 rfl (gv_mod (gv_int1 (gv_addIn (K := K) (gv_addIn (K := K) (gv_mul (gv_ixI (K := K) (i := 3) (gv_var rfl st4.sq) (gv_c rfl) rfl) (gv_c rfl) (.inr ⟨by decide, by decide⟩)) (gv_ixI (K := K) (i := 1) (gv_var rfl st4.sq) (gv_c rfl) rfl)) (gv_c rfl))) (gv_c rfl) (by decide)) fun M5 H5 g5 ha5 hb5 => ?_
            have st5 : StAt S H5 rest cell (n + 1) ((m * 31 + cell + 7) % 2147483647) := ⟨hne, ha5, hb5⟩
            refine z_subE (j := 1) (jn := 1) (z := 0) rfl g5.mh st5 rfl (gv_c rfl) fun M6 H6 g6 ha6 hb6 => ?_
            exact hnx _ _ ⟨M6, rest, 0, _, rfl, (g4.trans g5).trans g6, ⟨hne, ha6, hb6⟩, Int.le_refl _, Int.emod_nonneg _ (by decide), Int.emod_lt_of_pos _ (by decide)⟩
          · have hc : (1000000000000000000 : Int) ≤ cell := by simpa using hb4
            exact hnx _ _ ⟨M1, rest, cell, m, rfl, g3.trans (.idle g3.mh fun y u e => by rw [cut_on (on_of e)]; exact hh4 y u (of_cut e)), st3.same hh4, by omega, hm0, hm⟩
      · exact hnx _ _ ⟨M1, cells, x, m, rfl, g1.trans (.idle g1.mh fun y u e => by rw [cut_on (on_of e)]; exact hh2 y u (of_cut e)), st1.same hh2, hx, hm0, hm⟩
    · rintro σ' H2 ⟨M2, cells, x, m, rfl, g2, st2, hx, hm0, hm⟩
      have hk' : n + 1 + (k : Int) ≤ 10000000 := by omega
      refine q_if0 (b := decide (0 < x)) (full_same g2.mh) (gt_test (gv_is (gv_gt (gv_ixI (K := K) (i := 1) (gv_var rfl st2.sq) (gv_c rfl) rfl) (gv_c rfl)) fun M v h => h)) (fun hb3 H3 hh3 => ?_) (fun hb3 H3 hh3 => ?_)
      · have st3 := st2.same hh3
        have g3 : Gr M (S.cut H) M2 (S.cut H3) := g2.trans (.idle g2.mh fun y u e => by rw [cut_on (on_of e)]; exact hh3 y u (of_cut e))
        refine q_asg (M := S.full M2 H3) (P := It' (x % many)) (full_same g3.mh) (gv_mod (gv_int1 (gv_ixI (K := K) (i := 1) (gv_var rfl st3.sq) (gv_c rfl) rfl)) (gv_var rfl rfl) hm1) fun v4 M4 H4 g4 r4 => ?_
        cases r4
        have st4 := st3.same g4.hh
        have G4 := g3.trans (unfull g3.mh g4)
        refine z_sub (j := 1) (jn := 1) (z := x / many) rfl G4.mh st4 rfl (gv_fdiv (gv_ixI (K := K) (i := 1) (gv_var rfl st4.sq) (gv_c rfl) rfl) (gv_var rfl rfl) ⟨hm1, hm2⟩) fun M5 H5 g5 ha5 hb5 => ?_
        refine ⟨.int (x % many), rfl, q _ M5 H5 (G4.trans g5) ⟨hne, cells, x / many, n + 1, m, ha5, hb5, Int.ediv_nonneg hx (by omega), by omega, hk', hm0, hm⟩ ⟨x % many, ⟨Int.emod_nonneg _ (by omega), Int.emod_lt_of_pos _ hm1⟩, rfl⟩⟩
      · have st3 := st2.same hh3
        have g3 : Gr M (S.cut H) M2 (S.cut H3) := g2.trans (.idle g2.mh fun y u e => by rw [cut_on (on_of e)]; exact hh3 y u (of_cut e))
        refine q_asg (M := S.full M2 H3) (P := It' ((m + 104729 * (n + 1) + 17) ^ (5 : Int).toNat % 2147483629)) (full_same g3.mh) (gv_mod (gv_pow (gv_addIn (K := K) (gv_addIn (K := K) (gv_ixI (K := K) (i := 3) (gv_var rfl st3.sq) (gv_c rfl) rfl) (gv_mul (gv_c rfl) (gv_ixI (K := K) (i := 2) (gv_var rfl st3.sq) (gv_c rfl) rfl) (.inl ⟨by decide, by decide⟩))) (gv_c rfl)) (gv_c rfl) ⟨by decide, by decide, by omega⟩) (gv_c rfl) (by decide)) fun v4 M4 H4 g4 r4 => ?_
        have st4 := st3.same g4.hh
        have G4 := g3.trans (unfull g3.mh g4)
        have hz0 := Int.emod_nonneg ((m + 104729 * (n + 1) + 17) ^ (5 : Int).toNat) (show (2147483629 : Int) ≠ 0 by decide)
        have hz1 := Int.emod_lt_of_pos ((m + 104729 * (n + 1) + 17) ^ (5 : Int).toNat) (show (0 : Int) < 2147483629 by decide)
        revert r4 hz0 hz1
        generalize (m + 104729 * (n + 1) + 17) ^ (5 : Int).toNat % 2147483629 = z
        intro r4 hz0 hz1
        have hnn : (n + 1) * (n + 1) ≤ 10000000 * 10000000 := Int.mul_le_mul (by omega) (by omega) (by omega) (by omega)
        have hnn0 : 0 ≤ (n + 1) * (n + 1) := Int.mul_nonneg (by omega) (by omega)
        have hass : 40503 * (n + 1) * (n + 1) = 40503 * ((n + 1) * (n + 1)) := Int.mul_assoc _ _ _
        refine s_ret (M := S.full (S.cut M4) H4) (P := It' ((z * 48271 + 40503 * (n + 1) * (n + 1) + 13) ^ (3 : Int).toNat % 1000000007 % many)) (full_same G4.mh) (gv_mod (gv_mod (gv_pow (gv_addIn (K := K) (gv_addIn (K := K) (gv_mul (gv_var rfl r4) (gv_c rfl) (.inr ⟨by decide, by decide⟩)) (gv_mul (gv_mul (gv_c rfl) (gv_ixI (K := K) (i := 2) (gv_var rfl st4.sq) (gv_c rfl) rfl) (.inl ⟨by decide, by decide⟩)) (gv_ixI (K := K) (i := 2) (gv_var rfl st4.sq) (gv_c rfl) rfl) (.inr ⟨by omega, by omega⟩))) (gv_c rfl)) (gv_c rfl) ⟨by decide, by decide, by omega⟩) (gv_c rfl) (by decide)) (gv_var rfl rfl) hm1) fun v5 M5 H5 g5 r5 => ?_
        have st5 := st4.same g5.hh
        exact q _ _ H5 (G4.trans (unfull G4.mh g5)) ⟨hne, cells, x, n + 1, m, st5.a, st5.b, hx, by omega, hk', hm0, hm⟩ ⟨_, ⟨Int.emod_nonneg _ (by omega), Int.emod_lt_of_pos _ hm1⟩, r5⟩
end
end My

set_option Elab.async false
set_option linter.all false
set_option maxRecDepth 100000
set_option maxHeartbeats 4000000
namespace My
open PySem PySem.Spec PyProof.Rows L2 L3
open L3.Strm
theorem rv_ix {K : PySem.W.Frag} {α : Type} {R : Rl α} [Mon R] {xs : List α} {i : Int} {x : α} {M : Hp} {u w : V} (hu : SqR K R xs M u) (hw : It' i M w) (hx : atI xs i = some x) : RV (rIxX K u w) M (R x) :=
  fun H mh Q q => gv_ix (K := K) (σ := []) (M := M) (ta := tC u) (tb := tC w) (gv_c hu) (gv_c hw) hx H mh Q q
theorem rv_ixS {K : PySem.W.Frag} {x : Str} {i : Int} {c : Nat} {M : Hp} {u w : V} (hu : Tx x M u) (hw : It' i M w) (hz : x.length ≤ sizeLine) (hx : atI x.cps.toList i = some c) : RV (rIxX K u w) M (Tx ⟨#[c]⟩) :=
  fun H mh Q q => gv_ixS (K := K) (σ := []) (M := M) (ta := tC u) (tb := tC w) (gv_c hu) (gv_c hw) hz hx H mh Q q
theorem atI_in {α : Type} {xs : List α} {i : Int} (h0 : 0 ≤ i) (h1 : i < xs.length) : ∃ x ∈ xs, atI xs i = some x := by
  have hi : i.toNat < xs.length := by omega
  refine ⟨xs[i.toNat], List.getElem_mem _, ?_⟩
  have := atI_nat (xs := xs) (j := i.toNat) (List.getElem?_eq_getElem hi)
  rw [Int.toNat_of_nonneg h0] at this
  exact this
theorem erase_map {α β : Type} (f : α → β) : ∀ (l : List α) (i : Nat), (l.map f).eraseIdx i = (l.eraseIdx i).map f
  | [], _ => rfl
  | _ :: _, 0 => rfl
  | a :: l, i + 1 => by show f a :: (l.map f).eraseIdx i = f a :: (l.eraseIdx i).map f; rw [erase_map f l i]
theorem erase_perm {α : Type} : ∀ {l : List α} {i : Nat} (h : i < l.length), (l[i] :: l.eraseIdx i).Perm l
  | _ :: _, 0, _ => List.Perm.refl _
  | a :: l, i + 1, h => (List.Perm.swap _ _ _).trans (List.Perm.cons a (erase_perm (l := l) (i := i) (Nat.lt_of_succ_lt_succ h)))
section
variable {P : Program} {w : World} {K : PySem.W.Frag} {mg : Str → Option Value} {base : Heap}
abbrev s__law_pick : Stmt := topS 58
theorem sc__law_pick : FnScope ["_law_stream", "_law_things"] ["_law_stream", "_law_things"] (defScope s__law_pick) := ⟨rfl, rfl, rfl, by decide +kernel, rfl, by decide +kernel, by decide +kernel⟩
def sp__law_pick (K : PySem.W.Frag) : Sp := spS1 (SqR K Tx) (fun xs => 0 < xs.length ∧ xs.length ≤ 1000000) (fun _ => 1) fun xs => Ex Tx fun x => x ∈ xs
theorem ok__law_pick {f : Addr} {fd : FuncData} (F : Fun K "_law_pick" "_law_pick" s__law_pick f fd) (T : Gc mg) (c__law_draw : Cal P w K mg base 1 "_law_draw" ["_law_stream", "_law_many"] (sp__law_draw K)) : FnOk P w K mg base CX0 2 f fd ["_law_stream", "_law_things"] (sp__law_pick K) := by
  refine F.ok sc__law_pick (fun vs H Q E h => ?_) (fun cdv A outer s H vs Q E hr h => ?_)
  · obtain ⟨S, x, M, v, k, rfl, _⟩ := h
    rfl
  · obtain ⟨S, xs, M, v, k, rfl, mh, at_, r1, ⟨h1, h2⟩, q⟩ := h
    refine ⟨_, (pss_one (ps_ret (pe_ix ix_X (pv 1) (pe_f c__law_draw (hr.mono (by decide)) (pa_cons (pv 0) (pa_cons (pe_callB call_lenA (by rfl) T.len boot_len (pa_cons (pv 1) pa_nil)) pa_nil))) (fun _ _ => rfl)))), ?_⟩
    refine z_ret (S := S) (c := 0 + 1) mh at_ (gs_op (P := SqR K Tx xs) (P1 := Ex It' fun i => 0 ≤ i ∧ i < (xs.length : Int)) (gv_var rfl r1).s (gs_call1 (S := S) (R1 := It') (pre := fun n => 0 < n ∧ n < 1073741824) (cs := fun _ => 1) (R := fun n => Ex It' fun i => 0 ≤ i ∧ i < n) (x := (xs.length : Int)) rfl (gv_lenA (K := K) (R := Tx) (gv_var rfl r1)) ⟨by omega, by omega⟩) fun M' u w pu ⟨i, hi, pw⟩ => ?_) q
    obtain ⟨x, hx, ha⟩ := atI_in hi.1 hi.2
    exact fun H mh Q q => rv_ix pu pw ha H mh Q fun v M' H' g r => q v M' H' g ⟨x, hx, r⟩
abbrev s__law_mixed : Stmt := topS 59
theorem sc__law_mixed : FnScope ["_law_stream", "_law_things", "_law_left", "_law_k"] ["_law_stream", "_law_things"] (defScope s__law_mixed) := ⟨rfl, rfl, rfl, by decide +kernel, rfl, by decide +kernel, by decide +kernel⟩
def sp__law_mixed (K : PySem.W.Frag) : Sp := slS1 (SqR K Tx) (fun xs => xs.length ≤ 1000000) (fun xs => xs.length) fun xs M ws => ∃ ys : List Str, ys.Perm xs ∧ Pd Tx M ys ws
theorem ok__law_mixed {f : Addr} {fd : FuncData} (F : Fun K "_law_mixed" "_law_mixed" s__law_mixed f fd) (T : Gc mg) (c__law_draw : Cal P w K mg base 1 "_law_draw" ["_law_stream", "_law_many"] (sp__law_draw K)) : FnOk P w K mg base CX0 2 f fd ["_law_stream", "_law_things"] (sp__law_mixed K) := by
  refine F.ok sc__law_mixed (fun vs H Q E h => ?_) (fun cdv A outer s H vs Q E hr h => ?_)
  · obtain ⟨S, x, M, v, k, rfl, _⟩ := h
    rfl
  · obtain ⟨S, xs, M, v, k, rfl, mh, at_, r1, h1, q⟩ := h
    refine ⟨_, (pss_cons (ps_set (i := 2) sc__law_mixed.nd rfl (by first | exact .inl rfl | exact .inr rfl) (pe_callTy call_lstA (by rfl) T.list boot_list (pa_cons (pv 1) pa_nil)))
      (pss_one (ps_ret (pe_lc (own := [("_law_k", 3)]) (g := (gName 3)) (tt := tYes) (te := (tBM K "list" rPopAt (tVar 2) (tCons (tCall (sp__law_draw K) [] E0 (tCons (tVar 0) (tCons (tCB (rLenA K) (tCons (tVar 2) tNil)) tNil))) tNil))) (by rfl) sc__law_mixed.nd (pi_range1 (by rfl) T.range (pa_cons (pe_callB call_lenA (by rfl) T.len boot_len (pa_cons (pv 2) pa_nil)) pa_nil)) (blkOk_by (by rfl)) (fun _ _ _ _ _ => (pg_name (i := 3) sc__law_mixed.nd rfl (by first | exact .inl rfl | exact .inr rfl))) (fun _ _ _ _ _ => pts_nil) (fun _ _ _ _ _ => (pe_bm PySem.F.plainAttrs_list PySem.F.slot_list_pop PySem.F.type_list_pop mt_popAt (pv 2) (pa_cons (pe_f c__law_draw (hr.mono (by decide)) (pa_cons (pv 0) (pa_cons (pe_callB call_lenA (by rfl) T.len boot_len (pa_cons (pv 2) pa_nil)) pa_nil))) pa_nil))))))), ?_⟩
    refine z_asgL (S := S) (c := 0) mh at_ (gl_lstOf (K := K) (R1 := Tx) (gv_var rfl r1)).s fun p vs M1 H1 g1 a1 hp0 hpm hpw hpd => ?_
    have evs := pd_tx hpd
    subst evs
    -- the comprehension
    have hlen : Gv (tCB (rLenA K) (tCons (tVar 2) tNil)) [some (.ref S.a), some v, some (.ref p), none] (upd M1 p (.lst (xs.map V.str))) (It' (xs.length : Nat)) := gv_lenA (K := K) (R := Tx) (gv_var rfl (.inl ⟨p, _, rfl, .inl (.inl upd_same), pd_of_tx xs⟩))
    have hdis : ∀ {D : Addr} {H2 : Hp} {o : HO}, H2 D = none → S.cut H2 p = some o → p ≠ D := fun hD hp z => by subst z; have := of_cut hp; rw [hD] at this; cases this
    refine lc_rngL hlen hpm (g1.mh.trans cut_same) (of_cut hpw) (Nat.le_trans h1 (by decide)) ls_nt
      (fun D i M' H' => ∃ L zs : List Str, Gr M (S.cut H) M' (S.cut H') ∧ S.At (k + (xs.length - i)) H' ∧ S.cut H D = none ∧ M' D = none ∧ M' p = none ∧ p ≠ D ∧ S.cut H' D = some (.lst (zs.map V.str)) ∧ S.cut H' p = some (.lst (L.map V.str)) ∧ (zs ++ L).Perm xs ∧ zs.length = i) (fun M2 H2 D g2 hD => ?_) (fun D i M' H' hi => ?_) (fun D M' H' => ?_)
    · have g2' := lift g1.mh a1 g2
      have a2 := a1.same g2.hh
      have nD := a2.fresh hD
      have hp2 := g2'.hh _ _ hpw
      have hpD := hdis hD hp2
      have G2 := g1.trans g2'
      refine ⟨xs, [], by rw [cut_upd nD]; exact G2.trans (.own G2.mh (a2.cutn hD)), a2.upd nD, G2.hh.free (a2.cutn hD), G2.mh.free (a2.cutn hD), g2'.keep hpm hpw, hpD, by rw [cut_upd nD, upd_same]; rfl, by rw [cut_upd nD, upd_ne hpD]; exact hp2, List.Perm.refl _, rfl⟩
    · rintro ⟨L, zs, g, a', hD0, mD, mp, hpD, hwD, hwp, hper, hzl⟩
      have hLl : L.length = xs.length - i := by have := hper.length_eq; rw [List.length_append] at this; omega
      have e1 : k + (xs.length - i) = (k + (xs.length - (i + 1))) + 1 := by omega
      rw [e1] at a'
      refine ⟨.ref p, rfl, .inl ⟨rfl, _, .inl (.inl (of_cut hwp))⟩, ?_⟩
      refine GvS.lend (S := S) (c := 1) (P := Ex It' fun z => 0 ≤ z ∧ z < (L.length : Int)) (gs_call1 (S := S) (R1 := It') (pre := fun n => 0 < n ∧ n < 1073741824) (cs := fun _ => 1) (R := fun n => Ex It' fun i => 0 ≤ i ∧ i < n) (x := (L.length : Int)) rfl
        (gv_lenA (K := K) (R := Tx) (gv_var rfl (.inl ⟨p, _, rfl, .inl (.inl upd_same), pd_of_tx L⟩))) ⟨by omega, by omega⟩) mp g.mh a' hwp ls_nt fun v3 M3 H3 g3 a3 ⟨z, hz, rz⟩ => ?_
      cases rz
      have hp3 := g3.hh _ _ hwp
      have hD3 := g3.hh _ _ hwD
      have hzn : z.toNat < L.length := by omega
      refine ⟨p, L.map V.str, z, z.toNat, .str L[z.toNat], rfl, rfl, of_cut hp3, by omega, by omega, ?_, ?_, ?_⟩
      · unfold seqIndex?
        rw [List.length_map]
        simp only [if_neg (show ¬ z < 0 by omega)]
        rw [if_pos (by simp; omega)]
      · rw [List.getElem?_map, List.getElem?_eq_getElem hzn]; rfl
      · have np := on_of hp3
        have nD := on_of hD3
        refine ⟨zs.map V.str, by rw [upd_ne (Ne.symm hpD)]; exact of_cut hD3, szL (by rw [List.length_map]; omega), M3, L.eraseIdx z.toNat, zs ++ [L[z.toNat]], ?_, (a3.upd np).upd nD, hD0, g3.keep mD hwD, g3.keep mp hwp, hpD, ?_, ?_, ?_, by rw [List.length_append, hzl]; rfl⟩
        · rw [cut_upd nD, cut_upd np]
          exact ((g.trans g3).mut hp0 (g3.keep mp hwp)).mut hD0 (g3.keep mD hwD)
        · rw [cut_upd nD, upd_same, List.map_append]; rfl
        · rw [cut_upd nD, cut_upd np, upd_ne hpD, upd_same, erase_map]
        · refine List.Perm.trans ?_ hper
          rw [List.append_assoc]
          exact List.Perm.append_left zs (erase_perm hzn)
    · rintro ⟨L, zs, g, a', hD0, mD, mp, hpD, hwD, hwp, hper, hzl⟩
      have hL : L = [] := by
        have := hper.length_eq; rw [List.length_append] at this
        exact List.eq_nil_of_length_eq_zero (by omega)
      subst hL
      rw [List.append_nil] at hper
      exact q D _ M' H' g (a'.le (by omega)) hD0 mD hwD ⟨zs, hper, pd_of_tx zs⟩
end
end My

set_option Elab.async false
set_option linter.all false
set_option maxRecDepth 100000
set_option maxHeartbeats 4000000
namespace My
open PySem PySem.Spec PyProof.Rows L2 L3
open L3.Strm
section
variable {K : PySem.W.Frag} {S : Strm} {σ : Sl} {M : Hp} {te : TE} {i : Nat} {n : Int}
theorem gs_draw (hi : σ[i]? = some (some (.ref S.a))) (h : Gv te σ M (It' n)) (h0 : 0 < n) (h1 : n < 1073741824) : GvS S 1 (tCall (sp__law_draw K) [] E0 (tCons (tVar i) (tCons te tNil))) σ M (Ex It' fun z => 0 ≤ z ∧ z < n) :=
  gs_call1 (S := S) (R1 := It') (pre := fun n => 0 < n ∧ n < 1073741824) (cs := fun _ => 1) (R := fun n => Ex It' fun i => 0 ≤ i ∧ i < n) (x := n) hi h ⟨h0, h1⟩
theorem gts_zero (hi : σ[i]? = some (some (.ref S.a))) (h : Gv te σ M (It' n)) (h0 : 0 < n) (h1 : n < 1073741824) : GvTS S 1 (tTest (tOp (rEqP K false) (tCall (sp__law_draw K) [] E0 (tCons (tVar i) (tCons te tNil))) (tC (.int 0)))) σ M fun _ => True :=
  (gts_test (P := fun _ v => ∃ b, v = .bl b) (gs_op (c2 := 0) (P1 := It' 0) (gs_draw (K := K) hi h h0 h1) (gv_c rfl).s fun M' x y ⟨z, _, rz⟩ py => fun H mh Q q =>
    gv_eqT (K := K) (neg := false) (σ := []) (M := M') (ta := tC x) (tb := tC y) py_int inj_int (gv_c rz) (gv_c py) (by simp [PyData.depth]) H mh Q fun v M' H' g r => q v M' H' g ⟨_, r⟩) fun M v ⟨b, e⟩ => ⟨b, e, trivial⟩)
end
def sgn (c : Nat) : Str := ⟨#[c]⟩
theorem join_sgn (cs : List Nat) : Txt.join "" (cs.map sgn) = ⟨cs.toArray⟩ := by
  have h := SX.join_S [] (cs.map fun c => [c])
  rw [List.map_map] at h
  have e : ∀ cs : List Nat, TL.joinL [] (cs.map fun c => [c]) = cs := fun cs => by
    induction cs with
    | nil => rfl
    | cons c r ih =>
      cases r with
      | nil => rfl
      | cons d r => show [c] ++ ([] ++ TL.joinL [] ((d :: r).map fun c => [c])) = c :: d :: r; rw [ih]; rfl
  rw [e] at h
  exact h
theorem letter_at : ∀ j, j < 26 → g_LETTERS.cps.toList[j]? = some (97 + j) := by decide +kernel
theorem atI_letter {z : Int} (h0 : 0 ≤ z) (h1 : z < 26) : atI g_LETTERS.cps.toList z = some (97 + z.toNat) := by
  have := atI_nat (letter_at z.toNat (by omega))
  rw [Int.toNat_of_nonneg h0] at this
  exact this
theorem isNm_of {cs : List Nat} (h1 : 1 ≤ cs.length) (h2 : cs.length ≤ 8) (h : ∀ c ∈ cs, ∃ j, j < 26 ∧ c = 97 + j) : isNm ⟨cs.toArray⟩ = true := by
  simp only [isNm, Bool.and_eq_true, decide_eq_true_eq, List.all_eq_true]
  refine ⟨⟨by simpa [Str.length] using h1, by simpa [Str.length] using h2⟩, fun c hc => ?_⟩
  obtain ⟨j, hj, rfl⟩ := h c (by simpa using hc)
  exact List.mem_of_getElem? (letter_at j hj)
def words : List Str := ["sign", "helper", "clause", "dead", "forced", "all", "found"]
theorem words_nm : ∀ x ∈ words, isNm x = true := by decide +kernel
def spare (i : Nat) : Str := ⟨#[113, 97 + i / 26, 97 + i % 26]⟩
theorem spare_nm {i : Nat} (h : i < 676) : isNm (spare i) = true := isNm_of (cs := [113, 97 + i / 26, 97 + i % 26]) (by simp) (by simp) fun c hc => by
  simp only [List.mem_cons, List.not_mem_nil, or_false] at hc
  rcases hc with rfl | rfl | rfl
  · exact ⟨16, by decide, rfl⟩
  · exact ⟨i / 26, by omega, rfl⟩
  · exact ⟨i % 26, by omega, rfl⟩
theorem spare_inj {i j : Nat} (h : spare i = spare j) : i = j := by
  have h1 := congrArg (fun x : Str => x.cps.toList) h
  simp only [spare, List.cons.injEq, and_true, true_and] at h1
  omega
theorem spare_eq (i : Nat) : ("q" : Str) ++ sgn (97 + i / 26) ++ sgn (97 + i % 26) = spare i := rfl
theorem nodup_le {ys : List Str} : ∀ {xs : List Str}, xs.Nodup → (∀ x ∈ xs, x ∈ ys) → xs.length ≤ ys.length := by
  intro xs
  induction xs generalizing ys with
  | nil => intro _ _; exact Nat.zero_le _
  | cons x xs ih =>
    intro nd h
    obtain ⟨hx, nd⟩ := List.nodup_cons.mp nd
    have h1 := ih (ys := ys.filter fun y => decide (y ≠ x)) nd fun z hz => List.mem_filter.mpr ⟨h z (List.mem_cons_of_mem _ hz), decide_eq_true fun e => hx (e ▸ hz)⟩
    have h2 := filter_lt (l := x) (p := fun _ => true) (q := fun y => decide (y ≠ x)) (xs := ys) (fun _ _ => rfl) (h x (List.mem_cons_self ..)) rfl (by simp)
    rw [List.filter_eq_self.mpr fun _ _ => rfl] at h2
    rw [List.length_cons]
    omega
theorem spare_free {taken : List Str} (h : ∀ i, i < 676 → spare i ∈ taken) : 676 ≤ taken.length := by
  have nd : ((List.range 676).map spare).Nodup := by
    show List.Pairwise _ _
    rw [List.pairwise_map]
    exact List.Pairwise.imp (fun hne e => hne (spare_inj e)) (List.nodup_range (n := 676))
  have := nodup_le nd fun x hx => by
    obtain ⟨i, hi, rfl⟩ := List.mem_map.mp hx
    exact h i (List.mem_range.mp hi)
  simpa using this
theorem sgns_of {α : Type} {xs : List α} {ys : List Str} (h : Paired (fun _ x => ∃ j, j < 26 ∧ x = sgn (97 + j)) xs ys) : ∃ cs : List Nat, ys = cs.map sgn ∧ cs.length = xs.length ∧ ∀ c ∈ cs, ∃ j, j < 26 ∧ c = 97 + j := by
  induction h with
  | nil => exact ⟨[], rfl, rfl, fun c h => nomatch h⟩
  | cons q _ ih =>
    obtain ⟨j, hj, e⟩ := q
    obtain ⟨cs, h1, h2, h3⟩ := ih
    refine ⟨(97 + j) :: cs, by rw [e, h1]; rfl, by simp [h2], fun c hc => ?_⟩
    rcases List.mem_cons.mp hc with rfl | hc
    · exact ⟨j, hj, rfl⟩
    · exact h3 c hc
theorem sgn_sum (cs : List Nat) : ((cs.map sgn).map (·.length)).sum = cs.length := by
  induction cs with
  | nil => rfl
  | cons c r ih => simp only [List.map_cons, List.sum_cons, ih, List.length_cons]; show 1 + r.length = _; omega
section
variable {P : Program} {w : World} {K : PySem.W.Frag} {mg : Str → Option Value} {base : Heap}
abbrev s__law_fresh : Stmt := topS 61
theorem sc__law_fresh : FnScope ["_law_stream", "_law_taken", "_law_name", "_law_k", "_law_letters", "_law_words", "_law_spare"] ["_law_stream", "_law_taken"] (defScope s__law_fresh) := ⟨rfl, rfl, rfl, by decide +kernel, rfl, by decide +kernel, by decide +kernel⟩
def sp__law_fresh (K : PySem.W.Frag) : Sp := spS1 (SqR K Tx) (fun xs => xs.length ≤ 600) (fun _ => 12) fun xs => Ex Tx fun x => isNm x = true ∧ x ∉ xs
theorem ok__law_fresh {f : Addr} {fd : FuncData} (F : Fun K "_law_fresh" "_law_fresh" s__law_fresh f fd) (T : Gc mg) (c__law_draw : Cal P w K mg base 1 "_law_draw" ["_law_stream", "_law_many"] (sp__law_draw K)) (c__law_pick : Cal P w K mg base 2 "_law_pick" ["_law_stream", "_law_things"] (sp__law_pick K)) :
    FnOk P w K mg base CX0 3 f fd ["_law_stream", "_law_taken"] (sp__law_fresh K) := by
  refine F.ok sc__law_fresh (fun vs H Q E h => ?_) (fun cdv A outer s H vs Q E hr h => ?_)
  · obtain ⟨S, x, M, v, k, rfl, _⟩ := h
    rfl
  · obtain ⟨S, tk, M, v, k, rfl, mh, at_, r1, h1, q⟩ := h
    have hu := hr.units
    refine ⟨_, (pss_cons (ps_asg (pe_tup (pa_cons pe_str (pa_cons (pe_lst (pa_cons pe_str (pa_cons pe_str (pa_cons pe_str (pa_cons pe_str (pa_cons pe_str (pa_cons pe_str (pa_cons pe_str pa_nil)))))))) pa_nil))) (pg_tup (by rfl) (pgs_cons (pg_name (i := 4) sc__law_fresh.nd rfl (by first | exact .inl rfl | exact .inr rfl)) (pgs_cons (pg_name (i := 5) sc__law_fresh.nd rfl (by first | exact .inl rfl | exact .inr rfl)) pgs_nil))))
      (pss_cons (ps_set (i := 2) sc__law_fresh.nd rfl (by first | exact .inl rfl | exact .inr rfl) (pe_join pe_str (pe_lc (own := [("_law_k", 3)]) (g := (gName 3)) (tt := tYes) (te := (tOp (rIxX K) (tVar 4) (tCall (sp__law_draw K) [] E0 (tCons (tVar 0) (tCons (tC (.int 26)) tNil))))) (by rfl) sc__law_fresh.nd (pi_range1 (by rfl) T.range (pa_cons (pe_ix ix_X (pe_lst (pa_cons pe_int (pa_cons pe_int (pa_cons pe_int (pa_cons pe_int (pa_cons pe_int (pa_cons pe_int pa_nil))))))) (pe_f c__law_draw (hr.mono (by decide)) (pa_cons (pv 0) (pa_cons pe_int pa_nil))) (fun _ _ => rfl)) pa_nil)) (blkOk_by (by rfl)) (fun _ _ _ _ _ => (pg_name (i := 3) sc__law_fresh.nd rfl (by first | exact .inl rfl | exact .inr rfl))) (fun _ _ _ _ _ => pts_nil) (fun _ _ _ _ _ => (pe_ix ix_X (pv 4) (pe_f c__law_draw (hr.mono (by decide)) (pa_cons (pv 0) (pa_cons pe_int pa_nil))) (fun _ _ => rfl))))))
      (pss_cons (ps_set (i := 2) sc__law_fresh.nd rfl (by first | exact .inl rfl | exact .inr rfl) (pe_ifExp (pt_cmpR (op_eqP hu) (pe_f c__law_draw (hr.mono (by decide)) (pa_cons (pv 0) (pa_cons pe_int pa_nil))) pe_int (nomark _)) (pe_f c__law_pick (hr.mono (by decide)) (pa_cons (pv 0) (pa_cons (pv 5) pa_nil))) (pv 2)))
      (pss_cons (ps_for PassesOwn.never (by rfl) (pi_range1 (by rfl) T.range (pa_cons (pe_op op_mul pe_int (pe_callTy call_int1 (by rfl) T.int boot_int (pa_cons (pe_cmpR (op_inA hu) (pv 2) (pv 1) (by rfl)) pa_nil))) pa_nil)) (pg_name (i := 3) sc__law_fresh.nd rfl (by first | exact .inl rfl | exact .inr rfl)) (pss_cons (ps_set (i := 6) sc__law_fresh.nd rfl (by first | exact .inl rfl | exact .inr rfl) (pe_op op_addA (pe_op op_addA pe_str (pe_ix ix_X (pv 4) (pe_op op_fdiv (pv 3) pe_int) (fun _ _ => rfl))) (pe_ix ix_X (pv 4) (pe_op op_mod (pv 3) pe_int) (fun _ _ => rfl))))
      (pss_one (ps_if (pt_cmpR (op_niA hu) (pv 6) (pv 1) (by rfl)) (pss_one (ps_ret (pv 6))) pss_nil))))
      (pss_one (ps_ret (pv 2))))))), ?_⟩
    refine z_asgT (S := S) (k := k + 12) (c := 0) (R := PrR K Tx (LiR Tx)) (x := (g_LETTERS, words)) mh at_ (gv_pair (gv_c rfl) (gv_strs words (by decide))).s tg_2 fun σ1 M1 H1 g1 a1 ⟨vl, vw, rl, rw', e⟩ => ?_
    cases rl
    subst e
    -- name = "".join([..])
    refine z_asg (S := S) (k := k + 3) (c := 9) (P := Ex Tx fun x => isNm x = true) g1.mh a1 ((gs_join (K := K) (good := fun ys => ∃ cs : List Nat, ys = cs.map sgn ∧ 1 ≤ cs.length ∧ cs.length ≤ 8 ∧ ∀ c ∈ cs, ∃ j, j < 26 ∧ c = 97 + j) ((gls_m1 (R := fun i : Nat => It' (i : Nat)) (T := Tx) (n := 8) (c1 := 1) (c2 := 1) (G := fun xs => ∃ n, (1 ≤ n ∧ n ≤ 8) ∧ xs = List.range n) (good := fun _ x => ∃ j, j < 26 ∧ x = sgn (97 + j)) ?_ ?_ (by decide) ?_).is ?_) ?_).is ?_) fun v2 M2 H2 g2 a2 ⟨nm, hnm, r2⟩ => ?_
    · refine gis_rng1 (good := fun n => 1 ≤ n ∧ n ≤ 8) (gs_op (c1 := 0) (c2 := 1) (P := SqR K It' [1, 1, 1, 2, 3, 8]) (gv_is (gv_ints [1, 1, 1, 2, 3, 8] (by decide)) fun _ _ h => h.sq).s (gs_draw (K := K) rfl (gv_c rfl) (by decide) (by decide)) fun M' u w pu ⟨z, hz, pw⟩ => ?_) fun n hn => by omega
      obtain ⟨x, hx, ha⟩ := atI_in (xs := ([1, 1, 1, 2, 3, 8] : List Int)) hz.1 hz.2
      refine fun H mh Q q => rv_ix pu pw ha H mh Q fun v M' H' g r => q v M' H' g ⟨x.toNat, ?_, ?_⟩
      · simp only [List.mem_cons, List.not_mem_nil, or_false] at hx
        omega
      · have : ((x.toNat : Nat) : Int) = x := by simp only [List.mem_cons, List.not_mem_nil, or_false] at hx; omega
        show v = .int _
        rw [this]; exact r
    · rintro xs ⟨n, hn, rfl⟩
      rw [List.length_range]; exact hn.2
    · intro xs _ i _ M2 v2 sm ri
      refine gs_op (c1 := 0) (c2 := 1) (P := Tx g_LETTERS) (gv_var rfl rfl).s (gs_draw (K := K) rfl (gv_c rfl) (by decide) (by decide)) fun M' u w pu ⟨z, hz, pw⟩ => ?_
      exact fun H mh Q q => rv_ixS pu pw (by decide) (atI_letter hz.1 hz.2) H mh Q fun v M' H' g r => q v M' H' g ⟨_, ⟨z.toNat, by omega, rfl⟩, r⟩
    · rintro M2 ws ⟨xs, ys, ⟨n, hn, rfl⟩, hp, hpd⟩
      obtain ⟨cs, h2, h3, h4⟩ := sgns_of hp
      rw [List.length_range] at h3
      exact ⟨ys, ⟨cs, h2, by omega, by omega, h4⟩, hpd⟩
    · rintro ys ⟨cs, rfl, h2, h3, h4⟩
      rw [sgn_sum]
      have e0 : (Str.ofString "").length = 0 := rfl
      rw [e0]
      omega
    · rintro M2 v2 ⟨ys, ⟨cs, rfl, h2, h3, h4⟩, r⟩
      rw [join_sgn] at r
      exact ⟨_, isNm_of h2 h3 h4, r⟩
    -- name = pick(..) if draw(9) == 0 else name
    cases r2
    have G2 := g1.trans g2
    have rw2 : LiR Tx words M2 vw := Mon.mono g2.mm rw'
    refine z_asg (S := S) (k := k + 1) (c := 1 + 1) (P := Ex Tx fun x => isNm x = true) g2.mh a2 (gs_if (c1 := 1) (c2 := 1) (gts_zero (K := K) rfl (gv_c rfl) (by decide) (by decide)) (fun _ => (gs_call1 (S := S) (R1 := SqR K Tx) (pre := fun xs => 0 < xs.length ∧ xs.length ≤ 1000000) (cs := fun _ => 1) (R := fun xs => Ex Tx fun x => x ∈ xs) (x := words) rfl (gv_var rfl (rw2.sq (K := K))) ⟨by decide, by decide⟩).is fun M v ⟨x, hx, r⟩ => ⟨x, words_nm x hx, r⟩) fun _ => (gv_var (P := Ex Tx fun x => isNm x = true) rfl ⟨nm, hnm, rfl⟩).s.cost (Nat.zero_le _)) fun v3 M3 H3 g3 a3 ⟨nm3, hnm3, r3⟩ => ?_
    cases r3
    have G3 := G2.trans g3
    have r1' : SqR K Tx tk M3 v := Mon.mono G3.mm r1
    have fin : ∀ (x : Str) (M' H' : Hp), isNm x = true → x ∉ tk → Gr M3 H3 M' H' → Q (.str x) H' := fun x M' H' hx ht g => q _ M' H' (G3.trans (lift G3.mh a3 g)) ((a3.same g.hh).le (by omega)) ⟨x, ⟨hx, ht⟩, rfl⟩
    have hmul : (676 : Int) * (if decide (nm3 ∈ tk) = true then 1 else 0) = ((if nm3 ∈ tk then 676 else 0 : Nat) : Int) := by by_cases h : nm3 ∈ tk <;> simp [h]
    refine q_forG (M := M3) (xs := List.range (if nm3 ∈ tk then 676 else 0)) (R := fun i : Nat => It' (i : Nat)) (G3.mh.trans cut_same) (gi_rng1 (n := if nm3 ∈ tk then 676 else 0) (gv_is (gv_mul (gv_c rfl) (gv_int1b (gv_inA (K := K) (neg := false) (gv_var rfl rfl) (gv_var rfl (.inl r1')))) (.inl ⟨by decide, by decide⟩)) fun M v h => by
        rw [show v = _ from h]; rw [Bool.false_xor]; show V.int _ = V.int _; rw [hmul]) (by split <;> decide)) tg_1
      (fun M1' i σ' M' H' => ∃ y3 y6, Gr M3 H3 M' H' ∧ Same M1' M' ∧ Same M3 M' ∧ σ' = [some (.ref S.a), some v, some (.str nm3), y3, some (.str g_LETTERS), some vw, y6] ∧ ∀ j, j < i → spare j ∈ tk)
      (fun M4 H4 g4 => ⟨_, _, g4, Same.refl _, g4.mm, rfl, fun j h => nomatch h⟩) (fun M4 i σ' M' H' ⟨_, _, g, s1, _⟩ => ⟨s1, g.mh⟩) ?_ ?_
    · rintro M4 i x σ' M' H' M5 H5 σ2 sM hx ⟨y3, y6, g, s1, s2, rfl, hall⟩ g5 ⟨v5, r5, rfl⟩
      cases r5
      have hix : i < (if nm3 ∈ tk then 676 else 0) := by have := (List.getElem?_eq_some_iff.mp hx).1; rwa [List.length_range] at this
      obtain rfl : i = x := by rw [List.getElem?_range hix] at hx; exact Option.some.inj hx
      have hi : i < 676 := by split at hix; exact hix; omega
      have G5 := g.trans g5
      refine q_asg (P := Tx (spare i)) G5.mh (gv_is (gv_addSt (K := K) (gv_addSt (K := K) (gv_c rfl) (gv_ixS (K := K) (i := (i : Int) / 26) (c := 97 + i / 26) (x := g_LETTERS) (gv_var rfl rfl) (gv_fdiv (gv_var rfl rfl) (gv_c rfl) ⟨by decide, by decide⟩) (by decide) ?_) (by show 1 + 1 ≤ sizeLine; decide))
        (gv_ixS (K := K) (i := (i : Int) % 26) (c := 97 + i % 26) (x := g_LETTERS) (gv_var rfl rfl) (gv_mod (gv_var rfl rfl) (gv_c rfl) (by decide)) (by decide) ?_) (by show 2 + 1 ≤ sizeLine; decide)) fun M v h => by rw [show v = _ from h]; exact congrArg V.str (spare_eq i)) fun v6 M6 H6 g6 r6 => ?_
      · have := atI_letter (z := (i : Int) / 26) (by omega) (by omega)
        rw [this]; congr 2
      · have := atI_letter (z := (i : Int) % 26) (by omega) (by omega)
        rw [this]; congr 2
      cases r6
      have G6 := G5.trans g6
      refine s_if0 G6.mh (gt_test (gv_inA (K := K) (neg := true) (gv_var rfl rfl) (gv_var rfl (.inl (Mon.mono (s2.trans (g5.mm.trans g6.mm)) r1'))))) (fun hb H7 hh7 => ?_) (fun hb H7 hh7 => ?_)
      · exact ⟨_, rfl, fin _ _ _ (spare_nm hi) (by simpa using hb) (G6.trans (.idle G6.mh hh7))⟩
      · refine ⟨M6, _, _, G6.trans (.idle G6.mh hh7), s1.trans (g5.mm.trans g6.mm), s2.trans (g5.mm.trans g6.mm), rfl, fun j hj => ?_⟩
        by_cases e : j = i
        · subst e; simpa using hb
        · exact hall j (by omega)
    · rintro M4 σ' M' H' sM ⟨y3, y6, g, s1, s2, rfl, hall⟩
      rw [List.length_range] at hall
      refine ⟨_, rfl, fin nm3 M' H' hnm3 (fun ht => ?_) g⟩
      rw [if_pos ht] at hall
      have := spare_free hall
      omega
end
end My

set_option Elab.async false
set_option linter.all false
set_option maxRecDepth 100000
set_option maxHeartbeats 4000000
namespace My
open PySem PySem.Spec PyProof.Rows L2 L3
open L3.Strm
/-- unlike names -/
structure NmL (ns : List Str) : Prop where
  nd : ns.Nodup
  nm : ∀ n ∈ ns, isNm n = true
  n : ns.length ≤ 500
/-- literals of names, no name twice -/
structure Lits (ns ys : List Str) : Prop where
  nd : (ys.map nameOf).Nodup
  of : ∀ y ∈ ys, ∃ n ∈ ns, y = n ∨ y = ("-" : Str) ++ n
section
variable {P : Program} {w : World} {K : PySem.W.Frag} {mg : Str → Option Value} {base : Heap}
abbrev s__law_names : Stmt := topS 62
theorem sc__law_names : FnScope ["_law_stream", "_law_many", "_law_found", "_law_k"] ["_law_stream", "_law_many"] (defScope s__law_names) := ⟨rfl, rfl, rfl, by decide +kernel, rfl, by decide +kernel, by decide +kernel⟩
def sp__law_names (K : PySem.W.Frag) : Sp := slS1 It' (fun n => 0 ≤ n ∧ n ≤ 500) (fun n => 12 * n.toNat) fun n M ws => ∃ ys : List Str, NmL ys ∧ ys.length = n.toNat ∧ Pd Tx M ys ws
theorem ok__law_names {f : Addr} {fd : FuncData} (F : Fun K "_law_names" "_law_names" s__law_names f fd) (T : Gc mg) (c__law_fresh : Cal P w K mg base 3 "_law_fresh" ["_law_stream", "_law_taken"] (sp__law_fresh K)) : FnOk P w K mg base CX0 4 f fd ["_law_stream", "_law_many"] (sp__law_names K) := by
  refine F.ok sc__law_names (fun vs H Q E h => ?_) (fun cdv A outer s H vs Q E hr h => ?_)
  · obtain ⟨S, x, M, v, k, rfl, _⟩ := h
    rfl
  · obtain ⟨S, n, M, v, k, rfl, mh, at_, r1, ⟨h1, h2⟩, q⟩ := h
    obtain ⟨n, rfl⟩ : ∃ m : Nat, n = (m : Int) := ⟨n.toNat, by omega⟩
    cases r1
    have at_ : S.At (k + 12 * n) H := at_
    refine ⟨_, (pss_cons (ps_set (i := 2) sc__law_names.nd rfl (by first | exact .inl rfl | exact .inr rfl) (pe_lst pa_nil))
      (pss_cons (ps_for PassesOwn.never (by rfl) (pi_range1 (by rfl) T.range (pa_cons (pv 1) pa_nil)) (pg_name (i := 3) sc__law_names.nd rfl (by first | exact .inl rfl | exact .inr rfl)) (pss_one (ps_expr (pe_bm PySem.F.plainAttrs_list PySem.F.slot_list_append PySem.F.type_list_append mt_append (pv 2) (pa_cons (pe_f c__law_fresh (hr.mono (by decide)) (pa_cons (pv 0) (pa_cons (pv 2) pa_nil))) pa_nil)))))
      (pss_one (ps_ret (pv 2))))), ?_⟩
    refine z_asgL (S := S) (k := k + 12 * n) (c := 0) mh at_ gl_nil.s fun p vs M1 H1 g1 a1 hp0 hpm hpw ev => ?_
    subst ev
    refine z_for (S := S) (k := k + 12 * n) (c := 0) (G := (· = List.range n)) (R := fun i : Nat => It' (i : Nat)) g1.mh a1 (gi_rng1 (n := n) (gv_var rfl rfl) (by omega)).s tg_1
      (fun _ M1' i σ' M' H' => ∃ ys y3, Gr M (S.cut H) M' (S.cut H') ∧ S.At (k + 12 * (n - i)) H' ∧ Same M1' M' ∧ OwS S H M' H' p (ys.map V.str) ∧ NmL ys ∧ ys.length = i ∧ σ' = [some (.ref S.a), some (.int (n : Nat)), some (.ref p), y3])
      (fun xs M2 H2 _ g2 a2 => ⟨[], _, g1.trans g2, a2, Same.refl _, OwS.step ⟨⟨hp0, hpm, hpw⟩⟩ g2, ⟨List.nodup_nil, (fun _ h => nomatch h), by simp⟩, rfl, rfl⟩)
      (fun xs M2 i σ' M' H' ⟨ys, y3, g, a, s1, _⟩ => ⟨s1, g.mh, a.le (Nat.zero_le _)⟩) ?_ ?_
    · rintro xs M2 i x σ' M' H' M3 H3 σ2 rfl sM hx ⟨ys, y3, g, a, s1, ow, hn, hl, rfl⟩ g3 ⟨v3, r3, rfl⟩
      have hi : i < n := by have := (List.getElem?_eq_some_iff.mp hx).1; rwa [List.length_range] at this
      have g3' := lift g.mh a g3
      have a3 := a.same g3.hh
      have ow3 := ow.step g3'
      have G3 := g.trans g3'
      have e1 : k + 12 * (n - i) = (k + 12 * (n - (i + 1))) + 12 := by omega
      rw [e1] at a3
      have hn5 := hn.n
      refine z_appL (S := S) (c := 12) (P := Ex Tx fun x => isNm x = true ∧ x ∉ ys) G3.mh a3 rfl ow3.o.m ow3.o.h (szL (by rw [List.length_map]; omega)) (gs_call1 (S := S) (R1 := SqR K Tx) (pre := fun xs => xs.length ≤ 600) (cs := fun _ => 12) (R := fun xs => Ex Tx fun x => isNm x = true ∧ x ∉ xs) (x := ys) rfl (gv_var rfl (.inl ⟨p, _, rfl, .inl (.inl upd_same), pd_of_tx ys⟩)) (by omega)) fun v4 M4 H4 g4 a4 ⟨x4, ⟨h4, h5⟩, r4⟩ => ?_
      cases r4
      have ow4 := ow3.step g4
      refine ⟨M4, ys ++ [x4], _, ow4.mut (G3.trans g4), a4.upd ow4.on, s1.trans (g3.mm.trans g4.mm), ?_, ⟨?_, ?_, ?_⟩, by rw [List.length_append, hl]; rfl, rfl⟩
      · rw [List.map_append]; exact ow4.put
      · rw [List.nodup_append]
        exact ⟨hn.nd, by simp, fun a ha b hb => by rw [List.mem_singleton] at hb; subst hb; exact fun e => h5 (e ▸ ha)⟩
      · intro z hz
        rcases List.mem_append.mp hz with hz | hz
        · exact hn.nm z hz
        · rw [List.mem_singleton] at hz; subst hz; exact h4
      · rw [List.length_append, List.length_singleton]; omega
    · rintro xs M2 σ' M' H' rfl sM ⟨ys, y3, g, a, s1, ow, hn, hl, rfl⟩
      rw [List.length_range] at hl
      exact ⟨.ref p, rfl, q p _ M' H' g (a.le (by omega)) ow.o.h0 ow.o.m ow.o.h ⟨ys, hn, hl, pd_of_tx ys⟩⟩
end
end My

set_option Elab.async false
set_option linter.all false
set_option maxRecDepth 100000
set_option maxHeartbeats 4000000
namespace My
open PySem PySem.Spec PyProof.Rows L2 L3
open L3.Strm
theorem Lits.perm {ns ys zs : List Str} (h : Lits ns ys) (p : zs.Perm ys) : Lits ns zs := ⟨(p.map nameOf).nodup_iff.mpr h.nd, fun y hy => h.of y (p.mem_iff.mp hy)⟩
theorem Lits.sub {ns ys zs : List Str} (h : Lits ns ys) (p : zs.Sublist ys) : Lits ns zs := ⟨h.nd.sublist (p.map nameOf), fun y hy => h.of y (p.subset hy)⟩
theorem Lits.nil {ns : List Str} : Lits ns [] := ⟨List.nodup_nil, fun _ h => nomatch h⟩
/-! texts by their signs -/
theorem head1 (c : Nat) (r : List Nat) : cutS (SX.S (c :: r)) none (some 1) = SX.S [c] := by
  show SX.S _ = SX.S _
  have e : HT.sIx (SX.S (c :: r)).length (SX.S (c :: r)).length (some ((1 : Nat) : Int)) = 1 := by rw [HT.sIx_nat, SX.S_len, List.length_cons]; omega
  have e' : HT.sIx (SX.S (c :: r)).length (SX.S (c :: r)).length (some 1) = 1 := e
  rw [e']
  rfl
theorem tail1 (c : Nat) (r : List Nat) : cutS (SX.S (c :: r)) (some 1) none = SX.S r := by
  have e : HT.sIx (SX.S (c :: r)).length 0 (some ((1 : Nat) : Int)) = 1 := by rw [HT.sIx_nat, SX.S_len, List.length_cons]; omega
  have e' : HT.sIx (SX.S (c :: r)).length 0 (some 1) = 1 := e
  have e2 : HT.sIx (SX.S (c :: r)).length (SX.S (c :: r)).length none = r.length + 1 := by rw [HT.sIx_none, SX.S_len, List.length_cons]
  show SX.S _ = SX.S _
  rw [e', e2]
  congr 1
  show (r.take (r.length + 1 - 1)) = r
  simp
theorem minus : ("-" : Str) = SX.S [45] := rfl
theorem neg_S (l : List Nat) : ("-" : Str) ++ SX.S l = SX.S (45 :: l) := SX.S_cat [45] l
theorem nm_S {n : Str} (h : isNm n = true) : ∃ c r, n = SX.S (c :: r) ∧ c ≠ 45 := by
  simp only [isNm, Bool.and_eq_true, decide_eq_true_eq, List.all_eq_true] at h
  obtain ⟨⟨h1, h2⟩, h3⟩ := h
  cases hl : n.cps.toList with
  | nil =>
    have : n.length = 0 := by rw [show n.length = n.cps.toList.length from rfl, hl]; rfl
    exact absurd h1 (by omega)
  | cons c r =>
    refine ⟨c, r, by rw [← hl], fun e => ?_⟩
    have := h3 c (by rw [hl]; exact List.mem_cons_self ..)
    subst e
    revert this
    decide +kernel
theorem nameOf_nm {n : Str} (h : isNm n = true) : nameOf n = n := by
  obtain ⟨c, r, rfl, hc⟩ := nm_S h
  unfold nameOf
  rw [head1, minus, if_neg (fun e => hc (by have := SX.S_inj e; simpa using this))]
theorem nameOf_neg {n : Str} (h : isNm n = true) : nameOf (("-" : Str) ++ n) = n := by
  obtain ⟨c, r, rfl, hc⟩ := nm_S h
  unfold nameOf
  rw [neg_S, head1, minus, if_pos rfl, tail1]
theorem opp_nm {n : Str} (h : isNm n = true) : opp n = ("-" : Str) ++ n := by
  obtain ⟨c, r, rfl, hc⟩ := nm_S h
  unfold opp
  rw [head1, minus, if_neg (fun e => hc (by have := SX.S_inj e; simpa using this))]
theorem opp_neg {n : Str} (h : isNm n = true) : opp (("-" : Str) ++ n) = n := by
  obtain ⟨c, r, rfl, hc⟩ := nm_S h
  unfold opp
  rw [neg_S, head1, minus, if_pos rfl, tail1]
theorem neg_ne {n m : Str} (h : isNm n = true) : n ≠ ("-" : Str) ++ m := fun e => by
  obtain ⟨c, r, rfl, hc⟩ := nm_S h
  rw [← SX.S_tl m, neg_S] at e
  have := SX.S_inj e
  simp at this
  exact hc this.1
theorem neg_inj {n m : Str} (e : ("-" : Str) ++ n = ("-" : Str) ++ m) : n = m := by
  rw [← SX.S_tl m, ← SX.S_tl n, neg_S, neg_S] at e
  have := SX.S_inj e
  simp at this
  exact congrArg (fun x : Array Nat => (⟨x⟩ : Str)) this
theorem nm_ne {n : Str} (h : isNm n = true) : n ≠ "" := fun e => by
  obtain ⟨c, r, rfl, hc⟩ := nm_S h
  have : SX.S (c :: r) = SX.S [] := e
  have := SX.S_inj this
  cases this
theorem neg_ne0 {n : Str} : ("-" : Str) ++ n ≠ "" := fun e => by
  rw [← SX.S_tl n, neg_S] at e
  have : SX.S (45 :: n.cps.toList) = SX.S [] := e
  have := SX.S_inj this
  cases this
def nonE (y : Str) : Bool := decide (y ≠ ("" : Str))
/-- a selection of literals -/
theorem lits_of {ns : List Str} (hn : NmL ns) : ∀ {ms ys : List Str}, ms.Nodup → (∀ m ∈ ms, m ∈ ns) → Paired (fun n y => y = n ∨ y = ("-" : Str) ++ n ∨ y = "") ms ys → Lits ns (ys.filter nonE) ∧ ∀ z ∈ (ys.filter nonE).map nameOf, z ∈ ms := by
  intro ms ys nd hm h
  induction h with
  | nil => exact ⟨.nil, fun z h => by cases h⟩
  | @cons m y ms ys q _ ih =>
    obtain ⟨hx, nd⟩ := List.nodup_cons.mp nd
    obtain ⟨ih1, ih2⟩ := ih nd fun z hz => hm z (List.mem_cons_of_mem _ hz)
    have hmn := hm m (List.mem_cons_self ..)
    have hnm := hn.nm m hmn
    have key : ∀ y : Str, nameOf y = m → (y = m ∨ y = ("-" : Str) ++ m) → y ≠ "" → Lits ns ((y :: ys).filter nonE) ∧ ∀ z ∈ ((y :: ys).filter nonE).map nameOf, z ∈ m :: ms := by
      intro y e1 e2 e3
      rw [List.filter_cons, if_pos (show nonE y = true from decide_eq_true e3), List.map_cons, e1]
      refine ⟨⟨?_, fun z hz => ?_⟩, fun z hz => ?_⟩
      · rw [List.map_cons, e1]
        exact List.nodup_cons.mpr ⟨fun z => hx (ih2 m z), ih1.nd⟩
      · rcases List.mem_cons.mp hz with rfl | hz
        · exact ⟨m, hmn, e2⟩
        · exact ih1.of z hz
      · rcases List.mem_cons.mp hz with rfl | hz
        · exact List.mem_cons_self ..
        · exact List.mem_cons_of_mem _ (ih2 z hz)
    rcases q with rfl | rfl | rfl
    · exact key _ (nameOf_nm hnm) (.inl rfl) (nm_ne hnm)
    · exact key _ (nameOf_neg hnm) (.inr rfl) neg_ne0
    · rw [List.filter_cons, if_neg (by simp [nonE])]
      exact ⟨ih1, fun z hz => List.mem_cons_of_mem _ (ih2 z hz)⟩
theorem all_nonE {α : Type} {F : α → Str → Prop} {xs : List α} {ys : List Str} (h : Paired (fun n y => F n y ∧ nonE y = true) xs ys) : ∀ y ∈ ys, nonE y = true := by
  induction h with
  | nil => intro y hy; cases hy
  | cons q _ ih =>
    intro y hy
    rcases List.mem_cons.mp hy with rfl | hy
    · exact q.2
    · exact ih y hy
section
variable {P : Program} {w : World} {K : PySem.W.Frag} {mg : Str → Option Value} {base : Heap}
abbrev s__law_half : Stmt := topS 74
theorem sc__law_half : FnScope ["_law_stream", "_law_names_here", "_law_found", "_law_name", "_law_one"] ["_law_stream", "_law_names_here"] (defScope s__law_half) := ⟨rfl, rfl, rfl, by decide +kernel, rfl, by decide +kernel, by decide +kernel⟩
def sp__law_half (K : PySem.W.Frag) : Sp := slS1 (SqR K Tx) NmL (fun ns => 2 * ns.length) fun ns M ws => ∃ ys : List Str, Lits ns ys ∧ ys.length ≤ ns.length ∧ Pd Tx M ys ws
theorem nm_len {n : Str} (h : isNm n = true) : n.length ≤ 8 := isNm_len h
theorem ok__law_half {f : Addr} {fd : FuncData} (F : Fun K "_law_half" "_law_half" s__law_half f fd) (T : Gc mg) (c__law_draw : Cal P w K mg base 1 "_law_draw" ["_law_stream", "_law_many"] (sp__law_draw K)) (c__law_mixed : Cal P w K mg base 2 "_law_mixed" ["_law_stream", "_law_things"] (sp__law_mixed K)) :
    FnOk P w K mg base CX0 3 f fd ["_law_stream", "_law_names_here"] (sp__law_half K) := by
  refine F.ok sc__law_half (fun vs H Q E h => ?_) (fun cdv A outer s H vs Q E hr h => ?_)
  · obtain ⟨S, x, M, v, k, rfl, _⟩ := h
    rfl
  · obtain ⟨S, ns, M, v, k, rfl, mh, at_, r1, hn, q⟩ := h
    have hu := hr.units
    have hn5 := hn.n
    have at_ : S.At (k + 2 * ns.length) H := at_
    refine ⟨_, (pss_cons (ps_setLc (i := 2) (own := [("_law_name", 3)]) (g := (gName 3)) (tt := tYes) (te := (tOp (rIxX K) (tTup (tCons (tVar 3) (tCons (tOp (rAddA K) (tC (.str "-")) (tVar 3)) (tCons (tC (.str "")) tNil)))) (tCall (sp__law_draw K) [] E0 (tCons (tVar 0) (tCons (tC (.int 3)) tNil))))) (by rfl) sc__law_half.nd rfl rfl (sw_true rfl rfl rfl (by decide +kernel)) (pi_sq (pv 1)) (blkOk_by (by rfl)) (fun _ _ _ _ _ => (pg_name (i := 3) sc__law_half.nd rfl (by first | exact .inl rfl | exact .inr rfl))) (fun _ _ _ _ _ => pts_nil) (fun _ _ _ _ _ => (pe_ix ix_X (pe_tup (pa_cons (pv 3) (pa_cons (pe_op op_addA pe_str (pv 3)) (pa_cons pe_str pa_nil)))) (pe_f c__law_draw (hr.mono (by decide)) (pa_cons (pv 0) (pa_cons pe_int pa_nil))) (fun _ _ => rfl))))
      (pss_one (ps_ret (pe_f c__law_mixed (hr.mono (by decide)) (pa_cons (pv 0) (pa_cons (pe_lc (own := [("_law_one", 4)]) (g := (gName 4)) (tt := (tTest (tOp (rEqP K true) (tVar 4) (tC (.str ""))))) (te := (tVar 4)) (by rfl) sc__law_half.nd (pi_sq (pv 2)) (blkOk_by (by rfl)) (fun _ _ _ _ _ => (pg_name (i := 4) sc__law_half.nd rfl (by first | exact .inl rfl | exact .inr rfl))) (fun _ _ _ _ _ => (pts_one (pt_cmpR (op_neP hu) (pv 4) pe_str (nomark _)))) (fun _ _ _ _ _ => (pv 4))) pa_nil)))))), ?_⟩
    refine z_asg (S := S) (k := k + ns.length) (c := 0 + ns.length * 1) (P := Ex (LiR Tx) fun ys => Paired (fun n y => y = n ∨ y = ("-" : Str) ++ n ∨ y = "") ns ys) mh (at_.le (by omega)) ((gls_m1 (c1 := 0) (n := ns.length) (c2 := 1) (T := Tx) (R := Tx) (G := (· = ns)) (good := fun n y => y = n ∨ y = ("-" : Str) ++ n ∨ y = "") (gi_sq (K := K) (gv_var rfl r1)).s (fun xs e => by rw [e]; exact Nat.le_refl _) (szM (by omega)) ?_).gv ?_) fun v2 M2 H2 g2 a2 ⟨ys, hp, r2⟩ => ?_
    · rintro xs rfl n hnm M1 vn sm rn
      cases rn
      have hl := nm_len (hn.nm n hnm)
      refine gs_op (c1 := 0) (c2 := 1) (P := TupR K Tx [n, ("-" : Str) ++ n, ""]) (gv_tup3 (K := K) (gv_var rfl rfl) (gv_addSt (K := K) (gv_c rfl) (gv_var rfl rfl) (szM (by show 1 + n.length ≤ _; omega))) (gv_c rfl)).s (gs_draw (K := K) rfl (gv_c rfl) (by decide) (by decide)) fun M' u w pu ⟨z, hz, pw⟩ => ?_
      obtain ⟨x, hx, ha⟩ := atI_in (xs := ([n, ("-" : Str) ++ n, ""] : List Str)) hz.1 hz.2
      exact fun H mh Q q => rv_ix (.inr pu) pw ha H mh Q fun v M' H' g r => q v M' H' g ⟨x, by simpa using hx, r⟩
    · rintro M' vs p ⟨xs, ys, rfl, hp, hpd⟩ m
      exact ⟨ys, hp, p, vs, rfl, upd_same, hpd.mono (same_new m)⟩
    · have hyl : ys.length = ns.length := hp.length.symm
      have hfl : (ys.filter nonE).length ≤ ns.length := by rw [← hyl]; exact List.length_filter_le _ _
      obtain ⟨hL, _⟩ := lits_of hn hn.nd (fun _ h => h) hp
      refine z_retL (S := S) (k := k) (c := (ys.filter nonE).length) g2.mh (a2.le (by omega)) (gls_call1 (S := S) (R1 := SqR K Tx) (pre := fun xs => xs.length ≤ 1000000) (cs := fun xs => xs.length) (R := fun xs M ws => ∃ ys : List Str, ys.Perm xs ∧ Pd Tx M ys ws) (x := ys.filter nonE) rfl
        ((gl_lc (K := K) (R := Tx) (S := Tx) (gv_var rfl (r2.sq (K := K))) (szM (by omega)) nonE id (fun y _ M1 vy sm hy => gt_is (gt_test (gv_eqT (K := K) (neg := true) py_str inj_str (gv_var rfl hy) (gv_c rfl) (by simp [PyData.depth]))) (by simp [nonE])) fun y _ _ M1 vy sm hy => gv_var rfl hy).gv fun M' vs p hp m => ?_) (by omega)) fun p ws M' H' g a' h0 m0 hw ⟨zs, hper, hpd⟩ => ?_
      · rw [List.map_id] at hp
        exact .inl ⟨p, vs, rfl, .inl (.inl upd_same), hp.mono (same_new m)⟩
      · exact q p ws M' H' (g2.trans g) a' (g2.hh.free h0) m0 hw ⟨zs, hL.perm hper, by rw [hper.length_eq]; exact hfl, hpd⟩
abbrev s__law_sided : Stmt := topS 75
theorem sc__law_sided : FnScope ["_law_stream", "_law_names_here", "_law_name"] ["_law_stream", "_law_names_here"] (defScope s__law_sided) := ⟨rfl, rfl, rfl, by decide +kernel, rfl, by decide +kernel, by decide +kernel⟩
def sp__law_sided (K : PySem.W.Frag) : Sp := slS1 (SqR K Tx) NmL (fun ns => 2 * ns.length) fun ns M ws => ∃ ys : List Str, Lits ns ys ∧ Pd Tx M ys ws
theorem ok__law_sided {f : Addr} {fd : FuncData} (F : Fun K "_law_sided" "_law_sided" s__law_sided f fd) (T : Gc mg) (c__law_draw : Cal P w K mg base 1 "_law_draw" ["_law_stream", "_law_many"] (sp__law_draw K)) (c__law_mixed : Cal P w K mg base 2 "_law_mixed" ["_law_stream", "_law_things"] (sp__law_mixed K)) :
    FnOk P w K mg base CX0 3 f fd ["_law_stream", "_law_names_here"] (sp__law_sided K) := by
  refine F.ok sc__law_sided (fun vs H Q E h => ?_) (fun cdv A outer s H vs Q E hr h => ?_)
  · obtain ⟨S, x, M, v, k, rfl, _⟩ := h
    rfl
  · obtain ⟨S, ns, M, v, k, rfl, mh, at_, r1, hn, q⟩ := h
    have hu := hr.units
    have hn5 := hn.n
    have at_ : S.At (k + 2 * ns.length) H := at_
    refine ⟨_, (pss_one (ps_ret (pe_lc (own := [("_law_name", 2)]) (g := (gName 2)) (tt := tYes) (te := (tOp (rAddA K) (tIf (tTest (tOp (rEqP K false) (tCall (sp__law_draw K) [] E0 (tCons (tVar 0) (tCons (tC (.int 2)) tNil))) (tC (.int 0)))) (tC (.str "")) (tC (.str "-"))) (tVar 2))) (by rfl) sc__law_sided.nd (pi_sq (pe_f c__law_mixed (hr.mono (by decide)) (pa_cons (pv 0) (pa_cons (pv 1) pa_nil)))) (blkOk_by (by rfl)) (fun _ _ _ _ _ => (pg_name (i := 2) sc__law_sided.nd rfl (by first | exact .inl rfl | exact .inr rfl))) (fun _ _ _ _ _ => pts_nil) (fun _ _ _ _ _ => (pe_op op_addA (pe_ifExp (pt_cmpR (op_eqP hu) (pe_f c__law_draw (hr.mono (by decide)) (pa_cons (pv 0) (pa_cons pe_int pa_nil))) pe_int (nomark _)) pe_str pe_str) (pv 2)))))), ?_⟩
    refine z_retL (S := S) (k := k) (c := ns.length + ns.length * 1) mh (at_.le (by omega)) (gls_m1 (c1 := ns.length) (n := ns.length) (c2 := 1) (T := Tx) (R := Tx) (G := fun xs => xs.Perm ns) (good := fun n y => (y = n ∨ y = ("-" : Str) ++ n ∨ y = "") ∧ nonE y = true)
      (gis_sq (K := K) ((gls_call1 (S := S) (R1 := SqR K Tx) (pre := fun xs => xs.length ≤ 1000000) (cs := fun xs => xs.length) (R := fun xs M ws => ∃ ys : List Str, ys.Perm xs ∧ Pd Tx M ys ws) (x := ns) rfl (gv_var rfl r1) (by omega)).gv fun M' vs p ⟨ys, hp, hpd⟩ m => ⟨ys, hp, .inl ⟨p, vs, rfl, .inl (.inl upd_same), hpd.mono (same_new m)⟩⟩))
      (fun xs hp => by rw [hp.length_eq]; exact Nat.le_refl _) (szM (by omega)) ?_) fun p ws M' H' g a' h0 m0 hw ⟨xs, ys, hper, hp, hpd⟩ => ?_
    · intro xs hper n hnm M1 vn sm rn
      cases rn
      have hnn : isNm n = true := hn.nm n (hper.mem_iff.mp hnm)
      have hl := nm_len hnn
      refine gs_op (c1 := 1) (c2 := 0) (P := Ex Tx fun x => x = "" ∨ x = "-") (P1 := Tx n) ((gs_if (c1 := 1) (c2 := 0) (gts_zero (K := K) rfl (gv_c rfl) (by decide) (by decide)) (fun _ => (gv_c ⟨"", .inl rfl, rfl⟩).s) fun _ => (gv_c ⟨"-", .inr rfl, rfl⟩).s)) (gv_var rfl rfl).s fun M' u w ⟨x, hx, pu⟩ pw => ?_
      have hxl : x.length ≤ 1 := by rcases hx with rfl | rfl <;> decide
      refine fun H mh Q q => gv_addSt (K := K) (σ := []) (M := M') (ta := tC u) (tb := tC w) (gv_c pu) (gv_c pw) (szM (by omega)) H mh Q fun v M' H' g r => q v M' H' g ⟨x ++ n, ?_, r⟩
      rcases hx with rfl | rfl
      · have e : (("" : Str) ++ n) = n := by rw [← SX.S_tl n]; exact SX.S_cat [] _
        rw [e]; exact ⟨.inl rfl, decide_eq_true (nm_ne hnn)⟩
      · exact ⟨.inr (.inl rfl), decide_eq_true neg_ne0⟩
    · obtain ⟨hL, _⟩ := lits_of hn (hper.nodup_iff.mpr hn.nd) (fun m h => hper.mem_iff.mp h) (Paired.mapP hp fun _ _ q => q.1)
      have hall := all_nonE hp
      rw [List.filter_eq_self.mpr hall] at hL
      refine q p ws M' H' g (a'.le (Nat.le_refl _)) h0 m0 hw ⟨ys, hL, hpd⟩
end
end My

set_option Elab.async false
set_option linter.all false
set_option maxRecDepth 100000
set_option maxHeartbeats 4000000
namespace My
open PySem PySem.Spec PyProof.Rows L2 L3
open L3.Strm
section
variable {P : Program} {w : World} {K : PySem.W.Frag} {mg : Str → Option Value} {base : Heap}
abbrev s__law_neg : Stmt := topS 63
theorem sc__law_neg : FnScope ["_law_one"] ["_law_one"] (defScope s__law_neg) := ⟨rfl, rfl, rfl, by decide +kernel, rfl, by decide +kernel, by decide +kernel⟩
def sp__law_neg (K : PySem.W.Frag) : Sp := sp1 Tx (fun x => x.length ≤ 1000) fun x => Tx (opp x)
theorem ok__law_neg {f : Addr} {fd : FuncData} (F : Fun K "_law_neg" "_law_neg" s__law_neg f fd) : FnOk P w K mg base CX0 1 f fd ["_law_one"] (sp__law_neg K) := by
  refine F.ok sc__law_neg (fun vs H Q E h => ?_) (fun cdv A outer s H vs Q E hr h => ?_)
  · obtain ⟨x, M, v, rfl, _⟩ := h
    rfl
  · obtain ⟨x, M, v, rfl, mh, r1, hp, q⟩ := h
    have hu := hr.units
    refine ⟨_, (pss_one (ps_ret (pe_ifExp (pt_cmpR (op_eqP hu) (pe_slice sl_X (pv 0) po_none (po_some pe_int)) pe_str (nomark _)) (pe_slice sl_X (pv 0) (po_some pe_int) po_none) (pe_op op_addA pe_str (pv 0))))), ?_⟩
    have hv : Gv (tVar 0) (start ["_law_one"] [v]) M (Tx x) := gv_var rfl r1
    refine s_ret mh (gv_if (gt_test (gv_eqT py_str inj_str (gv_cutS hv (sz1000 hp) (fun _ _ h => h) (fun _ _ h => ⟨1, rfl, h⟩)) (gv_c rfl) (by simp [PyData.depth]))) (fun hb => gv_is (gv_cutS hv (sz1000 hp) (fun _ _ h => ⟨1, rfl, h⟩) fun _ _ h => h) fun M' v h => ?_) fun hb => gv_is (gv_addSt (gv_c rfl) hv (szM (by show 1 + x.length ≤ _; omega))) fun M' v h => ?_) q
    · show Tx (opp x) M' v
      rw [show opp x = _ from if_pos (by simpa using hb)]; exact h
    · show Tx (opp x) M' v
      rw [show opp x = _ from if_neg (by simpa using hb)]; exact h
abbrev s__law_up : Stmt := topS 65
theorem sc__law_up : FnScope ["_law_some", "_law_names_here", "_law_found", "_law_name", "_law_one"] ["_law_some", "_law_names_here"] (defScope s__law_up) := ⟨rfl, rfl, rfl, by decide +kernel, rfl, by decide +kernel, by decide +kernel⟩
def sp__law_up (K : PySem.W.Frag) : Sp := sp2 (CtR K) (SqR K Tx) (fun _ ns => Shorts ns) fun ls ns => TT (asc ls ns)
theorem ok__law_up {f : Addr} {fd : FuncData} (F : Fun K "_law_up" "_law_up" s__law_up f fd) (T : Bi mg) : FnOk P w K mg base CX0 1 f fd ["_law_some", "_law_names_here"] (sp__law_up K) := by
  refine F.ok sc__law_up (fun vs H Q E h => ?_) (fun cdv A outer s H vs Q E hr h => ?_)
  · obtain ⟨x, y, M, v, w, rfl, _⟩ := h
    rfl
  · obtain ⟨ls, ns, M, v, w, rfl, mh, r1, r2, hp, q⟩ := h
    have hu := hr.units
    refine ⟨_, (pss_cons (ps_set (i := 2) sc__law_up.nd rfl (by first | exact .inl rfl | exact .inr rfl) (pe_lst pa_nil))
      (pss_cons (ps_for PassesOwn.never (by rfl) (pi_sq (pv 1)) (pg_name (i := 3) sc__law_up.nd rfl (by first | exact .inl rfl | exact .inr rfl)) (pss_one (ps_expr (pe_bm PySem.F.plainAttrs_list PySem.F.slot_list_extend PySem.F.type_list_extend mt_extend (pv 2) (pa_cons (pe_lc (own := [("_law_one", 4)]) (g := (gName 4)) (tt := (tTest (tOp (rInA K false) (tVar 4) (tVar 0)))) (te := (tVar 4)) (by rfl) sc__law_up.nd (pi_sq (pe_tup (pa_cons (pv 3) (pa_cons (pe_op op_addA pe_str (pv 3)) pa_nil)))) (blkOk_by (by rfl)) (fun _ _ _ _ _ => (pg_name (i := 4) sc__law_up.nd rfl (by first | exact .inl rfl | exact .inr rfl))) (fun _ _ _ _ _ => (pts_one (pt_cmpR (op_inA hu) (pv 4) (pv 0) (by rfl)))) (fun _ _ _ _ _ => (pv 4))) pa_nil)))))
      (pss_one (ps_ret (pe_callTy call_tupA (by rfl) T.tuple boot_tuple (pa_cons (pv 2) pa_nil)))))), ?_⟩
    refine q_asgL mh gl_nil fun p vs M2 H2 g2 h0 m0 hp2 hv => ?_
    subst hv
    refine q_for (R1 := Tx) (xs := ns) g2.mh (gv_var rfl (Mon.mono g2.mm r2))
      (fun M1' i σ' M' H' => ∃ y3 y4, Gr M H M' H' ∧ Same M1' M' ∧ Same M M' ∧ Own H M' H' p ((asc ls (ns.take i)).map V.str) ∧ σ' = [some v, some w, some (.ref p), y3, y4])
      (fun M3 H3 g3 => ⟨none, none, g2.trans g3, Same.refl _, (g2.trans g3).mm, Own.step ⟨h0, m0, hp2⟩ g3, rfl⟩)
      (fun M3 i σ' M' H' ⟨_, _, g, s1, _⟩ => ⟨s1, g.mh⟩) ?_ ?_
    · rintro M3 i n v' σ' M' H' sM hx ⟨y3, y4, g, s1, s2, ow, rfl⟩ rx
      cases rx
      have hn : n.length ≤ 900 := hp.2 n (List.mem_of_getElem? hx)
      have hil : i < ns.length := (List.getElem?_eq_some_iff.mp hx).1
      have et : ns.take (i + 1) = ns.take i ++ [n] := by rw [List.take_add_one, hx]; rfl
      refine s_ext g.mh rfl ow.h (gl_lc (R := Tx) (S := Tx) (gv_is (gv_tup2 (K := K) (gv_var rfl rfl) (gv_addSt (gv_c rfl) (gv_var rfl rfl) (szM (by show 1 + n.length ≤ _; omega)))) fun _ _ h => .inr h) (by show 2 ≤ sizeLine; decide) (fun l => decide (l ∈ ls)) id
        (fun l _ M1 vl sm hl => gt_is (gt_test (gv_inA (K := K) (gv_var rfl hl) (gv_var rfl (Mon.mono (s2.trans sm) r1)))) (by simp)) (fun l _ _ M1 vl sm hl => gv_var rfl hl)) (fun M4 ws h => ?_) fun ws M4 H4 g4 h => ?_
      · have l1 := h.length
        have l2 := asc_len ls (ns.take i)
        have l3 := List.length_filter_le (fun l => decide (l ∈ ls)) [n, ("-" : Str) ++ n]
        have l4 := hp.1
        rw [List.length_map] at l1 ⊢
        rw [List.length_take] at l2
        simp only [List.length_cons, List.length_nil] at l3
        exact szM (by omega)
      · have e4 := pd_tx h
        subst e4
        have ow4 := ow.step g4
        refine ⟨M4, _, _, (g.trans g4).mut ow4.h0 ow4.m, s1.trans g4.mm, s2.trans g4.mm, ?_, rfl⟩
        have e5 : asc ls (ns.take (i + 1)) = asc ls (ns.take i) ++ ([n, ("-" : Str) ++ n].filter fun l => decide (l ∈ ls)).map id := by
          rw [et, List.map_id]; unfold asc; rw [List.flatMap_append]; simp
        rw [e5, List.map_append]
        exact ow4.put
    · rintro M3 σ' M' H' sM ⟨y3, y4, g, s1, s2, ow, rfl⟩
      rw [List.take_length] at ow
      exact s_retTup g.mh rfl ow.h fun l nl => q _ _ _ (g.trans (.new g.mh nl)) (TT.new _)
abbrev s__law_clause : Stmt := topS 76
theorem sc__law_clause : FnScope ["_law_stream", "_law_names_here", "_law_most"] ["_law_stream", "_law_names_here", "_law_most"] (defScope s__law_clause) := ⟨rfl, rfl, rfl, by decide +kernel, rfl, by decide +kernel, by decide +kernel⟩
def sp__law_clause (K : PySem.W.Frag) : Sp := slS2 (LstR K Tx) It' (fun ns m => NmL ns ∧ 0 < m ∧ m < 1000) (fun ns _ => 2 + 2 * ns.length) fun ns _ M ws => ∃ ys : List Str, Lits ns ys ∧ Pd Tx M ys ws
theorem ok__law_clause {f : Addr} {fd : FuncData} (F : Fun K "_law_clause" "_law_clause" s__law_clause f fd) (T : Gc mg) (c__law_draw : Cal P w K mg base 1 "_law_draw" ["_law_stream", "_law_many"] (sp__law_draw K)) (c__law_sided : Cal P w K mg base 3 "_law_sided" ["_law_stream", "_law_names_here"] (sp__law_sided K)) :
    FnOk P w K mg base CX0 4 f fd ["_law_stream", "_law_names_here", "_law_most"] (sp__law_clause K) := by
  refine F.ok sc__law_clause (fun vs H Q E h => ?_) (fun cdv A outer s H vs Q E hr h => ?_)
  · obtain ⟨S, x, y, M, v, w, k, rfl, _⟩ := h
    rfl
  · obtain ⟨S, ns, m, M, v, w, k, rfl, mh, at_, r1, r2, ⟨hn, hm0, hm1⟩, q⟩ := h
    cases r2
    have hu := hr.units
    have at_ : S.At (k + (2 + 2 * ns.length)) H := at_
    refine ⟨_, (pss_cons (ps_if (PW.pt (pw_or (pt_cmpR (op_eqP hu) (pv 1) (pe_lst pa_nil) (nomark _)) (pw_or1 (pt_cmpR (op_eqP hu) (pe_f c__law_draw (hr.mono (by decide)) (pa_cons (pv 0) (pa_cons pe_int pa_nil))) pe_int (nomark _))))) (pss_one (ps_ret (pe_lst pa_nil))) pss_nil)
      (pss_one (ps_ret (pe_slice sl_X (pe_f c__law_sided (hr.mono (by decide)) (pa_cons (pv 0) (pa_cons (pv 1) pa_nil))) po_none (po_some (pe_op op_addA pe_int (pe_f c__law_draw (hr.mono (by decide)) (pa_cons (pv 0) (pa_cons (pv 2) pa_nil))))))))), ?_⟩
    refine z_if (S := S) (k := k + (1 + 2 * ns.length)) (c := 0 + 1) (B := fun _ => True) mh (at_.le (by omega)) ((gts_or (c1 := 0) (c2 := 1) (B := fun _ => True) (C := fun _ => True) ((gt_test (b := decide (ns = [])) (gv_is (gv_eq (K := K) (neg := false) (d := .list (ns.map .str)) (e := .list []) (gv_var rfl (py_lst py_str _ _ _ r1)) gv_nilD ?_) fun M v h => ?_)).s.is fun _ _ => trivial) fun _ => gts_zero (K := K) rfl (gv_c rfl) (by decide) (by decide)).is fun _ _ => trivial) (fun _ M1 H1 g1 a1 => ?_) fun _ M1 H1 g1 a1 => ?_
    · simp [PyData.depth, depthS]
    · rw [show v = _ from h]
      have := optD_eq (some ns) []
      simp only [optD, List.map_nil] at this
      rw [this]; simp
    · refine z_retL (S := S) (k := k) (c := 0) g1.mh (a1.le (by omega)) gl_nil.s fun p ws M' H' g a' h0 m0 hw e => ?_
      subst e
      exact q p [] M' H' (g1.trans g) a' (g1.hh.free h0) m0 hw ⟨[], .nil, .nil⟩
    · refine z_retL (S := S) (k := k) (c := 2 * ns.length + 1) g1.mh (a1.le (by omega)) (gls_cut (K := K) (R := Tx) (good := Lits ns) (c1 := 2 * ns.length) (c2 := 1) ((gls_call1 (S := S) (R1 := SqR K Tx) (pre := NmL) (cs := fun ns => 2 * ns.length) (R := fun ns M ws => ∃ ys : List Str, Lits ns ys ∧ Pd Tx M ys ws) (x := ns) rfl (gv_var rfl (.inl (Mon.mono g1.mm r1))) hn).gv fun M' vs p ⟨ys, hp, hpd⟩ m => ⟨ys, hp, p, vs, rfl, upd_same, hpd.mono (same_new m)⟩)
        (gs_op (c1 := 0) (c2 := 1) (P := It' 1) (gv_c rfl).s (gs_draw (K := K) rfl (gv_var rfl rfl) hm0 (by omega)) fun M' u w pu ⟨z, hz, pw⟩ => fun H mh Q q => gv_addIn (K := K) (σ := []) (M := M') (ta := tC u) (tb := tC w) (gv_c pu) (gv_c pw) H mh Q fun v M' H' g r => q v M' H' g ⟨_, trivial, r⟩)) fun p ws M' H' g a' h0 m0 hw ⟨xs, i, hL, hpd⟩ => ?_
      exact q p ws M' H' (g1.trans g) a' (g1.hh.free h0) m0 hw ⟨_, hL.sub (cut_sub _ _ _), hpd⟩
abbrev s__law_once : Stmt := topS 78
theorem sc__law_once : FnScope ["_law_clauses", "_law_names_here", "_law_found", "_law_clause_here"] ["_law_clauses", "_law_names_here"] (defScope s__law_once) := ⟨rfl, rfl, rfl, by decide +kernel, rfl, by decide +kernel, by decide +kernel⟩
def onceUp (cs : List (List Str)) (ns : List Str) : List (List Str) := once (cs.map fun c => asc c ns)
def sp__law_once (K : PySem.W.Frag) : Sp := sl2 (SqR K (CtR K)) (SqR K Tx) (fun cs ns => Shorts ns ∧ cs.length ≤ 1000000) fun cs ns M ws => Pd TT M (onceUp cs ns) ws
theorem ok__law_once {f : Addr} {fd : FuncData} (F : Fun K "_law_once" "_law_once" s__law_once f fd) (T : Gc mg) (c__law_up : Cal P w K mg base 1 "_law_up" ["_law_some", "_law_names_here"] (sp__law_up K)) : FnOk P w K mg base CX0 2 f fd ["_law_clauses", "_law_names_here"] (sp__law_once K) := by
  refine F.ok sc__law_once (fun vs H Q E h => ?_) (fun cdv A outer s H vs Q E hr h => ?_)
  · obtain ⟨x, y, M, v, w, rfl, _⟩ := h
    rfl
  · obtain ⟨cs, ns, M, v, w, rfl, mh, r1, r2, ⟨hsh, hcl⟩, q⟩ := h
    have hu := hr.units
    refine ⟨_, (pss_cons (ps_set (i := 2) sc__law_once.nd rfl (by first | exact .inl rfl | exact .inr rfl) (pe_lst pa_nil))
      (pss_cons (ps_for PassesOwn.never (by rfl) (pi_sq (pv 0)) (pg_name (i := 3) sc__law_once.nd rfl (by first | exact .inl rfl | exact .inr rfl)) (pss_one (ps_if (pt_cmpR (op_niA hu) (pe_f c__law_up (hr.mono (by decide)) (pa_cons (pv 3) (pa_cons (pv 1) pa_nil))) (pv 2) (by rfl)) (pss_one (ps_expr (pe_bm PySem.F.plainAttrs_list PySem.F.slot_list_append PySem.F.type_list_append mt_append (pv 2) (pa_cons (pe_f c__law_up (hr.mono (by decide)) (pa_cons (pv 3) (pa_cons (pv 1) pa_nil))) pa_nil)))) pss_nil)))
      (pss_one (ps_ret (pv 2))))), ?_⟩
    refine q_asgL mh gl_nil fun p vs M2 H2 g2 h0 m0 hp2 hv => ?_
    subst hv
    refine q_for (R1 := CtR K) (xs := cs) g2.mh (gv_var rfl (Mon.mono g2.mm r1))
      (fun M1' i σ' M' H' => ∃ y3 ws, Gr M H M' H' ∧ Same M1' M' ∧ Same M M' ∧ Own H M' H' p ws ∧ Pd TT M' (onceUp (cs.take i) ns) ws ∧ (onceUp (cs.take i) ns).length ≤ i ∧ σ' = [some v, some w, some (.ref p), y3])
      (fun M3 H3 g3 => ⟨none, [], g2.trans g3, Same.refl _, (g2.trans g3).mm, Own.step ⟨h0, m0, hp2⟩ g3, .nil, Nat.le_refl _, rfl⟩)
      (fun M3 i σ' M' H' ⟨_, _, g, s1, _⟩ => ⟨s1, g.mh⟩) ?_ ?_
    · rintro M3 i c v' σ' M' H' sM hx ⟨y3, ws, g, s1, s2, ow, hpd, hl, rfl⟩ rx
      have hil : i < cs.length := (List.getElem?_eq_some_iff.mp hx).1
      have et : cs.take (i + 1) = cs.take i ++ [c] := by rw [List.take_add_one, hx]; rfl
      have eo : onceUp (cs.take (i + 1)) ns = onceP (onceUp (cs.take i) ns) (asc c ns) := by
        rw [et]; unfold onceUp once; rw [List.map_append, List.foldl_append]; rfl
      have r2' : SqR K Tx ns M' w := Mon.mono s2 r2
      have up := ow.up
      refine s_if0 (ow.fr g.mh) (gt_test (gv_inD (K := K) (R := TT) (neg := true) py_TT inj_TT (gv_call2 (R1 := CtR K) (R2 := SqR K Tx) (gv_var rfl (Mon.mono up rx)) (gv_var rfl (Mon.mono up r2')) hsh) (gv_var rfl (.inl (ow.lst hpd))) (by simp [PyData.depth, depthS]))) (fun hb H4 hh4 => ?_) (fun hb H4 hh4 => ?_)
      · have g4 := g.trans (.idle g.mh hh4)
        have ow4 := ow.idle hh4
        have hwl : ws.length ≤ i := by rw [← hpd.length]; exact hl
        refine s_app (P := TT (asc c ns)) g4.mh rfl ow4.h (szL (by omega)) (gv_call2 (R1 := CtR K) (R2 := SqR K Tx) (gv_var rfl rx) (gv_var rfl r2') hsh) fun v5 M5 H5 g5 r5 => ?_
        have ow5 := ow4.step g5
        refine ⟨M5, _, ws ++ [v5], (g4.trans g5).mut ow5.h0 ow5.m, s1.trans g5.mm, s2.trans g5.mm, ow5.put, ?_, ?_, rfl⟩
        · rw [eo, onceP, if_neg (by simpa using hb)]
          exact pd_app (hpd.mono g5.mm) (.cons r5 .nil)
        · rw [eo]; exact Nat.le_trans (onceP_len _ _) (Nat.succ_le_succ hl)
      · have hin : asc c ns ∈ onceUp (cs.take i) ns := by simpa using hb
        refine ⟨M', _, ws, g.trans (.idle g.mh hh4), s1, s2, ow.idle hh4, ?_, ?_, rfl⟩
        · rw [eo, onceP, if_pos hin]; exact hpd
        · rw [eo]; exact Nat.le_trans (onceP_len _ _) (Nat.succ_le_succ hl)
    · rintro M3 σ' M' H' sM ⟨y3, ws, g, s1, s2, ow, hpd, hl, rfl⟩
      rw [List.take_length] at hpd
      exact ⟨.ref p, rfl, q p ws M' H' g ow.h0 ow.m ow.h hpd⟩
end
end My

set_option Elab.async false
set_option linter.all false
set_option maxRecDepth 100000
set_option maxHeartbeats 4000000
namespace My
open PySem PySem.Spec PyProof.Rows L2 L3
open L3.Strm
/-- the law's own code: a dict -/
def LawR (c : CodeD) : Pr := Dc3 "signs" "helpers" "clauses" (LiR Tx c.signs) (LiR Tx c.helpers) (LiR TT c.clauses)
instance : Mon LawR := ⟨fun e ⟨p, u1, u2, u3, h1, h2, h3, h4, h5⟩ => ⟨p, u1, u2, u3, h1, e _ _ h2, Mon.mono e h3, Mon.mono e h4, Mon.mono e h5⟩⟩
structure Good (c : CodeD) : Prop where
  nm : NmL c.names
  n : c.names.length ≤ 60
  cl : ∃ cs, c.clauses = onceUp cs c.names ∧ (∀ x ∈ cs, Lits c.names x) ∧ cs.length ≤ 100
section
variable {K : PySem.W.Frag} {σ : Sl} {M : Hp} {td : TE} {c : CodeD}
theorem gv_cS (h : Gv td σ M (LawR c)) : Gv (tDGet td (tC (.str "signs"))) σ M (LiR Tx c.signs) := gv_dget h fun M v ⟨p, u1, u2, u3, h1, h2, h3, h4, h5⟩ => ⟨p, _, u1, h1, h2, rfl, h3⟩
theorem gv_cH (h : Gv td σ M (LawR c)) : Gv (tDGet td (tC (.str "helpers"))) σ M (LiR Tx c.helpers) := gv_dget h fun M v ⟨p, u1, u2, u3, h1, h2, h3, h4, h5⟩ => ⟨p, _, u2, h1, h2, rfl, h4⟩
theorem gv_cC (h : Gv td σ M (LawR c)) : Gv (tDGet td (tC (.str "clauses"))) σ M (LiR TT c.clauses) := gv_dget h fun M v ⟨p, u1, u2, u3, h1, h2, h3, h4, h5⟩ => ⟨p, _, u3, h1, h2, rfl, h5⟩
end
section
variable {P : Program} {w : World} {K : PySem.W.Frag} {mg : Str → Option Value} {base : Heap}
abbrev s__law_code : Stmt := topS 77
theorem sc__law_code : FnScope ["_law_stream", "_law_signs", "_law_helpers", "_law_many", "_law_names_here", "_law_clauses", "_law_count", "_law_more", "_law_k"] ["_law_stream", "_law_signs", "_law_helpers", "_law_many"] (defScope s__law_code) := ⟨rfl, rfl, rfl, by decide +kernel, rfl, by decide +kernel, by decide +kernel⟩
def codeCost (s h m : Nat) : Nat := 3 + 12 * (s + h) + m * (2 + 2 * (s + h))
def sp__law_code (K : PySem.W.Frag) : Sp := fun vs H Q _ => ∃ (S : Strm) (s h m : Nat) (M : Hp) (k : Nat), vs = [.ref S.a, .int (s : Nat), .int (h : Nat), .int (m : Nat)] ∧ Same M (S.cut H) ∧ S.At (k + codeCost s h m) H ∧ (0 < s ∧ s + h ≤ 60 ∧ m ≤ 100) ∧
  ∀ c v M' H', Gr M (S.cut H) M' (S.cut H') → S.At k H' → Good c ∧ c.names.length ≤ s + h ∧ c.signs.length ≤ s → LawR c M' v → Q v H'
theorem paired_lits {ns : List Str} {xs : List Nat} {cs : List (List Str)} (h : Paired (fun (_ : Nat) y => Lits ns y) xs cs) : cs.length = xs.length ∧ ∀ c ∈ cs, Lits ns c := by
  induction h with
  | nil => exact ⟨rfl, fun c hc => by cases hc⟩
  | cons q _ ih =>
    refine ⟨by rw [List.length_cons, List.length_cons, ih.1], fun c hc => ?_⟩
    rcases List.mem_cons.mp hc with rfl | hc
    · exact q
    · exact ih.2 c hc
theorem nm_shorts {ns : List Str} (h : NmL ns) : Shorts ns := ⟨Nat.le_trans h.n (by decide), fun n hn => Nat.le_trans (nm_len (h.nm n hn)) (by decide)⟩
theorem ok__law_code {f : Addr} {fd : FuncData} (F : Fun K "_law_code" "_law_code" s__law_code f fd) (T : Gc mg) (c__law_draw : Cal P w K mg base 1 "_law_draw" ["_law_stream", "_law_many"] (sp__law_draw K)) (c__law_names : Cal P w K mg base 4 "_law_names" ["_law_stream", "_law_many"] (sp__law_names K))
    (c__law_clause : Cal P w K mg base 4 "_law_clause" ["_law_stream", "_law_names_here", "_law_most"] (sp__law_clause K)) (c__law_once : Cal P w K mg base 2 "_law_once" ["_law_clauses", "_law_names_here"] (sp__law_once K)) : FnOk P w K mg base CX0 5 f fd ["_law_stream", "_law_signs", "_law_helpers", "_law_many"] (sp__law_code K) := by
  refine F.ok sc__law_code (fun vs H Q E h => ?_) (fun cdv A outer s H vs Q E hr h => ?_)
  · obtain ⟨S, a, b, c, M, k, rfl, _⟩ := h
    rfl
  · obtain ⟨S, s, h, m, M, k, rfl, mh, at_, ⟨h1, h2, h3⟩, q⟩ := h
    have hu := hr.units
    have at_ : S.At (k + (3 + 12 * (s + h) + m * (2 + 2 * (s + h)))) H := at_
    refine ⟨_, (pss_cons (ps_par (i := 6) (j := 7) (by rfl) sc__law_code.nd rfl rfl (by decide) rfl rfl (pa_cons (pe_op op_addA pe_int (pe_f c__law_draw (hr.mono (by decide)) (pa_cons (pv 0) (pa_cons (pv 1) pa_nil)))) (pa_cons (pe_f c__law_draw (hr.mono (by decide)) (pa_cons (pv 0) (pa_cons (pe_op op_addA (pv 2) pe_int) pa_nil))) pa_nil)) (by rfl))
      (pss_cons (ps_set (i := 4) sc__law_code.nd rfl (by first | exact .inl rfl | exact .inr rfl) (pe_f c__law_names (hr.mono (by decide)) (pa_cons (pv 0) (pa_cons (pe_op op_addA (pv 6) (pv 7)) pa_nil))))
      (pss_cons (ps_setLc (i := 5) (own := [("_law_k", 8)]) (g := (gName 8)) (tt := tYes) (te := (tCall (sp__law_clause K) [] E0 (tCons (tVar 0) (tCons (tVar 4) (tCons (tC (.int 3)) tNil))))) (by rfl) sc__law_code.nd rfl rfl (sw_true rfl rfl rfl (by decide +kernel)) (pi_range1 (by rfl) T.range (pa_cons (pe_f c__law_draw (hr.mono (by decide)) (pa_cons (pv 0) (pa_cons (pe_op op_addA (pv 3) pe_int) pa_nil))) pa_nil)) (blkOk_by (by rfl)) (fun _ _ _ _ _ => (pg_name (i := 8) sc__law_code.nd rfl (by first | exact .inl rfl | exact .inr rfl))) (fun _ _ _ _ _ => pts_nil) (fun _ _ _ _ _ => (pe_f c__law_clause (hr.mono (by decide)) (pa_cons (pv 0) (pa_cons (pv 4) (pa_cons pe_int pa_nil))))))
      (pss_one (ps_ret (pe_disp (pps_cons pe_str (pe_slice sl_X (pv 4) po_none (po_some (pv 6))) (pps_cons pe_str (pe_slice sl_X (pv 4) (po_some (pv 6)) po_none) (pps_cons pe_str (pe_f c__law_once (hr.mono (by decide)) (pa_cons (pv 5) (pa_cons (pv 4) pa_nil))) pps_nil))) (by rfl) (by rfl) (by intro z; cases z) (by decide))))))), ?_⟩
    -- count, more
    refine q_par2 (z_V (S := S) (k := k + (2 + 12 * (s + h) + m * (2 + 2 * (s + h)))) (c := 0 + 1) (P := Ex (fun n : Nat => It' (n : Nat)) fun n => 1 ≤ n ∧ n ≤ s) mh (at_.le (by omega)) (gs_op (c1 := 0) (c2 := 1) (P := It' 1) (gv_c rfl).s (gs_draw (K := K) (n := (s : Int)) rfl (gv_var rfl rfl) (by omega) (by omega)) fun M' u w pu ⟨z, hz, pw⟩ => fun H mh Q q => gv_addIn (K := K) (σ := []) (M := M') (ta := tC u) (tb := tC w) (gv_c pu) (gv_c pw) H mh Q fun v M' H' g r => q v M' H' g ⟨1 + z.toNat, by omega, ?_⟩) fun v1 M1 H1 g1 a1 ⟨n1, hn1, r1⟩ =>
      z_V (S := S) (k := k + (1 + 12 * (s + h) + m * (2 + 2 * (s + h)))) (c := 1) (P := Ex (fun n : Nat => It' (n : Nat)) fun n => n ≤ h) g1.mh (a1.le (by omega)) ((gs_draw (K := K) (n := (h : Int) + 1) rfl (gv_addIn (K := K) (gv_var rfl rfl) (gv_c rfl)) (by omega) (by omega)).is fun M v ⟨z, hz, r⟩ => ⟨z.toNat, by omega, ?_⟩) fun v2 M2 H2 g2 a2 ⟨n2, hn2, r2⟩ => ⟨_, _, rfl, ?_⟩)
    · show v = .int _
      rw [show v = _ from r]; congr 1; omega
    · show v = .int _
      rw [show v = _ from r]; congr 1; omega
    cases r1
    cases r2
    have G2 := g1.trans g2
    -- names
    have e12 : (12 * ((n1 : Int) + (n2 : Int)).toNat) ≤ 12 * (s + h) := by omega
    refine z_asg (S := S) (k := k + (1 + m * (2 + 2 * (s + h)))) (c := 12 * ((n1 : Int) + (n2 : Int)).toNat) (P := Ex (LiR Tx) fun ns => NmL ns ∧ ns.length = n1 + n2) g2.mh (a2.le (by omega)) ((gls_call1 (S := S) (R1 := It') (pre := fun n => 0 ≤ n ∧ n ≤ 500) (cs := fun n => 12 * n.toNat) (R := fun n M ws => ∃ ys : List Str, NmL ys ∧ ys.length = n.toNat ∧ Pd Tx M ys ws) (x := (n1 : Int) + (n2 : Int)) rfl (gv_addIn (K := K) (gv_var rfl rfl) (gv_var rfl rfl)) ⟨by omega, by omega⟩).gv fun M' vs p ⟨ys, hp, hl, hpd⟩ m => ⟨ys, ⟨hp, by omega⟩, p, vs, rfl, upd_same, hpd.mono (same_new m)⟩) fun v3 M3 H3 g3 a3 ⟨ns, ⟨hn, hnl⟩, r3⟩ => ?_
    have G3 := G2.trans g3
    have hcc : 2 + 2 * ns.length ≤ 2 + 2 * (s + h) := by omega
    have hmm : m * (2 + 2 * ns.length) ≤ m * (2 + 2 * (s + h)) := Nat.mul_le_mul_left m hcc
    -- clauses
    refine z_asg (S := S) (k := k) (c := 1 + m * (2 + 2 * ns.length)) (P := Ex (LiR (LiR Tx)) fun cs => (∀ x ∈ cs, Lits ns x) ∧ cs.length ≤ 100) g3.mh (a3.le (by omega)) ((gls_m1 (c1 := 1) (n := m) (c2 := 2 + 2 * ns.length) (T := LiR Tx) (R := fun i : Nat => It' (i : Nat)) (G := fun xs => ∃ n, n ≤ m ∧ xs = List.range n) (good := fun _ y => Lits ns y)
      (gis_rng1 (good := fun n => n ≤ m) ((gs_draw (K := K) (n := (m : Int) + 1) rfl (gv_addIn (K := K) (gv_var rfl rfl) (gv_c rfl)) (by omega) (by omega)).is fun M v ⟨z, hz, r⟩ => ⟨z.toNat, by omega, ?_⟩) fun n hn => by omega)
      (fun xs ⟨n, hn, e⟩ => by rw [e, List.length_range]; exact hn) (szM (by omega)) ?_).gv fun M' vs p ⟨xs, cs, ⟨n, hn, e⟩, hp, hpd⟩ m => ?_) fun v4 M4 H4 g4 a4 ⟨cs, ⟨hcs, hcl⟩, r4⟩ => ?_
    · show v = .int _
      rw [show v = _ from r]; congr 1; omega
    · intro xs _ i _ M' v' sm _
      exact (gls_call2 (S := S) (R1 := LstR K Tx) (R2 := It') (pre := fun ns m => NmL ns ∧ 0 < m ∧ m < 1000) (cs := fun ns _ => 2 + 2 * ns.length) (R := fun ns _ M ws => ∃ ys : List Str, Lits ns ys ∧ Pd Tx M ys ws) (x := ns) (y := 3) rfl (gv_var rfl (Mon.mono sm r3).lst) (gv_c rfl) ⟨hn, by decide, by decide⟩).gv fun M' vs p ⟨ys, hp, hpd⟩ m => ⟨ys, hp, p, vs, rfl, upd_same, hpd.mono (same_new m)⟩
    · obtain ⟨e1, e2⟩ := paired_lits hp
      subst e
      rw [List.length_range] at e1
      exact ⟨cs, ⟨e2, by omega⟩, p, vs, rfl, upd_same, hpd.mono (same_new m)⟩
    have G4 := G3.trans g4
    have r3' : LiR Tx ns M4 v3 := Mon.mono g4.mm r3
    -- the dict
    refine z_ret (S := S) (k := k) (c := 0) G4.mh a4 (gv_disp3 (R1 := LiR Tx (ns.take n1)) (R2 := LiR Tx (ns.drop n1)) (R3 := LiR TT (onceUp cs ns)) ((gl_cut (K := K) (lo := none) (hi := some (n1 : Int)) (gv_var rfl r3'.lst) (fun _ _ h => h) (fun _ _ h => ⟨_, rfl, _, rfl, h⟩)).gv fun M' vs p hp m => ?_)
      ((gl_cut (K := K) (lo := some (n1 : Int)) (hi := none) (gv_var rfl r3'.lst) (fun _ _ h => ⟨_, rfl, _, rfl, h⟩) (fun _ _ h => h)).gv fun M' vs p hp m => ?_)
      ((gl_call2 (R1 := SqR K (CtR K)) (R2 := SqR K Tx) (x := cs) (y := ns) (gv_var rfl ?_) (gv_var rfl r3'.sq) ⟨nm_shorts hn, by omega⟩).gv fun M' vs p hp m => ⟨p, vs, rfl, upd_same, hp.mono (same_new m)⟩) (by decide) (by decide) (by decide)).s fun v5 M5 H5 g5 a5 r5 => ?_
    · rw [cut_take] at hp; exact ⟨p, vs, rfl, upd_same, hp.mono (same_new m)⟩
    · rw [cut_drop] at hp; exact ⟨p, vs, rfl, upd_same, hp.mono (same_new m)⟩
    · obtain ⟨a, vs, e, hs, hp⟩ := r4
      exact .inl ⟨a, vs, e, .inl (.inl hs), Paired.mapP hp fun _ _ q => .inl (LiR.sq q)⟩
    · refine q ⟨ns.take n1, ns.drop n1, onceUp cs ns⟩ v5 M5 H5 (G4.trans g5) a5 ?_ r5
      have e : CodeD.names ⟨ns.take n1, ns.drop n1, onceUp cs ns⟩ = ns := List.take_append_drop n1 ns
      exact ⟨⟨by rw [e]; exact hn, by rw [e]; omega, cs, by rw [e], by rw [e]; exact hcs, hcl⟩, by rw [e]; omega, by show (ns.take n1).length ≤ s; rw [List.length_take]; omega⟩
end
end My

set_option Elab.async false
set_option linter.all false
set_option maxRecDepth 100000
set_option maxHeartbeats 4000000
namespace My
open PySem PySem.Spec PyProof.Rows L2 L3
theorem mem_asc {l ns : List Str} {x : Str} : x ∈ asc l ns ↔ ∃ n ∈ ns, (x = n ∨ x = ("-" : Str) ++ n) ∧ x ∈ l := by
  unfold asc
  rw [List.mem_flatMap]
  constructor
  · rintro ⟨n, hn, h⟩
    obtain ⟨h1, h2⟩ := List.mem_filter.mp h
    exact ⟨n, hn, by simpa using h1, by simpa using h2⟩
  · rintro ⟨n, hn, h1, h2⟩
    exact ⟨n, hn, List.mem_filter.mpr ⟨by simpa using h1, by simpa using h2⟩⟩
theorem asc_congr {l l' ns : List Str} (h : ∀ n ∈ ns, ∀ x, (x = n ∨ x = ("-" : Str) ++ n) → (x ∈ l ↔ x ∈ l')) : asc l ns = asc l' ns := by
  unfold asc
  induction ns with
  | nil => rfl
  | cons n ns ih =>
    rw [List.flatMap_cons, List.flatMap_cons, ih fun m hm => h m (List.mem_cons_of_mem _ hm)]
    congr 1
    refine List.filter_congr fun x hx => ?_
    have := h n (List.mem_cons_self ..) x (by simpa using hx)
    simp [this]
theorem asc_asc (l ns : List Str) : asc (asc l ns) ns = asc l ns := asc_congr fun n hn x hx => by
  rw [mem_asc]
  exact ⟨fun ⟨_, _, _, h⟩ => h, fun h => ⟨n, hn, hx, h⟩⟩
theorem Lits.name {ns ys : List Str} (hn : NmL ns) (h : Lits ns ys) {y : Str} (hy : y ∈ ys) : nameOf y ∈ ns ∧ (y = nameOf y ∨ y = ("-" : Str) ++ nameOf y) ∧ isNm (nameOf y) = true := by
  obtain ⟨n, hnn, h1 | h1⟩ := h.of y hy
  · subst h1
    have e := nameOf_nm (hn.nm y hnn)
    rw [e]
    exact ⟨hnn, .inl rfl, hn.nm y hnn⟩
  · subst h1
    rw [nameOf_neg (hn.nm n hnn)]
    exact ⟨hnn, .inr rfl, hn.nm n hnn⟩
theorem nodup_inj {α β : Type} {f : α → β} : ∀ {xs : List α}, (xs.map f).Nodup → ∀ x ∈ xs, ∀ y ∈ xs, f x = f y → x = y
  | [], _, _, h, _, _, _ => by cases h
  | a :: xs, nd, x, hx, y, hy, e => by
    rw [List.map_cons] at nd
    obtain ⟨h1, h2⟩ := List.nodup_cons.mp nd
    rcases List.mem_cons.mp hx with ex | hx'
    · rcases List.mem_cons.mp hy with ey | hy'
      · rw [ex, ey]
      · exact absurd (List.mem_map.mpr ⟨y, hy', by rw [← e, ex]⟩) h1
    · rcases List.mem_cons.mp hy with ey | hy'
      · exact absurd (List.mem_map.mpr ⟨x, hx', by rw [e, ey]⟩) h1
      · exact nodup_inj h2 x hx' y hy' e
/-- literals in the order of the names are literals -/
theorem Lits.asc {ns ys : List Str} (hn : NmL ns) (h : Lits ns ys) : Lits ns (asc ys ns) := by
  refine ⟨?_, fun y hy => let ⟨n, h1, h2, _⟩ := mem_asc.mp hy; ⟨n, h1, h2⟩⟩
  have sub : ∀ ms : List Str, (∀ m ∈ ms, m ∈ ns) → ((My.asc ys ms).map nameOf).Sublist ms := by
    intro ms
    induction ms with
    | nil => intro _; exact List.Sublist.refl _
    | cons m ms ih =>
      intro hm
      have ih := ih fun z hz => hm z (List.mem_cons_of_mem _ hz)
      have hnm := hn.nm m (hm m (List.mem_cons_self ..))
      have e1 := nameOf_nm hnm
      have e2 := nameOf_neg hnm
      have hboth : ¬ (m ∈ ys ∧ ("-" : Str) ++ m ∈ ys) := fun ⟨a, b⟩ => neg_ne hnm (nodup_inj h.nd m a _ b (by rw [e1, e2]))
      show (((m :: ms).flatMap fun n => [n, ("-" : Str) ++ n].filter fun l => decide (l ∈ ys)).map nameOf).Sublist (m :: ms)
      rw [List.flatMap_cons, List.map_append]
      have : (([m, ("-" : Str) ++ m].filter fun l => decide (l ∈ ys)).map nameOf).Sublist [m] := by
        by_cases ha : m ∈ ys
        · have hb : ¬ ("-" : Str) ++ m ∈ ys := fun b => hboth ⟨ha, b⟩
          simp [ha, hb, e1]
        · by_cases hb : ("-" : Str) ++ m ∈ ys
          · simp [ha, hb, e2]
          · simp [ha, hb]
      exact List.Sublist.append this ih
  exact hn.nd.sublist (sub ns fun _ h => h)
theorem fw_lits {ns : List Str} : ∀ {ys met : List Str} {i : Nat}, (∀ y ∈ ys, nameOf y ∈ ns) → (ys.map nameOf).Nodup → (∀ y ∈ ys, nameOf y ∉ met) → fwGo ns (ys.map PyData.str) met i = none
  | [], _, _, _, _, _ => rfl
  | y :: ys, met, i, h1, h2, h3 => by
    rw [List.map_cons] at h2
    obtain ⟨h4, h5⟩ := List.nodup_cons.mp h2
    rw [List.map_cons, fwGo, if_neg]
    · refine fw_lits (fun z hz => h1 z (List.mem_cons_of_mem _ hz)) h5 fun z hz hm => ?_
      rcases List.mem_append.mp hm with hm | hm
      · exact h3 z (List.mem_cons_of_mem _ hz) hm
      · rw [List.mem_singleton] at hm
        exact h4 (List.mem_map.mpr ⟨z, hz, hm⟩)
    · rintro (h | h)
      · simp [isLit, h1 y (List.mem_cons_self ..)] at h
      · exact h3 y (List.mem_cons_self ..) h
theorem lits_len {ns ys : List Str} (h : Lits ns ys) (hn : NmL ns) : ys.length ≤ ns.length := by
  have := nodup_le h.nd (ys := ns) fun z hz => by
    obtain ⟨y, hy, rfl⟩ := List.mem_map.mp hz
    exact (h.name hn hy).1
  rwa [List.length_map] at this
theorem lits_short {ns ys : List Str} (h : Lits ns ys) (hn : NmL ns) : ∀ l ∈ ys, l.length ≤ 9 := fun l hl => by
  obtain ⟨h1, h2, h3⟩ := h.name hn hl
  have h4 := nm_len h3
  rcases h2 with e | e
  · rw [e]; omega
  · rw [e]
    show (("-" : Str) ++ nameOf l).length ≤ 9
    rw [← SX.S_tl (nameOf l), neg_S, SX.S_len, List.length_cons]
    have : (nameOf l).cps.toList.length = (nameOf l).length := rfl
    omega
theorem clOk_lits {ns ys : List Str} (hn : NmL ns) (h : Lits ns ys) : ClOk ns ys := ⟨fw_lits (fun y hy => (h.name hn hy).1) h.nd (fun _ _ z => by cases z), Nat.le_trans (lits_len h hn) (Nat.le_trans hn.n (by decide)), fun l hl => Nat.le_trans (lits_short h hn l hl) (by decide)⟩
section
variable {α : Type} [DecidableEq α]
theorem once_inv : ∀ (xs acc : List α), acc.Nodup → (xs.foldl onceP acc).Nodup ∧ ∀ x, x ∈ xs.foldl onceP acc ↔ x ∈ acc ∨ x ∈ xs
  | [], acc, h => ⟨h, fun x => by simp⟩
  | y :: xs, acc, h => by
    rw [List.foldl_cons]
    by_cases hy : y ∈ acc
    · have e : onceP acc y = acc := by unfold onceP; rw [if_pos hy]
      rw [e]
      obtain ⟨h1, h2⟩ := once_inv xs acc h
      refine ⟨h1, fun x => ?_⟩
      rw [h2, List.mem_cons]
      constructor
      · rintro (h | h)
        · exact .inl h
        · exact .inr (.inr h)
      · rintro (h | rfl | h)
        · exact .inl h
        · exact .inl hy
        · exact .inr h
    · have e : onceP acc y = acc ++ [y] := by unfold onceP; rw [if_neg hy]
      rw [e]
      obtain ⟨h1, h2⟩ := once_inv xs (acc ++ [y]) (List.nodup_append.mpr ⟨h, by simp, fun a ha b hb => by rw [List.mem_singleton] at hb; subst hb; exact fun e => hy (e ▸ ha)⟩)
      refine ⟨h1, fun x => ?_⟩
      rw [h2, List.mem_cons, List.mem_append, List.mem_singleton]
      constructor
      · rintro ((h | h) | h)
        · exact .inl h
        · exact .inr (.inl h)
        · exact .inr (.inr h)
      · rintro (h | h | h)
        · exact .inl (.inl h)
        · exact .inl (.inr h)
        · exact .inr h
theorem once_nodup (xs : List α) : (once xs).Nodup := (once_inv xs [] List.nodup_nil).1
theorem mem_once {xs : List α} {x : α} : x ∈ once xs ↔ x ∈ xs := by unfold once; rw [(once_inv xs [] List.nodup_nil).2]; simp
theorem once_self {xs : List α} (h : xs.Nodup) : once xs = xs := by
  have go : ∀ (xs acc : List α), (acc ++ xs).Nodup → xs.foldl onceP acc = acc ++ xs := by
    intro xs
    induction xs with
    | nil => intro acc _; simp
    | cons y xs ih =>
      intro acc h
      have hy : y ∉ acc := fun hy => (List.nodup_append.mp h).2.2 y hy y (List.mem_cons_self ..) rfl
      rw [List.foldl_cons, onceP, if_neg hy, ih (acc ++ [y]) (by simpa using h)]
      simp
  have := go xs [] (by simpa using h)
  simpa [once] using this
end
theorem onceUp_idem (cs : List (List Str)) (ns : List Str) : once ((onceUp cs ns).map fun c => asc c ns) = onceUp cs ns := by
  have e : (onceUp cs ns).map (fun c => asc c ns) = onceUp cs ns := by
    have : ∀ c ∈ onceUp cs ns, asc c ns = c := fun c hc => by
      obtain ⟨d, _, rfl⟩ := List.mem_map.mp (mem_once.mp hc)
      exact asc_asc d ns
    have h2 := List.map_congr_left (l := onceUp cs ns) (f := fun c => asc c ns) (g := id) this
    rw [h2, List.map_id]
  rw [e]
  exact once_self (once_nodup _)
theorem Good.lits {c : CodeD} (g : Good c) : ∀ x ∈ c.clauses, Lits c.names x := fun x hx => by
  obtain ⟨cs, e, h, _⟩ := g.cl
  rw [e] at hx
  obtain ⟨d, hd, rfl⟩ := List.mem_map.mp (mem_once.mp hx)
  exact (h d hd).asc g.nm
theorem Good.made {c : CodeD} (g : Good c) : mkCode c.signs c.helpers c.clauses = c := by
  obtain ⟨cs, e, h, _⟩ := g.cl
  obtain ⟨ss, hs, cl⟩ := c
  have e : cl = onceUp cs (ss ++ hs) := e
  unfold mkCode
  rw [e]
  show CodeD.mk ss hs (once ((onceUp cs (ss ++ hs)).map fun c => asc c (ss ++ hs))) = _
  rw [onceUp_idem]
theorem once_len2 {α : Type} [DecidableEq α] (hs : List α) : (once hs).length ≤ hs.length := by
  have go : ∀ (xs acc : List α), (xs.foldl onceP acc).length ≤ acc.length + xs.length := by
    intro xs
    induction xs with
    | nil => intro acc; exact Nat.le_refl _
    | cons x xs ih =>
      intro acc
      have h1 := ih (onceP acc x)
      have h2 := onceP_len acc x
      rw [List.foldl_cons, List.length_cons]
      omega
  simpa [once] using go hs []
theorem Good.few {c : CodeD} (g : Good c) : c.clauses.length ≤ 100 := by
  obtain ⟨cs, e, h, hl⟩ := g.cl
  rw [e]
  exact Nat.le_trans (once_len2 _) (by rw [List.length_map]; exact hl)
theorem Good.ok {c : CodeD} (g : Good c) : CodeOk c.signs c.helpers c.clauses := by
  have nd := g.nm.nd
  have hn := g.n
  have hl : c.names.length = c.signs.length + c.helpers.length := List.length_append
  obtain ⟨n1, n2, n3⟩ := List.nodup_append.mp (show (c.signs ++ c.helpers).Nodup from nd)
  refine ⟨⟨n1, fun x hx => ⟨g.nm.nm x (List.mem_append_left _ hx), fun h => by cases h⟩, by omega⟩, ⟨n2, fun x hx => ⟨g.nm.nm x (List.mem_append_right _ hx), fun h => n3 x h x hx rfl⟩, by omega⟩, Nat.le_trans g.few (by decide), fun x hx => clOk_lits g.nm (g.lits x hx), ?_⟩
  show c.names.length ≤ 1000
  omega
theorem flat_len : ∀ {xs : List (List Str)} {n : Nat}, (∀ x ∈ xs, x.length ≤ n) → xs.flatten.length ≤ xs.length * n
  | [], _, _ => by simp
  | x :: xs, n, h => by
    rw [List.flatten_cons, List.length_append, List.length_cons, Nat.succ_mul]
    have h1 := h x (List.mem_cons_self ..)
    have h2 := flat_len (xs := xs) fun y hy => h y (List.mem_cons_of_mem _ hy)
    omega
theorem Good.w {c : CodeD} (g : Good c) : CodeW c := by
  have h1 : ∀ x ∈ c.clauses, x.length ≤ 60 := fun x hx => Nat.le_trans (lits_len (g.lits x hx) g.nm) g.n
  have h2 := flat_len h1
  have h3 := g.few
  have h4 : c.clauses.length * 60 ≤ 100 * 60 := Nat.mul_le_mul_right _ h3
  exact ⟨fun x hx => ⟨Nat.le_trans (h1 x hx) (by decide), fun l hl => Nat.le_trans (lits_short (g.lits x hx) g.nm l hl) (by decide)⟩, by omega, by omega, nm_shorts g.nm⟩
end My

set_option Elab.async false
set_option linter.all false
set_option maxRecDepth 100000
set_option maxHeartbeats 4000000
namespace My
open PySem PySem.Spec PyProof.Rows L2 L3
open L3.Strm
structure Gd (mg : Str → Option Value) : Prop extends Gc mg where
  dict : mg "dict" = none
def lpass : List (List Str) → List Str → Option (List Str)
  | [], so => some so
  | c :: r, so => match c.filter (fun l => decide (opp l ∉ so)) with
    | [] => none
    | [l] => lpass r (onceP so l)
    | _ => lpass r so
inductive LChase (cs : List (List Str)) : List Str → Option (List Str) → Prop
  | dead {so} : lpass cs so = none → LChase cs so none
  | done {so so'} : lpass cs so = some so' → ¬ so.length < so'.length → LChase cs so (some so')
  | more {so so' r} : lpass cs so = some so' → so.length < so'.length → LChase cs so' r → LChase cs so r
section
variable {P : Program} {w : World} {K : PySem.W.Frag} {mg : Str → Option Value} {base : Heap}
abbrev s__law_made : Stmt := topS 79
theorem sc__law_made : FnScope ["_law_c"] ["_law_c"] (defScope s__law_made) := ⟨rfl, rfl, rfl, by decide +kernel, rfl, by decide +kernel, by decide +kernel⟩
end
end My

set_option Elab.async false
set_option linter.all false
set_option maxRecDepth 100000
set_option maxHeartbeats 4000000
namespace My
open PySem PySem.Spec PyProof.Rows L2 L3
open L3.Strm
/-- a pair (text, True) in a tuple -/
def PtR : Rl Str := fun x M v => ∃ a, v = .ref a ∧ M a = some (.tup [.str x, .bl true])
instance : Mon PtR := ⟨fun e ⟨a, h, r⟩ => ⟨a, h, e _ _ r⟩⟩
theorem merge_kvT : ∀ (xs acc : List Str), mergeK (kvT acc) (xs.map fun x => ((Sum.inr x : Key), V.bl true)) = kvT (xs.foldl onceP acc)
  | [], acc => rfl
  | x :: xs, acc => by
    have := merge_kvT xs (onceP acc x)
    rw [List.foldl_cons, ← this, ← putK_kvT]
    rfl
/-- dict of a new list of pairs -/
theorem pd_refs {xs : List Str} {M : Hp} {vs : List V} (h : Pd PtR M xs vs) : ∃ ps : List Addr, vs = ps.map V.ref ∧ Paired (fun p x => M p = some (.tup [V.str x, V.bl true])) ps xs := by
  induction h with
  | nil => exact ⟨[], rfl, .nil⟩
  | cons q _ ih =>
    obtain ⟨a, e, r⟩ := q
    obtain ⟨ps, h1, h2⟩ := ih
    exact ⟨a :: ps, by rw [e, h1]; rfl, .cons r h2⟩
section
variable {K : PySem.W.Frag} {σ : Sl} {M : Hp} {te : TE}
theorem gk_dict {xs : List Str} (h : GvL te σ M fun M vs => Pd PtR M xs vs) : GvK (tCB (fun xs H Q => ∃ (a : Addr) (ps : List Addr) (kvs : List (Key × V)), xs = [V.ref a] ∧ SqL K H a (ps.map V.ref) ∧ Paired (fun p kv => SqT K H p [kV kv.1, kv.2]) ps kvs ∧
    ∀ p, H p = none → Q (.ref p) (upd H p (.dK (mergeK [] kvs)))) (tCons te tNil)) σ M (once xs) := fun H mh Q q => h H mh _ fun p vs M' H' g h0 m0 hw r => by
  obtain ⟨ps, e, hp⟩ := pd_refs r
  refine ⟨p, ps, xs.map fun x => ((Sum.inr x : Key), V.bl true), rfl, .inl (.inl (by rw [← e]; exact hw)), ?_, fun D hD => ?_⟩
  · clear q r hw e h
    induction hp with
    | nil => exact .nil
    | cons q _ ih => exact .cons (.inl (.inl (g.mh _ _ q))) ih
  · have e1 := merge_kvT xs []
    have e2 : kvT [] = [] := rfl
    rw [e2] at e1
    rw [e1]
    exact q D M' _ (g.trans (.own g.mh hD)) (g.hh.free hD) (g.mh.free hD) upd_same
theorem gv_neg {i : Int} (h : Gv te σ M (It' i)) : Gv (tUn (rU fun i => .int (-i)) te) σ M (It' (-i)) := fun H mh Q q => h H mh _ fun v M1 H1 g1 p1 => ⟨i, p1, q _ M1 H1 g1 rfl⟩
theorem gv_pt {x : Str} (h : Gv te σ M (Tx x)) : Gv (tTup (tCons te (tCons (tC (.bl true)) tNil))) σ M (PtR x) := fun H mh Q q => h H mh _ fun v M1 H1 g1 p1 => ⟨by show 2 ≤ sizeLine; decide, fun p np => q _ _ _ (g1.trans (.new g1.mh np)) ⟨p, rfl, by rw [upd_same, show v = _ from p1]⟩⟩
theorem gv_lenK {ks : List Str} {p : Addr} {i : Nat} (hi : σ[i]? = some (some (.ref p))) (hp : M p = some (.dK (kvT ks))) : Gv (tCB (rLenA K) (tCons (tVar i) tNil)) σ M (It' (ks.length : Nat)) := fun H mh Q q => ⟨_, hi, .inr (.inr ⟨p, _, rfl, mh _ _ hp, by rw [kvT_len]; exact q _ M H (.refl mh) rfl⟩)⟩
end
theorem boot_dict : bootBuiltins "dict" = some (.type "dict") := by decide +kernel
def leftOf (so c : List Str) : List Str := c.filter fun l => decide (opp l ∉ so)
section
variable {P : Program} {w : World} {K : PySem.W.Frag} {mg : Str → Option Value} {base : Heap}
abbrev s__law_chase : Stmt := topS 73
theorem sc__law_chase : FnScope ["_law_clauses", "_law_half_here", "_law_so", "_law_many", "_law_clause_here", "_law_left", "_law_one"] ["_law_clauses", "_law_half_here"] (defScope s__law_chase) := ⟨rfl, rfl, rfl, by decide +kernel, rfl, by decide +kernel, by decide +kernel⟩
def sp__law_chase (K : PySem.W.Frag) : Sp := sp2 (SqR K (SqR K Tx)) (SqR K Tx) ChOk fun cs hs M v => ∃ r, LChase cs (once hs) r ∧ OpR' (LiR Tx) r M v
theorem ok__law_chase {f : Addr} {fd : FuncData} (F : Fun K "_law_chase" "_law_chase" s__law_chase f fd) (T : Gd mg) (c__law_neg : Cal P w K mg base 1 "_law_neg" ["_law_one"] (sp__law_neg K)) : FnOk P w K mg base CX0 2 f fd ["_law_clauses", "_law_half_here"] (sp__law_chase K) := by
  refine F.ok sc__law_chase (fun vs H Q E h => ?_) (fun cdv A outer s H vs Q E hr h => ?_)
  · obtain ⟨x, y, M, v, w, rfl, _⟩ := h
    rfl
  · obtain ⟨cs, hs, M, v, w, rfl, mh, r1, r2, ok, q⟩ := h
    have hu := hr.units
    refine ⟨_, (pss_cons (ps_asg (pe_tup (pa_cons (pe_callTy (call_dictP (by rfl)) (by rfl) T.dict boot_dict (pa_cons (pe_lc (own := [("_law_one", 6)]) (g := (gName 6)) (tt := tYes) (te := (tTup (tCons (tVar 6) (tCons (tC (.bl true)) tNil)))) (by rfl) sc__law_chase.nd (pi_sq (pv 1)) (blkOk_by (by rfl)) (fun _ _ _ _ _ => (pg_name (i := 6) sc__law_chase.nd rfl (by first | exact .inl rfl | exact .inr rfl))) (fun _ _ _ _ _ => pts_nil) (fun _ _ _ _ _ => (pe_tup (pa_cons (pv 6) (pa_cons pe_bl pa_nil))))) pa_nil)) (pa_cons (pe_un un_neg pe_int) pa_nil))) (pg_tup (by rfl) (pgs_cons (pg_name (i := 2) sc__law_chase.nd rfl (by first | exact .inl rfl | exact .inr rfl)) (pgs_cons (pg_name (i := 3) sc__law_chase.nd rfl (by first | exact .inl rfl | exact .inr rfl)) pgs_nil))))
      (pss_cons (ps_while PassesOwn.never (pt_cmpR op_lt (pv 3) (pe_callB call_lenA (by rfl) T.len boot_len (pa_cons (pv 2) pa_nil)) (nomark _)) (pss_cons (ps_set (i := 3) sc__law_chase.nd rfl (by first | exact .inl rfl | exact .inr rfl) (pe_callB call_lenA (by rfl) T.len boot_len (pa_cons (pv 2) pa_nil)))
      (pss_one (ps_for PassesOwn.never (by rfl) (pi_sq (pv 0)) (pg_name (i := 4) sc__law_chase.nd rfl (by first | exact .inl rfl | exact .inr rfl)) (pss_cons (ps_setLc (i := 5) (own := [("_law_one", 6)]) (g := (gName 6)) (tt := (tTest (tOp (rInA K true) (tCall (sp__law_neg K) [] E0 (tCons (tVar 6) tNil)) (tVar 2)))) (te := (tVar 6)) (by rfl) sc__law_chase.nd rfl rfl (sw_true rfl rfl rfl (by decide +kernel)) (pi_sq (pv 4)) (blkOk_by (by rfl)) (fun _ _ _ _ _ => (pg_name (i := 6) sc__law_chase.nd rfl (by first | exact .inl rfl | exact .inr rfl))) (fun _ _ _ _ _ => (pts_one (pt_cmpR (op_niA hu) (pe_f c__law_neg (hr.mono (by decide)) (pa_cons (pv 6) pa_nil)) (pv 2) (by rfl)))) (fun _ _ _ _ _ => (pv 6)))
      (pss_cons (ps_if (pt_cmpR (op_eqP hu) (pv 5) (pe_lst pa_nil) (nomark _)) (pss_one (ps_ret pe_non)) pss_nil)
      (pss_one (ps_if (pt_cmpR (op_eqP hu) (pe_callB call_lenA (by rfl) T.len boot_len (pa_cons (pv 5) pa_nil)) pe_int (nomark _)) (pss_one (ps_dput (Nat.lt_of_le_of_lt (Nat.add_le_add_left (by decide) _) hu) (pv 2) (pe_ix ix_X (pv 5) pe_int (fun _ _ => rfl)) pe_bl rfl)) pss_nil))))))))
      (pss_one (ps_ret (pe_callTy (call_listD (by rfl)) (by rfl) T.list boot_list (pa_cons (pv 2) pa_nil)))))), ?_⟩
    have hlo : (once hs).length ≤ 1000000 := Nat.le_trans (once_len' hs) ok.h
    have mul : mu cs (once hs) ≤ 1000000 := Nat.le_trans (List.length_filter_le _ _) ok.n
    -- so, many = dict([..]), -1
    have hgl : GvL (tLc (iSq K (tVar 1)) (gName 6) tYes (tTup (tCons (tVar 6) (tCons (tC (.bl true)) tNil))) [6]) (start ["_law_clauses", "_law_half_here", "_law_so", "_law_many", "_law_clause_here", "_law_left", "_law_one"] [v, w]) M fun M ws => Pd PtR M hs ws := by
      have := gl_m1 (R := Tx) (S := PtR) (j := 6) (σ := start ["_law_clauses", "_law_half_here", "_law_so", "_law_many", "_law_clause_here", "_law_left", "_law_one"] [v, w]) (M := M) (te := tTup (tCons (tVar 6) (tCons (tC (.bl true)) tNil))) (xs := hs) (gi_sq (K := K) (ts := tVar 1) (gv_var rfl r2)) (szM (Nat.le_trans ok.h (by decide))) id fun x _ M1 v sm r => gv_pt (gv_var rfl r)
      rw [List.map_id] at this
      exact this
    refine q_asg2 (a_K mh (gk_dict (K := K) hgl) fun p M1 H1 g1 hp0 hpm hpk => a_V (P := It' (-1)) g1.mh (gv_neg (gv_c rfl)) fun vm M2 H2 g2 r2m => a_nil (fin2 fun t nt => ?_))
    cases r2m
    have G2 := (g1.trans g2).trans (.own (o := .tup [.ref p, .int (-1)]) g2.mh nt)
    have k2 : OwnK H M2 (upd H2 t (.tup [.ref p, .int (-1)])) p (once hs) := (OwnK.step (H0 := H) ⟨hp0, hpm, hpk⟩ g2).step (.own g2.mh nt)
    revert G2 k2
    generalize upd H2 t (.tup [.ref p, .int (-1)]) = H3
    intro G2 k2
    refine q_while (M := M2) (m0 := 2 * mu cs (once hs) + 1) (fun m σ' M' H' => ∃ (so : List Str) (many : Int) (y4 y5 : Option V), m = 2 * mu cs so + (if many < so.length then 1 else 0) ∧ Gr M H M' H' ∧ OwnK H M' H' p so ∧ σ' = [some v, some w, some (.ref p), some (.int many), y4, y5, none] ∧
      (∀ r, (if many < so.length then LChase cs so r else r = some so) → LChase cs (once hs) r) ∧ so.length + mu cs so ≤ (once hs).length + mu cs (once hs))
      ⟨once hs, -1, _, _, by rw [if_pos (by omega)], G2, k2, rfl, fun r h => by rw [if_pos (by omega)] at h; exact h, Nat.le_refl _⟩ ?_
    rintro m σ' M' H' ⟨so, many, y4, y5, rfl, g, k, rfl, hch, hmu⟩
    refine ⟨decide (many < so.length), _, k.lent g.mh, gt_test (gv_lt (gv_var rfl rfl) (gv_lenK (K := K) rfl upd_same)), fun hb H4 hh4 => ?_, fun hb H4 hh4 => ?_⟩
    · have hlt : many < so.length := by simpa using hb
      have hch : ∀ r, LChase cs so r → LChase cs (once hs) r := fun r h => hch r (by rw [if_pos hlt]; exact h)
      have g4 := g.trans (.idle g.mh hh4)
      have k4 := k.idle hh4
      refine q_asgK (P := It' (so.length : Nat)) g4.mh k4.m k4.h (gv_lenK (K := K) rfl upd_same) fun v5 M5 H5 g5 r5 => ?_
      cases r5
      have G5 := g4.trans g5
      have k5 := k4.step g5
      refine s_for (R1 := SqR K Tx) (xs := cs) g5.mh (gv_var rfl (Mon.mono G5.mm r1))
        (fun M1' i σ' M' H' => ∃ so2 y4 y5, Gr M H M' H' ∧ Same M1' M' ∧ Same M M' ∧ OwnK H M' H' p so2 ∧ σ' = [some v, some w, some (.ref p), some (.int (so.length : Nat)), y4, y5, none] ∧
          lpass cs so = lpass (cs.drop i) so2 ∧ (so2 = so ∨ (so.length < so2.length ∧ mu cs so2 < mu cs so)) ∧ so2.length + mu cs so2 ≤ (once hs).length + mu cs (once hs))
        (fun M6 H6 g6 => ⟨so, _, _, G5.trans g6, Same.refl _, (G5.trans g6).mm, k5.step g6, rfl, rfl, .inl rfl, hmu⟩)
        (fun M6 i σ' M' H' ⟨_, _, _, g, s1, _⟩ => ⟨s1, g.mh⟩) ?_ ?_
      · rintro M6 i c v' σ' M' H' sM hx ⟨so2, y4, y5, g, s1, s2, k2, rfl, el, hor, hmu2⟩ rx
        have hxm : c ∈ cs := List.mem_of_getElem? hx
        have hil : i < cs.length := (List.getElem?_eq_some_iff.mp hx).1
        have ed : cs.drop i = c :: cs.drop (i + 1) := by rw [List.drop_eq_getElem_cons hil]; congr 1; exact (List.getElem?_eq_some_iff.mp hx).2
        have hsh := ok.c c hxm
        have up : Same M' (upd M' p (.dK (kvT so2))) := same_new k2.m
        -- left = [..]
        refine q_asgK (P := LiR Tx (leftOf so2 c)) g.mh k2.m k2.h ((gl_lc (K := K) (R := Tx) (S := Tx) (gv_var rfl (Mon.mono up rx)) (szM (Nat.le_trans hsh.1 (by decide))) (fun l => decide (opp l ∉ so2)) id
          (fun l hl M1 vl sm rl => gt_is (gt_test (gv_inA (K := K) (neg := true) (gv_call1 (R1 := Tx) (pre := fun x => x.length ≤ 1000) (R := fun x => Tx (opp x)) (gv_var rfl rl) (hsh.2 l hl)) (gv_var rfl (Mon.mono sm OwnK.ct)))) (by simp)) fun l _ _ M1 vl sm rl => gv_var rfl rl).gv fun M' vs p hp m => ?_) fun v7 M7 H7 g7 r7 => ?_
        · rw [List.map_id] at hp
          exact ⟨p, vs, rfl, upd_same, hp.mono (same_new m)⟩
        have G7 := g.trans g7
        have k7 := k2.step g7
        have hd7 : Dp K M7 v7 (.list ((leftOf so2 c).map .str)) := py_lst py_str _ _ _ r7.lst
        refine q_if0 (b := decide (leftOf so2 c = [])) G7.mh (gt_test (gv_is (gv_eq (K := K) (neg := false) (d := .list ((leftOf so2 c).map .str)) (e := .list []) (gv_var rfl hd7) gv_nilD (depthO (some _))) fun M v h => by
            rw [show v = _ from h]
            have := optD_eq (some (leftOf so2 c)) []
            simp only [optD, List.map_nil] at this
            rw [this]; simp)) (fun hb8 H8 hh8 => ?_) (fun hb8 H8 hh8 => ?_)
        · have e0 : leftOf so2 c = [] := by simpa using hb8
          have g8 := G7.trans (.idle G7.mh hh8)
          refine s_ret (P := fun _ v => v = .non) g8.mh (gv_c rfl) fun v9 M9 H9 g9 r9 => q v9 M9 H9 (g8.trans g9) ⟨none, hch _ (.dead ?_), r9⟩
          rw [el, ed, lpass]
          unfold leftOf at e0
          rw [e0]
        · have hne : leftOf so2 c ≠ [] := by simpa using hb8
          have g8 := G7.trans (.idle G7.mh hh8)
          have k8 := k7.idle hh8
          refine s_if0 (b := decide ((leftOf so2 c).length = 1)) g8.mh (gt_test (gv_is (gv_eqT (K := K) (neg := false) py_int inj_int (gv_lenA (K := K) (gv_var rfl (r7.sq (K := K)))) (gv_c rfl) (by simp [PyData.depth])) fun M v h => ?_)) (fun hb9 H9 hh9 => ?_) (fun hb9 H9 hh9 => ?_)
          · rw [show v = _ from h]
            simp only [Bool.false_bne, V.bl.injEq, decide_eq_decide]
            omega
          · obtain ⟨l, hl⟩ : ∃ l, leftOf so2 c = [l] := by
              match leftOf so2 c, hb9 with
              | [l], _ => exact ⟨l, rfl⟩
              | [], h => simp at h
              | _ :: _ :: _, h => simp at h
            have g9 := g8.trans (.idle g8.mh hh9)
            have k9 := k8.idle hh9
            rw [hl] at r7
            have hlc : l ∈ c := by
              have : l ∈ leftOf so2 c := by rw [hl]; simp
              exact (List.mem_filter.mp this).1
            refine s_dputT (l := l) g9.mh rfl k9.h (szL (by omega)) (gv_ix (K := K) (R := Tx) (xs := [l]) (i := 0) (gv_var rfl (r7.sq (K := K))) (gv_c rfl) rfl) fun M10 H10 g10 => ?_
            have k10 := k9.step g10
            refine ⟨M10, onceP so2 l, _, _, (g9.trans g10).mut k10.h0 k10.m, s1.trans (g7.mm.trans g10.mm), s2.trans (g7.mm.trans g10.mm), k10.put, rfl, ?_, ?_, ?_⟩
            · rw [el, ed, lpass]
              unfold leftOf at hl
              rw [hl]
            · by_cases hin : l ∈ so2
              · rw [show onceP so2 l = so2 from if_pos hin]; exact hor
              · have h1 := mu_put hxm hlc hin
                rw [onceP_new hin]
                refine .inr ?_
                rw [List.length_append, List.length_singleton]
                rcases hor with rfl | hor
                · exact ⟨by omega, h1⟩
                · exact ⟨by omega, by omega⟩
            · by_cases hin : l ∈ so2
              · rw [show onceP so2 l = so2 from if_pos hin]; exact hmu2
              · have h1 := mu_put hxm hlc hin
                rw [onceP_new hin, List.length_append, List.length_singleton]
                omega
          · refine ⟨M7, so2, _, _, g8.trans (.idle g8.mh hh9), s1.trans g7.mm, s2.trans g7.mm, k8.idle hh9, rfl, ?_, hor, hmu2⟩
            rw [el, ed, lpass]
            unfold leftOf at hne hb9
            match hm : c.filter (fun l => decide (opp l ∉ so2)), hne, hb9 with
            | [], h, _ => exact absurd rfl h
            | [l], _, h => simp at h
            | _ :: _ :: _, _, _ => rfl
      · rintro M6 σ' M' H' sM ⟨so2, y4, y5, g, s1, s2, k2, rfl, el, hor, hmu2⟩
        rw [List.drop_length, lpass] at el
        refine ⟨_, M', ?_, so2, (so.length : Int), y4, y5, rfl, g, k2, rfl, fun r hr => hch r ?_, hmu2⟩
        · rw [if_pos hlt]
          rcases hor with rfl | ⟨h1, h2⟩
          · rw [if_neg (by omega)]; omega
          · rw [if_pos (by omega)]; omega
        · by_cases hl2 : so.length < so2.length
          · rw [if_pos (by omega)] at hr; exact .more el hl2 hr
          · rw [if_neg (by omega)] at hr; subst hr; exact .done el hl2
    · have hge : ¬ many < so.length := by simpa using hb
      have hch : ∀ r, r = some so → LChase cs (once hs) r := fun r h => hch r (by rw [if_neg hge]; exact h)
      have g4 := g.trans (.idle g.mh hh4)
      have k4 := k.idle hh4
      refine ⟨.ref p, rfl, p, kvT so, rfl, .inl k4.h, fun t nt => ?_⟩
      have ek : (kvT so).map (fun kv => kV kv.1) = so.map V.str := by unfold kvT; rw [List.map_map]; rfl
      rw [ek]
      exact q _ _ _ (g4.trans (.new g4.mh nt)) ⟨some so, hch _ rfl, t, _, rfl, upd_same, pd_of_tx so⟩
end
end My

set_option Elab.async false
set_option linter.all false
set_option maxRecDepth 100000
set_option maxHeartbeats 4000000
namespace My
open PySem PySem.Spec PyProof.Rows L2 L3
/-! following as a least closed set -/
inductive Der (cs : List (List Str)) (hs : List Str) : Str → Prop
  | base {x} : x ∈ hs → Der cs hs x
  | step {c l} : c ∈ cs → l ∈ c → (∀ m ∈ c, m ≠ l → Der cs hs (opp m)) → Der cs hs l
def Dead (cs : List (List Str)) (hs : List Str) : Prop := ∃ c ∈ cs, ∀ m ∈ c, Der cs hs (opp m)
/-- a literal of names -/
def LitN (ns : List Str) (x : Str) : Prop := ∃ n ∈ ns, x = n ∨ x = ("-" : Str) ++ n
theorem opp_opp {ns : List Str} (hn : NmL ns) {x : Str} (h : LitN ns x) : opp (opp x) = x ∧ opp x ≠ x := by
  obtain ⟨n, hnn, h | h⟩ := h
  · subst h
    have hm := hn.nm x hnn
    rw [opp_nm hm, opp_neg hm]
    exact ⟨rfl, fun e => neg_ne hm e.symm⟩
  · subst h
    have hm := hn.nm n hnn
    rw [opp_neg hm, opp_nm hm]
    exact ⟨rfl, fun e => neg_ne hm e⟩
structure Ctx (ns : List Str) (cs : List (List Str)) (hs : List Str) : Prop where
  nm : NmL ns
  c : ∀ c ∈ cs, Lits ns c
  h : Lits ns hs
theorem lits_nodup {ns ys : List Str} (h : Lits ns ys) : ys.Nodup := by
  have := h.nd
  rw [List.Nodup, List.pairwise_map] at this
  exact List.Pairwise.imp (fun hne e => hne (by rw [e])) this
/-- what is so -/
structure So (ns : List Str) (cs : List (List Str)) (hs so : List Str) : Prop where
  sub : ∀ x ∈ hs, x ∈ so
  snd : ∀ x ∈ so, Der cs hs x
  lit : ∀ x ∈ so, LitN ns x
  con : ∀ x ∈ so, opp x ∉ so
  nd : so.Nodup
variable {ns : List Str} {cs : List (List Str)} {hs so c : List Str} {l : Str}
theorem So.init (X : Ctx ns cs hs) : So ns cs hs hs := by
  refine ⟨fun _ h => h, fun _ h => .base h, fun x hx => X.h.of x hx, fun x hx ho => ?_, lits_nodup X.h⟩
  obtain ⟨h1, h2, h3⟩ := X.h.name X.nm hx
  obtain ⟨h4, h5, h6⟩ := X.h.name X.nm ho
  have hne := (opp_opp X.nm (X.h.of x hx)).2
  have e : nameOf (opp x) = nameOf x := by
    rcases h2 with e | e
    · rw [e, opp_nm h3, nameOf_neg h3, nameOf_nm h3]
    · rw [e, opp_neg h3, nameOf_nm h3, nameOf_neg h3]
  exact hne (nodup_inj X.h.nd _ ho _ hx e)
theorem mem_left {so c : List Str} {l : Str} : l ∈ leftOf so c ↔ l ∈ c ∧ opp l ∉ so := by unfold leftOf; rw [List.mem_filter]; simp
theorem left_one (X : Ctx ns cs hs) (S : ∀ x ∈ so, Der cs hs x) (hc : c ∈ cs) (h : leftOf so c = [l]) : Der cs hs l := by
  have hl : l ∈ leftOf so c := by rw [h]; simp
  refine .step hc (mem_left.mp hl).1 fun m hm hne => ?_
  by_cases ho : opp m ∈ so
  · exact S _ ho
  · have : m ∈ leftOf so c := mem_left.mpr ⟨hm, ho⟩
    rw [h, List.mem_singleton] at this
    exact absurd this hne
theorem left_none (S : ∀ x ∈ so, Der cs hs x) (hc : c ∈ cs) (h : leftOf so c = []) : Dead cs hs := ⟨c, hc, fun m hm => by
  by_cases ho : opp m ∈ so
  · exact S _ ho
  · have : m ∈ leftOf so c := mem_left.mpr ⟨hm, ho⟩
    rw [h] at this
    cases this⟩
theorem So.put (X : Ctx ns cs hs) (S : So ns cs hs so) (hc : c ∈ cs) (h : leftOf so c = [l]) (hl : l ∉ so) : So ns cs hs (so ++ [l]) := by
  have hm : l ∈ leftOf so c := by rw [h]; simp
  obtain ⟨h1, h2⟩ := mem_left.mp hm
  have hlit : LitN ns l := (X.c c hc).of l h1
  have hoo := opp_opp X.nm hlit
  refine ⟨fun x hx => List.mem_append_left _ (S.sub x hx), fun x hx => ?_, fun x hx => ?_, fun x hx ho => ?_, ?_⟩
  · rcases List.mem_append.mp hx with hx | hx
    · exact S.snd x hx
    · rw [List.mem_singleton] at hx; subst hx; exact left_one X S.snd hc h
  · rcases List.mem_append.mp hx with hx | hx
    · exact S.lit x hx
    · rw [List.mem_singleton] at hx; subst hx; exact hlit
  · rcases List.mem_append.mp hx with hx | hx
    · rcases List.mem_append.mp ho with ho | ho
      · exact S.con x hx ho
      · rw [List.mem_singleton] at ho
        have := (opp_opp X.nm (S.lit x hx)).1
        rw [ho] at this
        exact h2 (by rw [this]; exact hx)
    · rw [List.mem_singleton] at hx
      subst hx
      rcases List.mem_append.mp ho with ho | ho
      · exact h2 ho
      · rw [List.mem_singleton] at ho; exact hoo.2 ho
  · exact List.nodup_append.mpr ⟨S.nd, by simp, fun a ha b hb => by rw [List.mem_singleton] at hb; subst hb; exact fun e => hl (e ▸ ha)⟩
/-- closed -/
def Closed (cs : List (List Str)) (so : List Str) : Prop := ∀ c ∈ cs, leftOf so c ≠ [] ∧ ∀ l, leftOf so c = [l] → l ∈ so
theorem nodup_one {l : Str} : ∀ {xs : List Str}, xs.Nodup → (∀ x ∈ xs, x = l) → xs = [] ∨ xs = [l]
  | [], _, _ => .inl rfl
  | [x], _, h => .inr (by rw [h x (by simp)])
  | x :: y :: r, nd, h => by
    have h1 := h x (by simp)
    have h2 := h y (by simp)
    rw [h1, h2] at nd
    simp at nd
theorem der_in (X : Ctx ns cs hs) (hsub : ∀ x ∈ hs, x ∈ so) (hcl : Closed cs so) {x : Str} (h : Der cs hs x) : x ∈ so := by
  induction h with
  | base h => exact hsub _ h
  | @step c l hc hl _ ih =>
    obtain ⟨h1, h2⟩ := hcl c hc
    have : ∀ m ∈ leftOf so c, m = l := fun m hm => by
      obtain ⟨h3, h4⟩ := mem_left.mp hm
      by_cases e : m = l
      · exact e
      · exact absurd (ih m h3 e) h4
    have nd : (leftOf so c).Nodup := (lits_nodup (X.c c hc)).sublist List.filter_sublist
    rcases nodup_one nd this with e | e
    · exact absurd e h1
    · exact h2 l e
theorem not_dead (X : Ctx ns cs hs) (hsub : ∀ x ∈ hs, x ∈ so) (hcl : Closed cs so) : ¬ Dead cs hs := fun ⟨c, hc, h⟩ => by
  refine (hcl c hc).1 ?_
  have : ∀ m, m ∉ leftOf so c := fun m hm => by
    obtain ⟨h3, h4⟩ := mem_left.mp hm
    exact h4 (der_in X hsub hcl (h m h3))
  exact List.eq_nil_iff_forall_not_mem.mpr this
/-! the law's following -/
theorem lpass_ok (X : Ctx ns cs hs) : ∀ (rest : List (List Str)) (so : List Str), (∀ c ∈ rest, c ∈ cs) → So ns cs hs so → match lpass rest so with
    | none => Dead cs hs
    | some so' => So ns cs hs so' ∧ so.length ≤ so'.length ∧ (¬ so.length < so'.length → so' = so ∧ ∀ c ∈ rest, leftOf so c ≠ [] ∧ ∀ l, leftOf so c = [l] → l ∈ so)
  | [], so, _, S => ⟨S, Nat.le_refl _, fun _ => ⟨rfl, fun c hc => by cases hc⟩⟩
  | c :: rest, so, hr, S => by
    have hc := hr c (List.mem_cons_self ..)
    have hr' := fun d hd => hr d (List.mem_cons_of_mem _ hd)
    rw [lpass]
    match hl : c.filter (fun l => decide (opp l ∉ so)) with
    | [] => exact left_none S.snd hc hl
    | [l] =>
      have hl' : leftOf so c = [l] := hl
      by_cases hin : l ∈ so
      · have e : onceP so l = so := if_pos hin
        simp only [e]
        have ih := lpass_ok X rest so hr' S
        revert ih
        cases lpass rest so with
        | none => exact fun h => h
        | some so' =>
          rintro ⟨h1, h2, h3⟩
          refine ⟨h1, h2, fun h => ⟨(h3 h).1, fun d hd => ?_⟩⟩
          rcases List.mem_cons.mp hd with rfl | hd
          · rw [hl']; exact ⟨by simp, fun m hm => by cases hm; exact hin⟩
          · exact (h3 h).2 d hd
      · have e : onceP so l = so ++ [l] := if_neg hin
        simp only [e]
        have ih := lpass_ok X rest (so ++ [l]) hr' (S.put X hc hl' hin)
        revert ih
        cases lpass rest (so ++ [l]) with
        | none => exact fun h => h
        | some so' =>
          rintro ⟨h1, h2, _⟩
          rw [List.length_append, List.length_singleton] at h2
          exact ⟨h1, by omega, fun h => absurd (by omega) h⟩
    | a :: b :: r =>
      have hl' : leftOf so c = a :: b :: r := hl
      simp only
      have ih := lpass_ok X rest so hr' S
      revert ih
      cases lpass rest so with
      | none => exact fun h => h
      | some so' =>
        rintro ⟨h1, h2, h3⟩
        refine ⟨h1, h2, fun h => ⟨(h3 h).1, fun d hd => ?_⟩⟩
        rcases List.mem_cons.mp hd with rfl | hd
        · rw [hl']; exact ⟨by simp, fun m hm => by simp at hm⟩
        · exact (h3 h).2 d hd
/-- how a following ends -/
def EndsOk (ns : List Str) (cs : List (List Str)) (hs : List Str) : Option (List Str) → Prop
  | none => Dead cs hs
  | some so => ¬ Dead cs hs ∧ (∀ x, x ∈ so ↔ Der cs hs x) ∧ So ns cs hs so
theorem ends_some (X : Ctx ns cs hs) (S : So ns cs hs so) (hcl : Closed cs so) : EndsOk ns cs hs (some so) := ⟨not_dead X S.sub hcl, fun x => ⟨S.snd x, der_in X S.sub hcl⟩, S⟩
theorem lchase_ok (X : Ctx ns cs hs) {r : Option (List Str)} (h : LChase cs so r) (S : So ns cs hs so) : EndsOk ns cs hs r := by
  induction h with
  | @dead so e =>
    have := lpass_ok X cs so (fun _ h => h) S
    rw [e] at this
    exact this
  | @done so so' e hn =>
    have := lpass_ok X cs so (fun _ h => h) S
    rw [e] at this
    obtain ⟨h1, h2, h3⟩ := this
    obtain ⟨e1, h4⟩ := h3 hn
    rw [e1]
    exact ends_some X S h4
  | @more so so' r e _ _ ih =>
    have := lpass_ok X cs so (fun _ h => h) S
    rw [e] at this
    exact ih this.1
/-! the program's following -/
theorem open_left {ls : List Str} (h : openOnes so c = some ls) : leftOf so c = ls ∧ ∀ l ∈ c, l ∉ so := by
  rw [openOnes_eq] at h
  split at h
  · cases h
  · rename_i hn
    refine ⟨Option.some.inj h, fun l hl hs => hn ?_⟩
    rw [List.any_eq_true]
    exact ⟨l, hl, by simpa using hs⟩
theorem open_none (h : openOnes so c = none) : ∃ l ∈ c, l ∈ so := by
  rw [openOnes_eq] at h
  split at h
  · rename_i hn
    rw [List.any_eq_true] at hn
    obtain ⟨l, hl, hs⟩ := hn
    exact ⟨l, hl, by simpa using hs⟩
  · cases h
/-- steps that are right one behind the other -/
inductive Steps (cs : List (List Str)) : List Str → List Stp → List Str → Prop
  | nil {so : List Str} : Steps cs so [] so
  | cons {so : List Str} {i : Nat} {l : Str} {r : List Stp} {so' : List Str} : i < cs.length → openOnes so (cs.getD i []) = some [l] → Steps cs (so ++ [l]) r so' → Steps cs so ((i, some l) :: r) so'
theorem Steps.snoc {so so' : List Str} {st : List Stp} {i : Nat} (h : Steps cs so st so') (hi : i < cs.length) (ho : openOnes so' (cs.getD i []) = some [l]) : Steps cs so (st ++ [(i, some l)]) (so' ++ [l]) := by
  induction h with
  | nil => exact .cons hi ho .nil
  | cons h1 h2 _ ih => exact .cons h1 h2 (ih ho)
theorem Steps.take {so so' : List Str} {st : List Stp} (h : Steps cs so st so') : ∀ n, ∃ so'', Steps cs so (st.take n) so'' := by
  induction h with
  | nil => intro n; exact ⟨_, by rw [List.take_nil]; exact .nil⟩
  | cons h1 h2 _ ih =>
    intro n
    cases n with
    | zero => exact ⟨_, .nil⟩
    | succ n => obtain ⟨s, hs⟩ := ih n; exact ⟨s, .cons h1 h2 hs⟩
/-- right drawings to a result -/
def RightTo (cs : List (List Str)) (hs : List Str) : Res → Prop
  | (some so, st) => Steps cs hs st so
  | (none, st) => ∃ st0 i so, st = st0 ++ [(i, none)] ∧ Steps cs hs st0 so ∧ i < cs.length ∧ openOnes so (cs.getD i []) = some []
theorem pass_ok (X : Ctx ns cs hs) : ∀ (rest : List (List Str)) (i : Nat) (so : List Str) (st : List Stp) (mv : Bool), cs.drop i = rest → So ns cs hs so → Steps cs hs st so → match passGo rest i so st mv with
    | .error st' => Dead cs hs ∧ RightTo cs hs (none, st')
    | .ok (so', st', mv') => So ns cs hs so' ∧ Steps cs hs st' so' ∧ (mv' = false → mv = false ∧ so' = so ∧ st' = st ∧ ∀ c ∈ rest, leftOf so c ≠ [] ∧ ∀ l, leftOf so c = [l] → l ∈ so)
  | [], i, so, st, mv, _, S, T => ⟨S, T, fun h => ⟨h, rfl, rfl, fun c hc => by cases hc⟩⟩
  | c :: rest, i, so, st, mv, hd, S, T => by
    have hil : i < cs.length := by
      by_cases h : i < cs.length
      · exact h
      · rw [List.drop_of_length_le (by omega)] at hd; cases hd
    have hgd : cs.getD i [] = c := by
      rw [List.drop_eq_getElem_cons hil] at hd
      rw [List.getD_eq_getElem?_getD, List.getElem?_eq_getElem hil]
      exact (List.cons.inj hd).1
    have hdr : cs.drop (i + 1) = rest := by
      rw [List.drop_eq_getElem_cons hil] at hd
      exact (List.cons.inj hd).2
    have hc : c ∈ cs := by rw [← hgd, List.getD_eq_getElem?_getD, List.getElem?_eq_getElem hil]; exact List.getElem_mem _
    rw [passGo]
    have other : (leftOf so c ≠ [] ∧ ∀ l, leftOf so c = [l] → l ∈ so) → match passGo rest (i + 1) so st mv with
        | .error st' => Dead cs hs ∧ RightTo cs hs (none, st')
        | .ok (so', st', mv') => So ns cs hs so' ∧ Steps cs hs st' so' ∧ (mv' = false → mv = false ∧ so' = so ∧ st' = st ∧ ∀ d ∈ c :: rest, leftOf so d ≠ [] ∧ ∀ l, leftOf so d = [l] → l ∈ so) := by
      intro hcl
      have ih := pass_ok X rest (i + 1) so st mv hdr S T
      revert ih
      cases passGo rest (i + 1) so st mv with
      | error st' => exact fun h => h
      | ok x =>
        obtain ⟨so', st', mv'⟩ := x
        rintro ⟨h1, h2, h3⟩
        refine ⟨h1, h2, fun h => ?_⟩
        obtain ⟨h4, h5, h6, h7⟩ := h3 h
        refine ⟨h4, h5, h6, fun d hd => ?_⟩
        rcases List.mem_cons.mp hd with rfl | hd
        · exact hcl
        · exact h7 d hd
    match ho : openOnes so c with
    | none =>
      refine other ?_
      obtain ⟨l, hl, hls⟩ := open_none ho
      have hm : l ∈ leftOf so c := mem_left.mpr ⟨hl, S.con l hls⟩
      refine ⟨(fun e => by rw [e] at hm; cases hm), fun m e => ?_⟩
      rw [e, List.mem_singleton] at hm
      rw [← hm]; exact hls
    | some [] => exact ⟨left_none S.snd hc (open_left ho).1, st, i, so, rfl, T, hil, by rw [hgd]; exact ho⟩
    | some [l] =>
      have hl := (open_left ho).1
      obtain ⟨h1, h2⟩ := open_one ho
      have ih := pass_ok X rest (i + 1) (so ++ [l]) (st ++ [(i, some l)]) true hdr (S.put X hc hl h2) (T.snoc hil (by rw [hgd]; exact ho))
      simp only
      revert ih
      cases passGo rest (i + 1) (so ++ [l]) (st ++ [(i, some l)]) true with
      | error st' => exact fun h => h
      | ok x =>
        obtain ⟨so', st', mv'⟩ := x
        rintro ⟨h1, h2, h3⟩
        exact ⟨h1, h2, fun h => by have := (h3 h).1; cases this⟩
    | some (a :: b :: r) =>
      refine other ?_
      have hl := (open_left ho).1
      rw [hl]
      exact ⟨by simp, fun l e => by simp at e⟩
theorem chase_ok (X : Ctx ns cs hs) {st : List Stp} {r : Res} (h : Chase cs so st r) (S : So ns cs hs so) (T : Steps cs hs st so) : EndsOk ns cs hs r.1 ∧ RightTo cs hs r := by
  induction h with
  | @dead so st st' e =>
    have := pass_ok X cs 0 so st false rfl S T
    rw [e] at this
    exact this
  | @done so st so' st' e =>
    have := pass_ok X cs 0 so st false rfl S T
    rw [e] at this
    obtain ⟨h1, h2, h3⟩ := this
    obtain ⟨_, e1, e2, h4⟩ := h3 rfl
    exact ⟨by rw [e1]; exact ends_some X S h4, h2⟩
  | @more so st so' st' r e _ ih =>
    have := pass_ok X cs 0 so st false rfl S T
    rw [e] at this
    exact ih this.1 this.2.1
end My

set_option Elab.async false
set_option linter.all false
set_option maxRecDepth 100000
set_option maxHeartbeats 4000000
namespace My
open PySem PySem.Spec PyProof.Rows L2 L3
structure Ge (mg : Str → Option Value) : Prop extends Gc mg where
  g_MOST_SIGNS : ∃ t, mg "MOST_SIGNS" = some (.int 6 t)
/-! the plain functions -/
def fullP (acc : List (List Str)) (n : Str) : List (List Str) := acc.flatMap fun s => [n, ("-" : Str) ++ n].map fun l => s ++ [l]
def fulls (ns : List Str) : List (List Str) := ns.foldl fullP [[]]
def liesIn (p c : List Str) : Bool := p.all fun l => decide (l ∈ c)
def meets (c s : List Str) : Bool := c.any fun l => decide (l ∈ s)
def isCons (c : List Str) (ss : List (List Str)) : Bool := ss.all fun s => meets c s
def fits (ss : List (List Str)) (h : List Str) : List (List Str) := ss.filter fun s => liesIn h s
def forcedL (ss : List (List Str)) (h : List Str) : Option (List Str) := match fits ss h with
  | [] => none
  | s :: r => some (s.filter fun l => decide (l ∉ h) && (s :: r).all fun z => decide (l ∈ z))
def stepH (ns : List Str) (p : List Str × Nat) : List (List Str × Nat) := (List.range' p.2 (ns.length - p.2)).flatMap fun a => [ns.getD a "", ("-" : Str) ++ ns.getD a ""].map fun l => (p.1 ++ [l], a + 1)
def nextH (ns : List Str) (lv : List (List Str × Nat)) : List (List Str × Nat) := lv.flatMap (stepH ns)
def halfGo (ns : List Str) : Nat → List (List Str × Nat) → List (List Str) → List (List Str)
  | 0, _, found => found
  | m + 1, lv, found => halfGo ns m (nextH ns lv) (found ++ (nextH ns lv).map (·.1))
def halves (ns : List Str) : List (List Str) := halfGo ns ns.length [([], 0)] [[]]
def shortP (ss : List (List Str)) (found : List (List Str)) (c : List Str) : List (List Str) := if (!found.any fun o => liesIn o c) && isCons c ss then found ++ [c] else found
def shortestL (ns : List Str) (ss : List (List Str)) : List (List Str) := (halves ns).foldl (shortP ss) []
section
variable {K : PySem.W.Frag} {σ : Sl} {M : Hp} {te ta tb : TE} {α : Type} {R : Rl α}
theorem _root_.L3.GvL.li [Mon R] {xs : List α} (h : GvL te σ M fun M ws => Pd R M xs ws) : Gv te σ M (LiR R xs) := h.gv fun M vs p r m => ⟨p, vs, rfl, upd_same, r.mono (same_new m)⟩
theorem _root_.L3.GvK.gv {ks : List Str} (h : GvK te σ M ks) : Gv te σ M (DcR ks) := fun H mh Q q => h H mh Q fun p M' H' g h0 m0 hw => q _ _ H' (g.freeze h0 m0 hw) ⟨p, rfl, .inl upd_same⟩
theorem gl_one [Mon R] {x : α} (h : Gv te σ M (R x)) : GvL (tLst (tCons te tNil)) σ M fun M ws => Pd R M [x] ws := fun H mh Q q =>
  h H mh _ fun v M1 H1 g1 p1 => ⟨by show 1 ≤ sizeLine; decide, fun p np => q p [v] M1 _ (g1.trans (.own g1.mh np)) (g1.hh.free np) (g1.mh.free np) upd_same (.cons p1 .nil)⟩
theorem gl_twoL [Mon R] {x y : α} (h1 : Gv ta σ M (R x)) (h2 : Gv tb σ M (R y)) : GvL (tLst (tCons ta (tCons tb tNil))) σ M fun M ws => Pd R M [x, y] ws := fun H mh Q q =>
  h1 H mh _ fun v M1 H1 g1 p1 => h2.le g1.mm H1 g1.mh _ fun u M2 H2 g2 p2 => ⟨by show 2 ≤ sizeLine; decide, fun p np => q p [v, u] M2 _ ((g1.trans g2).trans (.own g2.mh np)) ((g1.trans g2).hh.free np) (g2.mh.free np) upd_same (.cons (Mon.mono g2.mm p1) (.cons p2 .nil))⟩
theorem gv_tup1 {x : Str} (h : Gv te σ M (Tx x)) : Gv (tTup (tCons te tNil)) σ M (TT [x]) := fun H mh Q q =>
  h H mh _ fun v M1 H1 g1 p1 => ⟨by show 1 ≤ sizeLine; decide, fun p np => q _ _ _ (g1.trans (.new g1.mh np)) (by cases (show v = _ from p1); exact TT.new [x])⟩
theorem szK {n : Nat} (h : n ≤ 1000000) : n ≤ sizeLine := szM (Nat.le_trans h (by decide))
theorem flat2_len {α β : Type} (xs : List α) (f : α → β) (g : α → β) : (xs.flatMap fun x => [f x, g x]).length = 2 * xs.length := by
  induction xs with
  | nil => rfl
  | cons x xs ih => rw [List.flatMap_cons, List.length_append, ih]; simp only [List.length_cons, List.length_nil]; omega
theorem py_LTT {K : PySem.W.Frag} : PyR K (LiR TT) fun xs => .list (xs.map fun c => .tuple (c.map .str)) := fun xs M v h => py_lst py_TT _ _ _ h.lst
theorem inj_LTT : Inj fun xs : List (List Str) => PyData.list (xs.map fun c => .tuple (c.map .str)) := inj_lst inj_TT
theorem gv_nilL {R : Rl α} : Gv (tLst tNil) σ M (LiR R []) := gl_nil.gv fun M vs p h m => by subst h; exact ⟨p, [], rfl, upd_same, .nil⟩
end
end My

set_option Elab.async false
set_option linter.all false
set_option maxRecDepth 100000
set_option maxHeartbeats 4000000
namespace My
open PySem PySem.Spec PyProof.Rows L2 L3
theorem depthT : ∀ xs : List (List Str), PyData.depthAll (xs.map fun c => .tuple (c.map .str)) ≤ 1
  | [] => by simp [PyData.depthAll]
  | c :: r => by
    have := depthT r
    simp only [List.map_cons, PyData.depthAll, PyData.depth, depthS]
    omega
theorem depth_LTT (xs : List (List Str)) : (PyData.list (xs.map fun c => .tuple (c.map .str))).depth ≤ 60 := by
  have := depthT xs
  simp only [PyData.depth]
  omega
section
variable {P : Program} {w : World} {K : PySem.W.Frag} {mg : Str → Option Value} {base : Heap}
abbrev s_lies_in : Stmt := topS 28
theorem sc_lies_in : FnScope ["part", "clause", "literal"] ["part", "clause"] (defScope s_lies_in) := ⟨rfl, rfl, rfl, by decide +kernel, rfl, by decide +kernel, by decide +kernel⟩
def sp_lies_in (K : PySem.W.Frag) : Sp := sp2 (SqR K Tx) (CtR K) (fun p _ => p.length ≤ 1000000) fun p c => Bl (liesIn p c)
theorem ok_lies_in {f : Addr} {fd : FuncData} (F : Fun K "lies_in" "lies_in" s_lies_in f fd) (T : Gc mg) : FnOk P w K mg base CX0 1 f fd ["part", "clause"] (sp_lies_in K) := by
  refine F.ok sc_lies_in (fun vs H Q E h => ?_) (fun cdv A outer s H vs Q E hr h => ?_)
  · obtain ⟨x, y, M, v, w, rfl, _⟩ := h
    rfl
  · obtain ⟨p, c, M, v, w, rfl, mh, r1, r2, hp, q⟩ := h
    have hu := hr.units
    refine ⟨_, (pss_one (ps_ret (pe_callB (cr_all rfl) (by rfl) T.all boot_all (pa_cons (pe_lc (own := [("literal", 2)]) (g := (gName 2)) (tt := tYes) (te := (tOp (rInA K false) (tVar 2) (tVar 1))) (by rfl) sc_lies_in.nd (pi_sq (pv 0)) (blkOk_by (by rfl)) (fun _ _ _ _ _ => (pg_name (i := 2) sc_lies_in.nd rfl (by first | exact .inl rfl | exact .inr rfl))) (fun _ _ _ _ _ => pts_nil) (fun _ _ _ _ _ => (pe_cmpR (op_inA hu) (pv 2) (pv 1) (by rfl)))) pa_nil)))), ?_⟩
    refine s_ret mh (gv_is (gv_all (K := K) (gl_m1 (S := Bl) (R := Tx) (xs := p) (gi_sq (K := K) (gv_var rfl r1)) (szK hp) (fun l => decide (l ∈ c)) fun l _ M1 u sm ru => gv_is (gv_inA (K := K) (gv_var rfl ru) (gv_var rfl (Mon.mono sm r2))) fun _ _ h => by simpa using h)) fun M' v h => ?_) q
    rw [show v = _ from h, List.all_map]
    rfl
abbrev s_is_consequence : Stmt := topS 29
theorem sc_is_consequence : FnScope ["clause", "settings", "setting", "literal"] ["clause", "settings"] (defScope s_is_consequence) := ⟨rfl, rfl, rfl, by decide +kernel, rfl, by decide +kernel, by decide +kernel⟩
def sp_is_consequence (K : PySem.W.Frag) : Sp := sp2 (SqR K Tx) (SqR K (CtR K)) (fun c ss => c.length ≤ 1000000 ∧ ss.length ≤ 1000000) fun c ss => Bl (isCons c ss)
theorem ok_is_consequence {f : Addr} {fd : FuncData} (F : Fun K "is_consequence" "is_consequence" s_is_consequence f fd) (T : Gc mg) : FnOk P w K mg base CX0 1 f fd ["clause", "settings"] (sp_is_consequence K) := by
  refine F.ok sc_is_consequence (fun vs H Q E h => ?_) (fun cdv A outer s H vs Q E hr h => ?_)
  · obtain ⟨x, y, M, v, w, rfl, _⟩ := h
    rfl
  · obtain ⟨c, ss, M, v, w, rfl, mh, r1, r2, ⟨hc, hs⟩, q⟩ := h
    have hu := hr.units
    refine ⟨_, (pss_one (ps_ret (pe_callB (cr_all rfl) (by rfl) T.all boot_all (pa_cons (pe_lc (own := [("setting", 2)]) (g := (gName 2)) (tt := tYes) (te := (tCB (rAny K) (tCons (tLc (iSq K (tVar 0)) (gName 3) tYes (tOp (rInA K false) (tVar 3) (tVar 2)) [3]) tNil))) (by rfl) sc_is_consequence.nd (pi_sq (pv 1)) (blkOk_by (by rfl)) (fun _ _ _ _ _ => (pg_name (i := 2) sc_is_consequence.nd rfl (by first | exact .inl rfl | exact .inr rfl))) (fun _ _ _ _ _ => pts_nil) (fun _ _ _ _ _ => (pe_callB (cr_any rfl) (by rfl) T.any boot_any (pa_cons (pe_lc (own := [("literal", 3)]) (g := (gName 3)) (tt := tYes) (te := (tOp (rInA K false) (tVar 3) (tVar 2))) (by rfl) sc_is_consequence.nd (pi_sq (pv 0)) (blkOk_by (by rfl)) (fun _ _ _ _ _ => (pg_name (i := 3) sc_is_consequence.nd rfl (by first | exact .inl rfl | exact .inr rfl))) (fun _ _ _ _ _ => pts_nil) (fun _ _ _ _ _ => (pe_cmpR (op_inA hu) (pv 3) (pv 2) (by rfl)))) pa_nil)))) pa_nil)))), ?_⟩
    refine s_ret mh (gv_is (gv_all (K := K) (gl_m1 (S := Bl) (R := CtR K) (xs := ss) (gi_sq (K := K) (gv_var rfl r2)) (szK hs) (fun z => meets c z) fun z _ M1 u sm ru => gv_is (gv_any (K := K) (gl_m1 (S := Bl) (R := Tx) (xs := c) (gi_sq (K := K) (gv_var rfl (Mon.mono sm r1))) (szK hc) (fun l => decide (l ∈ z))
      fun l _ M2 u2 sm2 ru2 => gv_is (gv_inA (K := K) (gv_var rfl ru2) (gv_var rfl (Mon.mono sm2 ru))) fun _ _ h => by simpa using h)) fun M' v h => by rw [show v = _ from h, List.any_map]; rfl)) fun M' v h => ?_) q
    rw [show v = _ from h, List.all_map]
    rfl
abbrev s_full_settings : Stmt := topS 21
theorem sc_full_settings : FnScope ["names", "found", "name", "setting", "literal"] ["names"] (defScope s_full_settings) := ⟨rfl, rfl, rfl, by decide +kernel, rfl, by decide +kernel, by decide +kernel⟩
def sp_full_settings (K : PySem.W.Frag) : Sp := sp1 (SqR K Tx) (fun ns => ns.length ≤ 6 ∧ Shorts ns) fun ns => LiR TT (fulls ns)
theorem fulls_len (ns : List Str) : (fulls ns).length = 2 ^ ns.length := by
  have go : ∀ (ns : List Str) (acc : List (List Str)), (ns.foldl fullP acc).length = acc.length * 2 ^ ns.length := by
    intro ns
    induction ns with
    | nil => intro acc; simp
    | cons n ns ih =>
      intro acc
      rw [List.foldl_cons, ih, List.length_cons, Nat.pow_succ]
      have : (fullP acc n).length = acc.length * 2 := by
        unfold fullP
        induction acc with
        | nil => rfl
        | cons a acc ih => rw [List.flatMap_cons, List.length_append, ih, List.length_cons]; simp; omega
      rw [this, Nat.mul_assoc, Nat.mul_comm 2]
  have := go ns [[]]
  simpa [fulls] using this
theorem fulls_take {ns : List Str} {i : Nat} {n : Str} (h : ns[i]? = some n) : fulls (ns.take (i + 1)) = fullP (fulls (ns.take i)) n := by
  unfold fulls
  rw [List.take_add_one, h, List.foldl_append]
  rfl
theorem fulls_each : ∀ (ns : List Str), ∀ s ∈ fulls ns, s.length = ns.length := by
  have go : ∀ (ns : List Str) (acc : List (List Str)) (k : Nat), (∀ s ∈ acc, s.length = k) → ∀ s ∈ ns.foldl fullP acc, s.length = k + ns.length := by
    intro ns
    induction ns with
    | nil => intro acc k h s hs; exact h s hs
    | cons n ns ih =>
      intro acc k h s hs
      rw [List.foldl_cons] at hs
      have := ih (fullP acc n) (k + 1) (fun z hz => by
        obtain ⟨y, hy, hz⟩ := List.mem_flatMap.mp hz
        obtain ⟨l, _, rfl⟩ := List.mem_map.mp hz
        rw [List.length_append, h y hy]; rfl) s hs
      rw [this, List.length_cons]; omega
  intro ns s hs
  have := go ns [[]] 0 (by simp) s hs
  omega
theorem ok_full_settings {f : Addr} {fd : FuncData} (F : Fun K "full_settings" "full_settings" s_full_settings f fd) (T : Gc mg) : FnOk P w K mg base CX0 1 f fd ["names"] (sp_full_settings K) := by
  refine F.ok sc_full_settings (fun vs H Q E h => ?_) (fun cdv A outer s H vs Q E hr h => ?_)
  · obtain ⟨x, M, v, rfl, _⟩ := h
    rfl
  · obtain ⟨ns, M, v, rfl, mh, r1, ⟨h6, hsh⟩, q⟩ := h
    have hu := hr.units
    refine ⟨_, (pss_cons (ps_set (i := 1) sc_full_settings.nd rfl (by first | exact .inl rfl | exact .inr rfl) (pe_lst (pa_cons (pe_tup pa_nil) pa_nil)))
      (pss_cons (ps_for PassesOwn.never (by rfl) (pi_sq (pv 0)) (pg_name (i := 2) sc_full_settings.nd rfl (by first | exact .inl rfl | exact .inr rfl)) (pss_one (ps_setLc2 (i := 1) (own := [("setting", 3), ("literal", 4)]) (vs1 := [4]) (g := (gName 3)) (tt := tYes) (wi1 := (iSq K (tTup (tCons (tVar 2) (tCons (tOp (rAddA K) (tC (.str "-")) (tVar 2)) tNil))))) (g1 := (gName 4)) (tt1 := tYes) (te := (tOp (rAddA K) (tVar 3) (tTup (tCons (tVar 4) tNil)))) (by rfl) sc_full_settings.nd rfl rfl (sw_true rfl rfl rfl (by decide +kernel)) (pi_sq (pv 1)) (blkOk_by (by rfl)) (by decide) (fun _ _ _ _ _ => (pg_name (i := 3) sc_full_settings.nd rfl (by first | exact .inl rfl | exact .inr rfl))) (fun _ _ _ _ _ => pts_nil) (fun _ _ _ _ _ => (pi_sq (pe_tup (pa_cons (pv 2) (pa_cons (pe_op op_addA pe_str (pv 2)) pa_nil))))) (fun _ _ _ _ _ => (pg_name (i := 4) sc_full_settings.nd rfl (by first | exact .inl rfl | exact .inr rfl))) (fun _ _ _ _ _ => pts_nil) (fun _ _ _ _ _ => (pe_op op_addA (pv 3) (pe_tup (pa_cons (pv 4) pa_nil)))))))
      (pss_one (ps_ret (pv 1))))), ?_⟩
    refine q_asg (P := LiR TT [[]]) mh (gl_one gv_nilT).li fun v1 M1 H1 g1 p1 => ?_
    refine q_for (R1 := Tx) (xs := ns) g1.mh (gv_var rfl (Mon.mono g1.mm r1))
      (fun M1' i σ' M' H' => ∃ y2 u, Gr M H M' H' ∧ Same M1' M' ∧ LiR TT (fulls (ns.take i)) M' u ∧ σ' = [some v, some u, y2, none, none])
      (fun M2 H2 g2 => ⟨none, v1, g1.trans g2, Same.refl _, Mon.mono g2.mm p1, rfl⟩) (fun M2 i σ' M' H' ⟨_, _, g, s1, _⟩ => ⟨s1, g.mh⟩) ?_ ?_
    · rintro M2 i n u σ' M' H' sM hx ⟨y2, v2, g, s1, p2, rfl⟩ rx
      cases rx
      have hi : i < ns.length := (List.getElem?_eq_some_iff.mp hx).1
      have hn : n.length ≤ 900 := hsh.2 n (List.mem_of_getElem? hx)
      have hle : (fulls (ns.take i)).length ≤ 64 := by
        rw [fulls_len, List.length_take]
        exact Nat.le_trans (Nat.pow_le_pow_right (by decide) (show min i ns.length ≤ 6 by omega)) (by decide)
      refine s_asg (P := LiR TT (fulls (ns.take (i + 1)))) g.mh (gv_is (gl_two (R := TT) (R1 := Tx) (T := TT) (xs := fulls (ns.take i)) (ys := fun _ => [n, ("-" : Str) ++ n]) (f := fun z l => z ++ [l]) (gi_sq (K := K) (gv_var rfl p2.sq)) (szM (by rw [flat2_len]; omega))
        (fun z _ M3 u3 sm r3 => gi_sq (K := K) (gv_is (gv_tup2 (K := K) (gv_var rfl rfl) (gv_addSt (K := K) (gv_c rfl) (gv_var rfl rfl) (szM (by show 1 + n.length ≤ _; omega)))) fun _ _ h => .inr h))
        fun z hz l _ M3 u3 w3 sm r3 q3 => gv_addTT (K := K) (gv_var rfl r3) (gv_tup1 (gv_var rfl q3)) (szM (by have := fulls_each _ z hz; rw [List.length_take] at this; simp only [List.length_cons, List.length_nil]; omega))).li fun M' v' h => by rw [fulls_take hx]; exact h) fun u4 M4 H4 g4 p4 => ?_
      exact ⟨M4, _, u4, g.trans g4, s1.trans g4.mm, p4, rfl⟩
    · rintro M2 σ' M' H' sM ⟨y2, u, g, s1, p2, rfl⟩
      rw [List.take_length] at p2
      exact ⟨u, rfl, q _ _ _ g p2⟩
abbrev s_forced_literals : Stmt := topS 27
theorem sc_forced_literals : FnScope ["settings", "setting", "some", "one", "literal"] ["settings", "setting"] (defScope s_forced_literals) := ⟨rfl, rfl, rfl, by decide +kernel, rfl, by decide +kernel, by decide +kernel⟩
def sp_forced_literals (K : PySem.W.Frag) : Sp := sp2 (SqR K TT) (SqR K Tx) (fun ss h => ss.length ≤ 1000000 ∧ h.length ≤ 1000000 ∧ ∀ s ∈ ss, s.length ≤ 1000000) fun ss h => OpR' (LiR Tx) (forcedL ss h)
theorem ok_forced_literals {f : Addr} {fd : FuncData} (F : Fun K "forced_literals" "forced_literals" s_forced_literals f fd) (T : Gc mg) : FnOk P w K mg base CX0 1 f fd ["settings", "setting"] (sp_forced_literals K) := by
  refine F.ok sc_forced_literals (fun vs H Q E h => ?_) (fun cdv A outer s H vs Q E hr h => ?_)
  · obtain ⟨x, y, M, v, w, rfl, _⟩ := h
    rfl
  · obtain ⟨ss, h, M, v, w, rfl, mh, r1, r2, ⟨h1, h2, h3⟩, q⟩ := h
    have hu := hr.units
    refine ⟨_, (pss_cons (ps_set (i := 2) sc_forced_literals.nd rfl (by first | exact .inl rfl | exact .inr rfl) (pe_lc (own := [("one", 3)]) (g := (gName 3)) (tt := (tB (tCB (rAll K) (tCons (tLc (iSq K (tVar 1)) (gName 4) tYes (tOp (rInA K false) (tVar 4) (tVar 3)) [4]) tNil)))) (te := (tVar 3)) (by rfl) sc_forced_literals.nd (pi_sq (pv 0)) (blkOk_by (by rfl)) (fun _ _ _ _ _ => (pg_name (i := 3) sc_forced_literals.nd rfl (by first | exact .inl rfl | exact .inr rfl))) (fun _ _ _ _ _ => (pts_one (pt_val (pe_callB (cr_all rfl) (by rfl) T.all boot_all (pa_cons (pe_lc (own := [("literal", 4)]) (g := (gName 4)) (tt := tYes) (te := (tOp (rInA K false) (tVar 4) (tVar 3))) (by rfl) sc_forced_literals.nd (pi_sq (pv 1)) (blkOk_by (by rfl)) (fun _ _ _ _ _ => (pg_name (i := 4) sc_forced_literals.nd rfl (by first | exact .inl rfl | exact .inr rfl))) (fun _ _ _ _ _ => pts_nil) (fun _ _ _ _ _ => (pe_cmpR (op_inA hu) (pv 4) (pv 3) (by rfl)))) pa_nil))))) (fun _ _ _ _ _ => (pv 3))))
      (pss_cons (ps_if (pt_cmpR (op_eqP hu) (pv 2) (pe_lst pa_nil) (nomark _)) (pss_one (ps_ret pe_non)) pss_nil)
      (pss_one (ps_ret (pe_lc (own := [("literal", 4)]) (g := (gName 4)) (tt := (tAnd (tTest (tOp (rInA K true) (tVar 4) (tVar 1))) (tB (tCB (rAll K) (tCons (tLc (iSq K (tVar 2)) (gName 3) tYes (tOp (rInA K false) (tVar 4) (tVar 3)) [3]) tNil))))) (te := (tVar 4)) (by rfl) sc_forced_literals.nd (pi_sq (pe_ix ix_X (pv 2) pe_int (fun _ _ => rfl))) (blkOk_by (by rfl)) (fun _ _ _ _ _ => (pg_name (i := 4) sc_forced_literals.nd rfl (by first | exact .inl rfl | exact .inr rfl))) (fun _ _ _ _ _ => (pts_one (PW.pt (pw_and (pt_cmpR (op_niA hu) (pv 4) (pv 1) (by rfl)) (pw_and1 (pt_val (pe_callB (cr_all rfl) (by rfl) T.all boot_all (pa_cons (pe_lc (own := [("one", 3)]) (g := (gName 3)) (tt := tYes) (te := (tOp (rInA K false) (tVar 4) (tVar 3))) (by rfl) sc_forced_literals.nd (pi_sq (pv 2)) (blkOk_by (by rfl)) (fun _ _ _ _ _ => (pg_name (i := 3) sc_forced_literals.nd rfl (by first | exact .inl rfl | exact .inr rfl))) (fun _ _ _ _ _ => pts_nil) (fun _ _ _ _ _ => (pe_cmpR (op_inA hu) (pv 4) (pv 3) (by rfl)))) pa_nil)))))))) (fun _ _ _ _ _ => (pv 4))))))), ?_⟩
    refine q_asg (P := LiR TT (fits ss h)) mh (gv_is (gl_c1 (S := TT) (R := TT) (xs := ss) (gi_sq (K := K) (gv_var rfl r1)) (szK h1) (fun z => liesIn h z) id (fun z _ M1 u sm ru => gt_B (gv_is (gv_all (K := K) (gl_m1 (S := Bl) (R := Tx) (xs := h) (gi_sq (K := K) (gv_var rfl (Mon.mono sm r2))) (szK h2) (fun l => decide (l ∈ z))
      fun l _ M2 u2 sm2 ru2 => gv_is (gv_inA (K := K) (gv_var rfl ru2) (gv_var rfl (.inl (Mon.mono sm2 ru).sq))) fun _ _ h => by simpa using h)) fun M' v h => by rw [show v = _ from h, List.all_map]; rfl)) fun z _ _ M1 u sm ru => gv_var rfl ru).li fun M' v' h => by rw [List.map_id] at h; exact h) fun v1 M1 H1 g1 p1 => ?_
    have fl : (fits ss h).length ≤ 1000000 := Nat.le_trans (List.length_filter_le _ _) h1
    refine q_if0 (b := decide (fits ss h = [])) g1.mh (gt_is (gt_test (gv_eqT (K := K) (R := LiR TT) (neg := false) py_LTT inj_LTT (gv_var rfl p1) gv_nilL (depth_LTT _))) (by simp)) (fun hb H2 hh => ?_) fun hb H2 hh => ?_
    · have e : forcedL ss h = none := by unfold forcedL; rw [of_decide_eq_true hb]
      exact s_ret (P := fun _ u => u = .non) (g1.mh.trans hh) (gv_c rfl) fun u M' H' g r => q u M' H' ((g1.trans (.idle g1.mh hh)).trans g) (by show OpR' (LiR Tx) (forcedL ss h) M' u; rw [e]; exact r)
    · cases ef : fits ss h with
      | nil => rw [ef] at hb; simp at hb
      | cons s0 r0 =>
        rw [ef] at p1
        have hs0 : s0 ∈ ss := (List.mem_filter.mp (show s0 ∈ fits ss h by rw [ef]; simp)).1
        have e : forcedL ss h = some (s0.filter fun l => decide (l ∉ h) && (s0 :: r0).all fun z => decide (l ∈ z)) := by unfold forcedL; rw [ef]
        have mh2 := g1.mh.trans hh
        refine s_ret mh2 (gv_is (gl_c1 (S := Tx) (R := Tx) (xs := s0) (gi_sq (K := K) (gv_is (gv_ix (K := K) (R := TT) (xs := s0 :: r0) (i := 0) (x := s0) (gv_var rfl p1.sq) (gv_c rfl) (atI_nat (j := 0) rfl)) fun _ _ h => h.sq)) (szK (h3 s0 hs0)) (fun l => decide (l ∉ h) && (s0 :: r0).all fun z => decide (l ∈ z)) id
          (fun l _ M2 u sm ru => gt_and (b := decide (l ∉ h)) (c := (s0 :: r0).all fun z => decide (l ∈ z)) (gt_is (gt_test (gv_inA (K := K) (neg := true) (gv_var rfl ru) (gv_var rfl (.inl (Mon.mono (g1.mm.trans sm) r2))))) (by simp)) fun _ => gt_B (gv_is (gv_all (K := K) (gl_m1 (S := Bl) (R := TT) (xs := s0 :: r0) (gi_sq (K := K) (gv_var rfl (Mon.mono sm p1).sq)) (szK (by rw [← ef]; exact fl)) (fun z => decide (l ∈ z))
            fun z _ M3 u3 sm3 ru3 => gv_is (gv_inA (K := K) (x := l) (gv_var rfl (by exact ru)) (gv_var rfl (.inl ru3.sq))) fun _ _ h => by simpa using h)) fun M' v h => by rw [show v = _ from h, List.all_map]; rfl)) fun l _ _ M2 u sm ru => gv_var rfl ru).li fun M' v' hv => ?_) fun u M' H' g r => q u M' H' ((g1.trans (.idle g1.mh hh)).trans g) r
        rw [List.map_id] at hv
        show OpR' (LiR Tx) (forcedL ss h) M' v'
        rw [e]
        exact hv
end
end My

set_option Elab.async false
set_option linter.all false
set_option maxRecDepth 100000
set_option maxHeartbeats 8000000
namespace My
open PySem PySem.Spec PyProof.Rows L2 L3
abbrev NtR : Rl Nat := fun i => It' (i : Nat)
instance : Mon NtR := ⟨fun _ h => h⟩
abbrev LvR (K : PySem.W.Frag) : Rl (List Str × Nat) := PrR K TT NtR
/-- the state between two levels; m levels are still to come -/
structure HvI (ns : List Str) (lv : List (List Str × Nat)) (found : List (List Str)) (m : Nat) : Prop where
  lo : ∀ p ∈ lv, ns.length ≤ p.2 + m
  up : ∀ p ∈ lv, p.2 ≤ ns.length ∧ p.1.length ≤ p.2
  go : halfGo ns m lv found = halves ns
  sz : lv.length * 12 ^ m ≤ 2985984
  fz : 11 * found.length * 12 ^ m ≤ 35831808
theorem mem_stepH {ns : List Str} {p q : List Str × Nat} (h : q ∈ stepH ns p) : ∃ a l, p.2 ≤ a ∧ a < ns.length ∧ (l = ns.getD a "" ∨ l = ("-" : Str) ++ ns.getD a "") ∧ q = (p.1 ++ [l], a + 1) := by
  obtain ⟨a, ha, hq⟩ := List.mem_flatMap.mp h
  obtain ⟨l, hl, rfl⟩ := List.mem_map.mp hq
  have := List.mem_range'_1.mp ha
  exact ⟨a, l, this.1, by omega, by simpa using hl, rfl⟩
theorem flat_le {α β : Type} {f : α → List β} {c : Nat} : ∀ {xs : List α}, (∀ x ∈ xs, (f x).length ≤ c) → (xs.flatMap f).length ≤ c * xs.length
  | [], _ => Nat.zero_le _
  | x :: xs, h => by
    have h1 := h x (List.mem_cons_self ..)
    have h2 := flat_le (xs := xs) fun z hz => h z (List.mem_cons_of_mem _ hz)
    rw [List.flatMap_cons, List.length_append, List.length_cons, Nat.mul_succ]
    omega
theorem stepH_len (ns : List Str) (p : List Str × Nat) : (stepH ns p).length = 2 * (ns.length - p.2) := by
  unfold stepH
  have := flat2_len (List.range' p.2 (ns.length - p.2)) (fun a => (p.1 ++ [ns.getD a ""], a + 1)) (fun a => (p.1 ++ [("-" : Str) ++ ns.getD a ""], a + 1))
  rw [List.length_range'] at this
  exact this
theorem nextH_len {ns : List Str} {lv : List (List Str × Nat)} (n6 : ns.length ≤ 6) : (nextH ns lv).length ≤ 12 * lv.length := flat_le fun p _ => by rw [stepH_len]; omega
theorem HvI.init {ns : List Str} (n6 : ns.length ≤ 6) : HvI ns [([], 0)] [[]] ns.length := by
  have h : 12 ^ ns.length ≤ 12 ^ 6 := Nat.pow_le_pow_right (by decide) n6
  refine ⟨fun p hp => ?_, fun p hp => ?_, rfl, ?_, ?_⟩
  · rw [List.mem_singleton.mp hp]; exact Nat.le_of_eq (Nat.zero_add _).symm
  · rw [List.mem_singleton.mp hp]; exact ⟨Nat.zero_le _, Nat.le_refl _⟩
  · simp only [List.length_singleton]; omega
  · simp only [List.length_singleton]; omega
theorem HvI.step1 {ns : List Str} {lv : List (List Str × Nat)} {found : List (List Str)} {m : Nat} (n6 : ns.length ≤ 6) (h : HvI ns lv found (m + 1)) : HvI ns (nextH ns lv) (found ++ (nextH ns lv).map (·.1)) m := by
  have up : ∀ p ∈ nextH ns lv, p.2 ≤ ns.length ∧ p.1.length ≤ p.2 := fun p hp => by
    obtain ⟨r, hr, hp⟩ := List.mem_flatMap.mp hp
    obtain ⟨a, l, h1, h2, _, rfl⟩ := mem_stepH hp
    have := (h.up r hr).2
    refine ⟨h2, ?_⟩
    show (r.1 ++ [l]).length ≤ a + 1
    rw [List.length_append]
    show r.1.length + 1 ≤ a + 1
    omega
  have l1 := nextH_len (lv := lv) n6
  have s1 := h.sz
  have f1 := h.fz
  rw [Nat.pow_succ] at s1 f1
  have s2 : (nextH ns lv).length * 12 ^ m ≤ 2985984 := by
    refine Nat.le_trans (Nat.mul_le_mul_right _ l1) ?_
    rw [Nat.mul_comm 12, Nat.mul_assoc, Nat.mul_comm 12]
    exact s1
  refine ⟨fun p hp => ?_, up, h.go, s2, ?_⟩
  · obtain ⟨r, hr, hp⟩ := List.mem_flatMap.mp hp
    obtain ⟨a, l, h1, h2, _, rfl⟩ := mem_stepH hp
    have := h.lo r hr
    show ns.length ≤ a + 1 + m
    omega
  · rw [List.length_append, List.length_map, Nat.mul_add, Nat.add_mul]
    have f2 : 11 * found.length * 12 ^ m * 12 ≤ 35831808 := by rw [Nat.mul_assoc]; exact f1
    have f3 : 11 * (nextH ns lv).length * 12 ^ m ≤ 11 * 2985984 := by rw [Nat.mul_assoc]; exact Nat.mul_le_mul_left _ s2
    omega
theorem HvI.step {ns : List Str} {lv : List (List Str × Nat)} {found : List (List Str)} {m : Nat} (n6 : ns.length ≤ 6) (h : HvI ns lv found m) :
    ∃ m', (m' < m ∨ nextH ns lv = []) ∧ HvI ns (nextH ns lv) (found ++ (nextH ns lv).map (·.1)) m' := by
  cases m with
  | zero =>
    have e : nextH ns lv = [] := List.flatMap_eq_nil_iff.mpr fun p hp => by
      have := h.lo p hp
      apply List.eq_nil_of_length_eq_zero
      rw [stepH_len]
      omega
    refine ⟨0, .inr e, ?_⟩
    rw [e]
    refine ⟨fun p hp => (List.not_mem_nil hp).elim, fun p hp => (List.not_mem_nil hp).elim, ?_, by simp, ?_⟩
    · rw [List.map_nil, List.append_nil]; exact h.go
    · rw [List.map_nil, List.append_nil]; exact h.fz
  | succ m => exact ⟨m, .inl (Nat.lt_succ_self m), h.step1 n6⟩
theorem HvI.end_ {ns : List Str} {found : List (List Str)} {m : Nat} (h : HvI ns [] found m) : found = halves ns := by
  have go : ∀ m found, halfGo ns m [] found = found := by
    intro m
    induction m with
    | zero => intro f; rfl
    | succ m ih => intro f; rw [halfGo]; show halfGo ns m [] (f ++ []) = f; rw [List.append_nil, ih]
  rw [← h.go, go]
theorem eqv_nil (ds : List PyData) : PyData.eqv (.list ds) (.list []) = decide (ds = []) := by cases ds <;> simp [PyData.eqv, PyData.eqvAll]
def lvD (p : List Str × Nat) : PyData := .tuple [.tuple (p.1.map .str), .int (p.2 : Nat)]
theorem py_lv {K : PySem.W.Frag} : PyR K (LvR K) lvD := fun p M v ⟨a, u, w, h1, h2, h3, h4⟩ => by
  subst h1
  exact .tup h2 (.cons (py_TT _ _ _ h3) (.cons (by cases (show w = _ from h4); exact .int _) .nil))
theorem depth_lv : ∀ xs : List (List Str × Nat), PyData.depthAll (xs.map lvD) ≤ 2
  | [] => by simp [PyData.depthAll]
  | c :: r => by
    have := depth_lv r
    simp only [List.map_cons, PyData.depthAll, lvD, PyData.depth, depthS]
    omega
theorem s_forG {K : PySem.W.Frag} {σ : Sl} {M : Hp} {α : Type} {R : Rl α} {wi : TI} {g : TG} {tbd : TS} {D : Ends} {U : α → Hp → Sl → Sl → Prop} {xs : List α} {H : Hp} (mh : Same M H) (hsrc : GvI wi σ M xs R) (htg : TgOk g R U) (Pv : Hp → Nat → Sl → Hp → Hp → Prop)
    (h0 : ∀ M1 H1, Gr M H M1 H1 → Pv M1 0 σ M1 H1) (hk : ∀ M1 i σ' M' H', Pv M1 i σ' M' H' → Same M1 M' ∧ Same M' H')
    (hs : ∀ M1 i x σ' M' H' M2 H2 σ2, Same M M1 → xs[i]? = some x → Pv M1 i σ' M' H' → Gr M' H' M2 H2 → U x M2 σ' σ2 →
      tbd { D with nx := fun σ2 H2 => ∃ M2, Pv M1 (i + 1) σ2 M2 H2, ct := fun σ2 H2 => ∃ M2, Pv M1 (i + 1) σ2 M2 H2, bk := D.nx } σ2 H2)
    (hd : ∀ M1 σ' M' H', Same M M1 → Pv M1 xs.length σ' M' H' → D.nx σ' H') : tFor wi g tbd D σ H := q_forG (tz := fun D => D.nx) (D := D) mh hsrc htg Pv h0 hk hs hd
theorem q_ext {K : PySem.W.Frag} {σ : Sl} {M H : Hp} {te : TE} {D : Ends} {tz : TS} {i : Nat} {p : Addr} {vs : List V} {P : Hp → List V → Prop} (mh : Same M H) (hi : σ[i]? = some (some (.ref p))) (hp : H p = some (.lst vs)) (h : GvL te σ M P) (hz : ∀ M' ws, P M' ws → vs.length + ws.length ≤ sizeLine)
    (k : ∀ ws M' H', Gr M H M' H' → P M' ws → tz D σ (upd H' p (.lst (vs ++ ws)))) : tSeq (tDrop (tBM K "list" rExtend (tVar i) (tCons te tNil))) tz D σ H := s_ext (D := { D with nx := tz D }) mh hi hp h hz k
theorem gl_m2 {K : PySem.W.Frag} {σ : Sl} {M : Hp} {te : TE} {wi : TI} {α β γ : Type} {R : Rl α} {S : Rl β} {T : Rl γ} [Mon T] {j k : Nat} {xs : List (α × β)} (hsrc : GvI wi σ M xs (PrR K R S)) (hz : xs.length ≤ sizeLine) (f : α × β → γ)
    (he : ∀ x ∈ xs, ∀ M1 u w, Same M M1 → R x.1 M1 u → S x.2 M1 w → Gv te (((wipe σ [j, k]).set j (some u)).set k (some w)) M1 (T (f x))) : GvL (tLc wi (gTup K 2 (gCons (gName j) (gCons (gName k) gNil))) tYes te [j, k]) σ M fun M ws => Pd T M (xs.map f) ws := by
  have h := gl_comp (S := T) (U := U2 R S j k) (vs := [j, k]) (te := te) (tt := tYes) hsrc tg_2 (fun x M' σ' ⟨u, w, _, _, e⟩ => by subst e; exact wipe2) hz (fun _ => true) f (fun _ _ _ _ _ _ => gt_yes) (fun x hx _ M1 σ' sm ⟨u, w, ru, rw, e⟩ => by subst e; exact he x hx M1 u w sm ru rw)
  rw [List.filter_eq_self.mpr fun _ _ => rfl] at h
  exact h
section
variable {P : Program} {w : World} {K : PySem.W.Frag} {mg : Str → Option Value} {base : Heap}
abbrev s_half_settings : Stmt := topS 22
theorem sc_half_settings : FnScope ["names", "found", "level", "longer", "setting", "start", "at", "literal"] ["names"] (defScope s_half_settings) := ⟨rfl, rfl, rfl, by decide +kernel, rfl, by decide +kernel, by decide +kernel⟩
def sp_half_settings (K : PySem.W.Frag) : Sp := sp1 (SqR K Tx) (fun ns => ns.length ≤ 6 ∧ Shorts ns) fun ns => LiR TT (halves ns)
theorem ok_half_settings {f : Addr} {fd : FuncData} (F : Fun K "half_settings" "half_settings" s_half_settings f fd) (T : Gc mg) : FnOk P w K mg base CX0 1 f fd ["names"] (sp_half_settings K) := by
  refine F.ok sc_half_settings (fun vs H Q E h => ?_) (fun cdv A outer s H vs Q E hr h => ?_)
  · obtain ⟨x, M, v, rfl, _⟩ := h
    rfl
  · obtain ⟨ns, M, v, rfl, mh, r1, ⟨h6, hsh⟩, q⟩ := h
    have hu := hr.units
    refine ⟨_, (pss_cons (ps_par (i := 1) (j := 2) (by rfl) sc_half_settings.nd rfl rfl (by decide) rfl rfl (pa_cons (pe_lst (pa_cons (pe_tup pa_nil) pa_nil)) (pa_cons (pe_lst (pa_cons (pe_tup (pa_cons (pe_tup pa_nil) (pa_cons pe_int pa_nil))) pa_nil)) pa_nil)) (by rfl))
      (pss_cons (ps_while PassesOwn.never (pt_cmpR (op_neP hu) (pv 2) (pe_lst pa_nil) (nomark _)) (pss_cons (ps_set (i := 3) sc_half_settings.nd rfl (by first | exact .inl rfl | exact .inr rfl) (pe_lst pa_nil))
      (pss_cons (ps_for PassesOwn.never (by rfl) (pi_sq (pv 2)) (pg_tup (by rfl) (pgs_cons (pg_name (i := 4) sc_half_settings.nd rfl (by first | exact .inl rfl | exact .inr rfl)) (pgs_cons (pg_name (i := 5) sc_half_settings.nd rfl (by first | exact .inl rfl | exact .inr rfl)) pgs_nil))) (pss_one (ps_for PassesOwn.never (by rfl) (pi_range2 (by rfl) T.range (pa_cons (pv 5) (pa_cons (pe_callB call_lenA (by rfl) T.len boot_len (pa_cons (pv 0) pa_nil)) pa_nil))) (pg_name (i := 6) sc_half_settings.nd rfl (by first | exact .inl rfl | exact .inr rfl)) (pss_one (ps_expr (pe_bm PySem.F.plainAttrs_list PySem.F.slot_list_extend PySem.F.type_list_extend mt_extend (pv 3) (pa_cons (pe_lc (own := [("literal", 7)]) (g := (gName 7)) (tt := tYes) (te := (tTup (tCons (tOp (rAddA K) (tVar 4) (tTup (tCons (tVar 7) tNil))) (tCons (tOp (rAddA K) (tVar 6) (tC (.int 1))) tNil)))) (by rfl) sc_half_settings.nd (pi_sq (pe_tup (pa_cons (pe_ix ix_X (pv 0) (pv 6) (fun _ _ => rfl)) (pa_cons (pe_op op_addA pe_str (pe_ix ix_X (pv 0) (pv 6) (fun _ _ => rfl))) pa_nil)))) (blkOk_by (by rfl)) (fun _ _ _ _ _ => (pg_name (i := 7) sc_half_settings.nd rfl (by first | exact .inl rfl | exact .inr rfl))) (fun _ _ _ _ _ => pts_nil) (fun _ _ _ _ _ => (pe_tup (pa_cons (pe_op op_addA (pv 4) (pe_tup (pa_cons (pv 7) pa_nil))) (pa_cons (pe_op op_addA (pv 6) pe_int) pa_nil))))) pa_nil)))))))
      (pss_cons (ps_expr (pe_bm PySem.F.plainAttrs_list PySem.F.slot_list_extend PySem.F.type_list_extend mt_extend (pv 1) (pa_cons (pe_lc (own := [("setting", 4), ("start", 5)]) (g := (gTup K 2 (gCons (gName 4) (gCons (gName 5) gNil)))) (tt := tYes) (te := (tVar 4)) (by rfl) sc_half_settings.nd (pi_sq (pv 3)) (blkOk_by (by rfl)) (fun _ _ _ _ _ => (pg_tup (by rfl) (pgs_cons (pg_name (i := 4) sc_half_settings.nd rfl (by first | exact .inl rfl | exact .inr rfl)) (pgs_cons (pg_name (i := 5) sc_half_settings.nd rfl (by first | exact .inl rfl | exact .inr rfl)) pgs_nil)))) (fun _ _ _ _ _ => pts_nil) (fun _ _ _ _ _ => (pv 4))) pa_nil)))
      (pss_one (ps_set (i := 2) sc_half_settings.nd rfl (by first | exact .inl rfl | exact .inr rfl) (pv 3)))))))
      (pss_one (ps_ret (pv 1))))), ?_⟩
    refine q_par2 (a_L mh (gl_one (R := TT) (x := []) gv_nilT) fun p1 us0 M1 H1 g1 h01 m01 hw1 hpd1 => a_V (P := LiR (LvR K) [([], 0)]) g1.mh (gl_one (R := LvR K) (x := ([], 0)) (gv_pair (K := K) (R := TT) (T := NtR) gv_nilT (gv_c rfl))).li fun vl M2 H2 g2 pl => ⟨_, _, rfl, ?_⟩)
    have ow2 : Own H M2 H2 p1 us0 := Own.step ⟨h01, m01, hw1⟩ g2
    refine q_while (M := M2) (fun k σ' M' H' => ∃ y3 y4 y5 y6 lv found m u us, k = (if lv = [] then 0 else m + 1) ∧ HvI ns lv found m ∧ Gr M H M' H' ∧ LiR (LvR K) lv M' u ∧ Own H M' H' p1 us ∧ Pd TT M' found us ∧ σ' = [some v, some (.ref p1), some u, y3, y4, y5, y6, none])
      (m0 := ns.length + 1) ⟨none, none, none, none, [([], 0)], [[]], ns.length, vl, us0, rfl, HvI.init h6, g1.trans g2, pl, ow2, hpd1.mono g2.mm, rfl⟩ ?_
    rintro k σ' M' H' ⟨y3, y4, y5, y6, lv, found, m, u, us, ek, hv, g, pl', ow, hpd, rfl⟩
    refine ⟨decide (lv ≠ []), M', g.mh, gt_is (gt_test (gv_eq (K := K) (neg := true) (d := .list (lv.map lvD)) (e := .list []) (gv_var rfl (py_lst py_lv _ _ _ pl'.lst)) (gv_is gv_nilL fun M v h => py_lst (py_lv (K := K)) [] _ _ (LiR.lst (K := K) h)) (by have := depth_lv lv; simp only [PyData.depth]; omega))) (by rw [eqv_nil]; simp), fun hb H3 hh => ?_, fun hb H3 hh => ?_⟩
    · -- a level
      have hne : lv ≠ [] := by simpa using hb
      have g3 : Gr M H M' H3 := g.trans (.idle g.mh hh)
      have ow3 := ow.idle hh
      refine q_asgL g3.mh gl_nil fun p3 vs4 M4 H4 g4 h04 m04 hw4 e4 => ?_
      subst e4
      have G4 := g3.trans g4
      have ow4 := ow3.step g4
      have hpp : p1 ≠ p3 := ne_of_none ow3.h h04
      have n30 : H p3 = none := g3.hh.free h04
      -- for setting, start in level
      refine q_forG (R := LvR K) (xs := lv) g4.mh (gi_sq (K := K) (gv_var rfl (Mon.mono g4.mm pl').sq)) tg_2
        (fun M1' i σ' M' H' => ∃ y4 y5 y6 ws, Gr M H M' H' ∧ Same M4 M' ∧ Same M1' M' ∧ Own H M' H' p3 ws ∧ Own H M' H' p1 us ∧ Pd (LvR K) M' ((lv.take i).flatMap (stepH ns)) ws ∧ σ' = [some v, some (.ref p1), some u, some (.ref p3), y4, y5, y6, none])
        (fun M5 H5 g5 => ⟨_, _, _, [], G4.trans g5, g5.mm, Same.refl _, Own.step ⟨n30, m04, hw4⟩ g5, ow4.step g5, .nil, rfl⟩) (fun M5 i σ' M' H' ⟨_, _, _, _, g, _, s1, _⟩ => ⟨s1, g.mh⟩) ?_ ?_
      · rintro M5 i p σ' M' H' M6 H6 σ2 sM hx ⟨y4, y5, y6, ws, g5, s4, s5, o3, o1, hp5, rfl⟩ g6 ⟨v4, v5, r4, r5, rfl⟩
        have hpm := List.mem_of_getElem? hx
        have hil : i < lv.length := (List.getElem?_eq_some_iff.mp hx).1
        have upp := hv.up p hpm
        cases (show v5 = _ from r5)
        have G6 := g5.trans g6
        refine s_forG (K := K) (R := NtR) (xs := List.range' p.2 (ns.length - p.2)) G6.mh (gi_rng2 (i := p.2) (j := ns.length) (gv_var rfl rfl) (gv_lenA (K := K) (R := Tx) (gv_var rfl (Mon.mono G6.mm r1))) ⟨by omega, by omega⟩) tg_1
          (fun M1' j σ' M' H' => ∃ y6 ws', Gr M H M' H' ∧ Same M6 M' ∧ Same M1' M' ∧ Own H M' H' p3 ws' ∧ Own H M' H' p1 us ∧ Pd (LvR K) M' ((lv.take i).flatMap (stepH ns) ++ ((List.range' p.2 (ns.length - p.2)).take j).flatMap fun a => [ns.getD a "", ("-" : Str) ++ ns.getD a ""].map fun l => (p.1 ++ [l], a + 1)) ws' ∧ σ' = [some v, some (.ref p1), some u, some (.ref p3), some v4, some (.int (p.2 : Nat)), y6, none])
          (fun M7 H7 g7 => ⟨_, ws, G6.trans g7, g7.mm, Same.refl _, (o3.step g6).step g7, (o1.step g6).step g7, by simpa using hp5.mono (g6.mm.trans g7.mm), rfl⟩) (fun M7 j σ' M' H' ⟨_, _, g, _, s1, _⟩ => ⟨s1, g.mh⟩) ?_ ?_
        · rintro M7 j a σ' M' H' M8 H8 σ2 sM7 hxa ⟨y6, ws', g7, s6, s7, o3', o1', hp7, rfl⟩ g8 ⟨v6, r6, rfl⟩
          cases (show v6 = _ from r6)
          have ha := List.mem_range'_1.mp (List.mem_of_getElem? hxa)
          have hja : j < (List.range' p.2 (ns.length - p.2)).length := (List.getElem?_eq_some_iff.mp hxa).1
          rw [List.length_range'] at hja
          have han : a < ns.length := by omega
          have G8 := g7.trans g8
          have hn : ns[a]? = some (ns.getD a "") := by rw [List.getD_eq_getElem?_getD, List.getElem?_eq_getElem han]; rfl
          have hnl : (ns.getD a "").length ≤ 900 := hsh.2 _ (List.mem_of_getElem? hn)
          have r18 : SqR K Tx ns M8 v := Mon.mono G8.mm r1
          have hm1 : 12 * lv.length ≤ 2985984 := by
            have l1 := hv.lo p hpm
            have s1 := hv.sz
            cases m with
            | zero => omega
            | succ m =>
              rw [Nat.pow_succ] at s1
              have : 1 ≤ 12 ^ m := Nat.one_le_pow _ _ (by decide)
              have : lv.length * (1 * 12) ≤ lv.length * (12 ^ m * 12) := Nat.mul_le_mul_left _ (Nat.mul_le_mul_right _ this)
              omega
          have lenw : ws'.length ≤ 12 * lv.length + 12 := by
            rw [← hp7.length, List.length_append]
            have l1 : ((lv.take i).flatMap (stepH ns)).length ≤ 12 * (lv.take i).length := nextH_len h6
            have l2 := flat2_len ((List.range' p.2 (ns.length - p.2)).take j) (fun a => (p.1 ++ [ns.getD a ""], a + 1)) (fun a => (p.1 ++ [("-" : Str) ++ ns.getD a ""], a + 1))
            rw [List.length_take] at l1
            rw [List.length_take, List.length_range'] at l2
            have l3 : (((List.range' p.2 (ns.length - p.2)).take j).flatMap fun a => [ns.getD a "", ("-" : Str) ++ ns.getD a ""].map fun l => (p.1 ++ [l], a + 1)).length ≤ 12 := by
              refine Nat.le_trans (Nat.le_of_eq l2) ?_
              omega
            omega
          have gix : Gv (tOp (rIxX K) (tVar 0) (tVar 6)) [some v, some (.ref p1), some u, some (.ref p3), some v4, some (.int (p.2 : Nat)), some (.int (a : Nat)), none] M8 (Tx (ns.getD a "")) := gv_ix (K := K) (R := Tx) (xs := ns) (gv_var rfl r18) (gv_var rfl rfl) (atI_nat hn)
          refine s_ext (K := K) (P := fun M ws => Pd (LvR K) M ([ns.getD a "", ("-" : Str) ++ ns.getD a ""].map fun l => (p.1 ++ [l], a + 1)) ws) G8.mh rfl (g8.hh _ _ o3'.h) (gl_m1 (S := LvR K) (R := Tx) (xs := [ns.getD a "", ("-" : Str) ++ ns.getD a ""]) (gi_sq (K := K) (gv_is (gv_tup2 (K := K) gix (gv_addSt (K := K) (gv_c rfl) gix (szM (by show 1 + (ns.getD a "").length ≤ _; omega)))) fun _ _ h => .inr h)) (by show 2 ≤ sizeLine; decide) (fun l => (p.1 ++ [l], a + 1))
            fun l _ M9 u9 sm9 ru9 => gv_pair (K := K) (R := TT) (T := NtR) (gv_addTT (K := K) (gv_var rfl (Mon.mono ((s6.trans g8.mm).trans sm9) r4)) (gv_tup1 (gv_var rfl ru9)) (szM (by simp only [List.length_cons, List.length_nil]; omega))) (gv_is (gv_addIn (K := K) (gv_var rfl rfl) (gv_c rfl)) fun M v h => by rw [show v = _ from h]; rfl)) (fun M' ws h => ?_) fun ws9 M9 H9 g9 h9 => ?_
          · have := h.length
            simp only [List.length_map, List.length_cons, List.length_nil] at this
            exact szM (by omega)
          · have o39 := (o3'.step g8).step g9
            have o19 := (o1'.step g8).step g9
            refine ⟨M9, _, ws' ++ ws9, (G8.trans g9).mut o39.h0 o39.m, s6.trans (g8.mm.trans g9.mm), s7.trans (g8.mm.trans g9.mm), o39.put, o19.off hpp, ?_, rfl⟩
            rw [take_flat _ hxa, ← List.append_assoc]
            exact pd_app (hp7.mono (g8.mm.trans g9.mm)) h9
        · rintro M7 σ' M' H' sM7 ⟨y6, ws', g7, s6, s7, o3', o1', hp7, rfl⟩
          refine ⟨M', _, _, _, ws', g7, s4.trans (g6.mm.trans s6), s5.trans (g6.mm.trans s6), o3', o1', ?_, rfl⟩
          rw [take_flat _ hx]
          rw [List.take_length] at hp7
          exact hp7
      · -- found.extend, level = longer
        rintro M5 σ' M' H' sM ⟨y4, y5, y6, ws, g5, s4, s5, o3, o1, hp5, rfl⟩
        rw [List.take_length] at hp5
        obtain ⟨m', hm', hv'⟩ := hv.step h6
        have G5 := g5.freeze o3.h0 o3.m o3.h
        have r3 : LiR (LvR K) (nextH ns lv) (upd M' p3 (.lst ws)) (.ref p3) := ⟨p3, ws, rfl, upd_same, hp5.mono o3.up⟩
        have m15 : upd M' p3 (.lst ws) p1 = none := by rw [upd_ne hpp]; exact o1.m
        have nl : (nextH ns lv).length ≤ 2985984 := by
          have := hv'.sz
          have h1 : 1 ≤ 12 ^ m' := Nat.one_le_pow _ _ (by decide)
          have : (nextH ns lv).length * 1 ≤ (nextH ns lv).length * 12 ^ m' := Nat.mul_le_mul_left _ h1
          omega
        have fl : found.length ≤ 3257437 := by
          have := hv.fz
          have h1 : 1 ≤ 12 ^ m := Nat.one_le_pow _ _ (by decide)
          have : 11 * found.length * 1 ≤ 11 * found.length * 12 ^ m := Nat.mul_le_mul_left _ h1
          omega
        have ul : us.length = found.length := hpd.length.symm
        refine q_ext (K := K) (P := fun M ws => Pd TT M ((nextH ns lv).map fun x : List Str × Nat => x.1) ws) G5.mh rfl o1.h (gl_m2 (K := K) (R := TT) (S := NtR) (T := TT) (j := 4) (k := 5) (σ := [some v, some (.ref p1), some u, some (.ref p3), y4, y5, y6, none]) (te := tVar 4) (wi := iSq K (tVar 3)) (xs := nextH ns lv) (gi_sq (K := K) (gv_var rfl r3.sq)) (szM (by omega)) (fun x : List Str × Nat => x.1) fun p _ M1 u' w' sm ru rw => gv_var rfl ru) (fun M' ws h => ?_) fun ws6 M6 H6 g6 h6' => ?_
        · have := h.length
          rw [List.length_map] at this
          exact szM (by omega)
        · have G6 := G5.trans g6
          have m16 := g6.keep m15 o1.h
          have o16 : Own H M6 H6 p1 us := ⟨o1.h0, m16, g6.hh _ _ o1.h⟩
          refine s_asg (P := LiR (LvR K) (nextH ns lv)) (G6.mut o16.h0 o16.m).mh (gv_var rfl (Mon.mono g6.mm r3)) fun u7 M7 H7 g7 p7 => ?_
          refine ⟨_, M7, ?_, _, _, _, _, nextH ns lv, found ++ (nextH ns lv).map (·.1), m', u7, us ++ ws6, rfl, hv', (G6.mut o16.h0 o16.m).trans g7, p7, (o16.put).step g7, ?_, rfl⟩
          · rw [ek, if_neg hne]
            split
            · omega
            · rename_i hn
              rcases hm' with h | h
              · omega
              · exact absurd h hn
          · exact pd_app ((hpd.mono (g4.mm.trans (s4.trans (o3.up.trans (g6.mm.trans g7.mm))))) : Pd TT M7 found us) (h6'.mono g7.mm)
    · -- the end
      have he : lv = [] := by simpa using hb
      subst he
      have g3 : Gr M H M' H3 := g.trans (.idle g.mh hh)
      have ow3 := ow.idle hh
      have G := g3.freeze ow3.h0 ow3.m ow3.h
      refine ⟨.ref p1, rfl, q _ _ _ G ⟨p1, us, rfl, upd_same, ?_⟩⟩
      rw [← hv.end_]
      exact hpd.mono ow3.up
end
end My

set_option Elab.async false
set_option linter.all false
set_option maxRecDepth 100000
set_option maxHeartbeats 8000000
namespace My
open PySem PySem.Spec PyProof.Rows L2 L3
/-- a rule: names, allowed settings -/
structure RuleD where
  names : List Str
  allowed : List (List Str)
def RuleD.settings (r : RuleD) : List (List Str) := (fulls r.names).filter fun s => decide (s ∈ r.allowed)
def mkRule (ns : List Str) (ss : List (List Str)) : RuleD := ⟨ns, once (ss.map fun s => asc s ns)⟩
def ruleF (vn va : V) : List (Str × V) := putF "allowed" va (putF "names" vn [])
def RuleR (C : Addr) : Rl RuleD := fun r M v => ∃ a dx vn va, v = .ref a ∧ M a = some (.ins C dx (ruleF vn va)) ∧ TT r.names M vn ∧ DtR r.allowed M va
instance {C : Addr} : Mon (RuleR C) := ⟨fun e ⟨a, dx, vn, va, h1, h2, h3, h4⟩ => ⟨a, dx, vn, va, h1, e _ _ h2, Mon.mono e h3, Mon.mono e h4⟩⟩
structure RuleT (K : PySem.W.Frag) (mg : Str → Option Value) (C : Addr) : Prop where
  cl : Cls K C
  nN : NoAttr K C "names"
  nA : NoAttr K C "allowed"
theorem ruleF_names (vn va : V) : (ruleF vn va).lookup ("names" : Str) = some vn := by
  unfold ruleF
  rw [lookup_putF, if_neg (by decide +kernel), lookup_putF, if_pos rfl]
theorem ruleF_allowed (vn va : V) : (ruleF vn va).lookup ("allowed" : Str) = some va := by
  unfold ruleF
  rw [lookup_putF, if_pos rfl]
theorem ruleF_no {m : Str} (vn va : V) (h1 : ¬ m = ("allowed" : Str)) (h2 : ¬ m = ("names" : Str)) : (ruleF vn va).lookup m = none := by
  unfold ruleF
  rw [lookup_putF, if_neg h1, lookup_putF, if_neg h2]
  rfl
theorem insR_rule {C : Addr} {m : Str} {r : RuleD} (h1 : ¬ m = ("allowed" : Str)) (h2 : ¬ m = ("names" : Str)) : InsR C m (RuleR C r) := fun M v ⟨a, dx, vn, va, e, h, _, _⟩ => ⟨a, dx, _, e, h, ruleF_no vn va h1 h2⟩
section
variable {K : PySem.W.Frag} {mg : Str → Option Value} {σ : Sl} {M : Hp} {te : TE} {C : Addr} {r : RuleD}
theorem gv_rnames (T : RuleT K mg C) (h : Gv te σ M (RuleR C r)) : Gv (tFld K te "names") σ M (TT r.names) := gv_fld h fun M' v ⟨a, dx, vn, va, h1, h2, h3, h4⟩ => ⟨a, C, dx, _, vn, h1, h2, T.cl, T.nN, ruleF_names .., h3⟩
theorem gv_rallowed (T : RuleT K mg C) (h : Gv te σ M (RuleR C r)) : Gv (tFld K te "allowed") σ M (DtR r.allowed) := gv_fld h fun M' v ⟨a, dx, vn, va, h1, h2, h3, h4⟩ => ⟨a, C, dx, _, va, h1, h2, T.cl, T.nA, ruleF_allowed .., h4⟩
/-- self.f = e where e gives a dict that is known -/
theorem s_fldD {H : Hp} {D : Ends} {i : Nat} {x dx : Addr} {fs : List (Str × V)} {f : Str} {ks : List (List Str)} (mh : Same M H) (hm : M x = none) (hx : H x = some (.ins C dx fs)) (hi : σ[i]? = some (some (.ref x))) (cl : Cls K C) (na : NoAttr K C f) (hl : fs.length < 1000)
    (h : Gv te σ (upd M x (.ins C dx fs)) (DtR ks)) (k : ∀ v M' H', Gr M H M' H' → M' x = none → DtR ks M' v → D.nx σ (upd H' x (.ins C dx (putF f v fs)))) : sFld K (tVar i) te f D σ H :=
  h H (same_lent mh hx) _ fun v M' H' g ⟨d, e, hd⟩ => ⟨.ref x, hi, x, C, dx, fs, rfl, g.hh _ _ hx, cl, na, hl, k v _ H' (g.back hm) del_at ⟨d, e, by
    have n : d ≠ x := fun z => by subst z; rw [g.mm d _ upd_same] at hd; cases hd
    rw [L3.del_ne n]; exact hd⟩⟩
end
theorem halves_len {ns : List Str} (n6 : ns.length ≤ 6) : (halves ns).length ≤ 3257437 := by
  have fin : ∀ {lv : List (List Str × Nat)} {found : List (List Str)} {m : Nat}, HvI ns lv found m → found.length ≤ 3257437 := fun {lv found m} h => by
    have := h.fz
    have h1 : 1 ≤ 12 ^ m := Nat.one_le_pow _ _ (by decide)
    have : 11 * found.length * 1 ≤ 11 * found.length * 12 ^ m := Nat.mul_le_mul_left _ h1
    omega
  have go : ∀ (m : Nat) (lv : List (List Str × Nat)) (found : List (List Str)), HvI ns lv found m → (halves ns).length ≤ 3257437 := by
    intro m
    induction m using Nat.strongRecOn with
    | ind m ih =>
      intro lv found h
      obtain ⟨m', h1, h2⟩ := h.step n6
      rcases h1 with h1 | h1
      · exact ih m' h1 _ _ h2
      · rw [h1] at h2
        rw [← h2.end_]
        exact fin h2
  exact go _ _ _ (HvI.init n6)
theorem meets_once (c s : List Str) : meets c (once s) = meets c s := by
  unfold meets
  congr 1
  funext l
  simp [mem_once]
theorem isCons_once (c : List Str) (ss : List (List Str)) : isCons c (ss.map once) = isCons c ss := by
  unfold isCons
  rw [List.all_map]
  congr 1
  funext s
  exact meets_once c s
section
variable {P : Program} {w : World} {K : PySem.W.Frag} {mg : Str → Option Value} {base : Heap}
abbrev s_checked_settings : Stmt := topS 26
theorem sc_checked_settings : FnScope ["settings", "names", "found", "index", "thing"] ["settings", "names"] (defScope s_checked_settings) := ⟨rfl, rfl, rfl, by decide +kernel, rfl, by decide +kernel, by decide +kernel⟩
def sp_checked_settings (K : PySem.W.Frag) : Sp := sl2 (SqR K (SqR K Tx)) (SqR K Tx) (fun cs ns => Shorts ns ∧ cs.length ≤ 1000000 ∧ ∀ c ∈ cs, ClOk ns c ∧ c.length = ns.length) fun cs ns M ws => Pd TT M (cs.map fun c => asc c ns) ws
theorem ok_checked_settings {f : Addr} {fd : FuncData} (F : Fun K "checked_settings" "checked_settings" s_checked_settings f fd) (T : Gc mg) (c_first_wrong : Cal P w K mg base 3 "first_wrong" ["things", "names"] (sp_first_wrong K)) (c_ascending : Cal P w K mg base 1 "ascending" ["literals", "names"] (sp_ascending K)) :
    FnOk P w K mg base CX0 4 f fd ["settings", "names"] (sp_checked_settings K) := by
  refine F.ok sc_checked_settings (fun vs H Q E h => ?_) (fun cdv A outer s H vs Q E hr h => ?_)
  · obtain ⟨x, y, M, v, w, rfl, _⟩ := h
    rfl
  · obtain ⟨cs, ns, M, v, w, rfl, mh, r1, r2, ⟨hsh, hcl, hok⟩, q⟩ := h
    have hu := hr.units
    refine ⟨_, (pss_cons (ps_set (i := 2) sc_checked_settings.nd rfl (by first | exact .inl rfl | exact .inr rfl) (pe_lst pa_nil))
      (pss_cons (ps_for PassesOwn.never (by rfl) (pi_en (by rfl) T.enumerate (pa_cons (pv 0) pa_nil)) (pg_tup (by rfl) (pgs_cons (pg_name (i := 3) sc_checked_settings.nd rfl (by first | exact .inl rfl | exact .inr rfl)) (pgs_cons (pg_name (i := 4) sc_checked_settings.nd rfl (by first | exact .inl rfl | exact .inr rfl)) pgs_nil))) (pss_cons (ps_if (PW.pt (pw_or (pt_cmp (pc_notN (pe_f c_first_wrong (hr.mono (by decide)) (pa_cons (pv 4) (pa_cons (pv 1) pa_nil))))) (pw_or1 (pt_cmpR (op_neP hu) (pe_callB call_lenA (by rfl) T.len boot_len (pa_cons (pv 4) pa_nil)) (pe_callB call_lenA (by rfl) T.len boot_len (pa_cons (pv 1) pa_nil)) (nomark _))))) (pss_one ps_never) pss_nil)
      (pss_one (ps_expr (pe_bm PySem.F.plainAttrs_list PySem.F.slot_list_append PySem.F.type_list_append mt_append (pv 2) (pa_cons (pe_f c_ascending (hr.mono (by decide)) (pa_cons (pv 4) (pa_cons (pv 1) pa_nil))) pa_nil))))))
      (pss_one (ps_ret (pv 2))))), ?_⟩
    refine q_asgL mh gl_nil fun p vs M2 H2 g2 h0 m0 hp2 hv => ?_
    subst hv
    refine q_forE (R1 := SqR K Tx) (xs := cs) g2.mh (gv_var rfl (Mon.mono g2.mm r1))
      (fun M1' i σ' M' H' => ∃ y3 y4 ws, Gr M H M' H' ∧ Same M1' M' ∧ Own H M' H' p ws ∧ Pd TT M' ((cs.take i).map fun c => asc c ns) ws ∧ σ' = [some v, some w, some (.ref p), y3, y4])
      (fun M3 H3 g3 => ⟨none, none, [], g2.trans g3, Same.refl _, Own.step ⟨h0, m0, hp2⟩ g3, .nil, rfl⟩) (fun M3 i σ' M' H' ⟨_, _, _, g, s1, _⟩ => ⟨s1, g.mh⟩) ?_ ?_
    · rintro M3 i c v' σ' M' H' H'' sM hx ⟨y3, y4, ws, g, s1, ow, hpd, rfl⟩ gE rx
      have hxm := List.mem_of_getElem? hx
      have hil : i < cs.length := (List.getElem?_eq_some_iff.mp hx).1
      obtain ⟨d, hd, hshd, hfw⟩ := cl_d rx (hok c hxm).1
      have g' := g.trans gE
      have ow' := ow.step gE
      have r2' : SqR K Tx ns M' w := Mon.mono g.mm r2
      refine q_if0 (b := false) g'.mh (gt_is (gt_or (b := false) (c := false) (gt_B (gv_is (gv_notN (b := true) (gv_call2 (R1 := Dd K) (R2 := SqR K Tx) (gv_var rfl hd) (gv_var rfl r2') hshd) fun M4 v4 h4 => ?_) fun _ _ h => h)) fun _ => gt_is (gt_test (gv_eqT (K := K) (neg := true) py_int inj_int (gv_lenA (K := K) (R := Tx) (gv_var rfl rx)) (gv_lenA (K := K) (R := Tx) (gv_var rfl r2')) (by simp [PyData.depth]))) (by rw [(hok c hxm).2]; simp)) rfl) (fun hb => nomatch hb) (fun _ H4 hh4 => ?_)
      · have h4' : v4 = match firstWrong ns d with | none => V.non | some i => V.int (i : Nat) := h4
        rw [hfw] at h4'
        rw [h4']
        rfl
      · have g4 := g'.trans (.idle g'.mh hh4)
        have ow4 := ow'.idle hh4
        have hwl : ws.length = i := by rw [← hpd.length, List.length_map, List.length_take]; omega
        refine s_app (P := TT (asc c ns)) g4.mh rfl ow4.h (szL (by omega)) (gv_call2 (R1 := CtR K) (R2 := SqR K Tx) (gv_var rfl (.inl rx)) (gv_var rfl r2') hsh) fun v5 M5 H5 g5 r5 => ?_
        have ow5 := ow4.step g5
        refine ⟨M5, _, _, ws ++ [v5], (g4.trans g5).mut ow5.h0 ow5.m, s1.trans g5.mm, ow5.put, ?_, rfl⟩
        rw [List.take_add_one, hx, List.map_append]
        exact pd_app (hpd.mono g5.mm) (.cons r5 .nil)
    · rintro M3 σ' M' H' sM ⟨y3, y4, ws, g, s1, ow, hpd, rfl⟩
      rw [List.take_length] at hpd
      exact ⟨.ref p, rfl, q p ws M' H' g ow.h0 ow.m ow.h hpd⟩
abbrev s_Rule_init : Stmt := inClass (topS 25) 0
theorem sc_Rule_init : FnScope ["self", "signs", "settings", "setting"] ["self", "signs", "settings"] (defScope s_Rule_init) := ⟨rfl, rfl, rfl, by decide +kernel, rfl, by decide +kernel, by decide +kernel⟩
structure RuleOk (ns : List Str) (ss : List (List Str)) : Prop where
  s : NamesOk ns []
  k : ns.length ≤ 6
  n : ss.length ≤ 1000000
  c : ∀ c ∈ ss, ClOk ns c ∧ c.length = ns.length
def sp_Rule_init (K : PySem.W.Frag) (C : Addr) : Sp := fun vs H Q _ => ∃ ns ss M Hb x dx v1 v2, vs = [.ref x, v1, v2] ∧ Gr M Hb M H ∧ Hb x = none ∧ M x = none ∧ H x = some (.ins C dx []) ∧
  SqR K Tx ns M v1 ∧ SqR K (SqR K Tx) ss M v2 ∧ RuleOk ns ss ∧ ∀ M' H', Gr M Hb M' H' → RuleR C (mkRule ns ss) M' (.ref x) → Q .non H'
theorem ok_Rule_init {f C : Addr} {fd : FuncData} (F : Fun K "__init__" "Rule.__init__" s_Rule_init f fd) (T : Ge mg) (TC : RuleT K mg C) (c_checked_names : Cal P w K mg base 2 "checked_names" ["things", "known"] (sp_checked_names K)) (c_checked_settings : Cal P w K mg base 4 "checked_settings" ["settings", "names"] (sp_checked_settings K)) :
    FnOk P w K mg base CX0 5 f fd ["self", "signs", "settings"] (sp_Rule_init K C) := by
  refine F.ok sc_Rule_init (fun vs H Q E h => ?_) (fun cdv A outer s H vs Q E hr h => ?_)
  · obtain ⟨_, _, _, _, _, _, _, _, rfl, _⟩ := h
    rfl
  · obtain ⟨ns, ss, M, Hb, x, dx, v1, v2, rfl, g0, hb, hm, hx, r1, r2, ok, q⟩ := h
    have hu := hr.units
    obtain ⟨tk, hL⟩ := T.g_MOST_SIGNS
    refine ⟨_, (pss_cons (ps_fld (pv 0) (pe_f c_checked_names (hr.mono (by decide)) (pa_cons (pv 1) (pa_cons (pe_tup pa_nil) pa_nil))) rfl)
      (pss_cons (ps_if (pt_cmpR op_gt (pe_callB call_lenA (by rfl) T.len boot_len (pa_cons (pe_fld (pv 0) rfl) pa_nil)) (pe_glob (v := .int 6) (by rfl) hL ⟨_, rfl⟩) (nomark _)) (pss_one ps_never) pss_nil)
      (pss_one (ps_fld (pv 0) (pe_dcT (own := [("setting", 3)]) (g := (gName 3)) (tt := tYes) (tk := (tVar 3)) (tv := (tC (.bl true))) hu (by rfl) sc_Rule_init.nd (pi_sq (pe_f c_checked_settings (hr.mono (by decide)) (pa_cons (pv 2) (pa_cons (pe_fld (pv 0) rfl) pa_nil)))) (blkOk_by (by rfl)) (fun _ _ _ _ _ => (pg_name (i := 3) sc_Rule_init.nd rfl (by first | exact .inl rfl | exact .inr rfl))) (fun _ _ _ _ _ => pts_nil) (fun _ _ _ _ _ => (pv 3)) (fun _ _ _ _ _ => pe_bl)) rfl)))), ?_⟩
    refine q_fld (P := TT ns) g0.mh hm hx rfl TC.cl TC.nN (by decide) (gv_call2 (R1 := SqR K Tx) (R2 := SqR K Tx) (x := ns) (y := []) (gv_var rfl (Mon.mono (same_new hm) r1)) (gv_is gv_nilT fun _ _ h => h.sq) ok.s) fun vn M1 H1 g1 m1 rn => ?_
    have G1 := (g0.trans g1).mut (o := .ins C dx (putF "names" vn [])) hb m1
    have z1 : (putF "names" vn []).length ≤ 1 := putF_len (Nat.le_refl 0)
    have e1 := same_new (o := .ins C dx (putF "names" vn [])) m1
    have self1 : ∀ {M' : Hp}, Same (upd M1 x (.ins C dx (putF "names" vn []))) M' → Gv (tFld K (tVar 0) "names") (start ["self", "signs", "settings", "setting"] [.ref x, v1, v2]) M' (TT ns) := fun sm => gv_self (P := TT ns) rfl (sm _ _ upd_same) TC.cl TC.nN (by rw [lookup_putF, if_pos rfl]) (Mon.mono (e1.trans sm) rn)
    refine q_if0 (b := false) (same_lent G1.mh upd_same) (gt_is (gt_test (gv_gt (g := fun i j => .bl (decide (j < i))) (i := (ns.length : Int)) (j := 6) (gv_lenA (K := K) (R := Tx) (gv_is (self1 (Same.refl _)) fun _ _ h => h.sq)) (gv_c rfl))) (by have := ok.k; simp; omega)) (fun h => nomatch h) fun _ H2 hh2 => ?_
    have G2 := G1.trans (.idle G1.mh hh2)
    have hx2 := hh2 _ _ (upd_same (H := H1) (a := x) (o := .ins C dx (putF "names" vn [])))
    have hshort : Shorts ns := ⟨Nat.le_trans ok.k (by decide), fun n hn => Nat.le_trans (isNm_len (ok.s.2.1 n hn).1) (by decide)⟩
    refine s_fldD (ks := once (ss.map fun c => asc c ns)) G2.mh m1 hx2 rfl TC.cl TC.nA (lt1000 z1) (gv_dcTd (by show 3 < 4; decide) (gi_sq (K := K) (gv_is (gl_call2 (R1 := SqR K (SqR K Tx)) (R2 := SqR K Tx) (x := ss) (y := ns)
      (gv_var rfl (Mon.mono (g1.mm.trans e1) r2)) (gv_is (self1 (Same.refl _)) fun _ _ h => h.sq) ⟨hshort, ok.n, ok.c⟩).li fun _ _ h => h.sq)) (by rw [List.length_map]; exact szK ok.n)) fun va M3 H3 g3 m3 ra => ?_
    have G3 := ((G2.trans g3).mut (o := .ins C dx (ruleF vn va)) hb m3).freeze hb m3 upd_same
    have e3 := same_new (o := .ins C dx (ruleF vn va)) m3
    exact q _ _ G3 ⟨x, dx, vn, va, rfl, upd_same, Mon.mono (g3.mm.trans e3) rn, Mon.mono e3 ra⟩
structure RuleW (r : RuleD) : Prop where
  k : r.names.length ≤ 6
  s : Shorts r.names
abbrev s_Rule_settings : Stmt := inClass (topS 25) 2
theorem sc_Rule_settings : FnScope ["self", "setting"] ["self"] (defScope s_Rule_settings) := ⟨rfl, rfl, rfl, by decide +kernel, rfl, by decide +kernel, by decide +kernel⟩
def sp_Rule_settings (K : PySem.W.Frag) (C : Addr) : Sp := sp1 (RuleR C) RuleW fun r => LiR TT r.settings
theorem ok_Rule_settings {f C : Addr} {fd : FuncData} (F : Fun K "settings" "Rule.settings" s_Rule_settings f fd) (T : Ge mg) (TC : RuleT K mg C) (c_full_settings : Cal P w K mg base 1 "full_settings" ["names"] (sp_full_settings K)) : FnOk P w K mg base CX0 2 f fd ["self"] (sp_Rule_settings K C) := by
  refine F.ok sc_Rule_settings (fun vs H Q E h => ?_) (fun cdv A outer s H vs Q E hr h => ?_)
  · obtain ⟨x, M, v, rfl, _⟩ := h
    rfl
  · obtain ⟨r, M, v, rfl, mh, r1, hw, q⟩ := h
    have hu := hr.units
    refine ⟨_, (pss_one (ps_ret (pe_lc (own := [("setting", 1)]) (g := (gName 1)) (tt := (tTest (tOp (rInA K false) (tVar 1) (tFld K (tVar 0) "allowed")))) (te := (tVar 1)) (by rfl) sc_Rule_settings.nd (pi_sq (pe_f c_full_settings (hr.mono (by decide)) (pa_cons (pe_fld (pv 0) rfl) pa_nil))) (blkOk_by (by rfl)) (fun _ _ _ _ _ => (pg_name (i := 1) sc_Rule_settings.nd rfl (by first | exact .inl rfl | exact .inr rfl))) (fun _ _ _ _ _ => (pts_one (pt_cmpR (op_inA hu) (pv 1) (pe_fld (pv 0) rfl) (by rfl)))) (fun _ _ _ _ _ => (pv 1))))), ?_⟩
    refine s_ret mh (gv_is (gl_c1 (S := TT) (R := TT) (xs := fulls r.names) (gi_sq (K := K) (gv_is (gv_call1 (R1 := SqR K Tx) (pre := fun ns => ns.length ≤ 6 ∧ Shorts ns) (R := fun ns => LiR TT (fulls ns)) (gv_is (gv_rnames TC (gv_var rfl r1)) fun _ _ h => h.sq) ⟨hw.k, hw.s⟩) fun _ _ h => h.sq)) ?_ (fun s => decide (s ∈ r.allowed)) id
      (fun s _ M1 u sm ru => gt_is (gt_test (gv_inDt (K := K) (gv_var rfl ru) (gv_rallowed TC (gv_var rfl (Mon.mono sm r1))))) (by simp)) fun s _ _ M1 u sm ru => gv_var rfl ru).li fun M' v' h => by rw [List.map_id] at h; exact h) q
    rw [fulls_len]
    exact szM (Nat.le_trans (Nat.pow_le_pow_right (by decide) hw.k) (by decide))
theorem settings_len {r : RuleD} (h : RuleW r) : r.settings.length ≤ 64 := by
  refine Nat.le_trans (List.length_filter_le _ _) ?_
  rw [fulls_len]
  exact Nat.le_trans (Nat.pow_le_pow_right (by decide) h.k) (by decide)
theorem settings_each {r : RuleD} (h : RuleW r) : ∀ s ∈ r.settings, s.length ≤ 6 := fun s hs => by rw [fulls_each _ s (List.mem_filter.mp hs).1]; exact h.k
abbrev s_Rule_shortest : Stmt := inClass (topS 25) 18
theorem sc_Rule_shortest : FnScope ["self", "clause", "found", "settings", "setting", "literal", "one"] ["self"] (defScope s_Rule_shortest) := ⟨rfl, rfl, rfl, by decide +kernel, rfl, by decide +kernel, by decide +kernel⟩
def sp_Rule_shortest (K : PySem.W.Frag) (C : Addr) : Sp := sl1 (RuleR C) RuleW fun r M ws => Pd TT M (shortestL r.names r.settings) ws
theorem shortP_len (ss found : List (List Str)) (c : List Str) : (shortP ss found c).length ≤ found.length + 1 := by
  unfold shortP
  split
  · simp
  · omega
theorem short_take {ss : List (List Str)} {xs : List (List Str)} {i : Nat} {c : List Str} (h : xs[i]? = some c) : (xs.take (i + 1)).foldl (shortP ss) [] = shortP ss ((xs.take i).foldl (shortP ss) []) c := by
  rw [List.take_add_one, h, List.foldl_append]
  rfl
theorem short_len (ss xs : List (List Str)) : (xs.foldl (shortP ss) []).length ≤ xs.length := by
  have go : ∀ (xs acc : List (List Str)), (xs.foldl (shortP ss) acc).length ≤ acc.length + xs.length := by
    intro xs
    induction xs with
    | nil => intro acc; exact Nat.le_refl _
    | cons x xs ih =>
      intro acc
      have h1 := ih (shortP ss acc x)
      have h2 := shortP_len ss acc x
      rw [List.foldl_cons, List.length_cons]
      omega
  simpa using go xs []
theorem short_sub (ss xs : List (List Str)) : ∀ c ∈ xs.foldl (shortP ss) [], c ∈ xs := by
  have go : ∀ (xs acc : List (List Str)), ∀ c ∈ xs.foldl (shortP ss) acc, c ∈ acc ∨ c ∈ xs := by
    intro xs
    induction xs with
    | nil => intro acc c h; exact .inl h
    | cons x xs ih =>
      intro acc c h
      rw [List.foldl_cons] at h
      rcases ih _ c h with h | h
      · unfold shortP at h
        split at h
        · rcases List.mem_append.mp h with h | h
          · exact .inl h
          · rw [List.mem_singleton.mp h]; exact .inr (List.mem_cons_self ..)
        · exact .inl h
      · exact .inr (List.mem_cons_of_mem _ h)
  intro c h
  rcases go xs [] c h with h | h
  · cases h
  · exact h
theorem halves_each {ns : List Str} (n6 : ns.length ≤ 6) : ∀ c ∈ halves ns, c.length ≤ 6 := by
  have go : ∀ (m : Nat) (lv : List (List Str × Nat)) (found : List (List Str)), HvI ns lv found m → (∀ c ∈ found, c.length ≤ 6) → ∀ c ∈ halves ns, c.length ≤ 6 := by
    intro m
    induction m using Nat.strongRecOn with
    | ind m ih =>
      intro lv found h hf
      obtain ⟨m', h1, h2⟩ := h.step n6
      have hf' : ∀ c ∈ found ++ (nextH ns lv).map (·.1), c.length ≤ 6 := fun c hc => by
        rcases List.mem_append.mp hc with hc | hc
        · exact hf c hc
        · obtain ⟨p, hp, rfl⟩ := List.mem_map.mp hc
          have := h2.up p hp
          omega
      rcases h1 with h1 | h1
      · exact ih m' h1 _ _ h2 hf'
      · rw [h1] at h2 hf'
        rw [← h2.end_]
        exact hf'
  exact go _ _ _ (HvI.init n6) (by simp)
theorem ok_Rule_shortest {f C : Addr} {fd : FuncData} (F : Fun K "shortest" "Rule.shortest" s_Rule_shortest f fd) (T : Ge mg) (TC : RuleT K mg C) (c_half_settings : Cal P w K mg base 1 "half_settings" ["names"] (sp_half_settings K)) (c_lies_in : Cal P w K mg base 1 "lies_in" ["part", "clause"] (sp_lies_in K))
    (c_is_consequence : Cal P w K mg base 1 "is_consequence" ["clause", "settings"] (sp_is_consequence K)) (m_settings : Met P w K mg base 2 C "settings" ["self"] (sp_Rule_settings K C)) : FnOk P w K mg base CX0 3 f fd ["self"] (sp_Rule_shortest K C) := by
  refine F.ok sc_Rule_shortest (fun vs H Q E h => ?_) (fun cdv A outer s H vs Q E hr h => ?_)
  · obtain ⟨x, M, v, rfl, _⟩ := h
    rfl
  · obtain ⟨r, M, v, rfl, mh, r1, hw, q⟩ := h
    have hu := hr.units
    refine ⟨_, (pss_cons (ps_par (i := 2) (j := 3) (by rfl) sc_Rule_shortest.nd rfl rfl (by decide) rfl rfl (pa_cons (pe_lst pa_nil) (pa_cons (pe_lc (own := [("setting", 4)]) (g := (gName 4)) (tt := tYes) (te := (tDc (iSq K (tVar 4)) (gName 5) tYes (tVar 5) (tC (.bl true)) [5])) (by rfl) sc_Rule_shortest.nd (pi_sq (pe_m0 m_settings (hr.mono (by decide)) (pv 0))) (blkOk_by (by rfl)) (fun _ _ _ _ _ => (pg_name (i := 4) sc_Rule_shortest.nd rfl (by first | exact .inl rfl | exact .inr rfl))) (fun _ _ _ _ _ => pts_nil) (fun _ _ _ _ _ => (pe_dc (own := [("literal", 5)]) (g := (gName 5)) (tt := tYes) (tk := (tVar 5)) (tv := (tC (.bl true))) (by rfl) sc_Rule_shortest.nd (pi_sq (pv 4)) (blkOk_by (by rfl)) (fun _ _ _ _ _ => (pg_name (i := 5) sc_Rule_shortest.nd rfl (by first | exact .inl rfl | exact .inr rfl))) (fun _ _ _ _ _ => pts_nil) (fun _ _ _ _ _ => (pv 5)) (fun _ _ _ _ _ => pe_bl)))) pa_nil)) (by rfl))
      (pss_cons (ps_for PassesOwn.never (by rfl) (pi_sq (pe_f c_half_settings (hr.mono (by decide)) (pa_cons (pe_fld (pv 0) rfl) pa_nil))) (pg_name (i := 1) sc_Rule_shortest.nd rfl (by first | exact .inl rfl | exact .inr rfl)) (pss_one (ps_if (PW.pt (pw_and (pt_not (pt_val (pe_callB (cr_any rfl) (by rfl) T.any boot_any (pa_cons (pe_lc (own := [("one", 6)]) (g := (gName 6)) (tt := tYes) (te := (tCall (sp_lies_in K) [] E0 (tCons (tVar 6) (tCons (tVar 1) tNil)))) (by rfl) sc_Rule_shortest.nd (pi_sq (pv 2)) (blkOk_by (by rfl)) (fun _ _ _ _ _ => (pg_name (i := 6) sc_Rule_shortest.nd rfl (by first | exact .inl rfl | exact .inr rfl))) (fun _ _ _ _ _ => pts_nil) (fun _ _ _ _ _ => (pe_f c_lies_in (hr.mono (by decide)) (pa_cons (pv 6) (pa_cons (pv 1) pa_nil))))) pa_nil)))) (pw_and1 (pt_val (pe_f c_is_consequence (hr.mono (by decide)) (pa_cons (pv 1) (pa_cons (pv 3) pa_nil))))))) (pss_one (ps_expr (pe_bm PySem.F.plainAttrs_list PySem.F.slot_list_append PySem.F.type_list_append mt_append (pv 2) (pa_cons (pv 1) pa_nil)))) pss_nil)))
      (pss_one (ps_ret (pv 2))))), ?_⟩
    refine q_par2 (a_L mh gl_nil fun p2 vs1 M1 H1 g1 h01 m01 hw1 e1 => a_V (P := LiR DcR (r.settings.map once)) g1.mh (gl_m1 (S := DcR) (R := TT) (xs := r.settings) (gi_sq (K := K) (gv_is (gv_met1 (R1 := RuleR C) (pre := RuleW) (R := fun r => LiR TT r.settings) (insR_rule (by decide +kernel) (by decide +kernel)) (gv_var rfl (Mon.mono g1.mm r1)) hw) fun _ _ h => h.sq)) (szM (Nat.le_trans (settings_len hw) (by decide))) once
      fun s hs M2 u2 sm2 ru2 => (gk_dc (by show 5 < 7; decide) (gi_sq (K := K) (gv_var rfl ru2.sq)) (szM (Nat.le_trans (settings_each hw s hs) (by decide)))).gv).li fun vs2 M2 H2 g2 p2s => ⟨_, _, rfl, ?_⟩)
    subst e1
    have hn6 : r.names.length ≤ 6 := hw.k
    refine q_for (R1 := TT) (xs := halves r.names) g2.mh (gv_is (gv_call1 (R1 := SqR K Tx) (pre := fun ns => ns.length ≤ 6 ∧ Shorts ns) (R := fun ns => LiR TT (halves ns)) (gv_is (gv_rnames TC (gv_var rfl (Mon.mono (g1.trans g2).mm r1))) fun _ _ h => h.sq) ⟨hw.k, hw.s⟩) fun _ _ h => h.sq)
      (fun M1' i σ' M' H' => ∃ y1 ws, Gr M H M' H' ∧ Same M1' M' ∧ Same M2 M' ∧ Own H M' H' p2 ws ∧ Pd TT M' (((halves r.names).take i).foldl (shortP r.settings) []) ws ∧ σ' = [some v, y1, some (.ref p2), some vs2, none, none, none])
      (fun M3 H3 g3 => ⟨_, [], (g1.trans g2).trans g3, Same.refl _, g3.mm, (Own.step ⟨h01, m01, hw1⟩ g2).step g3, .nil, rfl⟩) (fun M3 i σ' M' H' ⟨_, _, g, s1, _⟩ => ⟨s1, g.mh⟩) ?_ ?_
    · rintro M3 i c u σ' M' H' sM hx ⟨y1, ws, g, s1, s2, ow, hpd, rfl⟩ rx
      have hcm := List.mem_of_getElem? hx
      have hil : i < (halves r.names).length := (List.getElem?_eq_some_iff.mp hx).1
      have hl := halves_len hn6
      have hc6 := halves_each hn6 c hcm
      have fl : (((halves r.names).take i).foldl (shortP r.settings) []).length ≤ i := Nat.le_trans (short_len _ _) (by rw [List.length_take]; omega)
      have fe : ∀ o ∈ ((halves r.names).take i).foldl (shortP r.settings) [], o.length ≤ 6 := fun o ho => halves_each hn6 o (List.mem_of_mem_take (short_sub _ _ o ho))
      have lent : LiR TT (((halves r.names).take i).foldl (shortP r.settings) []) (upd M' p2 (.lst ws)) (.ref p2) := ⟨p2, ws, rfl, upd_same, hpd.mono ow.up⟩
      have rx' : TT c (upd M' p2 (.lst ws)) u := Mon.mono ow.up rx
      have pset : SqR K (CtR K) (r.settings.map once) (upd M' p2 (.lst ws)) vs2 := by
        obtain ⟨a, us, e, hs, hp⟩ := (Mon.mono (s2.trans ow.up) p2s : LiR DcR (r.settings.map once) (upd M' p2 (.lst ws)) vs2)
        exact .inl ⟨a, us, e, .inl (.inl hs), Paired.mapP hp fun _ _ q => .inr q⟩
      refine s_if0 (b := (!(((halves r.names).take i).foldl (shortP r.settings) []).any fun o => liesIn o c) && isCons c r.settings) (same_lent g.mh ow.h) (gt_and (b := !(((halves r.names).take i).foldl (shortP r.settings) []).any fun o => liesIn o c) (c := isCons c r.settings)
        (gt_not (gt_B (gv_is (gv_any (K := K) (gl_m1 (S := Bl) (R := TT) (xs := ((halves r.names).take i).foldl (shortP r.settings) []) (gi_sq (K := K) (gv_var rfl lent.sq)) (szM (by omega)) (fun o => liesIn o c) fun o ho M5 u5 sm5 ru5 => gv_call2 (R1 := SqR K Tx) (R2 := CtR K) (x := o) (y := c) (gv_var rfl ru5.sq) (gv_var rfl (.inl (Mon.mono sm5 rx').sq)) (Nat.le_trans (fe o ho) (by decide))))
          fun M v h => by rw [show v = _ from h, List.any_map]; rfl)))
        fun _ => gt_B (gv_is (gv_call2 (R1 := SqR K Tx) (R2 := SqR K (CtR K)) (x := c) (y := r.settings.map once) (gv_var rfl rx'.sq) (gv_var rfl pset) ⟨Nat.le_trans hc6 (by decide), by rw [List.length_map]; exact Nat.le_trans (settings_len hw) (by decide)⟩) fun M v h => by rw [show v = _ from h, isCons_once])) (fun hb H4 hh => ?_) (fun hb H4 hh => ?_)
      · have g4 := g.trans (.idle g.mh hh)
        have ow4 := ow.idle hh
        have hwl : ws.length ≤ i := by rw [← hpd.length]; exact fl
        refine s_app (P := TT c) g4.mh rfl ow4.h (szL (by omega)) (gv_var rfl rx) fun v5 M5 H5 g5 r5 => ?_
        have ow5 := ow4.step g5
        refine ⟨M5, _, ws ++ [v5], (g4.trans g5).mut ow5.h0 ow5.m, s1.trans g5.mm, s2.trans g5.mm, ow5.put, ?_, rfl⟩
        rw [short_take hx, shortP, if_pos hb]
        exact pd_app (hpd.mono g5.mm) (.cons r5 .nil)
      · refine ⟨M', _, ws, g.trans (.idle g.mh hh), s1, s2, ow.idle hh, ?_, rfl⟩
        rw [short_take hx, shortP, if_neg (by rw [hb]; simp)]
        exact hpd
    · rintro M3 σ' M' H' sM ⟨y1, ws, g, s1, s2, ow, hpd, rfl⟩
      rw [List.take_length] at hpd
      exact ⟨.ref p2, rfl, q p2 ws M' H' g ow.h0 ow.m ow.h hpd⟩
end
end My

set_option Elab.async false
set_option linter.all false
set_option maxRecDepth 100000
set_option maxHeartbeats 8000000
namespace My
open PySem PySem.Spec PyProof.Rows L2 L3
/-- where the walk of a setting goes on: behind its last name -/
def LastI (ns : List Str) (p : List Str × Nat) : Prop := (p.1 = [] ∧ p.2 = 0) ∨ ∃ s l a, p.1 = s ++ [l] ∧ p.2 = a + 1 ∧ a < ns.length ∧ nameOf l = ns.getD a "" ∧ l.length ≤ 9
theorem neg_len (n : Str) : (("-" : Str) ++ n).length = n.length + 1 := by
  rw [← SX.S_tl n, neg_S, SX.S_len, List.length_cons, SX.S_len]
theorem getD_at {ns : List Str} {a : Nat} (h : a < ns.length) : ns[a]? = some (ns.getD a "") := by rw [List.getD_eq_getElem?_getD, List.getElem?_eq_getElem h]; rfl
theorem last_next {ns : List Str} {lv : List (List Str × Nat)} (nm : NmL ns) : ∀ p ∈ nextH ns lv, LastI ns p := fun p hp => by
  obtain ⟨r, hr, hp⟩ := List.mem_flatMap.mp hp
  obtain ⟨a, l, h1, h2, h3, rfl⟩ := mem_stepH hp
  have hn := nm.nm _ (List.mem_of_getElem? (getD_at h2))
  have hl := nm_len hn
  refine .inr ⟨r.1, l, a, rfl, rfl, h2, ?_⟩
  rcases h3 with e | e
  · rw [e, nameOf_nm hn]; exact ⟨rfl, by omega⟩
  · rw [e, nameOf_neg hn]; exact ⟨rfl, by rw [neg_len]; omega⟩
theorem drop_map (ns : List Str) (k : Nat) : ns.drop k = (List.range' k (ns.length - k)).map fun a => ns.getD a "" := by
  apply List.ext_getElem
  · simp
  · intro j h1 h2
    rw [List.length_drop] at h1
    rw [List.getElem_drop, List.getElem_map, List.getElem_range', Nat.one_mul, List.getD_eq_getElem?_getD, List.getElem?_eq_getElem (by omega)]
    rfl
theorem step_drop (ns : List Str) (p : List Str × Nat) : (stepH ns p).map (·.1) = (ns.drop p.2).flatMap fun n => [p.1 ++ [n], p.1 ++ [("-" : Str) ++ n]] := by
  unfold stepH
  rw [drop_map, List.map_flatMap, List.flatMap_map]
  rfl
section
variable {P : Program} {w : World} {K : PySem.W.Frag} {mg : Str → Option Value} {base : Heap}
abbrev s__law_bare : Stmt := topS 64
theorem sc__law_bare : FnScope ["_law_one"] ["_law_one"] (defScope s__law_bare) := ⟨rfl, rfl, rfl, by decide +kernel, rfl, by decide +kernel, by decide +kernel⟩
def sp__law_bare (K : PySem.W.Frag) : Sp := sp1 Tx (fun x => x.length ≤ 1000) fun x => Tx (nameOf x)
theorem ok__law_bare {f : Addr} {fd : FuncData} (F : Fun K "_law_bare" "_law_bare" s__law_bare f fd) : FnOk P w K mg base CX0 1 f fd ["_law_one"] (sp__law_bare K) := by
  refine F.ok sc__law_bare (fun vs H Q E h => ?_) (fun cdv A outer s H vs Q E hr h => ?_)
  · obtain ⟨x, M, v, rfl, _⟩ := h
    rfl
  · obtain ⟨x, M, v, rfl, mh, r1, hp, q⟩ := h
    have hu := hr.units
    refine ⟨_, (pss_one (ps_ret (pe_ifExp (pt_cmpR (op_eqP hu) (pe_slice sl_X (pv 0) po_none (po_some pe_int)) pe_str (nomark _)) (pe_slice sl_X (pv 0) (po_some pe_int) po_none) (pv 0)))), ?_⟩
    have hv : Gv (tVar 0) (start ["_law_one"] [v]) M (Tx x) := gv_var rfl r1
    refine s_ret mh (gv_if (gt_test (gv_eqT py_str inj_str (gv_cutS hv (sz1000 hp) (fun _ _ h => h) (fun _ _ h => ⟨1, rfl, h⟩)) (gv_c rfl) (by simp [PyData.depth]))) (fun hb => gv_is (gv_cutS hv (sz1000 hp) (fun _ _ h => ⟨1, rfl, h⟩) fun _ _ h => h) fun M' v h => ?_) fun hb => gv_is hv fun M' v h => ?_) q
    · show Tx (nameOf x) M' v
      rw [show nameOf x = _ from if_pos (by simpa using hb)]; exact h
    · show Tx (nameOf x) M' v
      rw [show nameOf x = _ from if_neg (by simpa using hb)]; exact h
abbrev s__law_within : Stmt := topS 71
theorem sc__law_within : FnScope ["_law_part", "_law_clause_here", "_law_one"] ["_law_part", "_law_clause_here"] (defScope s__law_within) := ⟨rfl, rfl, rfl, by decide +kernel, rfl, by decide +kernel, by decide +kernel⟩
def sp__law_within (K : PySem.W.Frag) : Sp := sp2 (SqR K Tx) (CtR K) (fun p _ => p.length ≤ 1000000) fun p c => Bl (liesIn p c)
theorem ok__law_within {f : Addr} {fd : FuncData} (F : Fun K "_law_within" "_law_within" s__law_within f fd) (T : Gc mg) : FnOk P w K mg base CX0 1 f fd ["_law_part", "_law_clause_here"] (sp__law_within K) := by
  refine F.ok sc__law_within (fun vs H Q E h => ?_) (fun cdv A outer s H vs Q E hr h => ?_)
  · obtain ⟨x, y, M, v, w, rfl, _⟩ := h
    rfl
  · obtain ⟨p, c, M, v, w, rfl, mh, r1, r2, hp, q⟩ := h
    have hu := hr.units
    refine ⟨_, (pss_one (ps_ret (pe_callB (cr_all rfl) (by rfl) T.all boot_all (pa_cons (pe_lc (own := [("_law_one", 2)]) (g := (gName 2)) (tt := tYes) (te := (tOp (rInA K false) (tVar 2) (tVar 1))) (by rfl) sc__law_within.nd (pi_sq (pv 0)) (blkOk_by (by rfl)) (fun _ _ _ _ _ => (pg_name (i := 2) sc__law_within.nd rfl (by first | exact .inl rfl | exact .inr rfl))) (fun _ _ _ _ _ => pts_nil) (fun _ _ _ _ _ => (pe_cmpR (op_inA hu) (pv 2) (pv 1) (by rfl)))) pa_nil)))), ?_⟩
    refine s_ret mh (gv_is (gv_all (K := K) (gl_m1 (S := Bl) (R := Tx) (xs := p) (gi_sq (K := K) (gv_var rfl r1)) (szK hp) (fun l => decide (l ∈ c)) fun l _ M1 u sm ru => gv_is (gv_inA (K := K) (gv_var rfl ru) (gv_var rfl (Mon.mono sm r2))) fun _ _ h => by simpa using h)) fun M' v h => ?_) q
    rw [show v = _ from h, List.all_map]
    rfl
abbrev s__law_meets : Stmt := topS 68
theorem sc__law_meets : FnScope ["_law_clause_here", "_law_some", "_law_one"] ["_law_clause_here", "_law_some"] (defScope s__law_meets) := ⟨rfl, rfl, rfl, by decide +kernel, rfl, by decide +kernel, by decide +kernel⟩
def sp__law_meets (K : PySem.W.Frag) : Sp := sp2 (SqR K Tx) (CtR K) (fun p _ => p.length ≤ 1000000) fun p c => Bl (meets p c)
theorem ok__law_meets {f : Addr} {fd : FuncData} (F : Fun K "_law_meets" "_law_meets" s__law_meets f fd) (T : Gc mg) : FnOk P w K mg base CX0 1 f fd ["_law_clause_here", "_law_some"] (sp__law_meets K) := by
  refine F.ok sc__law_meets (fun vs H Q E h => ?_) (fun cdv A outer s H vs Q E hr h => ?_)
  · obtain ⟨x, y, M, v, w, rfl, _⟩ := h
    rfl
  · obtain ⟨p, c, M, v, w, rfl, mh, r1, r2, hp, q⟩ := h
    have hu := hr.units
    refine ⟨_, (pss_one (ps_ret (pe_callB (cr_any rfl) (by rfl) T.any boot_any (pa_cons (pe_lc (own := [("_law_one", 2)]) (g := (gName 2)) (tt := tYes) (te := (tOp (rInA K false) (tVar 2) (tVar 1))) (by rfl) sc__law_meets.nd (pi_sq (pv 0)) (blkOk_by (by rfl)) (fun _ _ _ _ _ => (pg_name (i := 2) sc__law_meets.nd rfl (by first | exact .inl rfl | exact .inr rfl))) (fun _ _ _ _ _ => pts_nil) (fun _ _ _ _ _ => (pe_cmpR (op_inA hu) (pv 2) (pv 1) (by rfl)))) pa_nil)))), ?_⟩
    refine s_ret mh (gv_is (gv_any (K := K) (gl_m1 (S := Bl) (R := Tx) (xs := p) (gi_sq (K := K) (gv_var rfl r1)) (szK hp) (fun l => decide (l ∈ c)) fun l _ M1 u sm ru => gv_is (gv_inA (K := K) (gv_var rfl ru) (gv_var rfl (Mon.mono sm r2))) fun _ _ h => by simpa using h)) fun M' v h => ?_) q
    rw [show v = _ from h, List.any_map]
    rfl
end
end My

set_option Elab.async false
set_option linter.all false
set_option maxRecDepth 100000
set_option maxHeartbeats 8000000
namespace My
open PySem PySem.Spec PyProof.Rows L2 L3
theorem fullP_take {acc : List (List Str)} {i : Nat} {s n : Str} {z : List Str} (h : acc[i]? = some z) : fullP (acc.take (i + 1)) n = fullP (acc.take i) n ++ [z ++ [n], z ++ [("-" : Str) ++ n]] := by
  unfold fullP
  rw [take_flat _ h]
  rfl
theorem fullP_len (acc : List (List Str)) (n : Str) : (fullP acc n).length = 2 * acc.length := flat2_len acc (fun s => s ++ [n]) (fun s => s ++ [("-" : Str) ++ n])
section
variable {K : PySem.W.Frag} {σ : Sl} {M : Hp} {ta tb : TE}
/-- [z + (n,), z + ("-" + n,)] -/
theorem gl_both {i j : Nat} {z : List Str} {n : Str} (hz : Gv (tVar i) σ M (TT z)) (hn : Gv (tVar j) σ M (Tx n)) (l1 : z.length ≤ 1000000) (l2 : n.length ≤ 1000000) :
    GvL (tLst (tCons (tOp (rAddA K) (tVar i) (tTup (tCons (tVar j) tNil))) (tCons (tOp (rAddA K) (tVar i) (tTup (tCons (tOp (rAddA K) (tC (.str "-")) (tVar j)) tNil))) tNil))) σ M fun M ws => Pd TT M [z ++ [n], z ++ [("-" : Str) ++ n]] ws :=
  gl_twoL (R := TT) (gv_addTT (K := K) hz (gv_tup1 hn) (szM (by simp only [List.length_cons, List.length_nil]; omega))) (gv_addTT (K := K) hz (gv_tup1 (gv_addSt (K := K) (gv_c rfl) hn (szM (by show 1 + n.length ≤ _; omega)))) (szM (by simp only [List.length_cons, List.length_nil]; omega)))
theorem gv_minus {i : Int} (h : Gv ta σ M (It' i)) : Gv (tUn (rU fun i => .int (-i)) ta) σ M (It' (-i)) := fun H mh Q q => h H mh _ fun v M1 H1 g1 e => ⟨i, e, q _ M1 H1 g1 rfl⟩
theorem s_par2 {H : Hp} {D : Ends} {ta : TA} {i j : Nat} (h : ta σ H fun vs H1 => ∃ u v, vs = [u, v] ∧ D.nx ((σ.set i (some u)).set j (some v)) H1) : tPar i j ta D σ H := h
/-- names.index(x) -/
theorem gv_index {ns : List Str} {x : Str} {a : Nat} (h : Gv ta σ M (LstR K Tx ns)) (hx : Gv tb σ M (Tx x)) (nd : ns.Nodup) (ha : ns[a]? = some x) : Gv (tBM K "list" (rIndex K) ta (tCons tb tNil)) σ M (NtR a) := fun H mh Q q =>
  h H mh _ fun v M1 H1 g1 ⟨p, vs, e, hs, hp⟩ => by
    subst e
    refine ⟨.inl ⟨rfl, _, sl_mono g1.mh hs⟩, hx.le g1.mm H1 g1.mh _ fun y M2 H2 g2 e2 => ?_⟩
    cases (show y = _ from e2)
    have ev := pd_tx hp
    subst ev
    refine ⟨p, ns.map V.str, .str x, a, .str x, rfl, rfl, sl_mono (g1.mh.trans g2.hh) hs, rfl, ?_, by rw [List.getElem?_map, ha]; rfl, ?_, fun m z' hm hz' => ?_, q _ M2 H2 (g1.trans g2) rfl⟩
    · rw [List.all_map]; exact List.all_eq_true.mpr fun _ _ => rfl
    · simp [eqV]
    · rw [List.getElem?_map] at hz'
      obtain ⟨y, hy, rfl⟩ := Option.map_eq_some_iff.mp hz'
      have hne : ¬ y = x := fun e => by
        subst e
        have h1 := (List.getElem?_eq_some_iff.mp hy)
        have h2 := (List.getElem?_eq_some_iff.mp ha)
        exact absurd (List.getElem_inj nd |>.mp (h1.2.trans h2.2.symm)) (by omega)
      simp [eqV, hne]
end
section
variable {P : Program} {w : World} {K : PySem.W.Frag} {mg : Str → Option Value} {base : Heap}
abbrev s__law_fulls : Stmt := topS 66
theorem sc__law_fulls : FnScope ["_law_names_here", "_law_found", "_law_name", "_law_longer", "_law_one"] ["_law_names_here"] (defScope s__law_fulls) := ⟨rfl, rfl, rfl, by decide +kernel, rfl, by decide +kernel, by decide +kernel⟩
def sp__law_fulls (K : PySem.W.Frag) : Sp := sp1 (SqR K Tx) (fun ns => ns.length ≤ 6 ∧ Shorts ns) fun ns => LiR TT (fulls ns)
theorem ok__law_fulls {f : Addr} {fd : FuncData} (F : Fun K "_law_fulls" "_law_fulls" s__law_fulls f fd) (T : Gc mg) : FnOk P w K mg base CX0 1 f fd ["_law_names_here"] (sp__law_fulls K) := by
  refine F.ok sc__law_fulls (fun vs H Q E h => ?_) (fun cdv A outer s H vs Q E hr h => ?_)
  · obtain ⟨x, M, v, rfl, _⟩ := h
    rfl
  · obtain ⟨ns, M, v, rfl, mh, r1, ⟨h6, hsh⟩, q⟩ := h
    have hu := hr.units
    refine ⟨_, (pss_cons (ps_set (i := 1) sc__law_fulls.nd rfl (by first | exact .inl rfl | exact .inr rfl) (pe_lst (pa_cons (pe_tup pa_nil) pa_nil)))
      (pss_cons (ps_for PassesOwn.never (by rfl) (pi_sq (pv 0)) (pg_name (i := 2) sc__law_fulls.nd rfl (by first | exact .inl rfl | exact .inr rfl)) (pss_cons (ps_set (i := 3) sc__law_fulls.nd rfl (by first | exact .inl rfl | exact .inr rfl) (pe_lst pa_nil))
      (pss_cons (ps_for PassesOwn.never (by rfl) (pi_sq (pv 1)) (pg_name (i := 4) sc__law_fulls.nd rfl (by first | exact .inl rfl | exact .inr rfl)) (pss_one (ps_expr (pe_bm PySem.F.plainAttrs_list PySem.F.slot_list_extend PySem.F.type_list_extend mt_extend (pv 3) (pa_cons (pe_lst (pa_cons (pe_op op_addA (pv 4) (pe_tup (pa_cons (pv 2) pa_nil))) (pa_cons (pe_op op_addA (pv 4) (pe_tup (pa_cons (pe_op op_addA pe_str (pv 2)) pa_nil))) pa_nil))) pa_nil)))))
      (pss_one (ps_set (i := 1) sc__law_fulls.nd rfl (by first | exact .inl rfl | exact .inr rfl) (pv 3))))))
      (pss_one (ps_ret (pv 1))))), ?_⟩
    refine q_asg (P := LiR TT [[]]) mh (gl_one gv_nilT).li fun v1 M1 H1 g1 p1 => ?_
    refine q_for (R1 := Tx) (xs := ns) g1.mh (gv_var rfl (Mon.mono g1.mm r1))
      (fun M1' i σ' M' H' => ∃ y2 y3 y4 u, Gr M H M' H' ∧ Same M1' M' ∧ LiR TT (fulls (ns.take i)) M' u ∧ σ' = [some v, some u, y2, y3, y4])
      (fun M2 H2 g2 => ⟨_, _, _, v1, g1.trans g2, Same.refl _, Mon.mono g2.mm p1, rfl⟩) (fun M2 i σ' M' H' ⟨_, _, _, _, g, s1, _⟩ => ⟨s1, g.mh⟩) ?_ ?_
    · rintro M2 i n u0 σ' M' H' sM hx ⟨y2, y3, y4, u, g, s1, p2, rfl⟩ rx
      cases rx
      have hi : i < ns.length := (List.getElem?_eq_some_iff.mp hx).1
      have hn : n.length ≤ 900 := hsh.2 n (List.mem_of_getElem? hx)
      have hle : (fulls (ns.take i)).length ≤ 64 := by
        rw [fulls_len, List.length_take]
        exact Nat.le_trans (Nat.pow_le_pow_right (by decide) (show min i ns.length ≤ 6 by omega)) (by decide)
      refine q_asgL g.mh gl_nil fun p3 vs3 M3 H3 g3 h03 m03 hw3 e3 => ?_
      subst e3
      have G3 := g.trans g3
      refine q_for (R1 := TT) (xs := fulls (ns.take i)) g3.mh (gv_var rfl (Mon.mono g3.mm p2).sq)
        (fun M1' j σ' M'' H'' => ∃ y4 ws, Gr M H M'' H'' ∧ Same M1' M'' ∧ Same M3 M'' ∧ Own H M'' H'' p3 ws ∧ Pd TT M'' (fullP ((fulls (ns.take i)).take j) n) ws ∧ σ' = [some v, some u, some (.str n), some (.ref p3), y4])
        (fun M4 H4 g4 => ⟨_, [], G3.trans g4, Same.refl _, g4.mm, Own.step ⟨g.hh.free h03, m03, hw3⟩ g4, .nil, rfl⟩) (fun M4 j σ' M' H' ⟨_, _, g, s1, _⟩ => ⟨s1, g.mh⟩) ?_ ?_
      · rintro M4 j z uz σ' M'' H'' sM4 hxz ⟨y4, ws, g4, s4, s3, ow, hpd, rfl⟩ rz
        have hzl := fulls_each _ z (List.mem_of_getElem? hxz)
        rw [List.length_take] at hzl
        have hjl : j < (fulls (ns.take i)).length := (List.getElem?_eq_some_iff.mp hxz).1
        have hwl : ws.length ≤ 128 := by rw [← hpd.length, fullP_len, List.length_take]; omega
        refine s_ext (K := K) (P := fun M ws => Pd TT M [z ++ [n], z ++ [("-" : Str) ++ n]] ws) g4.mh rfl ow.h (gl_both (K := K) (gv_var rfl rz) (gv_var rfl rfl) (by omega) (by omega)) (fun M5 ws5 h => ?_) fun ws5 M5 H5 g5 h5 => ?_
        · have := h.length
          simp only [List.length_cons, List.length_nil] at this
          exact szM (by omega)
        · have ow5 := ow.step g5
          refine ⟨M5, _, ws ++ ws5, (g4.trans g5).mut ow5.h0 ow5.m, s4.trans g5.mm, s3.trans g5.mm, ow5.put, ?_, rfl⟩
          rw [fullP_take (s := n) hxz]
          exact pd_app (hpd.mono g5.mm) h5
      · rintro M4 σ' M'' H'' sM4 ⟨y4, ws, g4, s4, s3, ow, hpd, rfl⟩
        rw [List.take_length] at hpd
        have G4 := g4.freeze ow.h0 ow.m ow.h
        refine s_asg (P := LiR TT (fulls (ns.take (i + 1)))) G4.mh (gv_var rfl ⟨p3, ws, rfl, upd_same, by rw [fulls_take hx]; exact hpd.mono ow.up⟩) fun u5 M5 H5 g5 p5 => ?_
        exact ⟨M5, _, _, _, u5, G4.trans g5, s1.trans (g3.mm.trans (s3.trans (ow.up.trans g5.mm))), p5, rfl⟩
    · rintro M2 σ' M' H' sM ⟨y2, y3, y4, u, g, s1, p2, rfl⟩
      rw [List.take_length] at p2
      exact ⟨u, rfl, q _ _ _ g p2⟩
abbrev s__law_halves : Stmt := topS 67
theorem sc__law_halves : FnScope ["_law_names_here", "_law_size", "_law_found", "_law_level", "_law_longer", "_law_one", "_law_start", "_law_name"] ["_law_names_here"] (defScope s__law_halves) := ⟨rfl, rfl, rfl, by decide +kernel, rfl, by decide +kernel, by decide +kernel⟩
def sp__law_halves (K : PySem.W.Frag) : Sp := sp1 (LstR K Tx) (fun ns => ns.length ≤ 6 ∧ NmL ns) fun ns => LiR TT (halves ns)
theorem ok__law_halves {f : Addr} {fd : FuncData} (F : Fun K "_law_halves" "_law_halves" s__law_halves f fd) (T : Gc mg) (c__law_bare : Cal P w K mg base 1 "_law_bare" ["_law_one"] (sp__law_bare K)) : FnOk P w K mg base CX0 2 f fd ["_law_names_here"] (sp__law_halves K) := by
  refine F.ok sc__law_halves (fun vs H Q E h => ?_) (fun cdv A outer s H vs Q E hr h => ?_)
  · obtain ⟨x, M, v, rfl, _⟩ := h
    rfl
  · obtain ⟨ns, M, v, rfl, mh, r1, ⟨h6, nm⟩, q⟩ := h
    have hu := hr.units
    refine ⟨_, (pss_cons (ps_par (i := 2) (j := 3) (by rfl) sc__law_halves.nd rfl rfl (by decide) rfl rfl (pa_cons (pe_lst (pa_cons (pe_tup pa_nil) pa_nil)) (pa_cons (pe_lst (pa_cons (pe_tup pa_nil) pa_nil)) pa_nil)) (by rfl))
      (pss_cons (ps_for PassesOwn.never (by rfl) (pi_range1 (by rfl) T.range (pa_cons (pe_callB call_lenA (by rfl) T.len boot_len (pa_cons (pv 0) pa_nil)) pa_nil)) (pg_name (i := 1) sc__law_halves.nd rfl (by first | exact .inl rfl | exact .inr rfl)) (pss_cons (ps_set (i := 4) sc__law_halves.nd rfl (by first | exact .inl rfl | exact .inr rfl) (pe_lst pa_nil))
      (pss_cons (ps_for PassesOwn.never (by rfl) (pi_sq (pv 3)) (pg_name (i := 5) sc__law_halves.nd rfl (by first | exact .inl rfl | exact .inr rfl)) (pss_cons (ps_set (i := 6) sc__law_halves.nd rfl (by first | exact .inl rfl | exact .inr rfl) (pe_ifExp (pt_cmpR (op_eqP hu) (pv 5) (pe_tup pa_nil) (nomark _)) pe_int (pe_op op_addA (pe_bm PySem.F.plainAttrs_list PySem.F.slot_list_index PySem.F.type_list_index mt_index (pv 0) (pa_cons (pe_f c__law_bare (hr.mono (by decide)) (pa_cons (pe_ix ix_X (pv 5) (pe_un un_neg pe_int) (fun _ _ => rfl)) pa_nil)) pa_nil)) pe_int)))
      (pss_one (ps_for PassesOwn.never (by rfl) (pi_sq (pe_slice sl_X (pv 0) (po_some (pv 6)) po_none)) (pg_name (i := 7) sc__law_halves.nd rfl (by first | exact .inl rfl | exact .inr rfl)) (pss_one (ps_expr (pe_bm PySem.F.plainAttrs_list PySem.F.slot_list_extend PySem.F.type_list_extend mt_extend (pv 4) (pa_cons (pe_lst (pa_cons (pe_op op_addA (pv 5) (pe_tup (pa_cons (pv 7) pa_nil))) (pa_cons (pe_op op_addA (pv 5) (pe_tup (pa_cons (pe_op op_addA pe_str (pv 7)) pa_nil))) pa_nil))) pa_nil))))))))
      (pss_one (ps_par (i := 2) (j := 3) (by rfl) sc__law_halves.nd rfl rfl (by decide) rfl rfl (pa_cons (pe_op op_addA (pv 2) (pv 4)) (pa_cons (pv 4) pa_nil)) (by rfl))))))
      (pss_one (ps_ret (pv 2))))), ?_⟩
    refine q_par2 (a_V (P := LiR TT [[]]) mh (gl_one (R := TT) (x := []) gv_nilT).li fun vf M1 H1 g1 pf => a_V (P := LiR TT [[]]) g1.mh (gl_one (R := TT) (x := []) gv_nilT).li fun vl M2 H2 g2 pl => ⟨_, _, rfl, ?_⟩)
    have G2 := g1.trans g2
    refine q_forG (R := NtR) (xs := List.range ns.length) g2.mh (gi_rng1 (n := ns.length) (gv_lenA (K := K) (R := Tx) (gv_var rfl (Mon.mono G2.mm r1).sq)) (by omega)) tg_1
      (fun M1' k σ' M' H' => ∃ y1 y4 y5 y6 y7 uf ul lv found, HvI ns lv found (ns.length - k) ∧ (∀ p ∈ lv, LastI ns p) ∧ Gr M H M' H' ∧ Same M1' M' ∧ LiR TT found M' uf ∧ LiR TT (lv.map (fun p : List Str × Nat => p.1)) M' ul ∧ σ' = [some v, y1, some uf, some ul, y4, y5, y6, y7])
      (fun M3 H3 g3 => ⟨_, _, _, _, _, vf, vl, [([], 0)], [[]], HvI.init h6, fun p hp => by rw [List.mem_singleton.mp hp]; exact .inl ⟨rfl, rfl⟩, G2.trans g3, Same.refl _, Mon.mono (g2.mm.trans g3.mm) pf, Mon.mono g3.mm pl, rfl⟩) (fun M3 i σ' M' H' ⟨_, _, _, _, _, _, _, _, _, _, _, g, s1, _⟩ => ⟨s1, g.mh⟩) ?_ ?_
    · rintro M3 k x σ' M' H' M4 H4 σ2 sM hxk ⟨y1, y4, y5, y6, y7, uf, ul, lv, found, hv, hla, g, s1, rf, rl, rfl⟩ gk ⟨v1, rv1, rfl⟩
      have hk : k < ns.length := by have := (List.getElem?_eq_some_iff.mp hxk).1; rwa [List.length_range] at this
      have ek : ns.length - k = (ns.length - (k + 1)) + 1 := by omega
      rw [ek] at hv
      have hv' := hv.step1 h6
      have G4 := g.trans gk
      refine q_asgL G4.mh gl_nil fun p4 vs4 M5 H5 g5 h05 m05 hw5 e5 => ?_
      subst e5
      have G5 := G4.trans g5
      refine q_for (R1 := TT) (xs := lv.map (fun p : List Str × Nat => p.1)) g5.mh (gv_var rfl (Mon.mono (gk.mm.trans g5.mm) rl).sq)
        (fun M1' i σ' M' H' => ∃ y5 y6 y7 ws, Gr M H M' H' ∧ Same M5 M' ∧ Same M1' M' ∧ Own H M' H' p4 ws ∧ Pd TT M' ((lv.take i).flatMap fun p => (stepH ns p).map (fun p : List Str × Nat => p.1)) ws ∧ σ' = [some v, some v1, some uf, some ul, some (.ref p4), y5, y6, y7])
        (fun M6 H6 g6 => ⟨_, _, _, [], G5.trans g6, g6.mm, Same.refl _, Own.step ⟨G4.hh.free h05, m05, hw5⟩ g6, .nil, rfl⟩) (fun M6 i σ' M' H' ⟨_, _, _, _, g, _, s1, _⟩ => ⟨s1, g.mh⟩) ?_ ?_
      · rintro M6 i z uz σ' M' H' sM6 hxz ⟨y5, y6, y7, ws, g6, s5, s6, ow, hpd, rfl⟩ rz
        obtain ⟨p, hp, ez⟩ : ∃ p, lv[i]? = some p ∧ p.1 = z := by
          rw [List.getElem?_map] at hxz
          obtain ⟨p, hp, e⟩ := Option.map_eq_some_iff.mp hxz
          exact ⟨p, hp, e⟩
        subst ez
        have hpm := List.mem_of_getElem? hp
        have upp := hv.up p hpm
        have r16 : LstR K Tx ns M' v := Mon.mono g6.mm r1
        -- start
        refine q_asg (P := NtR p.2) g6.mh (gv_if (b := decide (p.1 = [])) (gt_is (gt_test (gv_eqT (K := K) (R := TT) (neg := false) py_TT inj_TT (gv_var rfl rz) gv_nilT (by simp [PyData.depth, depthS]))) (by simp)) (fun hb => ?_) fun hb => ?_) fun v6 M7 H7 g7 r7 => ?_
        · rcases hla p hpm with ⟨_, e2⟩ | ⟨s, l, a, e, _⟩
          · exact gv_is (gv_c (P := fun _ v => v = .int 0) rfl) fun _ _ h => by rw [e2]; exact h
          · rw [e] at hb; simp at hb
        · rcases hla p hpm with ⟨e1, _⟩ | ⟨s, l, a, e1, e2, e3, e4, e5⟩
          · rw [e1] at hb; simp at hb
          · have hl : atI p.1 (-1) = some l := by rw [e1]; exact atI_last s l
            refine gv_is (gv_addIn (K := K) (gv_index (K := K) (a := a) (gv_var rfl r16) (gv_call1 (R1 := Tx) (pre := fun x => x.length ≤ 1000) (R := fun x => Tx (nameOf x)) (x := l) (gv_ix (K := K) (R := Tx) (xs := p.1) (i := -1) (gv_var rfl rz.sq) (gv_minus (gv_c rfl)) hl) ?_) nm.nd (by rw [e4]; exact getD_at e3)) (gv_c rfl)) fun M v h => ?_
            · exact Nat.le_trans e5 (by decide)
            · rw [show v = _ from h]; show V.int _ = V.int _; rw [e2]; rfl
        cases (show v6 = _ from r7)
        have G7 := g6.trans g7
        refine s_for (R1 := Tx) (xs := ns.drop p.2) G7.mh (gv_is (gl_cut (K := K) (R := Tx) (lo := some (p.2 : Int)) (hi := none) (gv_var rfl (Mon.mono G7.mm r1)) (fun _ _ h => ⟨_, rfl, _, rfl, h⟩) (fun _ _ h => h)).li fun M v h => by rw [cut_drop] at h; exact h.sq)
          (fun M1' j σ' M' H' => ∃ y7 ws', Gr M H M' H' ∧ Same M7 M' ∧ Same M1' M' ∧ Own H M' H' p4 ws' ∧ Pd TT M' (((lv.take i).flatMap fun p => (stepH ns p).map (fun p : List Str × Nat => p.1)) ++ ((ns.drop p.2).take j).flatMap fun n => [p.1 ++ [n], p.1 ++ [("-" : Str) ++ n]]) ws' ∧ σ' = [some v, some v1, some uf, some ul, some (.ref p4), some uz, some (.int (p.2 : Nat)), y7])
          (fun M8 H8 g8 => ⟨_, ws, G7.trans g8, g8.mm, Same.refl _, (ow.step g7).step g8, by simpa using hpd.mono (g7.mm.trans g8.mm), rfl⟩) (fun M8 j σ' M' H' ⟨_, _, g, _, s1, _⟩ => ⟨s1, g.mh⟩) ?_ ?_
        · rintro M8 j n un σ' M' H' sM8 hxn ⟨y7, ws', g8, s7, s8, ow8, hp8, rfl⟩ rn
          cases (show un = _ from rn)
          have hnm := List.mem_of_getElem? hxn
          have hnn : n ∈ ns := List.mem_of_mem_drop hnm
          have hnl := nm_len (nm.nm n hnn)
          have hj : j < ns.length - p.2 := by have := (List.getElem?_eq_some_iff.mp hxn).1; rwa [List.length_drop] at this
          have hil : i < lv.length := (List.getElem?_eq_some_iff.mp hp).1
          have hm1 : 12 * lv.length ≤ 2985984 := by
            have s1 := hv.sz
            rw [Nat.pow_succ] at s1
            have : 1 ≤ 12 ^ (ns.length - (k + 1)) := Nat.one_le_pow _ _ (by decide)
            have : lv.length * (1 * 12) ≤ lv.length * (12 ^ (ns.length - (k + 1)) * 12) := Nat.mul_le_mul_left _ (Nat.mul_le_mul_right _ this)
            omega
          have lenw : ws'.length ≤ 12 * lv.length + 12 := by
            rw [← hp8.length, List.length_append]
            have l1 : ((lv.take i).flatMap fun p => (stepH ns p).map (fun p : List Str × Nat => p.1)).length ≤ 12 * (lv.take i).length := flat_le fun p _ => by rw [List.length_map, stepH_len]; omega
            have l2 := flat2_len ((ns.drop p.2).take j) (fun n => p.1 ++ [n]) (fun n => p.1 ++ [("-" : Str) ++ n])
            rw [List.length_take] at l1
            rw [List.length_take, List.length_drop] at l2
            omega
          refine s_ext (K := K) (P := fun M ws => Pd TT M [p.1 ++ [n], p.1 ++ [("-" : Str) ++ n]] ws) g8.mh rfl ow8.h (gl_both (K := K) (gv_var rfl (Mon.mono (g7.mm.trans s7) rz)) (gv_var rfl rfl) (by omega) (by omega)) (fun M9 ws9 h => ?_) fun ws9 M9 H9 g9 h9 => ?_
          · have := h.length
            simp only [List.length_cons, List.length_nil] at this
            exact szM (by omega)
          · have ow9 := ow8.step g9
            refine ⟨M9, _, ws' ++ ws9, (g8.trans g9).mut ow9.h0 ow9.m, s7.trans g9.mm, s8.trans g9.mm, ow9.put, ?_, rfl⟩
            rw [take_flat _ hxn, ← List.append_assoc]
            exact pd_app (hp8.mono g9.mm) h9
        · rintro M8 σ' M' H' sM8 ⟨y7, ws', g8, s7, s8, ow8, hp8, rfl⟩
          refine ⟨M', _, _, _, ws', g8, s5.trans (g7.mm.trans s7), s6.trans (g7.mm.trans s7), ow8, ?_, rfl⟩
          rw [take_flat _ hp, step_drop]
          rw [List.take_length] at hp8
          exact hp8
      · rintro M6 σ' M' H' sM6 ⟨y5, y6, y7, ws, g6, s5, s6, ow, hpd, rfl⟩
        rw [List.length_map, List.take_length] at hpd
        have en : (lv.flatMap fun p => (stepH ns p).map (fun p : List Str × Nat => p.1)) = (nextH ns lv).map (fun p : List Str × Nat => p.1) := by unfold nextH; rw [List.map_flatMap]
        rw [en] at hpd
        have G6 := g6.freeze ow.h0 ow.m ow.h
        have r4 : LiR TT ((nextH ns lv).map (fun p : List Str × Nat => p.1)) (upd M' p4 (.lst ws)) (.ref p4) := ⟨p4, ws, rfl, upd_same, hpd.mono ow.up⟩
        have up6 : Same M4 (upd M' p4 (.lst ws)) := g5.mm.trans (s5.trans ow.up)
        have fl : found.length + ((nextH ns lv).map (fun p : List Str × Nat => p.1)).length ≤ 16000000 := by
          have := hv'.fz
          have h1 : 1 ≤ 12 ^ (ns.length - (k + 1)) := Nat.one_le_pow _ _ (by decide)
          have h2 : 11 * (found ++ (nextH ns lv).map (fun p : List Str × Nat => p.1)).length * 1 ≤ 11 * (found ++ (nextH ns lv).map (fun p : List Str × Nat => p.1)).length * 12 ^ (ns.length - (k + 1)) := Nat.mul_le_mul_left _ h1
          rw [← List.length_append]
          omega
        refine s_par2 (a_V (P := LiR TT (found ++ (nextH ns lv).map (fun p : List Str × Nat => p.1))) G6.mh (gl_addL (K := K) (R := TT) (gv_var rfl (Mon.mono (gk.mm.trans up6) rf)) (gv_var rfl r4) (szM fl)).li fun u7 M7 H7 g7 p7 => a_V (P := LiR TT ((nextH ns lv).map (fun p : List Str × Nat => p.1))) g7.mh (gv_var rfl (Mon.mono g7.mm r4)) fun u8 M8 H8 g8 p8 => ⟨_, _, rfl, ?_⟩)
        exact ⟨M8, _, _, _, _, _, u7, u8, nextH ns lv, found ++ (nextH ns lv).map (fun p : List Str × Nat => p.1), hv', last_next nm, (G6.trans g7).trans g8, s1.trans (gk.mm.trans (up6.trans (g7.mm.trans g8.mm))), Mon.mono g8.mm p7, p8, rfl⟩
    · rintro M3 σ' M' H' sM ⟨y1, y4, y5, y6, y7, uf, ul, lv, found, hv, hla, g, s1, rf, rl, rfl⟩
      rw [List.length_range, Nat.sub_self] at hv
      have e : found = halves ns := hv.go
      rw [e] at rf
      exact ⟨uf, rfl, q _ _ _ g rf⟩
end
end My

set_option Elab.async false
set_option linter.all false
set_option maxRecDepth 100000
set_option maxHeartbeats 8000000
namespace My
open PySem PySem.Spec PyProof.Rows L2 L3
open L3.Strm
/-- a value as it is -/
abbrev VR : Rl V := fun x _ v => v = x
instance : Mon VR := ⟨fun _ h => h⟩
section
variable {K : PySem.W.Frag} {S : Strm} {c c1 c2 k : Nat} {σ : Sl} {M H : Hp} {te t1 : TE} {tt : L2.TT} {tr : TA} {QA : List V → Hp → Prop} {P : Pr} {α : Type} {R : Rl α} {R1 : Rl α} {i : Nat}
theorem gls_call1d {good : α → Prop} {pre : α → Prop} {cs : α → Nat} {R : α → Hp → List V → Prop} (hi : σ[i]? = some (some (.ref S.a))) (h1 : GvS S c1 t1 σ M (Ex R1 good)) (hp : ∀ x, good x → pre x) (hc : ∀ x, good x → cs x ≤ c2) :
    GvLS S (c1 + c2) (tCall (slS1 R1 pre cs R) [] E0 (tCons (tVar i) (tCons t1 tNil))) σ M fun M ws => ∃ x, good x ∧ R x M ws := fun H k mh a Q q =>
  ⟨_, hi, h1 H (k + c2) mh (a.le (by omega)) _ fun v M1 H1 g1 a1 ⟨x, gx, rx⟩ => ⟨S, x, M1, v, k, rfl, g1.mh, a1.le (by have := hc x gx; omega), rx, hp x gx, fun p ws M' H' g a' h0 m0 hw r => q p ws M' H' (g1.trans g) a' (g1.hh.free h0) m0 hw ⟨x, gx, r⟩⟩⟩
/-- [x for x in xs if a drawn test] -/
theorem gls_sub [Mon R] {j n : Nat} {wi : TI} {G : List α → Prop} (hj : j < σ.length) (hsrc : GvIS S c1 wi σ M G R) (hn : ∀ xs, G xs → xs.length ≤ n) (hz : n ≤ sizeLine)
    (ht : ∀ xs, G xs → ∀ x ∈ xs, ∀ M1 v, Same M M1 → R x M1 v → GvTS S c2 tt ((wipe σ [j]).set j (some v)) M1 fun _ => True) :
    GvLS S (c1 + n * c2) (tLc wi (gName j) tt (tVar j) [j]) σ M fun M ws => ∃ xs ys, G xs ∧ ys.Sublist xs ∧ Pd R M ys ws := by
  intro H k mh at_ Q q
  refine hsrc H (k + n * c2) mh (at_.le (by omega)) _ fun J xs M1 H1 g1 a1 gx ⟨GG, Y, w, hG, hY⟩ D hD => ?_
  have hxn := hn xs gx
  have nD := a1.fresh hD
  refine turns_of w (fun i H' => ∃ M' ys ws, Gr M1 (S.cut H1) M' (S.cut H') ∧ S.At (k + (n - i) * c2) H' ∧ M' D = none ∧ S.cut H' D = some (.lst ws) ∧ ws.length ≤ i ∧ ys.Sublist (xs.take i) ∧ Pd R M' ys ws)
    ⟨M1, [], [], by rw [cut_upd nD]; exact .own g1.mh (a1.cutn hD), a1.upd nD, g1.mh.free (a1.cutn hD), by rw [cut_upd nD, upd_same], Nat.le_refl _, .slnil, .nil⟩ (fun i H' _ ⟨M', ys, ws, g, _⟩ => hG M' H' g.mm (g.mh.trans cut_same)) ?_ ?_
  · rintro i y H' H'' hi ⟨M', ys, ws, g, a', m0, hw', hl, hg, hpd⟩ hy
    obtain ⟨x, M0, hx, g0, rx⟩ := hY i M' H' y H'' g.mm (g.mh.trans cut_same) hi hy
    have hxm := List.mem_of_getElem? hx
    have et : xs.take (i + 1) = xs.take i ++ [x] := by rw [List.take_add_one, hx]; rfl
    have L0 := lift g.mh a' g0
    have gg := g.trans L0
    have ag := a'.same g0.hh
    have k0 : S.cut H'' D = some (.lst ws) := L0.hh _ _ hw'
    have m0' : M0 D = none := L0.keep m0 hw'
    have hni : n - i = (n - (i + 1)) + 1 := by omega
    refine ⟨wipe1, ht xs gx x hxm M0 y (g1.mm.trans gg.mm) rx H'' (k + (n - (i + 1)) * c2) gg.mh (ag.le (by rw [hni, Nat.add_mul]; omega)) _ fun b M3 H3 g3 a3 _ => ?_⟩
    have m3 : M3 D = none := g3.keep m0' k0
    have k3 := g3.hh _ _ k0
    have n3 := on_of k3
    have up3 : Same M' M3 := L0.mm.trans g3.mm
    cases b with
    | true =>
      rw [if_pos rfl]
      refine ⟨y, List.getElem?_set_self (by rw [wipe_length]; exact hj), ws, of_cut k3, Nat.lt_of_lt_of_le (Nat.lt_of_le_of_lt hl hi) (Nat.le_trans hxn hz), M3, ys ++ [x], ws ++ [y], by rw [cut_upd n3]; exact (gg.trans g3).mut (a1.cutn hD) m3, a3.upd n3, m3, by rw [cut_upd n3, upd_same], by rw [List.length_append]; exact Nat.succ_le_succ hl, ?_, ?_⟩
      · rw [et]; exact hg.append (.refl _)
      · exact pd_app (hpd.mono up3) (.cons (Mon.mono g3.mm rx) .nil)
    | false =>
      rw [if_neg (by simp)]
      refine ⟨M3, ys, ws, gg.trans g3, a3, m3, k3, Nat.le_succ_of_le hl, ?_, hpd.mono up3⟩
      rw [et]
      exact hg.trans (List.sublist_append_left _ _)
  · rintro H' ⟨M', ys, ws, g, a', m0, hw', hl, hg, hpd⟩
    rw [List.take_length] at hg
    exact q D ws M' H' (g1.trans g) (a'.le (by omega)) (g1.hh.free (a1.cutn hD)) m0 hw' ⟨xs, ys, gx, hg, hpd⟩
theorem tup_in {ta : TA} {Q : VK} (h : ta σ H fun vs H1 => vs.length ≤ sizeLine ∧ ∀ p, H1 p = none → Q (.ref p) (upd H1 p (.tup vs))) : tTup ta σ H Q := h
theorem q_asgG {D : Ends} {tz : TS} {g : TG} (h : te σ H fun v H1 => g v σ H1 fun σ' H2 => tz D σ' H2) : tSeq (tAsg te g) tz D σ H := h
end
section
variable {P : Program} {w : World} {K : PySem.W.Frag} {mg : Str → Option Value} {base : Heap}
abbrev s__law_shortest : Stmt := topS 72
theorem sc__law_shortest : FnScope ["_law_names_here", "_law_settings", "_law_found", "_law_clause_here", "_law_part", "_law_one"] ["_law_names_here", "_law_settings"] (defScope s__law_shortest) := ⟨rfl, rfl, rfl, by decide +kernel, rfl, by decide +kernel, by decide +kernel⟩
def sp__law_shortest (K : PySem.W.Frag) : Sp := sp2 (LstR K Tx) (SqR K TT) (fun ns ss => (ns.length ≤ 6 ∧ NmL ns) ∧ ss.length ≤ 1000000) fun ns ss => LiR TT (shortestL ns ss)
theorem ok__law_shortest {f : Addr} {fd : FuncData} (F : Fun K "_law_shortest" "_law_shortest" s__law_shortest f fd) (T : Gc mg) (c__law_halves : Cal P w K mg base 2 "_law_halves" ["_law_names_here"] (sp__law_halves K)) (c__law_within : Cal P w K mg base 1 "_law_within" ["_law_part", "_law_clause_here"] (sp__law_within K))
    (c__law_meets : Cal P w K mg base 1 "_law_meets" ["_law_clause_here", "_law_some"] (sp__law_meets K)) : FnOk P w K mg base CX0 3 f fd ["_law_names_here", "_law_settings"] (sp__law_shortest K) := by
  refine F.ok sc__law_shortest (fun vs H Q E h => ?_) (fun cdv A outer s H vs Q E hr h => ?_)
  · obtain ⟨x, y, M, v, w, rfl, _⟩ := h
    rfl
  · obtain ⟨ns, ss, M, v, w, rfl, mh, r1, r2, ⟨⟨hn6, nm⟩, hss⟩, q⟩ := h
    have hu := hr.units
    refine ⟨_, (pss_cons (ps_set (i := 2) sc__law_shortest.nd rfl (by first | exact .inl rfl | exact .inr rfl) (pe_lst pa_nil))
      (pss_cons (ps_for PassesOwn.never (by rfl) (pi_sq (pe_f c__law_halves (hr.mono (by decide)) (pa_cons (pv 0) pa_nil))) (pg_name (i := 3) sc__law_shortest.nd rfl (by first | exact .inl rfl | exact .inr rfl)) (pss_one (ps_if (pt_not (pt_val (pe_callB (cr_any rfl) (by rfl) T.any boot_any (pa_cons (pe_lc (own := [("_law_part", 4)]) (g := (gName 4)) (tt := tYes) (te := (tCall (sp__law_within K) [] E0 (tCons (tVar 4) (tCons (tVar 3) tNil)))) (by rfl) sc__law_shortest.nd (pi_sq (pv 2)) (blkOk_by (by rfl)) (fun _ _ _ _ _ => (pg_name (i := 4) sc__law_shortest.nd rfl (by first | exact .inl rfl | exact .inr rfl))) (fun _ _ _ _ _ => pts_nil) (fun _ _ _ _ _ => (pe_f c__law_within (hr.mono (by decide)) (pa_cons (pv 4) (pa_cons (pv 3) pa_nil))))) pa_nil)))) (pss_one (ps_if (pt_val (pe_callB (cr_all rfl) (by rfl) T.all boot_all (pa_cons (pe_lc (own := [("_law_one", 5)]) (g := (gName 5)) (tt := tYes) (te := (tCall (sp__law_meets K) [] E0 (tCons (tVar 3) (tCons (tVar 5) tNil)))) (by rfl) sc__law_shortest.nd (pi_sq (pv 1)) (blkOk_by (by rfl)) (fun _ _ _ _ _ => (pg_name (i := 5) sc__law_shortest.nd rfl (by first | exact .inl rfl | exact .inr rfl))) (fun _ _ _ _ _ => pts_nil) (fun _ _ _ _ _ => (pe_f c__law_meets (hr.mono (by decide)) (pa_cons (pv 3) (pa_cons (pv 5) pa_nil))))) pa_nil))) (pss_one (ps_expr (pe_bm PySem.F.plainAttrs_list PySem.F.slot_list_append PySem.F.type_list_append mt_append (pv 2) (pa_cons (pv 3) pa_nil)))) pss_nil)) pss_nil)))
      (pss_one (ps_ret (pv 2))))), ?_⟩
    refine q_asgL mh gl_nil fun p2 vs1 M1 H1 g1 h01 m01 hw1 e1 => ?_
    subst e1
    refine q_for (R1 := TT) (xs := halves ns) g1.mh (gv_is (gv_call1 (R1 := LstR K Tx) (pre := fun ns => ns.length ≤ 6 ∧ NmL ns) (R := fun ns => LiR TT (halves ns)) (gv_var rfl (Mon.mono g1.mm r1)) ⟨hn6, nm⟩) fun _ _ h => h.sq)
      (fun M1' i σ' M' H' => ∃ y3 ws, Gr M H M' H' ∧ Same M1' M' ∧ Own H M' H' p2 ws ∧ Pd TT M' (((halves ns).take i).foldl (shortP ss) []) ws ∧ σ' = [some v, some w, some (.ref p2), y3, none, none])
      (fun M3 H3 g3 => ⟨_, [], g1.trans g3, Same.refl _, Own.step ⟨h01, m01, hw1⟩ g3, .nil, rfl⟩) (fun M3 i σ' M' H' ⟨_, _, g, s1, _⟩ => ⟨s1, g.mh⟩) ?_ ?_
    · rintro M3 i c u σ' M' H' sM hx ⟨y3, ws, g, s1, ow, hpd, rfl⟩ rx
      have hcm := List.mem_of_getElem? hx
      have hil : i < (halves ns).length := (List.getElem?_eq_some_iff.mp hx).1
      have hl := halves_len hn6
      have hc6 := halves_each hn6 c hcm
      have fl : (((halves ns).take i).foldl (shortP ss) []).length ≤ i := Nat.le_trans (short_len _ _) (by rw [List.length_take]; omega)
      have fe : ∀ o ∈ ((halves ns).take i).foldl (shortP ss) [], o.length ≤ 6 := fun o ho => halves_each hn6 o (List.mem_of_mem_take (short_sub _ _ o ho))
      have lent : LiR TT (((halves ns).take i).foldl (shortP ss) []) (upd M' p2 (.lst ws)) (.ref p2) := ⟨p2, ws, rfl, upd_same, hpd.mono ow.up⟩
      have rx' : TT c (upd M' p2 (.lst ws)) u := Mon.mono ow.up rx
      refine s_if0 (b := !(((halves ns).take i).foldl (shortP ss) []).any fun o => liesIn o c) (same_lent g.mh ow.h)
        (gt_not (gt_B (gv_is (gv_any (K := K) (gl_m1 (S := Bl) (R := TT) (xs := ((halves ns).take i).foldl (shortP ss) []) (gi_sq (K := K) (gv_var rfl lent.sq)) (szM (by omega)) (fun o => liesIn o c) fun o ho M5 u5 sm5 ru5 => gv_call2 (R1 := SqR K Tx) (R2 := CtR K) (x := o) (y := c) (gv_var rfl ru5.sq) (gv_var rfl (.inl (Mon.mono sm5 rx').sq)) (Nat.le_trans (fe o ho) (by decide))))
          fun M v h => by rw [show v = _ from h, List.any_map]; rfl))) (fun hb H4 hh => ?_) (fun hb H4 hh => ?_)
      · have g4 := g.trans (.idle g.mh hh)
        have ow4 := ow.idle hh
        refine s_if0 (b := isCons c ss) g4.mh (gt_B (gv_is (gv_all (K := K) (gl_m1 (S := Bl) (R := TT) (xs := ss) (gi_sq (K := K) (gv_var rfl (Mon.mono g.mm r2))) (szK hss) (fun z => meets c z) fun z hz M5 u5 sm5 ru5 => gv_call2 (R1 := SqR K Tx) (R2 := CtR K) (x := c) (y := z) (gv_var rfl (Mon.mono sm5 rx).sq) (gv_var rfl (.inl ru5.sq)) (Nat.le_trans hc6 (by decide))))
          fun M v h => by rw [show v = _ from h, List.all_map]; rfl)) (fun hb2 H5 hh5 => ?_) (fun hb2 H5 hh5 => ?_)
        · have g5 := g4.trans (.idle g4.mh hh5)
          have ow5 := ow4.idle hh5
          have hwl : ws.length ≤ i := by rw [← hpd.length]; exact fl
          refine s_app (P := TT c) g5.mh rfl ow5.h (szL (by omega)) (gv_var rfl rx) fun v6 M6 H6 g6 r6 => ?_
          have ow6 := ow5.step g6
          refine ⟨M6, _, ws ++ [v6], (g5.trans g6).mut ow6.h0 ow6.m, s1.trans g6.mm, ow6.put, ?_, rfl⟩
          rw [short_take hx, shortP, if_pos (by rw [hb, hb2]; rfl)]
          exact pd_app (hpd.mono g6.mm) (.cons r6 .nil)
        · refine ⟨M', _, ws, g4.trans (.idle g4.mh hh5), s1, ow4.idle hh5, ?_, rfl⟩
          rw [short_take hx, shortP, if_neg (by rw [hb2]; simp)]
          exact hpd
      · refine ⟨M', _, ws, g.trans (.idle g.mh hh), s1, ow.idle hh, ?_, rfl⟩
        rw [short_take hx, shortP, if_neg (by rw [hb]; simp)]
        exact hpd
    · rintro M3 σ' M' H' sM ⟨y3, ws, g, s1, ow, hpd, rfl⟩
      rw [List.take_length] at hpd
      exact ⟨.ref p2, rfl, q _ _ _ (g.freeze ow.h0 ow.m ow.h) ⟨p2, ws, rfl, upd_same, hpd.mono ow.up⟩⟩
end
end My

set_option Elab.async false
set_option linter.all false
set_option maxRecDepth 100000
set_option maxHeartbeats 8000000
namespace My
open PySem PySem.Spec PyProof.Rows L2 L3
open L3.Strm
section
variable {P : Program} {w : World} {K : PySem.W.Frag} {mg : Str → Option Value} {base : Heap}
abbrev s__law_drawn_rule : Stmt := topS 80
theorem sc__law_drawn_rule : FnScope ["_law_stream", "_law_most", "_law_signs", "_law_share", "_law_one"] ["_law_stream", "_law_most"] (defScope s__law_drawn_rule) := ⟨rfl, rfl, rfl, by decide +kernel, rfl, by decide +kernel, by decide +kernel⟩
def DrawnRule (m : Int) (x : List Str × List (List Str)) : Prop := NmL x.1 ∧ (x.1.length : Int) ≤ m ∧ x.2.Sublist (fulls x.1)
def sp__law_drawn_rule (K : PySem.W.Frag) : Sp := spS1 It' (fun m => 0 ≤ m ∧ m ≤ 6) (fun _ => 150) fun m => Ex (PrR K (LiR Tx) (LiR TT)) (DrawnRule m)
theorem ok__law_drawn_rule {f : Addr} {fd : FuncData} (F : Fun K "_law_drawn_rule" "_law_drawn_rule" s__law_drawn_rule f fd) (T : Gc mg) (c__law_draw : Cal P w K mg base 1 "_law_draw" ["_law_stream", "_law_many"] (sp__law_draw K)) (c__law_names : Cal P w K mg base 4 "_law_names" ["_law_stream", "_law_many"] (sp__law_names K))
    (c__law_fulls : Cal P w K mg base 1 "_law_fulls" ["_law_names_here"] (sp__law_fulls K)) : FnOk P w K mg base CX0 5 f fd ["_law_stream", "_law_most"] (sp__law_drawn_rule K) := by
  refine F.ok sc__law_drawn_rule (fun vs H Q E h => ?_) (fun cdv A outer s H vs Q E hr h => ?_)
  · obtain ⟨S, x, M, v, k, rfl, _⟩ := h
    rfl
  · obtain ⟨S, m, M, v, k, rfl, mh, at_, r1, ⟨m0, m6⟩, q⟩ := h
    have at_ : S.At (k + 150) H := at_
    cases (show v = _ from r1)
    have hu := hr.units
    refine ⟨_, (pss_cons (ps_asg (pe_tup (pa_cons (pe_f c__law_names (hr.mono (by decide)) (pa_cons (pv 0) (pa_cons (pe_f c__law_draw (hr.mono (by decide)) (pa_cons (pv 0) (pa_cons (pe_op op_addA (pv 1) pe_int) pa_nil))) pa_nil))) (pa_cons (pe_op op_addA pe_int (pe_f c__law_draw (hr.mono (by decide)) (pa_cons (pv 0) (pa_cons pe_int pa_nil)))) pa_nil))) (pg_tup (by rfl) (pgs_cons (pg_name (i := 2) sc__law_drawn_rule.nd rfl (by first | exact .inl rfl | exact .inr rfl)) (pgs_cons (pg_name (i := 3) sc__law_drawn_rule.nd rfl (by first | exact .inl rfl | exact .inr rfl)) pgs_nil))))
      (pss_one (ps_ret (pe_tup (pa_cons (pv 2) (pa_cons (pe_lc (own := [("_law_one", 4)]) (g := (gName 4)) (tt := (tTest (tOp (rI0 fun i j => .bl (decide (i < j))) (tCall (sp__law_draw K) [] E0 (tCons (tVar 0) (tCons (tC (.int 5)) tNil))) (tVar 3)))) (te := (tVar 4)) (by rfl) sc__law_drawn_rule.nd (pi_sq (pe_f c__law_fulls (hr.mono (by decide)) (pa_cons (pv 2) pa_nil))) (blkOk_by (by rfl)) (fun _ _ _ _ _ => (pg_name (i := 4) sc__law_drawn_rule.nd rfl (by first | exact .inl rfl | exact .inr rfl))) (fun _ _ _ _ _ => (pts_one (pt_cmpR op_lt (pe_f c__law_draw (hr.mono (by decide)) (pa_cons (pv 0) (pa_cons pe_int pa_nil))) (pv 3) (nomark _)))) (fun _ _ _ _ _ => (pv 4))) pa_nil)))))), ?_⟩
    refine q_asgG (tup_in (z_V (S := S) (k := k + 70) (c := 1 + 72) (P := Ex (LiR Tx) fun ns => NmL ns ∧ (ns.length : Int) ≤ m) mh (at_.le (by omega)) ((gls_call1d (S := S) (R1 := It') (good := fun z => 0 ≤ z ∧ z < m + 1) (pre := fun n => 0 ≤ n ∧ n ≤ 500) (cs := fun n => 12 * n.toNat) (R := fun n M ws => ∃ ys : List Str, NmL ys ∧ ys.length = n.toNat ∧ Pd Tx M ys ws) rfl (gs_draw (K := K) (n := m + 1) rfl (gv_addIn (K := K) (gv_var rfl rfl) (gv_c rfl)) (by omega) (by omega)) (fun z hz => ⟨hz.1, by omega⟩) (fun z hz => by omega)).gv
      fun M' vs p ⟨z, hz, ys, hp, hl, hpd⟩ mp => ⟨ys, ⟨hp, by omega⟩, p, vs, rfl, upd_same, hpd.mono (same_new mp)⟩) fun v1 M1 H1 g1 a1 ⟨ns, ⟨nm, hnl⟩, rn⟩ =>
      z_V (S := S) (k := k + 69) (c := 0 + 1) (P := Ex It' fun _ => True) g1.mh (a1.le (by omega)) (gs_op (c1 := 0) (c2 := 1) (P := It' 1) (P1 := Ex It' fun z => 0 ≤ z ∧ z < 4) (gv_c rfl).s (gs_draw (K := K) (n := 4) rfl (gv_c rfl) (by omega) (by omega)) fun M' u w pu ⟨z, hz, pw⟩ => fun H mh Q q => gv_addIn (K := K) (σ := []) (M := M') (ta := tC u) (tb := tC w) (gv_c pu) (gv_c pw) H mh Q fun v M' H' g r => q v M' H' g ⟨_, trivial, r⟩) fun v2 M2 H2 g2 a2 ⟨sh, _, r2⟩ =>
      a_nil ⟨by show 2 ≤ sizeLine; decide, fun p np => ⟨p, [v1, v2], rfl, .inl (.inl upd_same), rfl, v1, _, rfl, v2, _, rfl, rfl, ?_⟩⟩))
    cases (show v2 = _ from r2)
    have nD := a2.fresh np
    have G2 := g1.trans g2
    have G3 : Gr M (S.cut H) M2 (S.cut (upd H2 p (.tup [v1, .int sh]))) := by rw [cut_upd nD]; exact G2.trans (.own G2.mh (a2.cutn np))
    have a3 : S.At (k + 69) (upd H2 p (.tup [v1, .int sh])) := a2.upd nD
    have rn2 : LiR Tx ns M2 v1 := Mon.mono g2.mm rn
    revert G3 a3
    generalize upd H2 p (.tup [v1, .int sh]) = H3
    intro G3 a3
    have n6 : ns.length ≤ 6 := by omega
    have f64 : (fulls ns).length ≤ 64 := by
      rw [fulls_len]
      exact Nat.le_trans (Nat.pow_le_pow_right (by decide) n6) (by decide)
    refine tup_in (a_V (P := LiR Tx ns) (G3.mh.trans cut_same) (gv_var rfl rn2) fun v4 M4 H4 g4 p4 => z_V (S := S) (k := k) (c := 0 + 64 * (1 + 0)) (P := Ex (LiR TT) fun ss => ss.Sublist (fulls ns)) (lift G3.mh a3 g4).mh ((a3.same g4.hh).le (by omega)) ((gls_sub (S := S) (R := TT) (j := 4) (n := 64) (c1 := 0) (c2 := 1 + 0) (G := (· = fulls ns)) (by show 4 < 5; decide)
      (gis_sq (K := K) (R := TT) ((gv_call1 (R1 := SqR K Tx) (pre := fun ns => ns.length ≤ 6 ∧ Shorts ns) (R := fun ns => LiR TT (fulls ns)) (gv_var rfl (Mon.mono g4.mm rn2).sq) ⟨n6, nm_shorts nm⟩).s.is fun M v h => ⟨_, rfl, h.sq⟩)) (fun xs e => by rw [e]; exact f64) (by decide)
      fun xs _ x _ M5 v5 sm5 r5 => gts_test (P := fun _ v => ∃ b, v = .bl b) (gs_op (P := Ex It' fun z => 0 ≤ z ∧ z < 5) (P1 := It' sh) (gs_draw (K := K) (n := 5) rfl (gv_c rfl) (by omega) (by omega)) (gv_var rfl rfl).s fun M' u w ⟨z, _, pu⟩ pw => fun H mh Q q => gv_lt (σ := []) (M := M') (ta := tC u) (tb := tC w) (gv_c pu) (gv_c pw) H mh Q fun v M' H' g r => q v M' H' g ⟨_, r⟩) fun M v ⟨b, e⟩ => ⟨b, e, trivial⟩).gv
      fun M' vs p ⟨xs, ys, e, hs, hpd⟩ mp => ⟨ys, by rw [e] at hs; exact hs, p, vs, rfl, upd_same, hpd.mono (same_new mp)⟩) fun v6 M6 H6 g6 a6 ⟨ss, hss, r6⟩ => a_nil ⟨by show 2 ≤ sizeLine; decide, fun p6 np6 => ?_⟩)
    have nD6 := a6.fresh np6
    have G6 := (G3.trans (lift G3.mh a3 g4)).trans g6
    have up6 := same_new (o := .tup [v4, v6]) (G6.mh.free (a6.cutn np6))
    refine q _ (upd M6 p6 (.tup [v4, v6])) _ (by rw [cut_upd nD6]; exact G6.trans (.new G6.mh (a6.cutn np6))) (a6.upd nD6) ⟨(ns, ss), ⟨nm, hnl, hss⟩, p6, v4, v6, rfl, .inl (.inl upd_same), Mon.mono (g6.mm.trans up6) p4, Mon.mono up6 r6⟩
end
end My

set_option Elab.async false
set_option linter.all false
set_option maxRecDepth 100000
set_option maxHeartbeats 4000000
namespace My
open PySem PySem.Spec PyProof.Rows L2 L3
/-! full settings -/
def Side (n l : Str) : Prop := l = n ∨ l = ("-" : Str) ++ n
theorem fulls_paired {ns s : List Str} (h : s ∈ fulls ns) : Paired Side ns s := by
  have go : ∀ (ns : List Str) (acc : List (List Str)) (done : List Str), (∀ s ∈ acc, Paired Side done s) → ∀ s ∈ ns.foldl fullP acc, Paired Side (done ++ ns) s := by
    intro ns
    induction ns with
    | nil => intro acc done h s hs; rw [List.append_nil]; exact h s hs
    | cons n ns ih =>
      intro acc done h s hs
      rw [List.foldl_cons] at hs
      have := ih (fullP acc n) (done ++ [n]) (fun z hz => by
        obtain ⟨y, hy, hz⟩ := List.mem_flatMap.mp hz
        obtain ⟨l, hl, rfl⟩ := List.mem_map.mp hz
        exact pd_app (h y hy) (.cons (by show l = _ ∨ l = _; simpa using hl) .nil)) s hs
      rwa [List.append_assoc] at this
  exact go ns [[]] [] (fun s hs => by rw [List.mem_singleton.mp hs]; exact .nil) s h
theorem fulls_nodup {ns : List Str} (hn : ∀ n ∈ ns, isNm n = true) : (fulls ns).Nodup := by
  have go : ∀ (ns : List Str) (acc : List (List Str)), (∀ n ∈ ns, isNm n = true) → acc.Nodup → (ns.foldl fullP acc).Nodup := by
    intro ns
    induction ns with
    | nil => intro acc _ h; exact h
    | cons n ns ih =>
      intro acc hn h
      rw [List.foldl_cons]
      refine ih _ (fun m hm => hn m (List.mem_cons_of_mem _ hm)) ?_
      have hne := neg_ne (m := n) (hn n (List.mem_cons_self ..))
      unfold fullP
      induction acc with
      | nil => exact List.nodup_nil
      | cons a acc ih2 =>
        obtain ⟨h1, h2⟩ := List.nodup_cons.mp h
        rw [List.flatMap_cons, List.nodup_append]
        refine ⟨by simp [hne], ih2 h2, fun x hx y hy e => ?_⟩
        subst e
        obtain ⟨b, hb, hy⟩ := List.mem_flatMap.mp hy
        obtain ⟨l, _, e1⟩ := List.mem_map.mp hx
        obtain ⟨l', _, e2⟩ := List.mem_map.mp hy
        have := List.append_inj_left' (e1.trans e2.symm) rfl
        rw [this] at h1
        exact h1 hb
  exact go ns [[]] hn (by simp)
/-- what a setting says of each name -/
theorem side_name {n l : Str} (hn : isNm n = true) (h : Side n l) : nameOf l = n := by
  rcases h with e | e
  · rw [e, nameOf_nm hn]
  · rw [e, nameOf_neg hn]
theorem paired_side {ns s : List Str} (hn : ∀ n ∈ ns, isNm n = true) (h : Paired Side ns s) : s.map nameOf = ns := by
  induction h with
  | nil => rfl
  | cons r t ih =>
    rw [List.map_cons, side_name (hn _ (List.mem_cons_self ..)) r, ih fun m hm => hn m (List.mem_cons_of_mem _ hm)]
theorem side_lits {ns s : List Str} (nm : NmL ns) (h : Paired Side ns s) : Lits ns s := by
  refine ⟨by rw [paired_side nm.nm h]; exact nm.nd, ?_⟩
  have : ∀ {ms s : List Str}, Paired Side ms s → ∀ y ∈ s, ∃ n ∈ ms, y = n ∨ y = ("-" : Str) ++ n := by
    intro ms s h
    induction h with
    | nil => intro y hy; cases hy
    | cons r t ih =>
      intro y hy
      rcases List.mem_cons.mp hy with rfl | hy
      · exact ⟨_, List.mem_cons_self .., r⟩
      · obtain ⟨n, h1, h2⟩ := ih y hy
        exact ⟨n, List.mem_cons_of_mem _ h1, h2⟩
  exact this h
/-- one side of each name -/
theorem paired_mem {ns s : List Str} (h : Paired Side ns s) {n : Str} (hn : n ∈ ns) : n ∈ s ∨ ("-" : Str) ++ n ∈ s := by
  induction h with
  | nil => cases hn
  | cons r t ih =>
    rcases List.mem_cons.mp hn with e | hn
    · subst e
      rcases r with e | e
      · exact .inl (by rw [e]; exact List.mem_cons_self ..)
      · exact .inr (by rw [e]; exact List.mem_cons_self ..)
    · rcases ih hn with h | h
      · exact .inl (List.mem_cons_of_mem _ h)
      · exact .inr (List.mem_cons_of_mem _ h)
theorem lits_one {ns s : List Str} (nm : NmL ns) (h : Lits ns s) {n : Str} (hn : n ∈ ns) : ¬ (n ∈ s ∧ ("-" : Str) ++ n ∈ s) := fun ⟨a, b⟩ => by
  have hm := nm.nm n hn
  exact neg_ne hm (nodup_inj h.nd _ a _ b (by rw [nameOf_nm hm, nameOf_neg hm]))
theorem full_opp {ns s : List Str} (nm : NmL ns) (h : Paired Side ns s) {x : Str} (hx : ∃ n ∈ ns, x = n ∨ x = ("-" : Str) ++ n) : opp x ∈ s ↔ x ∉ s := by
  obtain ⟨n, hn, e⟩ := hx
  have hm := nm.nm n hn
  have one := lits_one nm (side_lits nm h) hn
  have two := paired_mem h hn
  rcases e with e | e
  · rw [e, opp_nm hm]
    exact ⟨fun a b => one ⟨b, a⟩, fun a => two.resolve_left a⟩
  · rw [e, opp_neg hm]
    exact ⟨fun a b => one ⟨a, b⟩, fun a => two.resolve_right a⟩
/-- literals in their order stay -/
theorem asc_paired {ns s : List Str} (nm : NmL ns) (h : Paired Side ns s) : asc s ns = s := by
  have L := side_lits nm h
  have go : ∀ {ms t : List Str}, Paired Side ms t → (∀ m ∈ ms, m ∈ ns) → (∀ x ∈ t, x ∈ s) → asc s ms = t := by
    intro ms t h
    induction h with
    | nil => intro _ _; rfl
    | @cons m l ms t r _ ih =>
      intro hm ht
      have ih := ih (fun z hz => hm z (List.mem_cons_of_mem _ hz)) fun z hz => ht z (List.mem_cons_of_mem _ hz)
      have hl := ht l (List.mem_cons_self ..)
      have one := lits_one nm L (hm m (List.mem_cons_self ..))
      show ((m :: ms).flatMap fun n => [n, ("-" : Str) ++ n].filter fun l => decide (l ∈ s)) = _
      rw [List.flatMap_cons]
      have e : ([m, ("-" : Str) ++ m].filter fun l => decide (l ∈ s)) = [l] := by
        rcases r with e | e
        · subst e
          have : ¬ ("-" : Str) ++ l ∈ s := fun b => one ⟨hl, b⟩
          simp [hl, this]
        · subst e
          have : ¬ m ∈ s := fun b => one ⟨b, hl⟩
          simp [hl, this]
      rw [e]
      exact congrArg (l :: ·) ih
  exact go h (fun _ h => h) fun _ h => h
theorem sub_filter {α : Type} [DecidableEq α] : ∀ {xs ys : List α}, ys.Sublist xs → xs.Nodup → (xs.filter fun x => decide (x ∈ ys)) = ys
  | _, _, .slnil, _ => rfl
  | _, ys, .cons a (l₂ := xs) h, nd => by
    obtain ⟨h1, h2⟩ := List.nodup_cons.mp nd
    have : a ∉ ys := fun z => h1 (h.subset z)
    rw [List.filter_cons, if_neg (by simpa using this)]
    exact sub_filter h h2
  | _, _, .cons₂ a (l₁ := ys) (l₂ := xs) h, nd => by
    obtain ⟨h1, h2⟩ := List.nodup_cons.mp nd
    rw [List.filter_cons, if_pos (by simp)]
    congr 1
    rw [← sub_filter h h2]
    refine List.filter_congr fun x hx => ?_
    have : x ≠ a := fun e => h1 (e ▸ hx)
    have e2 := sub_filter h h2
    simp [this, e2]
/-! half-filled settings -/
structure HalfOk (ns : List Str) (p : List Str × Nat) : Prop where
  le : p.2 ≤ ns.length
  nm : ∀ x ∈ p.1, ∃ a, a < p.2 ∧ Side (ns.getD a "") x
  nd : (p.1.map nameOf).Nodup
theorem half_next {ns : List Str} (nm : NmL ns) {lv : List (List Str × Nat)} (h : ∀ p ∈ lv, HalfOk ns p) : ∀ p ∈ nextH ns lv, HalfOk ns p := fun q hq => by
  obtain ⟨p, hp, hq⟩ := List.mem_flatMap.mp hq
  obtain ⟨a, l, h1, h2, h3, rfl⟩ := mem_stepH hq
  have hok := h p hp
  have han := nm.nm _ (List.mem_of_getElem? (getD_at h2))
  refine ⟨h2, fun x hx => ?_, ?_⟩
  · rcases List.mem_append.mp hx with hx | hx
    · obtain ⟨b, hb, hs⟩ := hok.nm x hx
      exact ⟨b, by show b < a + 1; omega, hs⟩
    · rw [List.mem_singleton.mp hx]
      exact ⟨a, Nat.lt_succ_self a, h3⟩
  · show ((p.1 ++ [l]).map nameOf).Nodup
    rw [List.map_append, List.nodup_append]
    refine ⟨hok.nd, by simp, fun x hx y hy e => ?_⟩
    have hy' : y = nameOf l := by simpa using hy
    rw [hy', side_name han h3] at e
    obtain ⟨z, hz, rfl⟩ := List.mem_map.mp hx
    obtain ⟨b, hb, hs⟩ := hok.nm z hz
    have hbn : b < ns.length := by omega
    rw [side_name (nm.nm _ (List.mem_of_getElem? (getD_at hbn))) hs] at e
    have i1 := List.getElem?_eq_some_iff.mp (getD_at hbn)
    have i2 := List.getElem?_eq_some_iff.mp (getD_at h2)
    have := (List.getElem_inj nm.nd).mp (i1.2.trans (e.trans i2.2.symm))
    omega
theorem HalfOk.lits {ns : List Str} {p : List Str × Nat} (nm : NmL ns) (h : HalfOk ns p) : Lits ns p.1 :=
  ⟨h.nd, fun x hx => let ⟨a, ha, hs⟩ := h.nm x hx; ⟨_, List.mem_of_getElem? (getD_at (show a < ns.length by have := h.le; omega)), hs⟩⟩
theorem halves_lits {ns : List Str} (nm : NmL ns) : ∀ c ∈ halves ns, Lits ns c := by
  have go : ∀ (m : Nat) (lv : List (List Str × Nat)) (found : List (List Str)), (∀ p ∈ lv, HalfOk ns p) → (∀ c ∈ found, Lits ns c) → ∀ c ∈ halfGo ns m lv found, Lits ns c := by
    intro m
    induction m with
    | zero => intro lv found _ hf; exact hf
    | succ m ih =>
      intro lv found hl hf
      have hn := half_next nm hl
      refine ih _ _ hn fun c hc => ?_
      rcases List.mem_append.mp hc with hc | hc
      · exact hf c hc
      · obtain ⟨p, hp, rfl⟩ := List.mem_map.mp hc
        exact (hn p hp).lits nm
  refine go _ _ _ (fun p hp => ?_) fun c hc => ?_
  · rw [List.mem_singleton.mp hp]
    exact ⟨Nat.zero_le _, fun x hx => (List.not_mem_nil hx).elim, List.nodup_nil⟩
  · rw [List.mem_singleton.mp hc]
    exact ⟨List.nodup_nil, fun x hx => (List.not_mem_nil hx).elim⟩
/-- found is not lost -/
theorem halfGo_sub (ns : List Str) : ∀ (m : Nat) (lv : List (List Str × Nat)) (found : List (List Str)), ∀ c ∈ found, c ∈ halfGo ns m lv found
  | 0, _, _, _, h => h
  | m + 1, lv, found, c, h => halfGo_sub ns m _ _ c (List.mem_append_left _ h)
/-- the first literal of an ascending list: its place, and what is behind it -/
theorem asc_split {d : List Str} {ns : List Str} (one : ∀ n ∈ ns, ¬ (n ∈ d ∧ ("-" : Str) ++ n ∈ d)) : ∀ (k st : Nat), st + k = ns.length → ∀ {l : Str} {t : List Str}, asc d (ns.drop st) = l :: t → ∃ a, st ≤ a ∧ a < ns.length ∧ Side (ns.getD a "") l ∧ asc d (ns.drop (a + 1)) = t
  | 0, st, e, l, t, h => by
    rw [List.drop_of_length_le (by omega)] at h
    cases h
  | k + 1, st, e, l, t, h => by
    have hst : st < ns.length := by omega
    have hd : ns.drop st = ns.getD st "" :: ns.drop (st + 1) := by
      rw [List.drop_eq_getElem_cons hst]
      congr 1
      rw [List.getD_eq_getElem?_getD, List.getElem?_eq_getElem hst]
      rfl
    have hm := List.mem_of_getElem? (getD_at hst)
    have on := one _ hm
    rw [hd] at h
    have h' : ([ns.getD st "", ("-" : Str) ++ ns.getD st ""].filter fun l => decide (l ∈ d)) ++ asc d (ns.drop (st + 1)) = l :: t := h
    by_cases h1 : ns.getD st "" ∈ d
    · have h2 : ¬ ("-" : Str) ++ ns.getD st "" ∈ d := fun b => on ⟨h1, b⟩
      have e1 : ([ns.getD st "", ("-" : Str) ++ ns.getD st ""].filter fun l => decide (l ∈ d)) = [ns.getD st ""] := by
        rw [List.filter_cons, if_pos (by simpa using h1), List.filter_cons, if_neg (by simpa using h2)]; rfl
      rw [e1] at h'
      have h' := List.cons.inj h'
      exact ⟨st, Nat.le_refl _, hst, .inl h'.1.symm, h'.2⟩
    · by_cases h2 : ("-" : Str) ++ ns.getD st "" ∈ d
      · have e1 : ([ns.getD st "", ("-" : Str) ++ ns.getD st ""].filter fun l => decide (l ∈ d)) = [("-" : Str) ++ ns.getD st ""] := by
          rw [List.filter_cons, if_neg (by simpa using h1), List.filter_cons, if_pos (by simpa using h2)]; rfl
        rw [e1] at h'
        have h' := List.cons.inj h'
        exact ⟨st, Nat.le_refl _, hst, .inr h'.1.symm, h'.2⟩
      · have e1 : ([ns.getD st "", ("-" : Str) ++ ns.getD st ""].filter fun l => decide (l ∈ d)) = [] := by
          rw [List.filter_cons, if_neg (by simpa using h1), List.filter_cons, if_neg (by simpa using h2)]; rfl
        rw [e1] at h'
        obtain ⟨a, h3, h4⟩ := asc_split one k (st + 1) (by omega) h'
        exact ⟨a, by omega, h4⟩
/-- every set of literals without both sides of a name is met -/
theorem halves_all {ns d : List Str} (one : ∀ n ∈ ns, ¬ (n ∈ d ∧ ("-" : Str) ++ n ∈ d)) : asc d ns ∈ halves ns := by
  have go : ∀ (t : List Str) (m : Nat) (lv : List (List Str × Nat)) (found : List (List Str)) (s : List Str) (st : Nat), (s, st) ∈ lv → s ∈ found → st ≤ ns.length → ns.length ≤ st + m → asc d (ns.drop st) = t → s ++ t ∈ halfGo ns m lv found := by
    intro t
    induction t with
    | nil =>
      intro m lv found s st _ hf _ _ _
      rw [List.append_nil]
      exact halfGo_sub ns m lv found s hf
    | cons l t ih =>
      intro m lv found s st hl hf hst hm ht
      obtain ⟨a, h1, h2, h3, h4⟩ := asc_split one (ns.length - st) st (by omega) ht
      cases m with
      | zero => omega
      | succ m =>
        have hq : (s ++ [l], a + 1) ∈ nextH ns lv := by
          refine List.mem_flatMap.mpr ⟨(s, st), hl, List.mem_flatMap.mpr ⟨a, List.mem_range'_1.mpr ⟨h1, ?_⟩, List.mem_map.mpr ⟨l, ?_, rfl⟩⟩⟩
          · show a < st + (ns.length - st); omega
          · rcases h3 with e | e
            · rw [e]; simp
            · rw [e]; simp
        have := ih m (nextH ns lv) (found ++ (nextH ns lv).map (·.1)) (s ++ [l]) (a + 1) hq (List.mem_append_right _ (List.mem_map.mpr ⟨_, hq, rfl⟩)) h2 (by omega) h4
        rw [List.append_assoc] at this
        exact this
  exact go (asc d ns) ns.length [([], 0)] [[]] [] 0 (by simp) (by simp) (Nat.zero_le _) (by omega) rfl
/-! shortest consequences -/
theorem liesIn_iff {p c : List Str} : liesIn p c = true ↔ ∀ l ∈ p, l ∈ c := by unfold liesIn; simp
theorem isCons_iff {c : List Str} {ss : List (List Str)} : isCons c ss = true ↔ ∀ s ∈ ss, ∃ l ∈ c, l ∈ s := by unfold isCons meets; simp
theorem short_ok (ss xs : List (List Str)) : (∀ c ∈ xs.foldl (shortP ss) [], isCons c ss = true) ∧ ∀ c ∈ xs, isCons c ss = true → ∃ o ∈ xs.foldl (shortP ss) [], liesIn o c = true := by
  have go : ∀ (xs acc : List (List Str)), (∀ c ∈ acc, isCons c ss = true) → (∀ c ∈ xs.foldl (shortP ss) acc, isCons c ss = true) ∧ (∀ c ∈ acc, c ∈ xs.foldl (shortP ss) acc) ∧ ∀ c ∈ xs, isCons c ss = true → ∃ o ∈ xs.foldl (shortP ss) acc, liesIn o c = true := by
    intro xs
    induction xs with
    | nil => intro acc h; exact ⟨h, fun _ h => h, fun c hc => by cases hc⟩
    | cons x xs ih =>
      intro acc h
      rw [List.foldl_cons]
      have hs : ∀ c ∈ shortP ss acc x, isCons c ss = true := fun c hc => by
        unfold shortP at hc
        split at hc
        · rename_i hb
          rcases List.mem_append.mp hc with hc | hc
          · exact h c hc
          · rw [List.mem_singleton.mp hc]
            simp only [Bool.and_eq_true] at hb
            exact hb.2
        · exact h c hc
      have hk : ∀ c ∈ acc, c ∈ shortP ss acc x := fun c hc => by
        unfold shortP
        split
        · exact List.mem_append_left _ hc
        · exact hc
      obtain ⟨h1, h2, h3⟩ := ih (shortP ss acc x) hs
      refine ⟨h1, fun c hc => h2 c (hk c hc), fun c hc hcs => ?_⟩
      rcases List.mem_cons.mp hc with e | hc
      · subst e
        by_cases ha : (acc.any fun o => liesIn o c) = true
        · obtain ⟨o, ho, hl⟩ := List.any_eq_true.mp ha
          exact ⟨o, h2 o (hk o ho), hl⟩
        · refine ⟨c, h2 c ?_, liesIn_iff.mpr fun _ h => h⟩
          unfold shortP
          rw [if_pos (by simp only [Bool.and_eq_true]; exact ⟨by simpa using ha, hcs⟩)]
          simp
      · exact h3 c hc hcs
  have := go xs [] (fun c hc => by cases hc)
  exact ⟨this.1, this.2.2⟩
theorem short_any {ns : List Str} {ss : List (List Str)} {d : List Str} (hd : ∀ s ∈ ss, ∀ l ∈ s, l ∈ d → ∃ n ∈ ns, Side n l) (one : ∀ n ∈ ns, ¬ (n ∈ d ∧ ("-" : Str) ++ n ∈ d)) : ((shortestL ns ss).any fun c => liesIn c d) = isCons d ss := by
  obtain ⟨h1, h2⟩ := short_ok ss (halves ns)
  rw [Bool.eq_iff_iff]
  constructor
  · intro h
    obtain ⟨c, hc, hl⟩ := List.any_eq_true.mp h
    have := isCons_iff.mp (h1 c hc)
    refine isCons_iff.mpr fun s hs => ?_
    obtain ⟨l, hl1, hl2⟩ := this s hs
    exact ⟨l, liesIn_iff.mp hl l hl1, hl2⟩
  · intro h
    have h' := isCons_iff.mp h
    have hcs : isCons (asc d ns) ss = true := isCons_iff.mpr fun s hs => by
      obtain ⟨l, hl1, hl2⟩ := h' s hs
      obtain ⟨n, hn, e⟩ := hd s hs l hl2 hl1
      exact ⟨l, mem_asc.mpr ⟨n, hn, e, hl1⟩, hl2⟩
    obtain ⟨o, ho, hl⟩ := h2 _ (halves_all one) hcs
    refine List.any_eq_true.mpr ⟨o, ho, liesIn_iff.mpr fun l hl' => ?_⟩
    exact (mem_asc.mp (liesIn_iff.mp hl l hl')).choose_spec.2.2
/-! what is forced -/
structure Set_ (ns : List Str) (ss : List (List Str)) (h : List Str) : Prop where
  nm : NmL ns
  s : ∀ s ∈ ss, Paired Side ns s
  h : Lits ns h
theorem opp_side {ns : List Str} (nm : NmL ns) {x : Str} (hx : ∃ n ∈ ns, x = n ∨ x = ("-" : Str) ++ n) : opp (opp x) = x ∧ opp x ≠ x ∧ ∃ n ∈ ns, opp x = n ∨ opp x = ("-" : Str) ++ n := by
  obtain ⟨n, hn, e⟩ := hx
  have hm := nm.nm n hn
  rcases e with e | e
  · subst e
    rw [opp_nm hm, opp_neg hm]
    exact ⟨rfl, fun e => neg_ne hm e.symm, x, hn, .inr rfl⟩
  · subst e
    rw [opp_neg hm, opp_nm hm]
    exact ⟨rfl, fun e => neg_ne hm e, n, hn, .inl rfl⟩
theorem mem_opp {ns h : List Str} (nm : NmL ns) (L : Lits ns h) {x : Str} (hx : ∃ n ∈ ns, x = n ∨ x = ("-" : Str) ++ n) : x ∈ h.map opp ↔ opp x ∈ h := by
  rw [List.mem_map]
  constructor
  · rintro ⟨y, hy, e⟩
    rw [← e, (opp_side nm (L.of y hy)).1]; exact hy
  · intro h
    exact ⟨opp x, h, (opp_side nm hx).1⟩
theorem fits_iff {ss : List (List Str)} {h s : List Str} : s ∈ fits ss h ↔ s ∈ ss ∧ ∀ l ∈ h, l ∈ s := by unfold fits; rw [List.mem_filter, liesIn_iff]
end My

set_option Elab.async false
set_option linter.all false
set_option maxRecDepth 100000
set_option maxHeartbeats 8000000
namespace My
open PySem PySem.Spec PyProof.Rows L2 L3
open L3.Strm
/-! sizes -/
def wH (n : Nat) (lv : List (List Str × Nat)) : Nat := (lv.map fun p => 3 ^ (n - p.2)).sum
theorem wH_app (n : Nat) (a b : List (List Str × Nat)) : wH n (a ++ b) = wH n a + wH n b := by unfold wH; rw [List.map_append, List.sum_append]
theorem wH_ge (n : Nat) : ∀ lv : List (List Str × Nat), lv.length ≤ wH n lv
  | [] => Nat.le_refl _
  | p :: r => by
    have h1 : 1 ≤ 3 ^ (n - p.2) := Nat.one_le_pow _ _ (by decide)
    have h2 := wH_ge n r
    unfold wH at h2 ⊢
    rw [List.length_cons, List.map_cons, List.sum_cons]
    omega
theorem wH_step (ns : List Str) (p : List Str × Nat) : wH ns.length (stepH ns p) + 1 = 3 ^ (ns.length - p.2) := by
  have go : ∀ (k s : Nat), s + k = ns.length → wH ns.length ((List.range' s k).flatMap fun a => [ns.getD a "", ("-" : Str) ++ ns.getD a ""].map fun l => (p.1 ++ [l], a + 1)) + 1 = 3 ^ k := by
    intro k
    induction k with
    | zero => intro s _; rfl
    | succ k ih =>
      intro s e
      rw [List.range'_succ, List.flatMap_cons, wH_app]
      have h1 := ih (s + 1) (by omega)
      have h2 : wH ns.length ([ns.getD s "", ("-" : Str) ++ ns.getD s ""].map fun l => (p.1 ++ [l], s + 1)) = 3 ^ k + 3 ^ k := by
        show 3 ^ (ns.length - (s + 1)) + (3 ^ (ns.length - (s + 1)) + 0) = _
        rw [show ns.length - (s + 1) = k by omega]
        omega
      rw [h2, Nat.pow_succ]
      omega
  by_cases h : p.2 ≤ ns.length
  · exact go (ns.length - p.2) p.2 (by omega)
  · have e : ns.length - p.2 = 0 := by omega
    unfold stepH
    rw [e]
    rfl
theorem wH_next (ns : List Str) : ∀ lv : List (List Str × Nat), wH ns.length (nextH ns lv) + lv.length = wH ns.length lv
  | [] => rfl
  | p :: r => by
    have h1 := wH_step ns p
    have h2 := wH_next ns r
    have e : nextH ns (p :: r) = stepH ns p ++ nextH ns r := rfl
    rw [e, wH_app, List.length_cons]
    have e2 : wH ns.length (p :: r) = 3 ^ (ns.length - p.2) + wH ns.length r := by unfold wH; rw [List.map_cons, List.sum_cons]
    omega
theorem halves_few (ns : List Str) : (halves ns).length ≤ 3 ^ ns.length := by
  have go : ∀ (m : Nat) (lv : List (List Str × Nat)) (found : List (List Str)), found.length + wH ns.length lv = 3 ^ ns.length + lv.length → (halfGo ns m lv found).length ≤ 3 ^ ns.length := by
    intro m
    induction m with
    | zero =>
      intro lv found h
      have := wH_ge ns.length lv
      show found.length ≤ _
      omega
    | succ m ih =>
      intro lv found h
      refine ih _ _ ?_
      have := wH_next ns lv
      rw [List.length_append, List.length_map]
      omega
  refine go _ _ _ ?_
  show 1 + (3 ^ (ns.length - 0) + 0) = _
  rw [Nat.sub_zero]
  show 1 + (3 ^ ns.length + 0) = 3 ^ ns.length + 1
  omega
def FitD (d : PyData) : Prop := d.showable = true ∧ d.depth ≤ 64 ∧ d.shown.length ≤ sizeLine
theorem gv_repr {K : PySem.W.Frag} {σ : Sl} {M : Hp} {te : TE} {d : PyData} (h : Gv te σ M (Dd K d)) (h1 : d.showable = true) (h2 : d.depth ≤ 64) (h3 : d.shown.length ≤ sizeLine) : Gv (tCB (rRepr K) (tCons te tNil)) σ M (Tx d.shown) := gv_cb1 h fun M' v hv H mh Q q => ⟨v, d, rfl, dp_mono mh hv, h1, h2, h3, q _ M' H (.refl mh) rfl⟩
section
variable {P : Program} {w : World} {K : PySem.W.Frag} {mg : Str → Option Value} {base : Heap}
abbrev s__law_same : Stmt := topS 60
theorem sc__law_same : FnScope ["_law_found", "_law_due"] ["_law_found", "_law_due"] (defScope s__law_same) := ⟨rfl, rfl, rfl, by decide +kernel, rfl, by decide +kernel, by decide +kernel⟩
def sp__law_same (K : PySem.W.Frag) : Sp := sp2 (Dd K) (Dd K) (fun d e => FitD d ∧ FitD e) fun d e => Bl (decide (d.shown = e.shown))
theorem ok__law_same {f : Addr} {fd : FuncData} (F : Fun K "_law_same" "_law_same" s__law_same f fd) (T : Gc mg) : FnG P w K mg base CX0 1 f fd ["_law_found", "_law_due"] (sp__law_same K) := by
  refine fun_okG F sc__law_same (fun vs H Q E h => ?_) (fun cdv A outer s H vs Q E hgu hr h => ?_)
  · obtain ⟨x, y, M, v, w, rfl, _⟩ := h
    rfl
  · obtain ⟨d, e, M, v, w, rfl, mh, r1, r2, ⟨⟨h1, h2, h3⟩, h4, h5, h6⟩, q⟩ := h
    have hu := hr.units
    have hgu : (A.deeper (envOfC "_law_same" (defScope s__law_same) s.heap.objs.size f cdv)).guards = some [] := hgu
    have hu7 : (A.deeper (envOfC "_law_same" (defScope s__law_same) s.heap.objs.size f cdv)).units + 70 < cLine := by have := hr.un; omega
    refine ⟨_, (pss_one (ps_ret (pe_cmpR (op_eqP hu) (pe_callB (call_repr hgu hu7) (by rfl) T.repr boot_repr (pa_cons (pv 0) pa_nil)) (pe_callB (call_repr hgu hu7) (by rfl) T.repr boot_repr (pa_cons (pv 1) pa_nil)) (nomark _)))), ?_⟩
    exact s_ret mh (gv_is (gv_eqT (K := K) (neg := false) py_str inj_str (gv_repr (K := K) (gv_var rfl r1) h1 h2 h3) (gv_repr (K := K) (gv_var rfl r2) h4 h5 h6) (by simp [PyData.depth])) fun M v h => by simpa using h) q
end
end My

set_option Elab.async false
set_option linter.all false
set_option maxRecDepth 100000
set_option maxHeartbeats 4000000
namespace My
open PySem PySem.Spec PyProof.Rows L2 L3
/-! full settings that fit all clauses -/
def Fits (cs : List (List Str)) (s : List Str) : Prop := ∀ c ∈ cs, ∃ l ∈ c, l ∈ s
def Sat (ns : List Str) (cs : List (List Str)) (hs : List Str) : Prop := ∃ s, Paired Side ns s ∧ (∀ x ∈ hs, x ∈ s) ∧ Fits cs s
/-- the names that are open -/
def opn (ns hs : List Str) : List Str := ns.filter fun n => decide (n ∉ hs) && decide (("-" : Str) ++ n ∉ hs)
theorem mem_opn {ns hs : List Str} {n : Str} : n ∈ opn ns hs ↔ n ∈ ns ∧ n ∉ hs ∧ ("-" : Str) ++ n ∉ hs := by unfold opn; rw [List.mem_filter]; simp
section
variable {ns : List Str} {cs : List (List Str)} {hs so s : List Str}
theorem fit_der (X : Ctx ns cs hs) (p : Paired Side ns s) (hsub : ∀ x ∈ hs, x ∈ s) (hf : Fits cs s) {x : Str} (h : Der cs hs x) : x ∈ s := by
  induction h with
  | base h => exact hsub _ h
  | @step c l hc hl _ ih =>
    obtain ⟨m, hm, hms⟩ := hf c hc
    by_cases e : m = l
    · rw [← e]; exact hms
    · exact absurd hms ((full_opp X.nm p ((X.c c hc).of m hm)).mp (ih m hm e))
theorem dead_unsat (X : Ctx ns cs hs) (h : Dead cs hs) : ¬ Sat ns cs hs := fun ⟨s, p, hsub, hf⟩ => by
  obtain ⟨c, hc, hd⟩ := h
  obtain ⟨m, hm, hms⟩ := hf c hc
  exact (full_opp X.nm p ((X.c c hc).of m hm)).mp (fit_der X p hsub hf (hd m hm)) hms
theorem sat_so (X : Ctx ns cs hs) (h : EndsOk ns cs hs (some so)) : Sat ns cs hs ↔ Sat ns cs so := by
  obtain ⟨_, h2, h3⟩ := h
  constructor
  · rintro ⟨s, p, hsub, hf⟩
    exact ⟨s, p, fun x hx => fit_der X p hsub hf ((h2 x).mp hx), hf⟩
  · rintro ⟨s, p, hsub, hf⟩
    exact ⟨s, p, fun x hx => hsub x (h3.sub x hx), hf⟩
theorem so_lits (nm : NmL ns) (h : So ns cs hs so) : Lits ns so := by
  refine ⟨?_, fun x hx => h.lit x hx⟩
  rw [List.Nodup, List.pairwise_map]
  refine List.Pairwise.imp_of_mem (fun {a b} ha hb hab e => ?_) h.nd
  obtain ⟨n, hn, e1⟩ := h.lit a ha
  obtain ⟨m, hm, e2⟩ := h.lit b hb
  have k1 := nm.nm n hn
  have k2 := nm.nm m hm
  rw [side_name k1 e1, side_name k2 e2] at e
  subst e
  rcases e1 with e1 | e1 <;> rcases e2 with e2 | e2
  · exact hab (e1.trans e2.symm)
  · refine h.con a ha ?_
    rw [e1, opp_nm k1, ← e2]; exact hb
  · refine h.con a ha ?_
    rw [e1, opp_neg k1, ← e2]; exact hb
  · exact hab (e1.trans e2.symm)
theorem asc_full (one : ∀ n ∈ ns, ¬ (n ∈ so ∧ ("-" : Str) ++ n ∈ so)) (all : opn ns so = []) : Paired Side ns (asc so ns) := by
  have go : ∀ ms : List Str, (∀ m ∈ ms, m ∈ ns) → Paired Side ms (asc so ms) := by
    intro ms
    induction ms with
    | nil => intro _; exact .nil
    | cons m ms ih =>
      intro hm
      have ih := ih fun z hz => hm z (List.mem_cons_of_mem _ hz)
      have hmn := hm m (List.mem_cons_self ..)
      have on := one m hmn
      have any : m ∈ so ∨ ("-" : Str) ++ m ∈ so := by
        apply Classical.byContradiction
        intro hc
        have : m ∈ opn ns so := mem_opn.mpr ⟨hmn, fun a => hc (.inl a), fun a => hc (.inr a)⟩
        rw [all] at this
        cases this
      show Paired Side (m :: ms) ((m :: ms).flatMap fun n => [n, ("-" : Str) ++ n].filter fun l => decide (l ∈ so))
      rw [List.flatMap_cons]
      rcases any with a | a
      · have b : ¬ ("-" : Str) ++ m ∈ so := fun b => on ⟨a, b⟩
        have e : ([m, ("-" : Str) ++ m].filter fun l => decide (l ∈ so)) = [m] := by
          rw [List.filter_cons, if_pos (by simpa using a), List.filter_cons, if_neg (by simpa using b)]; rfl
        rw [e]
        exact .cons (.inl rfl) ih
      · have b : ¬ m ∈ so := fun b => on ⟨b, a⟩
        have e : ([m, ("-" : Str) ++ m].filter fun l => decide (l ∈ so)) = [("-" : Str) ++ m] := by
          rw [List.filter_cons, if_neg (by simpa using b), List.filter_cons, if_pos (by simpa using a)]; rfl
        rw [e]
        exact .cons (.inr rfl) ih
  exact go ns fun _ h => h
/-- all names have a side, and no dead end: that is one -/
theorem sat_closed (X : Ctx ns cs hs) (h : EndsOk ns cs hs (some so)) (all : opn ns so = []) : Sat ns cs so := by
  obtain ⟨h1, h2, h3⟩ := h
  have L := so_lits X.nm h3
  have p := asc_full (fun n hn => lits_one X.nm L hn) all
  refine ⟨asc so ns, p, fun x hx => ?_, fun c hc => ?_⟩
  · obtain ⟨n, hn, e⟩ := h3.lit x hx
    exact mem_asc.mpr ⟨n, hn, e, hx⟩
  · apply Classical.byContradiction
    intro hcc
    refine h1 ⟨c, hc, fun m hm => ?_⟩
    have hmn : m ∉ asc so ns := fun z => hcc ⟨m, hm, z⟩
    have := (full_opp X.nm p ((X.c c hc).of m hm)).mpr hmn
    obtain ⟨_, _, _, hmem⟩ := mem_asc.mp this
    exact (h2 _).mp hmem
theorem sat_split {n : Str} (hn : n ∈ ns) : Sat ns cs so ↔ Sat ns cs (so ++ [n]) ∨ Sat ns cs (so ++ [("-" : Str) ++ n]) := by
  constructor
  · rintro ⟨s, p, hsub, hf⟩
    rcases paired_mem p hn with a | a
    · refine .inl ⟨s, p, fun x hx => ?_, hf⟩
      rcases List.mem_append.mp hx with hx | hx
      · exact hsub x hx
      · rw [List.mem_singleton.mp hx]; exact a
    · refine .inr ⟨s, p, fun x hx => ?_, hf⟩
      rcases List.mem_append.mp hx with hx | hx
      · exact hsub x hx
      · rw [List.mem_singleton.mp hx]; exact a
  · rintro (⟨s, p, hsub, hf⟩ | ⟨s, p, hsub, hf⟩)
    · exact ⟨s, p, fun x hx => hsub x (List.mem_append_left _ hx), hf⟩
    · exact ⟨s, p, fun x hx => hsub x (List.mem_append_left _ hx), hf⟩
theorem lits_put {n l : Str} (nm : NmL ns) (L : Lits ns so) (hn : n ∈ opn ns so) (e : Side n l) : Lits ns (so ++ [l]) := by
  obtain ⟨h1, h2, h3⟩ := mem_opn.mp hn
  have hm := nm.nm n h1
  refine ⟨?_, fun x hx => ?_⟩
  · rw [List.map_append, List.nodup_append]
    refine ⟨L.nd, by simp, fun a ha b hb e' => ?_⟩
    have hb : b = nameOf l := by simpa using hb
    rw [hb, side_name hm e] at e'
    obtain ⟨x, hx, rfl⟩ := List.mem_map.mp ha
    obtain ⟨m, hmm, em⟩ := L.of x hx
    rw [side_name (nm.nm m hmm) em] at e'
    subst e'
    rcases em with em | em
    · exact h2 (em ▸ hx)
    · exact h3 (em ▸ hx)
  · rcases List.mem_append.mp hx with hx | hx
    · exact L.of x hx
    · rw [List.mem_singleton.mp hx]; exact ⟨n, h1, e⟩
theorem opn_le (h : ∀ x ∈ hs, x ∈ so) : (opn ns so).length ≤ (opn ns hs).length := by
  unfold opn
  have : ∀ ms : List Str, (ms.filter fun n => decide (n ∉ so) && decide (("-" : Str) ++ n ∉ so)).length ≤ (ms.filter fun n => decide (n ∉ hs) && decide (("-" : Str) ++ n ∉ hs)).length := by
    intro ms
    induction ms with
    | nil => exact Nat.le_refl _
    | cons m ms ih =>
      rw [List.filter_cons, List.filter_cons]
      by_cases a : (decide (m ∉ so) && decide (("-" : Str) ++ m ∉ so)) = true
      · have b : (decide (m ∉ hs) && decide (("-" : Str) ++ m ∉ hs)) = true := by
          simp only [Bool.and_eq_true, decide_eq_true_eq] at a ⊢
          exact ⟨fun z => a.1 (h _ z), fun z => a.2 (h _ z)⟩
        rw [if_pos a, if_pos b, List.length_cons, List.length_cons]
        omega
      · rw [if_neg a]
        split
        · rw [List.length_cons]; omega
        · exact ih
  exact this ns
theorem opn_put {n l : Str} (nd : ns.Nodup) (hn : n ∈ opn ns so) (e : Side n l) : (opn ns (so ++ [l])).length + 1 ≤ (opn ns so).length := by
  have sub : (opn ns (so ++ [l])).length ≤ ((opn ns so).filter fun m => decide (m ≠ n)).length := by
    have go : ∀ ms : List Str, (opn ms (so ++ [l])).length ≤ ((opn ms so).filter fun m => decide (m ≠ n)).length := by
      intro ms
      unfold opn
      rw [List.filter_filter]
      induction ms with
      | nil => exact Nat.le_refl _
      | cons m ms ih =>
        rw [List.filter_cons, List.filter_cons]
        by_cases a : (decide (m ∉ so ++ [l]) && decide (("-" : Str) ++ m ∉ so ++ [l])) = true
        · have b : (decide (m ≠ n) && (decide (m ∉ so) && decide (("-" : Str) ++ m ∉ so))) = true := by
            simp only [Bool.and_eq_true, decide_eq_true_eq, List.mem_append, List.mem_singleton, not_or] at a ⊢
            refine ⟨fun em => ?_, a.1.1, a.2.1⟩
            subst em
            rcases e with e | e
            · exact a.1.2 e.symm
            · exact a.2.2 e.symm
          rw [if_pos a, if_pos b, List.length_cons, List.length_cons]
          omega
        · rw [if_neg a]
          split
          · rw [List.length_cons]; omega
          · exact ih
    exact go ns
  have one : ((opn ns so).filter fun m => decide (m ≠ n)).length + 1 ≤ (opn ns so).length := by
    have : ((opn ns so).filter fun m => decide (m ≠ n)).length < (opn ns so).length := by
      rw [List.length_filter_lt_length_iff_exists]
      exact ⟨n, hn, by simp⟩
    omega
  omega
theorem so_few (X : Ctx ns cs hs) (h : So ns cs hs so) : so.length ≤ ns.length := lits_len (so_lits X.nm h) X.nm
end
end My

set_option Elab.async false
set_option linter.all false
set_option maxRecDepth 100000
set_option maxHeartbeats 8000000
namespace My
open PySem PySem.Spec PyProof.Rows L2 L3
/-- whether some full setting goes with literals -/
noncomputable def satB (ns : List Str) (cs : List (List Str)) (hs : List Str) : Bool := @decide (Sat ns cs hs) (Classical.propDecidable _)
theorem satB_iff {ns : List Str} {cs : List (List Str)} {hs : List Str} : satB ns cs hs = true ↔ Sat ns cs hs := by unfold satB; simp
structure CodeX (c : CodeD) : Prop where
  nm : NmL c.names
  l : ∀ x ∈ c.clauses, Lits c.names x
  w : CodeW c
  n6 : c.names.length ≤ 6
theorem CodeX.sg {c : CodeD} (X : CodeX c) : NmL c.signs ∧ c.signs.length ≤ 6 := by
  have e : c.names.length = c.signs.length + c.helpers.length := List.length_append
  have := X.n6
  have nd := X.nm.nd
  refine ⟨⟨(List.nodup_append.mp nd).1, fun n hn => X.nm.nm n (List.mem_append_left _ hn), ?_⟩, by omega⟩
  have := X.nm.n
  omega
/-- codes that are asked in a level -/
structure CodeZ (c : CodeD) : Prop where
  nm : NmL c.names
  l : ∀ x ∈ c.clauses, Lits c.names x
  w : CodeW c
  s6 : c.signs.length ≤ 6
  n14 : c.names.length ≤ 14
theorem CodeX.z {c : CodeD} (X : CodeX c) : CodeZ c := ⟨X.nm, X.l, X.w, X.sg.2, Nat.le_trans X.n6 (by decide)⟩
theorem CodeZ.sg {c : CodeD} (X : CodeZ c) : NmL c.signs ∧ c.signs.length ≤ 6 := by
  have nd := X.nm.nd
  refine ⟨⟨(List.nodup_append.mp nd).1, fun n hn => X.nm.nm n (List.mem_append_left _ hn), ?_⟩, X.s6⟩
  have := X.s6
  omega
theorem CodeZ.x {c : CodeD} (X : CodeZ c) (h : c.names.length ≤ 6) : CodeX c := ⟨X.nm, X.l, X.w, h⟩
def ChW (cs : List (List Str)) : Prop := (∀ c ∈ cs, shortT c) ∧ cs.flatten.length ≤ 1000000 ∧ cs.length ≤ 1000000
theorem gv_starK {σ : Sl} {M : Hp} {te t1 : TE} {ks : List Str} {l : Str} (h1 : Gv te σ M (DcR ks)) (h2 : Gv t1 σ M (Tx l)) (hz : ks.length ≤ 1000000) : Gv (tLst (tStarK te (tCons t1 tNil))) σ M (LiR Tx (ks ++ [l])) := fun H mh Q q =>
  h1 H mh _ fun v M1 H1 g1 ⟨d, e, r⟩ => ⟨d, ks, e, rd_mono g1.mh r, h2.le g1.mm H1 g1.mh _ fun u M2 H2 g2 e2 => ⟨by rw [List.length_append, List.length_map]; exact szM (by simp only [List.length_cons, List.length_nil]; omega), fun p np => q _ _ _ ((g1.trans g2).trans (.new g2.mh np)) ⟨p, _, rfl, upd_same, by
    cases (show u = _ from e2)
    have := pd_of_tx (M := upd M2 p (.lst (ks.map V.str ++ [.str l]))) (ks ++ [l])
    rw [List.map_append] at this
    exact this⟩⟩⟩
theorem opD_non {o : Option (List Str)} {M : Hp} {v : V} (h : OpR' DcF o M v) : decide (v = .non) = o.isNone := by
  cases o with
  | none => cases (show v = .non from h); rfl
  | some ls => obtain ⟨a, _, e, _⟩ := (show DcF ls M v from h); subst e; rfl
/-- so, steps = chase(clauses, setting) -/
theorem q_chase {K : PySem.W.Frag} {σ : Sl} {M H : Hp} {ta tb : TE} {D : Ends} {tz : TS} {i j : Nat} {ns hs : List Str} {cs : List (List Str)} (mh : Same M H) (h1 : Gv ta σ M (SqR K (SqR K Tx) cs)) (h2 : Gv tb σ M (SqR K Tx hs)) (X : Ctx ns cs hs) (hw : ChW cs)
    (k : ∀ o u v M' H', Gr M H M' H' → EndsOk ns cs hs o → OpR' DcF o M' u → tz D ((σ.set i (some u)).set j (some v)) H') : tSeq (tAsg (tCall (sp_chase K) [] E0 (tCons ta (tCons tb tNil))) (gTup K 2 (gCons (gName i) (gCons (gName j) gNil)))) tz D σ H := by
  have hl : hs.length ≤ 1000000 := Nat.le_trans (lits_len X.h X.nm) (Nat.le_trans X.nm.n (by decide))
  refine q_asgC (a_V mh h1 fun v1 M1 H1 g1 r1 => a_V g1.mh (h2.le g1.mm) fun v2 M2 H2 g2 r2 => a_nil ⟨cs, hs, M2, v1, v2, rfl, g2.mh, Mon.mono g2.mm r1, r2, ⟨hw.1, hw.2.1, hw.2.2, hl⟩, ?_⟩)
  intro r t u p ws M4 H4 hch g4 hp0 hpm hpw hpd hru ht
  have G := (g1.trans g2).trans g4
  rw [once_self (lits_nodup X.h)] at hch
  exact ⟨t, [u, .ref p], rfl, .inl (.inl (G.mh _ _ ht)), rfl, u, _, rfl, .ref p, _, rfl, rfl, k r.1 u _ M4 H4 G (chase_ok X hch (.init X) .nil).1 hru⟩
section
variable {P : Program} {w : World} {K : PySem.W.Frag} {mg : Str → Option Value} {base : Heap}
abbrev s_filled : Stmt := topS 34
theorem sc_filled : FnScope ["clauses", "names", "setting", "left", "literal", "so", "steps", "found", "name"] ["clauses", "names", "setting"] (defScope s_filled) := ⟨rfl, rfl, rfl, by decide +kernel, rfl, by decide +kernel, by decide +kernel⟩
def FilR (ns : List Str) (cs : List (List Str)) (hs : List Str) : Pr := fun M v => ∃ o, OpR' TT o M v ∧ (o.isSome = true ↔ Sat ns cs hs)
def sp_filled (K : PySem.W.Frag) (t : Nat) : Sp := sp3 (SqR K (SqR K Tx)) (SqR K Tx) (SqR K Tx) (fun cs ns hs => Ctx ns cs hs ∧ ChW cs ∧ (opn ns hs).length < t) fun cs ns hs => FilR ns cs hs
theorem ok_filled0 {f : Addr} {fd : FuncData} : FnOk P w K mg base CX0 3 f fd ["clauses", "names", "setting"] (sp_filled K 0) :=
  ⟨fun vs H Q E ⟨x, y, z, M, v, w, u, e, _⟩ => by subst e; rfl, fun A outer s H args us vs Q E _ _ _ _ ⟨x, y, z, M, v, w, u, e, _, _, _, _, ⟨_, _, h⟩, _⟩ => absurd h (Nat.not_lt_zero _)⟩
theorem ok_filled {f : Addr} {fd : FuncData} {t : Nat} (F : Fun K "filled" "filled" s_filled f fd) (T : Gc mg) (c_chase : Cal P w K mg base 3 "chase" ["clauses", "setting"] (sp_chase K)) (c_ascending : Cal P w K mg base 1 "ascending" ["literals", "names"] (sp_ascending K))
    (c_filled : Cal P w K mg base (t + 3) "filled" ["clauses", "names", "setting"] (sp_filled K t)) : FnOk P w K mg base CX0 (t + 4) f fd ["clauses", "names", "setting"] (sp_filled K (t + 1)) := by
  refine F.ok sc_filled (fun vs H Q E h => ?_) (fun cdv A outer s H vs Q E hr h => ?_)
  · obtain ⟨x, y, z, M, v, w, u, rfl, _⟩ := h
    rfl
  · obtain ⟨cs, ns, hs, M, v, w, u, rfl, mh, r1, r2, r3, ⟨X, hw, ho⟩, q⟩ := h
    have hu := hr.units
    refine ⟨_, (pss_cons (ps_asg (pe_f c_chase (hr.mono (by omega)) (pa_cons (pv 0) (pa_cons (pv 2) pa_nil))) (pg_tup (by rfl) (pgs_cons (pg_name (i := 5) sc_filled.nd rfl (by first | exact .inl rfl | exact .inr rfl)) (pgs_cons (pg_name (i := 6) sc_filled.nd rfl (by first | exact .inl rfl | exact .inr rfl)) pgs_nil))))
      (pss_cons (ps_if (pt_cmp (pc_isN (pv 5))) (pss_one (ps_ret pe_non)) pss_nil)
      (pss_cons (ps_setLc (i := 3) (own := [("name", 8)]) (g := (gName 8)) (tt := (tAnd (tTest (tOp (rInA K true) (tVar 8) (tVar 5))) (tTest (tOp (rInA K true) (tOp (rAddA K) (tC (.str "-")) (tVar 8)) (tVar 5))))) (te := (tVar 8)) (by rfl) sc_filled.nd rfl rfl (sw_true rfl rfl rfl (by decide +kernel)) (pi_sq (pv 1)) (blkOk_by (by rfl)) (fun _ _ _ _ _ => (pg_name (i := 8) sc_filled.nd rfl (by first | exact .inl rfl | exact .inr rfl))) (fun _ _ _ _ _ => (pts_one (PW.pt (pw_and (pt_cmpR (op_niA hu) (pv 8) (pv 5) (by rfl)) (pw_and1 (pt_cmpR (op_niA hu) (pe_op op_addA pe_str (pv 8)) (pv 5) (by rfl))))))) (fun _ _ _ _ _ => (pv 8)))
      (pss_cons (ps_if (pt_cmpR (op_eqP hu) (pv 3) (pe_lst pa_nil) (nomark _)) (pss_one (ps_ret (pe_f c_ascending (hr.mono (by omega)) (pa_cons (pv 5) (pa_cons (pv 1) pa_nil))))) pss_nil)
      (pss_cons (ps_for PassesOwn.never (by rfl) (pi_sq (pe_tup (pa_cons (pe_ix ix_X (pv 3) pe_int (fun _ _ => rfl)) (pa_cons (pe_op op_addA pe_str (pe_ix ix_X (pv 3) pe_int (fun _ _ => rfl))) pa_nil)))) (pg_name (i := 4) sc_filled.nd rfl (by first | exact .inl rfl | exact .inr rfl)) (pss_cons (ps_set (i := 7) sc_filled.nd rfl (by first | exact .inl rfl | exact .inr rfl) (pe_f c_filled (hr.mono (by omega)) (pa_cons (pv 0) (pa_cons (pv 1) (pa_cons (pe_lst (pa_starK (by rfl) (pv 5) (pa_cons (pv 4) pa_nil))) pa_nil)))))
      (pss_one (ps_if (pt_cmp (pc_notN (pv 7))) (pss_one (ps_ret (pv 7))) pss_nil))))
      (pss_one (ps_ret pe_non))))))), ?_⟩
    have hsh := nm_shorts X.nm
    refine q_chase (ns := ns) mh (gv_var rfl r1) (gv_var rfl r3) X hw fun o u5 v6 M1 H1 g1 he ru => ?_
    refine q_if0 (b := o.isNone) g1.mh (gt_B (gv_isN (b := o.isNone) (gv_var (P := OpR' DcF o) rfl ru) fun M v h => opD_non h)) (fun hb H2 hh => ?_) fun hb H2 hh => ?_
    · cases o with
      | some so => cases hb
      | none => exact s_ret (P := fun _ u => u = .non) (g1.mh.trans hh) (gv_c rfl) fun z M' H' g r => q z M' H' ((g1.trans (.idle g1.mh hh)).trans g) ⟨none, r, ⟨(fun h => by cases h), fun h => absurd h (dead_unsat X he)⟩⟩
    cases o with
    | none => cases hb
    | some so =>
      have G2 := g1.trans (.idle g1.mh hh)
      have ru : DcF so M1 u5 := ru
      have rc : CtR K so M1 u5 := .inr ru.dc
      have L := so_lits X.nm he.2.2
      have few := so_few X he.2.2
      have nn := X.nm.n
      refine q_asg (P := LiR Tx (opn ns so)) G2.mh (gv_is (gl_c1 (S := Tx) (R := Tx) (xs := ns) (gi_sq (K := K) (gv_var rfl (Mon.mono g1.mm r2))) (szM (Nat.le_trans nn (by decide))) (fun n => decide (n ∉ so) && decide (("-" : Str) ++ n ∉ so)) id
        (fun n hn M3 u3 sm ru3 => gt_and (b := decide (n ∉ so)) (c := decide (("-" : Str) ++ n ∉ so)) (gt_is (gt_test (gv_inA (K := K) (neg := true) (gv_var rfl ru3) (gv_var rfl (Mon.mono sm rc)))) (by simp)) fun _ => gt_is (gt_test (gv_inA (K := K) (neg := true) (gv_addSt (K := K) (gv_c rfl) (gv_var rfl ru3) (szM (by have := hsh.2 n hn; show 1 + n.length ≤ _; omega))) (gv_var rfl (Mon.mono sm rc)))) (by simp)) fun n _ _ M3 u3 sm ru3 => gv_var rfl ru3).li fun M v h => by rw [List.map_id] at h; exact h) fun v3 M3 H3 g3 r3' => ?_
      have G3 := G2.trans g3
      refine q_if0 (b := decide (opn ns so = [])) G3.mh (gt_is (gt_test (gv_eqT (K := K) (R := LiR Tx) (neg := false) (fun xs M v h => py_lst py_str _ _ _ (LiR.lst (K := K) h)) (inj_lst inj_str) (gv_var rfl r3') gv_nilL (by simp [PyData.depth, depthS]))) (by simp)) (fun hb2 H4 hh4 => ?_) fun hb2 H4 hh4 => ?_
      · have e0 := of_decide_eq_true hb2
        refine s_ret (G3.mh.trans hh4) (gv_call2 (R1 := CtR K) (R2 := SqR K Tx) (x := so) (y := ns) (gv_var rfl (Mon.mono g3.mm rc)) (gv_var rfl (Mon.mono (g1.mm.trans g3.mm) r2)) hsh) fun z M' H' g r => q z M' H' ((G3.trans (.idle G3.mh hh4)).trans g) ⟨some (asc so ns), r, ⟨fun _ => (sat_so X he).mpr (sat_closed X he e0), fun _ => rfl⟩⟩
      · have ne0 := of_decide_eq_false hb2
        cases eo : opn ns so with
        | nil => exact absurd eo ne0
        | cons n rest =>
          have hno : n ∈ opn ns so := by rw [eo]; simp
          have hn := (mem_opn.mp hno).1
          rw [eo] at r3'
          have G4 := G3.trans (.idle G3.mh hh4)
          have ol : (opn ns so).length < t + 1 := Nat.lt_of_le_of_lt (opn_le he.2.2.sub) ho
          have gix : Gv (tOp (rIxX K) (tVar 3) (tC (.int 0))) [some v, some w, some u, some v3, none, some u5, some v6, none, none] M3 (Tx n) := gv_ix (K := K) (R := Tx) (xs := n :: rest) (i := 0) (gv_var rfl r3'.sq) (gv_c rfl) (atI_nat (j := 0) rfl)
          refine q_for (R1 := Tx) (xs := [n, ("-" : Str) ++ n]) G4.mh (gv_is (gv_tup2 (K := K) gix (gv_addSt (K := K) (gv_c rfl) gix (szM (by have := hsh.2 n hn; show 1 + n.length ≤ _; omega)))) fun _ _ h => .inr h)
            (fun M1' i σ' M' H' => ∃ y4 y7, Gr M H M' H' ∧ Same M1' M' ∧ Same M3 M' ∧ (∀ l ∈ [n, ("-" : Str) ++ n].take i, ¬ Sat ns cs (so ++ [l])) ∧ σ' = [some v, some w, some u, some v3, y4, some u5, some v6, y7, none])
            (fun M5 H5 g5 => ⟨_, _, G4.trans g5, Same.refl _, g5.mm, fun l hl => (List.not_mem_nil hl).elim, rfl⟩) (fun M5 i σ' M' H' ⟨_, _, g, s1, _⟩ => ⟨s1, g.mh⟩) ?_ ?_
          · rintro M5 i l vl σ' M' H' sM hx ⟨y4, y7, g, s1, s3, hno', rfl⟩ rl
            have side : Side n l := by
              have := List.mem_of_getElem? hx
              simp only [List.mem_cons, List.not_mem_nil, or_false] at this
              exact this
            have Ll := lits_put X.nm L hno side
            have X2 : Ctx ns cs (so ++ [l]) := ⟨X.nm, X.c, Ll⟩
            have dec := opn_put X.nm.nd hno side
            refine q_asg (P := FilR ns cs (so ++ [l])) g.mh (gv_call3 (R1 := SqR K (SqR K Tx)) (R2 := SqR K Tx) (R3 := SqR K Tx) (x := cs) (y := ns) (z := so ++ [l]) (gv_var rfl (Mon.mono g.mm r1)) (gv_var rfl (Mon.mono g.mm r2)) (gv_is (gv_starK (gv_var rfl (Mon.mono (g3.mm.trans s3) ru).dc) (gv_var rfl rl) (by omega)) fun _ _ h => h.sq) ⟨X2, hw, by omega⟩) fun v7 M6 H6 g6 ⟨o7, r7, h7⟩ => ?_
            have G6 := g.trans g6
            have non7 : ∀ {M : Hp} {v : V}, OpR' TT o7 M v → decide (v = .non) = o7.isNone := fun {M v} h => by
              cases o7 with
              | none => cases (show v = .non from h); rfl
              | some s => obtain ⟨a, e, _⟩ := (show TT s M v from h); subst e; rfl
            refine s_if0 (b := !o7.isNone) G6.mh (gt_B (gv_notN (b := o7.isNone) (gv_var (P := OpR' TT o7) rfl r7) fun M v h => non7 h)) (fun hb3 H7 hh7 => ?_) fun hb3 H7 hh7 => ?_
            · have hsat : Sat ns cs (so ++ [l]) := h7.mp (by cases o7 <;> simp_all)
              have hS : Sat ns cs hs := (sat_so X he).mpr ((sat_split hn).mpr (by rcases side with e | e <;> rw [e] at hsat; exact .inl hsat; exact .inr hsat))
              refine s_ret (P := OpR' TT o7) (G6.mh.trans hh7) (gv_var rfl r7) fun z M' H' g r => q z M' H' ((G6.trans (.idle G6.mh hh7)).trans g) ⟨o7, r, ⟨fun _ => hS, fun _ => by cases o7 <;> simp_all⟩⟩
            · have hns : ¬ Sat ns cs (so ++ [l]) := fun z => by have := h7.mpr z; cases o7 <;> simp_all
              refine ⟨M6, _, _, G6.trans (.idle G6.mh hh7), s1.trans g6.mm, s3.trans g6.mm, fun l' hl' => ?_, rfl⟩
              rw [List.take_add_one, hx] at hl'
              rcases List.mem_append.mp hl' with hl' | hl'
              · exact hno' l' hl'
              · have : l' = l := by simpa using hl'
                rw [this]; exact hns
          · rintro M5 σ' M' H' sM ⟨y4, y7, g, s1, s3, hno', rfl⟩
            refine s_ret (P := fun _ u => u = .non) g.mh (gv_c rfl) fun z M' H' g' r => q z M' H' (g.trans g') ⟨none, r, ⟨(fun h => by cases h), fun h => ?_⟩⟩
            rcases (sat_split hn).mp ((sat_so X he).mp h) with h | h
            · exact absurd h (hno' n (by simp))
            · exact absurd h (hno' (("-" : Str) ++ n) (by simp))
end
end My

set_option Elab.async false
set_option linter.all false
set_option maxRecDepth 100000
set_option maxHeartbeats 8000000
namespace My
open PySem PySem.Spec PyProof.Rows L2 L3
open L3.Strm
section
variable {K : PySem.W.Frag} {S : Strm} {c c' : Nat} {σ : Sl} {M : Hp} {t1 t2 to te : TE} {P : Pr} {C : Addr} {α β : Type} {R1 : Rl α} {R2 : Rl β} {m : Str}
theorem _root_.L3.GvS.up (h : GvS S c te σ M P) (e : c ≤ c') : GvS S c' te σ M P := fun H k mh a Q q => h H k mh (a.le (by omega)) Q q
theorem gv_mkRule {ns : List Str} {ss : List (List Str)} (h1 : Gv t1 σ M (SqR K Tx ns)) (h2 : Gv t2 σ M (SqR K (SqR K Tx) ss)) (ok : RuleOk ns ss) : Gv (tMake C (sp_Rule_init K C) [] E0 (tCons t1 (tCons t2 tNil))) σ M (RuleR C (mkRule ns ss)) := fun H mh Q q =>
  h1 H mh _ fun v1 M1 H1 g1 q1 => h2.le g1.mm H1 g1.mh _ fun v2 M2 H2 g2 q2 x dx hx hdx hne => by
    have m2 := g2.mh
    have gN : Gr M2 H2 M2 (upd (upd H2 dx (.own x)) x (.ins C dx [])) := (Gr.own m2 hdx).trans (.own (m2.trans (same_new hdx)) (by rw [upd_ne (Ne.symm hne)]; exact hx))
    exact ⟨ns, ss, M2, H2, x, dx, v1, v2, rfl, gN, hx, m2.free hx, upd_same, Mon.mono g2.mm q1, q2, ok, fun M' H' g r => ⟨rfl, q _ M' H' ((g1.trans g2).trans g) r⟩⟩
end
/-- what the law has drawn -/
structure RuleX (ns : List Str) (ss : List (List Str)) : Prop where
  nm : NmL ns
  n6 : ns.length ≤ 6
  sub : ss.Sublist (fulls ns)
theorem RuleX.side {ns : List Str} {ss : List (List Str)} (X : RuleX ns ss) : ∀ s ∈ ss, Paired Side ns s := fun s hs => fulls_paired (X.sub.subset hs)
theorem RuleX.len {ns : List Str} {ss : List (List Str)} (X : RuleX ns ss) : ss.length ≤ 64 := by
  refine Nat.le_trans X.sub.length_le ?_
  rw [fulls_len]
  exact Nat.le_trans (Nat.pow_le_pow_right (by decide) X.n6) (by decide)
theorem RuleX.each {ns : List Str} {ss : List (List Str)} (X : RuleX ns ss) : ∀ s ∈ ss, s.length = ns.length := fun s hs => fulls_each _ s (X.sub.subset hs)
theorem RuleX.made {ns : List Str} {ss : List (List Str)} (X : RuleX ns ss) : mkRule ns ss = ⟨ns, ss⟩ := by
  have e : (ss.map fun s => asc s ns) = ss := by
    conv => rhs; rw [← List.map_id ss]
    exact List.map_congr_left fun s hs => asc_paired X.nm (X.side s hs)
  unfold mkRule
  rw [e, once_self ((fulls_nodup X.nm.nm).sublist X.sub)]
theorem RuleX.set {ns : List Str} {ss : List (List Str)} (X : RuleX ns ss) : (mkRule ns ss).settings = ss := by
  rw [X.made]
  refine Eq.trans (List.filter_congr fun x _ => ?_) (sub_filter X.sub (fulls_nodup X.nm.nm))
  simp
theorem RuleX.ok {ns : List Str} {ss : List (List Str)} (X : RuleX ns ss) : RuleOk ns ss :=
  ⟨⟨X.nm.nd, fun x hx => ⟨X.nm.nm x hx, by simp⟩, Nat.le_trans X.n6 (by decide)⟩, X.n6, Nat.le_trans X.len (by decide), fun s hs => ⟨clOk_lits X.nm (side_lits X.nm (X.side s hs)), X.each s hs⟩⟩
theorem RuleX.w {ns : List Str} {ss : List (List Str)} (X : RuleX ns ss) : RuleW (mkRule ns ss) := ⟨X.n6, nm_shorts X.nm⟩
theorem RuleX.due {ns : List Str} {ss : List (List Str)} (X : RuleX ns ss) : (shortestL ns ss).length ≤ 729 ∧ ∀ c ∈ shortestL ns ss, c.length ≤ 6 ∧ ∀ l ∈ c, LitN ns l := by
  refine ⟨Nat.le_trans (short_len _ _) (Nat.le_trans (halves_few ns) (Nat.le_trans (Nat.pow_le_pow_right (by decide) X.n6) (by decide))), fun c hc => ?_⟩
  have := short_sub _ _ c hc
  exact ⟨halves_each X.n6 c this, (halves_lits X.nm c this).of⟩
theorem liTT_sqq {K : PySem.W.Frag} {cs : List (List Str)} {M : Hp} {v : V} (h : LiR TT cs M v) : SqR K (SqR K Tx) cs M v :=
  let ⟨a, vs, e, r, p⟩ := h
  .inl ⟨a, vs, e, .inl (.inl r), Paired.mapP p fun _ _ q => TT.sq q⟩
end My

set_option Elab.async false
set_option linter.all false
set_option maxRecDepth 100000
set_option maxHeartbeats 8000000
namespace My
open PySem PySem.Spec PyProof.Rows L2 L3
structure Gf (K : PySem.W.Frag) (mg : Str → Option Value) : Prop extends Gd mg, Ge mg where
  g_LEVELS : ∃ a, mg "LEVELS" = some (.ref a) ∧ ∀ H, SqT K H a [.str "dead", .str "forced", .str "all"]
def IsLv (l : Str) : Prop := l = "dead" ∨ l = "forced" ∨ l = "all"
def lvNames (c : CodeD) (l : Str) : List Str := if l = ("all" : Str) then c.names else c.signs
noncomputable def lvSet (c : CodeD) (l : Str) : List (List Str) := (fulls (lvNames c l)).filter (satB c.names c.clauses)
theorem CodeX.lv {c : CodeD} (X : CodeX c) (l : Str) : NmL (lvNames c l) ∧ (lvNames c l).length ≤ 6 ∧ ∀ n ∈ lvNames c l, n ∈ c.names := by
  unfold lvNames
  split
  · exact ⟨X.nm, X.n6, fun _ h => h⟩
  · exact ⟨X.sg.1, X.sg.2, fun n h => List.mem_append_left _ h⟩
theorem CodeX.rx {c : CodeD} (X : CodeX c) (l : Str) : RuleX (lvNames c l) (lvSet c l) := ⟨(X.lv l).1, (X.lv l).2.1, List.filter_sublist⟩
structure LvX (c : CodeD) (l : Str) : Prop where
  z : CodeZ c
  is : IsLv l
  all : l = ("all" : Str) → c.names.length ≤ 6
theorem CodeX.at {c : CodeD} (X : CodeX c) {l : Str} (h : IsLv l) : LvX c l := ⟨X.z, h, fun _ => X.n6⟩
theorem LvX.lv {c : CodeD} {l : Str} (X : LvX c l) : NmL (lvNames c l) ∧ (lvNames c l).length ≤ 6 ∧ ∀ n ∈ lvNames c l, n ∈ c.names := by
  unfold lvNames
  split
  · rename_i h
    exact ⟨X.z.nm, X.all h, fun _ h => h⟩
  · exact ⟨X.z.sg.1, X.z.sg.2, fun n h => List.mem_append_left _ h⟩
theorem LvX.rx {c : CodeD} {l : Str} (X : LvX c l) : RuleX (lvNames c l) (lvSet c l) := ⟨X.lv.1, X.lv.2.1, List.filter_sublist⟩
theorem CodeZ.ch {c : CodeD} (X : CodeZ c) : ChW c.clauses := ⟨X.w.c, X.w.n, X.w.k⟩
theorem CodeX.ch {c : CodeD} (X : CodeX c) : ChW c.clauses := ⟨X.w.c, X.w.n, X.w.k⟩
theorem Lits.wide {ns ms s : List Str} (L : Lits ns s) (h : ∀ n ∈ ns, n ∈ ms) : Lits ms s := ⟨L.nd, fun x hx => let ⟨n, hn, e⟩ := L.of x hx; ⟨n, h n hn, e⟩⟩
theorem CodeX.full {c : CodeD} (X : CodeX c) {l : Str} {s : List Str} (h : s ∈ fulls (lvNames c l)) : Lits c.names s := (side_lits (X.lv l).1 (fulls_paired h)).wide (X.lv l).2.2
theorem CodeX.half {c : CodeD} (X : CodeX c) {l : Str} {s : List Str} (h : s ∈ halves (lvNames c l)) : Lits c.names s := (halves_lits (X.lv l).1 s h).wide (X.lv l).2.2
theorem LvX.half {c : CodeD} {l : Str} (X : LvX c l) {s : List Str} (h : s ∈ halves (lvNames c l)) : Lits c.names s := (halves_lits X.lv.1 s h).wide X.lv.2.2
theorem fil_non {ns : List Str} {cs : List (List Str)} {hs : List Str} {M : Hp} {v : V} (h : FilR ns cs hs M v) : decide (v = .non) = !satB ns cs hs := by
  obtain ⟨o, r, e⟩ := h
  have e1 : o.isSome = satB ns cs hs := by rw [Bool.eq_iff_iff, e, satB_iff]
  rw [← e1]
  cases o with
  | none => cases (show v = .non from r); rfl
  | some s => obtain ⟨a, ev, _⟩ := (show TT s M v from r); subst ev; rfl
theorem insR_code {C : Addr} {m : Str} {c : CodeD} (h1 : ¬ m = ("clause_row" : Str)) (h2 : ¬ m = ("names" : Str)) (h3 : ¬ m = ("helper_row" : Str)) (h4 : ¬ m = ("sign_row" : Str)) : InsR C m (CodeR C c) := fun M v ⟨a, dx, va, vb, vn, vc, e, h, _⟩ => ⟨a, dx, _, e, h, by
  unfold codeF
  rw [lookup_putF, if_neg h1, lookup_putF, if_neg h2, lookup_putF, if_neg h3, lookup_putF, if_neg h4]
  rfl⟩
instance {ns : List Str} {cs : List (List Str)} {hs : List Str} : Mono (FilR ns cs hs) := ⟨fun e ⟨o, r, h⟩ => ⟨o, Mon.mono e r, h⟩⟩
section
variable {P : Program} {w : World} {K : PySem.W.Frag} {mg : Str → Option Value} {base : Heap}
abbrev s_Code_fill : Stmt := inClass (topS 37) 8
theorem sc_Code_fill : FnScope ["self", "setting"] ["self", "setting"] (defScope s_Code_fill) := ⟨rfl, rfl, rfl, by decide +kernel, rfl, by decide +kernel, by decide +kernel⟩
def sp_Code_fill (K : PySem.W.Frag) (C : Addr) : Sp := sp2 (CodeR C) (SqR K Tx) (fun c hs => CodeZ c ∧ Lits c.names hs) fun c hs => FilR c.names c.clauses hs
theorem ok_Code_fill {f C : Addr} {fd : FuncData} (F : Fun K "fill" "Code.fill" s_Code_fill f fd) (TC : CodeT K mg C) (c_filled : Cal P w K mg base 18 "filled" ["clauses", "names", "setting"] (sp_filled K 15)) : FnOk P w K mg base CX0 19 f fd ["self", "setting"] (sp_Code_fill K C) := by
  refine F.ok sc_Code_fill (fun vs H Q E h => ?_) (fun cdv A outer s H vs Q E hr h => ?_)
  · obtain ⟨x, y, M, v, w, rfl, _⟩ := h
    rfl
  · obtain ⟨c, hs, M, v, w, rfl, mh, r1, r2, ⟨X, L⟩, q⟩ := h
    refine ⟨_, (pss_one (ps_ret (pe_f c_filled (hr.mono (by decide)) (pa_cons (pe_fld (pv 0) rfl) (pa_cons (pe_fld (pv 0) rfl) (pa_cons (pv 1) pa_nil)))))), ?_⟩
    have ho : (opn c.names hs).length < 15 := by
      have h1 : (opn c.names hs).length ≤ c.names.length := List.length_filter_le _ _
      have := X.n14
      omega
    exact s_ret mh (gv_call3 (R1 := SqR K (SqR K Tx)) (R2 := SqR K Tx) (R3 := SqR K Tx) (x := c.clauses) (y := c.names) (z := hs) (gv_is (gv_clause TC (gv_var rfl r1)) fun _ _ h => h.sqq) (gv_is (gv_names TC (gv_var rfl r1)) fun _ _ h => h.sq) (gv_var rfl r2) ⟨⟨X.nm, X.l, L⟩, X.ch, ho⟩) q
theorem gv_fillT {σ : Sl} {M : Hp} {C : Addr} {c : CodeD} {s : List Str} {t1 t2 : TE} (X : CodeZ c) (L : Lits c.names s) (h1 : Gv t1 σ M (CodeR C c)) (h2 : Gv t2 σ M (SqR K Tx s)) : GvT (tB (tNotN (tMeth C "fill" (sp_Code_fill K C) [] E0 t1 (tCons t2 tNil)))) σ M (satB c.names c.clauses s) :=
  gt_is (gt_B (gv_notN (b := !satB c.names c.clauses s) (P := FilR c.names c.clauses s) (gv_met2 (R1 := CodeR C) (R2 := SqR K Tx) (pre := fun c hs => CodeZ c ∧ Lits c.names hs) (R := fun c hs => FilR c.names c.clauses hs) (x := c) (y := s) (insR_code (by decide +kernel) (by decide +kernel) (by decide +kernel) (by decide +kernel)) h1 h2 ⟨X, L⟩) fun M v h => fil_non h)) (by simp)
abbrev s_Code_rule : Stmt := inClass (topS 37) 9
theorem sc_Code_rule : FnScope ["self", "some", "setting"] ["self"] (defScope s_Code_rule) := ⟨rfl, rfl, rfl, by decide +kernel, rfl, by decide +kernel, by decide +kernel⟩
def sp_Code_rule (K : PySem.W.Frag) (C CR : Addr) : Sp := sp1 (CodeR C) CodeZ fun c => RuleR CR (mkRule c.signs ((fulls c.signs).filter (satB c.names c.clauses)))
theorem ok_Code_rule {f C CR : Addr} {fd : FuncData} (F : Fun K "rule" "Code.rule" s_Code_rule f fd) (T : Gf K mg) (TC : CodeT K mg C) (c_full_settings : Cal P w K mg base 1 "full_settings" ["names"] (sp_full_settings K)) (m_fill : Met P w K mg base 19 C "fill" ["self", "setting"] (sp_Code_fill K C)) (k_Rule : Mak P w K mg base 5 "Rule" CR ["self", "signs", "settings"] (sp_Rule_init K CR)) :
    FnOk P w K mg base CX0 20 f fd ["self"] (sp_Code_rule K C CR) := by
  refine F.ok sc_Code_rule (fun vs H Q E h => ?_) (fun cdv A outer s H vs Q E hr h => ?_)
  · obtain ⟨x, M, v, rfl, _⟩ := h
    rfl
  · obtain ⟨c, M, v, rfl, mh, r1, X, q⟩ := h
    have hu := hr.units
    obtain ⟨tk, hL⟩ := T.g_MOST_SIGNS
    refine ⟨_, (pss_cons (ps_if (pt_cmpR op_gt (pe_callB call_lenA (by rfl) T.len boot_len (pa_cons (pe_fld (pv 0) rfl) pa_nil)) (pe_glob (v := .int 6) (by rfl) hL ⟨_, rfl⟩) (nomark _)) (pss_one ps_never) pss_nil)
      (pss_cons (ps_setLc (i := 1) (own := [("setting", 2)]) (g := (gName 2)) (tt := (tB (tNotN (tMeth C "fill" (sp_Code_fill K C) [] E0 (tVar 0) (tCons (tVar 2) tNil))))) (te := (tVar 2)) (by rfl) sc_Code_rule.nd rfl rfl (sw_true rfl rfl rfl (by decide +kernel)) (pi_sq (pe_f c_full_settings (hr.mono (by decide)) (pa_cons (pe_fld (pv 0) rfl) pa_nil))) (blkOk_by (by rfl)) (fun _ _ _ _ _ => (pg_name (i := 2) sc_Code_rule.nd rfl (by first | exact .inl rfl | exact .inr rfl))) (fun _ _ _ _ _ => (pts_one (pt_cmp (pc_notN (pe_m m_fill (hr.mono (by decide)) (pv 0) (pa_cons (pv 2) pa_nil)))))) (fun _ _ _ _ _ => (pv 2)))
      (pss_one (ps_ret (pe_mk k_Rule (hr.mono (by decide)) (pa_cons (pe_fld (pv 0) rfl) (pa_cons (pv 1) pa_nil))))))), ?_⟩
    have RX : RuleX c.signs ((fulls c.signs).filter (satB c.names c.clauses)) := ⟨X.sg.1, X.sg.2, List.filter_sublist⟩
    refine q_if0 (b := false) mh (gt_is (gt_test (gv_gt (g := fun i j => .bl (decide (j < i))) (i := (c.signs.length : Int)) (j := 6) (gv_lenA (K := K) (R := Tx) (gv_is (gv_sign TC (gv_var rfl r1)) fun _ _ h => h.sq)) (gv_c rfl))) (by have := X.sg.2; simp; omega)) (fun h => nomatch h) fun _ H2 hh2 => ?_
    have g2 : Gr M H M H2 := .idle mh hh2
    refine q_asg (P := LiR TT ((fulls c.signs).filter (satB c.names c.clauses))) g2.mh (gv_is (gl_c1 (S := TT) (R := TT) (xs := fulls c.signs) (gi_sq (K := K) (gv_is (gv_call1 (R1 := SqR K Tx) (pre := fun ns => ns.length ≤ 6 ∧ Shorts ns) (R := fun ns => LiR TT (fulls ns)) (gv_is (gv_sign TC (gv_var rfl r1)) fun _ _ h => h.sq) ⟨X.sg.2, nm_shorts X.sg.1⟩) fun _ _ h => h.sq)) ?_ (satB c.names c.clauses) id
      (fun s hs M1 u sm ru => gv_fillT X ((side_lits X.sg.1 (fulls_paired hs)).wide fun n h => List.mem_append_left _ h) (gv_var rfl (Mon.mono sm r1)) (gv_var rfl ru.sq)) fun s _ _ M1 u sm ru => gv_var rfl ru).li fun M' v' h => by rw [List.map_id] at h; exact h) fun v1 M1 H1 g1 p1 => ?_
    · rw [fulls_len]
      exact szM (Nat.le_trans (Nat.pow_le_pow_right (by decide) X.sg.2) (by decide))
    exact s_ret g1.mh (gv_mkRule (gv_is (gv_sign TC (gv_var rfl (Mon.mono g1.mm r1))) fun _ _ h => h.sq) (gv_var rfl (liTT_sqq p1)) RX.ok) fun u M' H' g r => q u M' H' ((g2.trans g1).trans g) r
abbrev s_Code_total : Stmt := inClass (topS 37) 10
theorem sc_Code_total : FnScope ["self", "setting"] ["self"] (defScope s_Code_total) := ⟨rfl, rfl, rfl, by decide +kernel, rfl, by decide +kernel, by decide +kernel⟩
def sp_Code_total (K : PySem.W.Frag) (C CR : Addr) : Sp := sp1 (CodeR C) (fun c => CodeZ c ∧ c.names.length ≤ 6) fun c => RuleR CR (mkRule c.names ((fulls c.names).filter (satB c.names c.clauses)))
theorem ok_Code_total {f C CR : Addr} {fd : FuncData} (F : Fun K "total" "Code.total" s_Code_total f fd) (T : Gf K mg) (TC : CodeT K mg C) (c_full_settings : Cal P w K mg base 1 "full_settings" ["names"] (sp_full_settings K)) (m_fill : Met P w K mg base 19 C "fill" ["self", "setting"] (sp_Code_fill K C)) (k_Rule : Mak P w K mg base 5 "Rule" CR ["self", "signs", "settings"] (sp_Rule_init K CR)) :
    FnOk P w K mg base CX0 20 f fd ["self"] (sp_Code_total K C CR) := by
  refine F.ok sc_Code_total (fun vs H Q E h => ?_) (fun cdv A outer s H vs Q E hr h => ?_)
  · obtain ⟨x, M, v, rfl, _⟩ := h
    rfl
  · obtain ⟨c, M, v, rfl, mh, r1, ⟨X, n6⟩, q⟩ := h
    have hu := hr.units
    obtain ⟨tk, hL⟩ := T.g_MOST_SIGNS
    refine ⟨_, (pss_cons (ps_if (pt_cmpR op_gt (pe_callB call_lenA (by rfl) T.len boot_len (pa_cons (pe_fld (pv 0) rfl) pa_nil)) (pe_glob (v := .int 6) (by rfl) hL ⟨_, rfl⟩) (nomark _)) (pss_one ps_never) pss_nil)
      (pss_one (ps_ret (pe_mk k_Rule (hr.mono (by decide)) (pa_cons (pe_fld (pv 0) rfl) (pa_cons (pe_lc (own := [("setting", 1)]) (g := (gName 1)) (tt := (tB (tNotN (tMeth C "fill" (sp_Code_fill K C) [] E0 (tVar 0) (tCons (tVar 1) tNil))))) (te := (tVar 1)) (by rfl) sc_Code_total.nd (pi_sq (pe_f c_full_settings (hr.mono (by decide)) (pa_cons (pe_fld (pv 0) rfl) pa_nil))) (blkOk_by (by rfl)) (fun _ _ _ _ _ => (pg_name (i := 1) sc_Code_total.nd rfl (by first | exact .inl rfl | exact .inr rfl))) (fun _ _ _ _ _ => (pts_one (pt_cmp (pc_notN (pe_m m_fill (hr.mono (by decide)) (pv 0) (pa_cons (pv 1) pa_nil)))))) (fun _ _ _ _ _ => (pv 1))) pa_nil)))))), ?_⟩
    have RX : RuleX c.names ((fulls c.names).filter (satB c.names c.clauses)) := ⟨X.nm, n6, List.filter_sublist⟩
    refine q_if0 (b := false) mh (gt_is (gt_test (gv_gt (g := fun i j => .bl (decide (j < i))) (i := (c.names.length : Int)) (j := 6) (gv_lenA (K := K) (R := Tx) (gv_is (gv_names TC (gv_var rfl r1)) fun _ _ h => h.sq)) (gv_c rfl))) (by have := n6; simp; omega)) (fun h => nomatch h) fun _ H2 hh2 => ?_
    have g2 : Gr M H M H2 := .idle mh hh2
    refine s_ret g2.mh (gv_mkRule (gv_is (gv_names TC (gv_var rfl r1)) fun _ _ h => h.sq) (gv_is (gl_c1 (S := TT) (R := TT) (xs := fulls c.names) (gi_sq (K := K) (gv_is (gv_call1 (R1 := SqR K Tx) (pre := fun ns => ns.length ≤ 6 ∧ Shorts ns) (R := fun ns => LiR TT (fulls ns)) (gv_is (gv_names TC (gv_var rfl r1)) fun _ _ h => h.sq) ⟨n6, nm_shorts X.nm⟩) fun _ _ h => h.sq)) ?_ (satB c.names c.clauses) id
      (fun s hs M1 u sm ru => gv_fillT X (side_lits X.nm (fulls_paired hs)) (gv_var rfl (Mon.mono sm r1)) (gv_var rfl ru.sq)) fun s _ _ M1 u sm ru => gv_var rfl ru).li fun M' v' h => by rw [List.map_id] at h; exact liTT_sqq h) RX.ok) fun u M' H' g r => q u M' H' (g2.trans g) r
    rw [fulls_len]
    exact szM (Nat.le_trans (Nat.pow_le_pow_right (by decide) n6) (by decide))
abbrev s_level_names : Stmt := topS 45
theorem sc_level_names : FnScope ["code", "level", "names"] ["code", "level"] (defScope s_level_names) := ⟨rfl, rfl, rfl, by decide +kernel, rfl, by decide +kernel, by decide +kernel⟩
def sp_level_names (K : PySem.W.Frag) (C : Addr) : Sp := sp2 (CodeR C) Tx LvX fun c l => TT (lvNames c l)
theorem ok_level_names {f C : Addr} {fd : FuncData} (F : Fun K "level_names" "level_names" s_level_names f fd) (T : Gf K mg) (TC : CodeT K mg C) : FnOk P w K mg base CX0 1 f fd ["code", "level"] (sp_level_names K C) := by
  refine F.ok sc_level_names (fun vs H Q E h => ?_) (fun cdv A outer s H vs Q E hr h => ?_)
  · obtain ⟨x, y, M, v, w, rfl, _⟩ := h
    rfl
  · obtain ⟨c, l, M, v, w, rfl, mh, r1, r2, X, q⟩ := h
    have hu := hr.units
    cases (show w = _ from r2)
    obtain ⟨tk, hL⟩ := T.g_MOST_SIGNS
    obtain ⟨aL, hV, hSq⟩ := T.g_LEVELS
    refine ⟨_, (pss_cons (ps_if (PW.pt (pw_or (pt_not (pt_val (pe_callB call_isi (by rfl) T.isinstance boot_isinstance (pa_cons (pv 1) (pa_cons (pe_bltn (v := .ty "str") (u := .type "str") (by rfl) T.str (by decide +kernel) rfl) pa_nil))))) (pw_or1 (pt_cmpR (op_niA hu) (pv 1) (pe_glob (v := .ref aL) (by rfl) hV rfl) (by rfl))))) (pss_one ps_never) pss_nil)
      (pss_cons (ps_set (i := 2) sc_level_names.nd rfl (by first | exact .inl rfl | exact .inr rfl) (pe_ifExp (pt_cmpR (op_eqP hu) (pv 1) pe_str (nomark _)) (pe_fld (pv 0) rfl) (pe_fld (pv 0) rfl)))
      (pss_cons (ps_if (pt_cmpR op_gt (pe_callB call_lenA (by rfl) T.len boot_len (pa_cons (pv 2) pa_nil)) (pe_glob (v := .int 6) (by rfl) hL ⟨_, rfl⟩) (nomark _)) (pss_one ps_never) pss_nil)
      (pss_one (ps_ret (pv 2)))))), ?_⟩
    have rL : SqR K Tx ["dead", "forced", "all"] M (.ref aL) := .inr ⟨aL, _, rfl, hSq M, pd_of_tx _⟩
    have hin : l ∈ (["dead", "forced", "all"] : List Str) := by rcases X.is with e | e | e <;> rw [e] <;> simp
    refine q_if0 (b := false) mh (gt_is (gt_or (b := false) (c := false) (gt_is (gt_not (gt_B (gv_isi (K := K) (d := .str l) (b := true) (gv_var rfl (.str l)) (by simp only [tyN]; decide +kernel)))) rfl) fun _ => gt_is (gt_test (gv_inA (K := K) (neg := true) (x := l) (gv_var rfl rfl) (gv_c (.inl rL)))) (by simp [hin])) rfl) (fun h => nomatch h) fun _ H2 hh2 => ?_
    have g2 : Gr M H M H2 := .idle mh hh2
    refine q_asg (P := TT (lvNames c l)) g2.mh (gv_if (b := decide (l = ("all" : Str))) (gt_is (gt_test (gv_eqT (K := K) (neg := false) py_str inj_str (gv_var rfl rfl) (gv_c rfl) (by simp [PyData.depth]))) (by simp)) (fun hb => gv_is (gv_names TC (gv_var rfl r1)) fun M v h => by unfold lvNames; rw [if_pos (of_decide_eq_true hb)]; exact h) (fun hb => gv_is (gv_sign TC (gv_var rfl r1)) fun M v h => by unfold lvNames; rw [if_neg (of_decide_eq_false hb)]; exact h)) fun v2 M1 H1 g1 p1 => ?_
    have G1 := g2.trans g1
    refine q_if0 (b := false) G1.mh (gt_is (gt_test (gv_gt (g := fun i j => .bl (decide (j < i))) (i := ((lvNames c l).length : Int)) (j := 6) (gv_lenA (K := K) (R := Tx) (gv_var rfl p1.sq)) (gv_c rfl))) (by have := X.lv.2.1; simp; omega)) (fun h => nomatch h) fun _ H3 hh3 => ?_
    exact ⟨v2, rfl, q _ _ _ (G1.trans (.idle G1.mh hh3)) p1⟩
abbrev s_level_rule : Stmt := topS 46
theorem sc_level_rule : FnScope ["code", "level"] ["code", "level"] (defScope s_level_rule) := ⟨rfl, rfl, rfl, by decide +kernel, rfl, by decide +kernel, by decide +kernel⟩
def sp_level_rule (K : PySem.W.Frag) (C CR : Addr) : Sp := sp2 (CodeR C) Tx LvX fun c l => RuleR CR (mkRule (lvNames c l) (lvSet c l))
theorem ok_level_rule {f C CR : Addr} {fd : FuncData} (F : Fun K "level_rule" "level_rule" s_level_rule f fd) (c_level_names : Cal P w K mg base 1 "level_names" ["code", "level"] (sp_level_names K C)) (m_total : Met P w K mg base 20 C "total" ["self"] (sp_Code_total K C CR)) (m_rule : Met P w K mg base 20 C "rule" ["self"] (sp_Code_rule K C CR)) : FnOk P w K mg base CX0 21 f fd ["code", "level"] (sp_level_rule K C CR) := by
  refine F.ok sc_level_rule (fun vs H Q E h => ?_) (fun cdv A outer s H vs Q E hr h => ?_)
  · obtain ⟨x, y, M, v, w, rfl, _⟩ := h
    rfl
  · obtain ⟨c, l, M, v, w, rfl, mh, r1, r2, X, q⟩ := h
    have hu := hr.units
    cases (show w = _ from r2)
    refine ⟨_, (pss_cons (ps_expr (pe_f c_level_names (hr.mono (by decide)) (pa_cons (pv 0) (pa_cons (pv 1) pa_nil))))
      (pss_one (ps_ret (pe_ifExp (pt_cmpR (op_eqP hu) (pv 1) pe_str (nomark _)) (pe_m0 m_total (hr.mono (by decide)) (pv 0)) (pe_m0 m_rule (hr.mono (by decide)) (pv 0)))))), ?_⟩
    refine q_drop (P := TT (lvNames c l)) mh (gv_call2 (R1 := CodeR C) (R2 := Tx) (x := c) (y := l) (gv_var rfl r1) (gv_var rfl rfl) X) fun v1 M1 H1 g1 _ => ?_
    refine s_ret g1.mh (gv_if (b := decide (l = ("all" : Str))) (gt_is (gt_test (gv_eqT (K := K) (neg := false) py_str inj_str (gv_var rfl rfl) (gv_c rfl) (by simp [PyData.depth]))) (by simp))
      (fun hb => gv_is (gv_met1 (R1 := CodeR C) (pre := fun c => CodeZ c ∧ c.names.length ≤ 6) (R := fun c => RuleR CR (mkRule c.names ((fulls c.names).filter (satB c.names c.clauses)))) (x := c) (insR_code (by decide +kernel) (by decide +kernel) (by decide +kernel) (by decide +kernel)) (gv_var rfl (Mon.mono g1.mm r1)) ⟨X.z, X.all (of_decide_eq_true hb)⟩) fun M v h => by
        have e : lvNames c l = c.names := if_pos (of_decide_eq_true hb)
        show RuleR CR (mkRule (lvNames c l) (lvSet c l)) M v
        unfold lvSet; rw [e]; exact h)
      (fun hb => gv_is (gv_met1 (R1 := CodeR C) (pre := CodeZ) (R := fun c => RuleR CR (mkRule c.signs ((fulls c.signs).filter (satB c.names c.clauses)))) (x := c) (insR_code (by decide +kernel) (by decide +kernel) (by decide +kernel) (by decide +kernel)) (gv_var rfl (Mon.mono g1.mm r1)) X.z) fun M v h => by
        have e : lvNames c l = c.signs := if_neg (of_decide_eq_false hb)
        show RuleR CR (mkRule (lvNames c l) (lvSet c l)) M v
        unfold lvSet; rw [e]; exact h)) fun u M' H' g r => q u M' H' (g1.trans g) r
end
end My

set_option Elab.async false
set_option linter.all false
set_option maxRecDepth 100000
set_option maxHeartbeats 8000000
namespace My
open PySem PySem.Spec PyProof.Rows L2 L3
noncomputable def derB (cs : List (List Str)) (hs : List Str) (x : Str) : Bool := @decide (Der cs hs x) (Classical.propDecidable _)
noncomputable def deadB (cs : List (List Str)) (hs : List Str) : Bool := @decide (Dead cs hs) (Classical.propDecidable _)
theorem derB_iff {cs : List (List Str)} {hs : List Str} {x : Str} : derB cs hs x = true ↔ Der cs hs x := by unfold derB; simp
theorem deadB_iff {cs : List (List Str)} {hs : List Str} : deadB cs hs = true ↔ Dead cs hs := by unfold deadB; simp
theorem deadB_no {cs : List (List Str)} {hs : List Str} (h : ¬ Dead cs hs) : deadB cs hs = false := by unfold deadB; simp [h]
/-- what is forced and not derived -/
noncomputable def lackL (cs : List (List Str)) (f h : List Str) (l : Str) : List Str := f.filter fun x => !derB cs h x && decide (l ≠ ("dead" : Str))
def blindOf (h lack : List Str) : Option (List Str × Option Str) := match lack with
  | [] => none
  | x :: _ => some (h, some x)
noncomputable def blindAt (cs ss : List (List Str)) (h : List Str) (l : Str) : Option (List Str × Option Str) :=
  if deadB cs h then none else match forcedL ss h with
    | none => some (h, none)
    | some f => blindOf h (lackL cs f h l)
noncomputable def blinds (c : CodeD) (l : Str) : List (List Str × Option Str) := (halves (lvNames c l)).filterMap fun h => blindAt c.clauses (lvSet c l) h l
theorem lack_so {ns : List Str} {cs : List (List Str)} {h so : List Str} (he : EndsOk ns cs h (some so)) (f : List Str) (l : Str) : (f.filter fun x => decide (x ∉ so) && decide (l ≠ ("dead" : Str))) = lackL cs f h l := by
  unfold lackL
  refine List.filter_congr fun x _ => ?_
  have e : decide (x ∉ so) = !derB cs h x := by
    have := he.2.1 x
    by_cases hx : x ∈ so
    · have d : derB cs h x = true := derB_iff.mpr (this.mp hx)
      simp [hx, d]
    · have d : derB cs h x = false := by
        rw [← Bool.not_eq_true]
        exact fun z => hx (this.mpr (derB_iff.mp z))
      simp [hx, d]
  rw [e]
def BlR (K : PySem.W.Frag) : Rl (List Str × Option Str) := PrR K TT (OpR' Tx)
instance {K : PySem.W.Frag} : Mon (BlR K) := inferInstanceAs (Mon (PrR K TT (OpR' Tx)))
theorem op_non {α : Type} {R : Rl α} (hr : ∀ x M v, R x M v → ∃ a, v = .ref a) {o : Option α} {M : Hp} {v : V} (h : OpR' R o M v) : decide (v = .non) = o.isNone := by
  cases o with
  | none => cases (show v = .non from h); rfl
  | some x => obtain ⟨a, e⟩ := hr x M v h; subst e; rfl
theorem bl_ref {K : PySem.W.Frag} : ∀ x M v, BlR K x M v → ∃ a, v = .ref a := fun _ _ _ ⟨a, _, _, e, _⟩ => ⟨a, e⟩
theorem li_ref {α : Type} {R : Rl α} : ∀ x M v, LiR R x M v → ∃ a, v = .ref a := fun _ _ _ ⟨a, _, e, _⟩ => ⟨a, e⟩
section
variable {α β γ δ : Type} {σ : Sl} {M : Hp} {R1 : Rl α} {R2 : Rl β} {R3 : Rl γ} {R4 : Rl δ} {t1 t2 t3 t4 : TE}
def sp4 (R1 : Rl α) (R2 : Rl β) (R3 : Rl γ) (R4 : Rl δ) (pre : α → β → γ → δ → Prop) (R : α → β → γ → δ → Pr) : Sp := fun vs H Q _ => ∃ x y z t M v w u r, vs = [v, w, u, r] ∧ Same M H ∧ R1 x M v ∧ R2 y M w ∧ R3 z M u ∧ R4 t M r ∧ pre x y z t ∧ ∀ o M' H', Gr M H M' H' → R x y z t M' o → Q o H'
theorem gv_call4 [Mon R1] [Mon R2] [Mon R3] [Mon R4] {pre : α → β → γ → δ → Prop} {R : α → β → γ → δ → Pr} {x : α} {y : β} {z : γ} {t : δ} (h1 : Gv t1 σ M (R1 x)) (h2 : Gv t2 σ M (R2 y)) (h3 : Gv t3 σ M (R3 z)) (h4 : Gv t4 σ M (R4 t)) (hp : pre x y z t) :
    Gv (tCall (sp4 R1 R2 R3 R4 pre R) [] E0 (tCons t1 (tCons t2 (tCons t3 (tCons t4 tNil))))) σ M (R x y z t) := fun H mh Q q =>
  h1 H mh _ fun v M1 H1 g1 p1 => h2.le g1.mm H1 g1.mh _ fun w M2 H2 g2 p2 => h3.le (g1.mm.trans g2.mm) H2 g2.mh _ fun u M3 H3 g3 p3 => h4.le ((g1.mm.trans g2.mm).trans g3.mm) H3 g3.mh _ fun r M4 H4 g4 p4 =>
    ⟨x, y, z, t, M4, v, w, u, r, rfl, g4.mh, Mon.mono ((g2.mm.trans g3.mm).trans g4.mm) p1, Mon.mono (g3.mm.trans g4.mm) p2, Mon.mono g4.mm p3, p4, hp, fun u M' H' g r => q u M' H' ((((g1.trans g2).trans g3).trans g4).trans g) r⟩
end
section
variable {P : Program} {w : World} {K : PySem.W.Frag} {mg : Str → Option Value} {base : Heap}
abbrev s_blind_at : Stmt := topS 47
theorem sc_blind_at : FnScope ["code", "settings", "setting", "level", "forced", "lacking", "so", "steps", "literal"] ["code", "settings", "setting", "level"] (defScope s_blind_at) := ⟨rfl, rfl, rfl, by decide +kernel, rfl, by decide +kernel, by decide +kernel⟩
structure BlPre (c : CodeD) (ss : List (List Str)) (h : List Str) : Prop where
  X : CodeZ c
  L : Lits c.names h
  n : ss.length ≤ 1000000
  e : ∀ s ∈ ss, s.length ≤ 1000000
def sp_blind_at (K : PySem.W.Frag) (C : Addr) : Sp := sp4 (CodeR C) (LiR TT) TT Tx (fun c ss h _ => BlPre c ss h) fun c ss h l => OpR' (BlR K) (blindAt c.clauses ss h l)
theorem ok_blind_at {f C : Addr} {fd : FuncData} (F : Fun K "blind_at" "blind_at" s_blind_at f fd) (T : Gf K mg) (TC : CodeT K mg C) (c_chase : Cal P w K mg base 3 "chase" ["clauses", "setting"] (sp_chase K)) (c_forced_literals : Cal P w K mg base 1 "forced_literals" ["settings", "setting"] (sp_forced_literals K)) :
    FnOk P w K mg base CX0 4 f fd ["code", "settings", "setting", "level"] (sp_blind_at K C) := by
  refine F.ok sc_blind_at (fun vs H Q E h => ?_) (fun cdv A outer s H vs Q E hr h => ?_)
  · obtain ⟨x, y, z, t, M, v, w, u, r, rfl, _⟩ := h
    rfl
  · obtain ⟨c, ss, h, l, M, v, w, u, r, rfl, mh, r1, r2, r3, r4, ⟨X, L, hn, he⟩, q⟩ := h
    have hu := hr.units
    cases (show r = _ from r4)
    refine ⟨_, (pss_cons (ps_asg (pe_f c_chase (hr.mono (by decide)) (pa_cons (pe_fld (pv 0) rfl) (pa_cons (pv 2) pa_nil))) (pg_tup (by rfl) (pgs_cons (pg_name (i := 6) sc_blind_at.nd rfl (by first | exact .inl rfl | exact .inr rfl)) (pgs_cons (pg_name (i := 7) sc_blind_at.nd rfl (by first | exact .inl rfl | exact .inr rfl)) pgs_nil))))
      (pss_cons (ps_if (pt_cmp (pc_isN (pv 6))) (pss_one (ps_ret pe_non)) pss_nil)
      (pss_cons (ps_set (i := 4) sc_blind_at.nd rfl (by first | exact .inl rfl | exact .inr rfl) (pe_f c_forced_literals (hr.mono (by decide)) (pa_cons (pv 1) (pa_cons (pv 2) pa_nil))))
      (pss_cons (ps_if (pt_cmp (pc_isN (pv 4))) (pss_one (ps_ret (pe_tup (pa_cons (pv 2) (pa_cons pe_non pa_nil))))) pss_nil)
      (pss_cons (ps_setLc (i := 5) (own := [("literal", 8)]) (g := (gName 8)) (tt := (tAnd (tTest (tOp (rInA K true) (tVar 8) (tVar 6))) (tTest (tOp (rEqP K true) (tVar 3) (tC (.str "dead")))))) (te := (tVar 8)) (by rfl) sc_blind_at.nd rfl rfl (sw_true rfl rfl rfl (by decide +kernel)) (pi_sq (pv 4)) (blkOk_by (by rfl)) (fun _ _ _ _ _ => (pg_name (i := 8) sc_blind_at.nd rfl (by first | exact .inl rfl | exact .inr rfl))) (fun _ _ _ _ _ => (pts_one (PW.pt (pw_and (pt_cmpR (op_niA hu) (pv 8) (pv 6) (by rfl)) (pw_and1 (pt_cmpR (op_neP hu) (pv 3) pe_str (nomark _))))))) (fun _ _ _ _ _ => (pv 8)))
      (pss_one (ps_ret (pe_ifExp (pt_cmpR (op_eqP hu) (pv 5) (pe_lst pa_nil) (nomark _)) pe_non (pe_tup (pa_cons (pv 2) (pa_cons (pe_ix ix_X (pv 5) pe_int (fun _ _ => rfl)) pa_nil))))))))))), ?_⟩
    have CX : Ctx c.names c.clauses h := ⟨X.nm, X.l, L⟩
    have hl : h.length ≤ 1000000 := Nat.le_trans (lits_len L X.nm) (Nat.le_trans X.n14 (by decide))
    refine q_chase (ns := c.names) mh (gv_is (gv_clause TC (gv_var rfl r1)) fun _ _ h => h.sqq) (gv_var rfl r3.sq) CX X.ch fun o u5 v6 M1 H1 g1 hee ru => ?_
    refine q_if0 (b := o.isNone) g1.mh (gt_B (gv_isN (b := o.isNone) (gv_var (P := OpR' DcF o) rfl ru) fun M v h => opD_non h)) (fun hb H2 hh => ?_) fun hb H2 hh => ?_
    · cases o with
      | some so => cases hb
      | none =>
        have e : blindAt c.clauses ss h l = none := by unfold blindAt; rw [if_pos (deadB_iff.mpr hee)]
        exact s_ret (P := fun _ u => u = .non) (g1.mh.trans hh) (gv_c rfl) fun z M' H' g r => q z M' H' ((g1.trans (.idle g1.mh hh)).trans g) (by show OpR' (BlR K) (blindAt c.clauses ss h l) M' z; rw [e]; exact r)
    cases o with
    | none => cases hb
    | some so =>
      have G2 := g1.trans (.idle g1.mh hh)
      have ru : DcF so M1 u5 := ru
      have rc : CtR K so M1 u5 := .inr ru.dc
      have ed : deadB c.clauses h = false := deadB_no hee.1
      refine q_asg (P := OpR' (LiR Tx) (forcedL ss h)) G2.mh (gv_call2 (R1 := SqR K TT) (R2 := SqR K Tx) (x := ss) (y := h) (gv_var rfl (Mon.mono g1.mm r2).sq) (gv_var rfl (Mon.mono g1.mm r3).sq) ⟨hn, hl, he⟩) fun v4 M3 H3 g3 p3 => ?_
      have G3 := G2.trans g3
      have r33 : TT h M3 u := Mon.mono (g1.mm.trans g3.mm) r3
      cases ef : forcedL ss h with
      | none =>
        rw [ef] at p3
        have e : blindAt c.clauses ss h l = some (h, none) := by unfold blindAt; rw [ed, ef]; rfl
        refine q_if0 (b := true) G3.mh (gt_B (gv_isN (b := true) (gv_var (P := OpR' (LiR Tx) none) rfl p3) fun M v h => op_non li_ref h)) (fun _ H4 hh4 => ?_) fun hb => nomatch hb
        exact s_ret (G3.mh.trans hh4) (gv_pair (K := K) (R := TT) (T := OpR' Tx) (x := h) (y := none) (gv_var rfl r33) (gv_c rfl)) fun z M' H' g r => q z M' H' ((G3.trans (.idle G3.mh hh4)).trans g) (by show OpR' (BlR K) (blindAt c.clauses ss h l) M' z; rw [e]; exact r)
      | some f =>
        rw [ef] at p3
        have e : blindAt c.clauses ss h l = blindOf h (lackL c.clauses f h l) := by unfold blindAt; rw [ed, ef]; rfl
        have fl : f.length ≤ 1000000 := by
          unfold forcedL at ef
          cases e0 : fits ss h with
          | nil => rw [e0] at ef; cases ef
          | cons s0 rr =>
            rw [e0] at ef
            cases ef
            exact Nat.le_trans (List.length_filter_le _ _) (he s0 (fits_iff.mp (show s0 ∈ fits ss h by rw [e0]; simp)).1)
        refine q_if0 (b := false) G3.mh (gt_B (gv_isN (b := false) (gv_var (P := OpR' (LiR Tx) (some f)) rfl p3) fun M v h => op_non li_ref h)) (fun hb => nomatch hb) fun _ H4 hh4 => ?_
        have G4 := G3.trans (.idle G3.mh hh4)
        have p3 : LiR Tx f M3 v4 := p3
        refine q_asg (P := LiR Tx (lackL c.clauses f h l)) G4.mh (gv_is (gl_c1 (S := Tx) (R := Tx) (xs := f) (gi_sq (K := K) (gv_var rfl p3.sq)) (szK fl) (fun x => decide (x ∉ so) && decide (l ≠ ("dead" : Str))) id
          (fun x _ M5 u5' sm ru5 => gt_and (b := decide (x ∉ so)) (c := decide (l ≠ ("dead" : Str))) (gt_is (gt_test (gv_inA (K := K) (neg := true) (gv_var rfl ru5) (gv_var rfl (Mon.mono (g3.mm.trans sm) rc)))) (by simp)) fun _ => gt_is (gt_test (gv_eqT (K := K) (neg := true) py_str inj_str (gv_var rfl rfl) (gv_c rfl) (by simp [PyData.depth]))) (by simp)) fun x _ _ M5 u5' sm ru5 => gv_var rfl ru5).li fun M v h => by rw [List.map_id, lack_so hee] at h; exact h) fun v5 M5 H5 g5 p5 => ?_
        have G5 := G4.trans g5
        refine s_ret G5.mh (gv_if (P := OpR' (BlR K) (blindOf h (lackL c.clauses f h l))) (b := decide (lackL c.clauses f h l = [])) (gt_is (gt_test (gv_eqT (K := K) (R := LiR Tx) (neg := false) (fun xs M v h => py_lst py_str _ _ _ (LiR.lst (K := K) h)) (inj_lst inj_str) (gv_var rfl p5) gv_nilL (by simp [PyData.depth, depthS]))) (by simp)) (fun hb => ?_) fun hb => ?_) fun z M' H' g r => q z M' H' (G5.trans g) (by show OpR' (BlR K) (blindAt c.clauses ss h l) M' z; rw [e]; exact r)
        · rw [of_decide_eq_true hb]
          exact gv_c rfl
        · cases el : lackL c.clauses f h l with
          | nil => rw [el] at hb; simp at hb
          | cons x rest =>
            rw [el] at p5
            exact gv_pair (K := K) (R := TT) (T := OpR' Tx) (x := h) (y := some x) (gv_var rfl (Mon.mono g5.mm r33)) (gv_ix (K := K) (R := Tx) (xs := x :: rest) (i := 0) (gv_var rfl p5.sq) (gv_c rfl) (atI_nat (j := 0) rfl))
theorem bl_pre {c : CodeD} {l : Str} (X : LvX c l) {h : List Str} (hh : h ∈ halves (lvNames c l)) : BlPre c (lvSet c l) h :=
  ⟨X.z, X.half hh, Nat.le_trans X.rx.len (by decide), fun s hs => by rw [X.rx.each s hs]; exact Nat.le_trans X.lv.2.1 (by decide)⟩
theorem gv_lvset {σ : Sl} {M : Hp} {C CR : Addr} {c : CodeD} {l : Str} {t1 t2 : TE} (X : LvX c l) (h1 : Gv t1 σ M (CodeR C c)) (h2 : Gv t2 σ M (Tx l)) : Gv (tMeth CR "settings" (sp_Rule_settings K CR) [] E0 (tCall (sp_level_rule K C CR) [] E0 (tCons t1 (tCons t2 tNil))) tNil) σ M (LiR TT (lvSet c l)) :=
  gv_is (gv_met1 (R1 := RuleR CR) (pre := RuleW) (R := fun r => LiR TT r.settings) (x := mkRule (lvNames c l) (lvSet c l)) (insR_rule (by decide +kernel) (by decide +kernel)) (gv_call2 (R1 := CodeR C) (R2 := Tx) (x := c) (y := l) h1 h2 X) X.rx.w) fun M v h => by rw [X.rx.set] at h; exact h
abbrev s_blind : Stmt := topS 48
theorem sc_blind : FnScope ["code", "level", "setting", "names", "settings", "found"] ["code", "level"] (defScope s_blind) := ⟨rfl, rfl, rfl, by decide +kernel, rfl, by decide +kernel, by decide +kernel⟩
def sp_blind (K : PySem.W.Frag) (C CR : Addr) : Sp := sp2 (CodeR C) Tx LvX fun c l => OpR' (BlR K) (blinds c l).head?
theorem ok_blind {f C CR : Addr} {fd : FuncData} {dvs : List V} (F : FunD K "blind" "blind" (defArgs s_blind) (defBody s_blind) (defScope s_blind) dvs [] f fd) (c_level_names : Cal P w K mg base 1 "level_names" ["code", "level"] (sp_level_names K C)) (c_level_rule : Cal P w K mg base 21 "level_rule" ["code", "level"] (sp_level_rule K C CR)) (m_settings : Met P w K mg base 2 CR "settings" ["self"] (sp_Rule_settings K CR))
    (c_half_settings : Cal P w K mg base 1 "half_settings" ["names"] (sp_half_settings K)) (c_blind_at : Cal P w K mg base 4 "blind_at" ["code", "settings", "setting", "level"] (sp_blind_at K C)) : FnOk P w K mg base CX0 22 f fd ["code", "level"] (sp_blind K C CR) := by
  refine funD_ok F sc_blind (fun vs H Q E h => ?_) (fun cdv A outer s H vs Q E hr h => ?_)
  · obtain ⟨x, y, M, v, w, rfl, _⟩ := h
    rfl
  · obtain ⟨c, l, M, v, w, rfl, mh, r1, r2, X, q⟩ := h
    have hu := hr.units
    cases (show w = _ from r2)
    refine ⟨_, (pss_cons (ps_par (i := 3) (j := 4) (by rfl) sc_blind.nd rfl rfl (by decide) rfl rfl (pa_cons (pe_f c_level_names (hr.mono (by decide)) (pa_cons (pv 0) (pa_cons (pv 1) pa_nil))) (pa_cons (pe_m0 m_settings (hr.mono (by decide)) (pe_f c_level_rule (hr.mono (by decide)) (pa_cons (pv 0) (pa_cons (pv 1) pa_nil)))) pa_nil)) (by rfl))
      (pss_cons (ps_for PassesOwn.never (by rfl) (pi_sq (pe_f c_half_settings (hr.mono (by decide)) (pa_cons (pv 3) pa_nil))) (pg_name (i := 2) sc_blind.nd rfl (by first | exact .inl rfl | exact .inr rfl)) (pss_cons (ps_set (i := 5) sc_blind.nd rfl (by first | exact .inl rfl | exact .inr rfl) (pe_f c_blind_at (hr.mono (by decide)) (pa_cons (pv 0) (pa_cons (pv 4) (pa_cons (pv 2) (pa_cons (pv 1) pa_nil))))))
      (pss_one (ps_if (pt_cmp (pc_notN (pv 5))) (pss_one (ps_ret (pv 5))) pss_nil))))
      (pss_one (ps_ret pe_non)))), ?_⟩
    refine q_par2 (a_V (P := TT (lvNames c l)) mh (gv_call2 (R1 := CodeR C) (R2 := Tx) (x := c) (y := l) (gv_var rfl r1) (gv_var rfl rfl) X) fun v3 M1 H1 g1 p1 => a_V (P := LiR TT (lvSet c l)) g1.mh (gv_lvset (K := K) X (gv_var rfl (Mon.mono g1.mm r1)) (gv_var rfl rfl)) fun v4 M2 H2 g2 p2 => a_nil ⟨_, _, rfl, ?_⟩)
    have G2 := g1.trans g2
    refine q_for (R1 := TT) (xs := halves (lvNames c l)) G2.mh (gv_is (gv_call1 (R1 := SqR K Tx) (pre := fun ns => ns.length ≤ 6 ∧ Shorts ns) (R := fun ns => LiR TT (halves ns)) (gv_var rfl (Mon.mono g2.mm p1).sq) ⟨X.lv.2.1, nm_shorts X.lv.1⟩) fun _ _ h => h.sq)
      (fun M1' i σ' M' H' => ∃ y2 y5, Gr M H M' H' ∧ Same M1' M' ∧ Same M2 M' ∧ ((halves (lvNames c l)).take i).filterMap (fun h => blindAt c.clauses (lvSet c l) h l) = [] ∧ σ' = [some v, some (.str l), y2, some v3, some v4, y5])
      (fun M5 H5 g5 => ⟨_, _, G2.trans g5, Same.refl _, g5.mm, rfl, rfl⟩) (fun M5 i σ' M' H' ⟨_, _, g, s1, _⟩ => ⟨s1, g.mh⟩) ?_ ?_
    · rintro M5 i h vh σ' M' H' sM hx ⟨y2, y5, g, s1, s2, hno, rfl⟩ rh
      refine q_asg (P := OpR' (BlR K) (blindAt c.clauses (lvSet c l) h l)) g.mh (gv_call4 (R1 := CodeR C) (R2 := LiR TT) (R3 := TT) (R4 := Tx) (x := c) (y := lvSet c l) (z := h) (t := l) (gv_var rfl (Mon.mono g.mm r1)) (gv_var rfl (Mon.mono s2 p2)) (gv_var rfl rh) (gv_var rfl rfl) (bl_pre X (List.mem_of_getElem? hx))) fun v7 M6 H6 g6 r7 => ?_
      have G6 := g.trans g6
      have spl : halves (lvNames c l) = (halves (lvNames c l)).take i ++ h :: (halves (lvNames c l)).drop (i + 1) := by
        obtain ⟨hi, e⟩ := List.getElem?_eq_some_iff.mp hx
        rw [← e, ← List.drop_eq_getElem_cons hi, List.take_append_drop]
      refine s_if0 (b := !(blindAt c.clauses (lvSet c l) h l).isNone) G6.mh (gt_B (gv_notN (b := (blindAt c.clauses (lvSet c l) h l).isNone) (gv_var (P := OpR' (BlR K) (blindAt c.clauses (lvSet c l) h l)) rfl r7) fun M v h => op_non bl_ref h)) (fun hb3 H7 hh7 => ?_) fun hb3 H7 hh7 => ?_
      · cases eb : blindAt c.clauses (lvSet c l) h l with
        | none => rw [eb] at hb3; cases hb3
        | some b =>
          have eh : (blinds c l).head? = some b := by
            unfold blinds
            rw [spl, List.filterMap_append, hno, List.filterMap_cons_some (f := fun h => blindAt c.clauses (lvSet c l) h l) eb]
            rfl
          rw [eb] at r7
          exact s_ret (P := OpR' (BlR K) (some b)) (G6.mh.trans hh7) (gv_var rfl r7) fun z M' H' g r => q z M' H' ((G6.trans (.idle G6.mh hh7)).trans g) (by show OpR' (BlR K) (blinds c l).head? M' z; rw [eh]; exact r)
      · refine ⟨M6, _, _, G6.trans (.idle G6.mh hh7), s1.trans g6.mm, s2.trans g6.mm, ?_, rfl⟩
        have en : blindAt c.clauses (lvSet c l) h l = none := by cases eb : blindAt c.clauses (lvSet c l) h l with
          | none => rfl
          | some b => rw [eb] at hb3; cases hb3
        rw [List.take_add_one, hx, List.filterMap_append, hno]
        show [h].filterMap (fun h => blindAt c.clauses (lvSet c l) h l) = []
        rw [List.filterMap_cons_none (f := fun h => blindAt c.clauses (lvSet c l) h l) en]
        rfl
    · rintro M5 σ' M' H' sM ⟨y2, y5, g, s1, s2, hno, rfl⟩
      rw [List.take_length] at hno
      exact s_ret (P := fun _ u => u = .non) g.mh (gv_c rfl) fun z M' H' g' r => q z M' H' (g.trans g') (by
        have e : blinds c l = [] := hno
        show OpR' (BlR K) (blinds c l).head? M' z
        rw [e]; exact r)
abbrev s_sees : Stmt := topS 49
theorem sc_sees : FnScope ["code", "level"] ["code", "level"] (defScope s_sees) := ⟨rfl, rfl, rfl, by decide +kernel, rfl, by decide +kernel, by decide +kernel⟩
def sp_sees (K : PySem.W.Frag) (C : Addr) : Sp := sp2 (CodeR C) Tx LvX fun c l => Bl (blinds c l).isEmpty
theorem ok_sees {f C CR : Addr} {fd : FuncData} {dvs : List V} (F : FunD K "sees" "sees" (defArgs s_sees) (defBody s_sees) (defScope s_sees) dvs [] f fd) (c_blind : Cal P w K mg base 22 "blind" ["code", "level"] (sp_blind K C CR)) : FnOk P w K mg base CX0 23 f fd ["code", "level"] (sp_sees K C) := by
  refine funD_ok F sc_sees (fun vs H Q E h => ?_) (fun cdv A outer s H vs Q E hr h => ?_)
  · obtain ⟨x, y, M, v, w, rfl, _⟩ := h
    rfl
  · obtain ⟨c, l, M, v, w, rfl, mh, r1, r2, X, q⟩ := h
    have hu := hr.units
    refine ⟨_, (pss_one (ps_ret (pe_cmp (pc_isN (pe_f c_blind (hr.mono (by decide)) (pa_cons (pv 0) (pa_cons (pv 1) pa_nil))))))), ?_⟩
    exact s_ret mh (gv_isN (P := OpR' (BlR K) (blinds c l).head?) (gv_call2 (R1 := CodeR C) (R2 := Tx) (x := c) (y := l) (gv_var rfl r1) (gv_var rfl r2) X) fun M v h => by
      rw [op_non bl_ref h]
      cases blinds c l <;> rfl) q
end
end My

set_option Elab.async false
set_option linter.all false
set_option maxRecDepth 100000
set_option maxHeartbeats 4000000
namespace My
open PySem PySem.Spec PyProof.Rows L2 L3
/-! what the law takes for allowed -/
def fitB (cs : List (List Str)) (s : List Str) : Bool := cs.all fun d => meets d s
theorem fitB_iff {cs : List (List Str)} {s : List Str} : fitB cs s = true ↔ Fits cs s := by unfold fitB Fits meets; simp
def allowedL (sg : List Str) (cs : List (List Str)) (hp : List Str) : List (List Str) := (fulls sg).filter fun s => (fulls hp).any fun r => fitB cs (s ++ r)
theorem fulls_mem {ns s : List Str} (h : Paired Side ns s) : s ∈ fulls ns := by
  have go : ∀ {ns s : List Str}, Paired Side ns s → ∀ (acc : List (List Str)) (pre : List Str), pre ∈ acc → pre ++ s ∈ ns.foldl fullP acc := by
    intro ns s h
    induction h with
    | nil => intro acc pre hp; simpa using hp
    | @cons n l ns t e _ ih =>
      intro acc pre hp
      rw [List.foldl_cons]
      have := ih (fullP acc n) (pre ++ [l]) (List.mem_flatMap.mpr ⟨pre, hp, List.mem_map.mpr ⟨l, by rcases e with e | e <;> rw [e] <;> simp, rfl⟩⟩)
      simpa using this
  have := go h [[]] [] (by simp)
  simpa [fulls] using this
theorem side_in {ns s s' : List Str} (nm : NmL ns) (p : Paired Side ns s') (sub : ∀ x ∈ s, x ∈ s') {n l : Str} (hn : n ∈ ns) (e : Side n l) (hl : l ∈ s') (hs : n ∈ s ∨ ("-" : Str) ++ n ∈ s) : l ∈ s := by
  have one := lits_one nm (side_lits nm p) hn
  rcases e with e | e <;> rcases hs with h | h
  · rw [e]; exact h
  · rw [e] at hl; exact absurd ⟨hl, sub _ h⟩ one
  · rw [e] at hl; exact absurd ⟨sub _ h, hl⟩ one
  · rw [e]; exact h
theorem paired_split {b : List Str} : ∀ {a s : List Str}, Paired Side (a ++ b) s → ∃ s1 s2, s = s1 ++ s2 ∧ Paired Side a s1 ∧ Paired Side b s2
  | [], s, h => ⟨[], s, rfl, .nil, h⟩
  | n :: a, _, .cons (b := l) e t => by
    obtain ⟨s1, s2, e1, h1, h2⟩ := paired_split (a := a) t
    exact ⟨l :: s1, s2, by rw [e1]; rfl, .cons e h1, h2⟩
theorem sat_all {c : CodeD} (X : CodeX c) {s : List Str} (hs : s ∈ fulls c.names) : satB c.names c.clauses s = fitB c.clauses s := by
  have p := fulls_paired hs
  rw [Bool.eq_iff_iff, satB_iff, fitB_iff]
  constructor
  · rintro ⟨s', p', sub, hf⟩ d hd
    obtain ⟨m, hm, hms⟩ := hf d hd
    obtain ⟨n, hn, e⟩ := (X.l d hd).of m hm
    exact ⟨m, hm, side_in X.nm p' sub hn e hms (paired_mem p hn)⟩
  · intro hf
    exact ⟨s, p, fun _ h => h, hf⟩
theorem sat_signs {c : CodeD} (X : CodeX c) {s : List Str} (hs : s ∈ fulls c.signs) : satB c.names c.clauses s = (fulls c.helpers).any fun r => fitB c.clauses (s ++ r) := by
  have p := fulls_paired hs
  rw [Bool.eq_iff_iff, satB_iff, List.any_eq_true]
  constructor
  · rintro ⟨s', p', sub, hf⟩
    obtain ⟨s1, s2, e, h1, h2⟩ := paired_split (a := c.signs) (b := c.helpers) p'
    refine ⟨s2, fulls_mem h2, fitB_iff.mpr fun d hd => ?_⟩
    obtain ⟨m, hm, hms⟩ := hf d hd
    refine ⟨m, hm, ?_⟩
    rw [e] at hms
    rcases List.mem_append.mp hms with h | h
    · obtain ⟨n, hn, em⟩ := (side_lits X.sg.1 h1).of m h
      exact List.mem_append_left _ (side_in X.nm p' sub (List.mem_append_left _ hn) em (by rw [e]; exact hms) (paired_mem p hn))
    · exact List.mem_append_right _ h
  · rintro ⟨r, hr, hf⟩
    exact ⟨s ++ r, pd_app p (fulls_paired hr), fun x hx => List.mem_append_left _ hx, fitB_iff.mp hf⟩
theorem lvSet_all {c : CodeD} (X : CodeX c) {l : Str} (hl : l = ("all" : Str)) : lvSet c l = (fulls c.names).filter (fitB c.clauses) := by
  have e : lvNames c l = c.names := if_pos hl
  unfold lvSet
  rw [e]
  exact List.filter_congr fun s hs => sat_all X hs
theorem lvSet_signs {c : CodeD} (X : CodeX c) {l : Str} (hl : ¬ l = ("all" : Str)) : lvSet c l = allowedL c.signs c.clauses c.helpers := by
  have e : lvNames c l = c.signs := if_neg hl
  unfold lvSet allowedL
  rw [e]
  exact List.filter_congr fun s hs => sat_signs X hs
/-! the law's codes -/
structure LawX (c : CodeD) : Prop where
  nm : NmL c.names
  n6 : c.names.length ≤ 6
  l : ∀ x ∈ c.clauses, Lits c.names x
  k : c.clauses.length ≤ 1000
theorem LawX.len {c : CodeD} (X : LawX c) : ∀ x ∈ c.clauses, x.length ≤ 6 := fun x hx => Nat.le_trans (lits_len (X.l x hx) X.nm) X.n6
theorem LawX.x {c : CodeD} (X : LawX c) : CodeX c := by
  have h2 := flat_len X.len
  have h3 := X.k
  have h4 : c.clauses.length * 6 ≤ 1000 * 6 := Nat.mul_le_mul_right _ h3
  exact ⟨X.nm, X.l, ⟨fun x hx => ⟨Nat.le_trans (X.len x hx) (by decide), fun l hl => Nat.le_trans (lits_short (X.l x hx) X.nm l hl) (by decide)⟩, by omega, by omega, nm_shorts X.nm⟩, X.n6⟩
theorem LawX.ok {c : CodeD} (X : LawX c) : CodeOk c.signs c.helpers c.clauses := by
  have nd := X.nm.nd
  have hn := X.n6
  have hl : c.names.length = c.signs.length + c.helpers.length := List.length_append
  obtain ⟨n1, n2, n3⟩ := List.nodup_append.mp (show (c.signs ++ c.helpers).Nodup from nd)
  refine ⟨⟨n1, fun x hx => ⟨X.nm.nm x (List.mem_append_left _ hx), fun h => by cases h⟩, by omega⟩, ⟨n2, fun x hx => ⟨X.nm.nm x (List.mem_append_right _ hx), fun h => n3 x h x hx rfl⟩, by omega⟩, Nat.le_trans X.k (by decide), fun x hx => clOk_lits X.nm (X.l x hx), ?_⟩
  show c.names.length ≤ 1000
  omega
abbrev madeOf (c : CodeD) : CodeD := mkCode c.signs c.helpers c.clauses
theorem LawX.made {c : CodeD} (X : LawX c) : LawX (madeOf c) := by
  refine ⟨X.nm, X.n6, fun x hx => ?_, ?_⟩
  · obtain ⟨d, hd, rfl⟩ := List.mem_map.mp (mem_once.mp (show x ∈ once (c.clauses.map fun d => asc d c.names) from hx))
    exact (X.l d hd).asc X.nm
  · refine Nat.le_trans (once_len2 _) ?_
    rw [List.length_map]
    exact X.k
theorem asc_same {ns d : List Str} (L : Lits ns d) (x : Str) : x ∈ asc d ns ↔ x ∈ d := by
  rw [mem_asc]
  exact ⟨fun ⟨_, _, _, h⟩ => h, fun h => let ⟨n, hn, e⟩ := L.of x h; ⟨n, hn, e, h⟩⟩
theorem good_law {c : CodeD} (g : Good c) (h : c.names.length ≤ 6) : LawX c := ⟨g.nm, h, g.lits, Nat.le_trans g.few (by decide)⟩
end My

set_option Elab.async false
set_option linter.all false
set_option maxRecDepth 100000
set_option maxHeartbeats 8000000
namespace My
open PySem PySem.Spec PyProof.Rows L2 L3
section
variable {P : Program} {w : World} {K : PySem.W.Frag} {mg : Str → Option Value} {base : Heap}
def sp__law_made2 (K : PySem.W.Frag) (C : Addr) : Sp := sp1 LawR LawX fun c => CodeR C (madeOf c)
theorem ok__law_made2 {f C : Addr} {fd : FuncData} (F : Fun K "_law_made" "_law_made" s__law_made f fd) (k_Code : Mak P w K mg base 5 "Code" C ["self", "signs", "clauses", "helpers"] (sp_Code_init K C)) : FnOk P w K mg base CX0 7 f fd ["_law_c"] (sp__law_made2 K C) := by
  refine F.ok sc__law_made (fun vs H Q E h => ?_) (fun cdv A outer s H vs Q E hr h => ?_)
  · obtain ⟨x, M, v, rfl, _⟩ := h
    rfl
  · obtain ⟨c, M, v, rfl, mh, r1, X, q⟩ := h
    have hu := hr.units
    refine ⟨_, (pss_one (ps_ret (pe_mk k_Code (hr.mono (by decide)) (pa_cons (pe_dget (Nat.lt_of_le_of_lt (Nat.add_le_add_left (by decide) _) hu) (pv 0) pe_str (fun _ _ => rfl)) (pa_cons (pe_dget (Nat.lt_of_le_of_lt (Nat.add_le_add_left (by decide) _) hu) (pv 0) pe_str (fun _ _ => rfl)) (pa_cons (pe_dget (Nat.lt_of_le_of_lt (Nat.add_le_add_left (by decide) _) hu) (pv 0) pe_str (fun _ _ => rfl)) pa_nil)))))), ?_⟩
    refine gv_cS (gv_var rfl r1) H mh _ fun v1 M1 H1 g1 q1 => ?_
    refine gv_cC (gv_var (P := LawR c) rfl (Mon.mono g1.mm r1)) H1 g1.mh _ fun v2 M2 H2 g2 q2 => ?_
    refine gv_cH (gv_var (P := LawR c) rfl (Mon.mono (g1.trans g2).mm r1)) H2 g2.mh _ fun v3 M3 H3 g3 q3 => ?_
    intro x dx hx hdx hne
    have G := (g1.trans g2).trans g3
    have m3 : Same M3 H3 := g3.mh
    have gN : Gr M3 H3 M3 (upd (upd H3 dx (.own x)) x (.ins C dx [])) := (Gr.own m3 hdx).trans (.own (m3.trans (same_new hdx)) (by rw [upd_ne (Ne.symm hne)]; exact hx))
    refine ⟨c.signs, c.helpers, c.clauses, M3, H3, x, dx, v1, v2, v3, rfl, gN, hx, m3.free hx, upd_same, (Mon.mono (g2.mm.trans g3.mm) q1 : LiR Tx c.signs M3 v1).sq, liTT_sqq (Mon.mono g3.mm q2), q3.sq, X.ok, fun M' H' g r => ⟨rfl, ?_⟩⟩
    exact q _ M' H' (G.trans g) r
abbrev s__law_fits : Stmt := topS 69
theorem sc__law_fits : FnScope ["_law_clauses", "_law_some", "_law_clause_here"] ["_law_clauses", "_law_some"] (defScope s__law_fits) := ⟨rfl, rfl, rfl, by decide +kernel, rfl, by decide +kernel, by decide +kernel⟩
def sp__law_fits (K : PySem.W.Frag) : Sp := sp2 (SqR K (SqR K Tx)) (CtR K) (fun cs _ => cs.length ≤ 1000000 ∧ ∀ c ∈ cs, c.length ≤ 1000000) fun cs s => Bl (fitB cs s)
theorem ok__law_fits {f : Addr} {fd : FuncData} (F : Fun K "_law_fits" "_law_fits" s__law_fits f fd) (T : Gc mg) (c__law_meets : Cal P w K mg base 1 "_law_meets" ["_law_clause_here", "_law_some"] (sp__law_meets K)) : FnOk P w K mg base CX0 2 f fd ["_law_clauses", "_law_some"] (sp__law_fits K) := by
  refine F.ok sc__law_fits (fun vs H Q E h => ?_) (fun cdv A outer s H vs Q E hr h => ?_)
  · obtain ⟨x, y, M, v, w, rfl, _⟩ := h
    rfl
  · obtain ⟨cs, s, M, v, w, rfl, mh, r1, r2, ⟨h1, h2⟩, q⟩ := h
    have hu := hr.units
    refine ⟨_, (pss_one (ps_ret (pe_callB (cr_all rfl) (by rfl) T.all boot_all (pa_cons (pe_lc (own := [("_law_clause_here", 2)]) (g := (gName 2)) (tt := tYes) (te := (tCall (sp__law_meets K) [] E0 (tCons (tVar 2) (tCons (tVar 1) tNil)))) (by rfl) sc__law_fits.nd (pi_sq (pv 0)) (blkOk_by (by rfl)) (fun _ _ _ _ _ => (pg_name (i := 2) sc__law_fits.nd rfl (by first | exact .inl rfl | exact .inr rfl))) (fun _ _ _ _ _ => pts_nil) (fun _ _ _ _ _ => (pe_f c__law_meets (hr.mono (by decide)) (pa_cons (pv 2) (pa_cons (pv 1) pa_nil))))) pa_nil)))), ?_⟩
    refine s_ret mh (gv_is (gv_all (K := K) (gl_m1 (S := Bl) (R := SqR K Tx) (xs := cs) (gi_sq (K := K) (gv_var rfl r1)) (szK h1) (fun c => meets c s) fun c hc M1 u sm ru => gv_call2 (R1 := SqR K Tx) (R2 := CtR K) (pre := fun p _ => p.length ≤ 1000000) (R := fun p c => Bl (meets p c)) (x := c) (y := s) (gv_var rfl ru) (gv_var rfl (Mon.mono sm r2)) (h2 c hc))) fun M' v h => ?_) q
    rw [show v = _ from h, List.all_map]
    rfl
abbrev s__law_allowed : Stmt := topS 70
theorem sc__law_allowed : FnScope ["_law_signs", "_law_clauses", "_law_helpers", "_law_rests", "_law_one", "_law_rest"] ["_law_signs", "_law_clauses", "_law_helpers"] (defScope s__law_allowed) := ⟨rfl, rfl, rfl, by decide +kernel, rfl, by decide +kernel, by decide +kernel⟩
structure AlPre (sg : List Str) (cs : List (List Str)) (hp : List Str) : Prop where
  s6 : sg.length ≤ 6
  ss : Shorts sg
  h6 : hp.length ≤ 6
  hs : Shorts hp
  n : cs.length ≤ 1000000
  e : ∀ c ∈ cs, c.length ≤ 1000000
theorem fulls64 {ns : List Str} (h : ns.length ≤ 6) : (fulls ns).length ≤ 64 := by
  rw [fulls_len]
  exact Nat.le_trans (Nat.pow_le_pow_right (by decide) h) (by decide)
def sp__law_allowed (K : PySem.W.Frag) : Sp := sp3 (SqR K Tx) (SqR K (SqR K Tx)) (SqR K Tx) AlPre fun sg cs hp => LiR TT (allowedL sg cs hp)
theorem ok__law_allowed {f : Addr} {fd : FuncData} (F : Fun K "_law_allowed" "_law_allowed" s__law_allowed f fd) (T : Gc mg) (c__law_fulls : Cal P w K mg base 1 "_law_fulls" ["_law_names_here"] (sp__law_fulls K)) (c__law_fits : Cal P w K mg base 2 "_law_fits" ["_law_clauses", "_law_some"] (sp__law_fits K)) : FnOk P w K mg base CX0 3 f fd ["_law_signs", "_law_clauses", "_law_helpers"] (sp__law_allowed K) := by
  refine F.ok sc__law_allowed (fun vs H Q E h => ?_) (fun cdv A outer s H vs Q E hr h => ?_)
  · obtain ⟨x, y, z, M, v, w, u, rfl, _⟩ := h
    rfl
  · obtain ⟨sg, cs, hp, M, v, w, u, rfl, mh, r1, r2, r3, X, q⟩ := h
    have hu := hr.units
    refine ⟨_, (pss_cons (ps_set (i := 3) sc__law_allowed.nd rfl (by first | exact .inl rfl | exact .inr rfl) (pe_f c__law_fulls (hr.mono (by decide)) (pa_cons (pv 2) pa_nil)))
      (pss_one (ps_ret (pe_lc (own := [("_law_one", 4)]) (g := (gName 4)) (tt := (tB (tCB (rAny K) (tCons (tLc (iSq K (tVar 3)) (gName 5) tYes (tCall (sp__law_fits K) [] E0 (tCons (tVar 1) (tCons (tOp (rAddA K) (tVar 4) (tVar 5)) tNil))) [5]) tNil)))) (te := (tVar 4)) (by rfl) sc__law_allowed.nd (pi_sq (pe_f c__law_fulls (hr.mono (by decide)) (pa_cons (pv 0) pa_nil))) (blkOk_by (by rfl)) (fun _ _ _ _ _ => (pg_name (i := 4) sc__law_allowed.nd rfl (by first | exact .inl rfl | exact .inr rfl))) (fun _ _ _ _ _ => (pts_one (pt_val (pe_callB (cr_any rfl) (by rfl) T.any boot_any (pa_cons (pe_lc (own := [("_law_rest", 5)]) (g := (gName 5)) (tt := tYes) (te := (tCall (sp__law_fits K) [] E0 (tCons (tVar 1) (tCons (tOp (rAddA K) (tVar 4) (tVar 5)) tNil)))) (by rfl) sc__law_allowed.nd (pi_sq (pv 3)) (blkOk_by (by rfl)) (fun _ _ _ _ _ => (pg_name (i := 5) sc__law_allowed.nd rfl (by first | exact .inl rfl | exact .inr rfl))) (fun _ _ _ _ _ => pts_nil) (fun _ _ _ _ _ => (pe_f c__law_fits (hr.mono (by decide)) (pa_cons (pv 1) (pa_cons (pe_op op_addA (pv 4) (pv 5)) pa_nil))))) pa_nil))))) (fun _ _ _ _ _ => (pv 4)))))), ?_⟩
    refine q_asg (P := LiR TT (fulls hp)) mh (gv_call1 (R1 := SqR K Tx) (pre := fun ns => ns.length ≤ 6 ∧ Shorts ns) (R := fun ns => LiR TT (fulls ns)) (gv_var rfl r3) ⟨X.h6, X.hs⟩) fun v3 M1 H1 g1 p1 => ?_
    refine s_ret g1.mh (gv_is (gl_c1 (S := TT) (R := TT) (xs := fulls sg) (gi_sq (K := K) (gv_is (gv_call1 (R1 := SqR K Tx) (pre := fun ns => ns.length ≤ 6 ∧ Shorts ns) (R := fun ns => LiR TT (fulls ns)) (gv_var rfl (Mon.mono g1.mm r1)) ⟨X.s6, X.ss⟩) fun _ _ h => h.sq)) (szK (Nat.le_trans (fulls64 X.s6) (by decide))) (fun s => (fulls hp).any fun r => fitB cs (s ++ r)) id
      (fun s hs M2 u2 sm ru => gt_B (gv_is (gv_any (K := K) (gl_m1 (S := Bl) (R := TT) (xs := fulls hp) (gi_sq (K := K) (gv_var rfl (Mon.mono sm p1).sq)) (szK (Nat.le_trans (fulls64 X.h6) (by decide))) (fun r => fitB cs (s ++ r))
        fun r hr' M3 u3 sm3 ru3 => gv_call2 (R1 := SqR K (SqR K Tx)) (R2 := CtR K) (pre := fun cs _ => cs.length ≤ 1000000 ∧ ∀ c ∈ cs, c.length ≤ 1000000) (R := fun cs s => Bl (fitB cs s)) (x := cs) (y := s ++ r) (gv_var rfl (Mon.mono (g1.mm.trans (sm.trans sm3)) r2)) (gv_is (gv_addTT (K := K) (xs := s) (ys := r) (gv_var rfl (Mon.mono sm3 ru)) (gv_var rfl ru3) (szM (by have h1 := fulls_each _ s hs; have h2 := fulls_each _ r hr'; have h3 := X.s6; have h4 := X.h6; omega))) fun _ _ h => .inl h.sq) ⟨X.n, X.e⟩)) fun M' v h => by rw [show v = _ from h, List.any_map]; rfl)) fun s _ _ M2 u2 sm ru => gv_var rfl ru).li fun M' v' h => by rw [List.map_id] at h; exact h) fun u M' H' g r => q u M' H' (g1.trans g) r
abbrev s__law_rule_of : Stmt := topS 83
theorem sc__law_rule_of : FnScope ["_law_c", "_law_level", "_law_names_here", "_law_one"] ["_law_c", "_law_level"] (defScope s__law_rule_of) := ⟨rfl, rfl, rfl, by decide +kernel, rfl, by decide +kernel, by decide +kernel⟩
def sp__law_rule_of (K : PySem.W.Frag) : Sp := sp2 LawR Tx (fun c _ => CodeX c) fun c l => PrR K (LiR Tx) (LiR TT) (lvNames c l, lvSet c l)
theorem CodeX.hp {c : CodeD} (X : CodeX c) : c.helpers.length ≤ 6 ∧ Shorts c.helpers := by
  have e : c.names.length = c.signs.length + c.helpers.length := List.length_append
  have := X.n6
  have sh := nm_shorts X.nm
  exact ⟨by omega, by omega, fun n hn => sh.2 n (List.mem_append_right _ hn)⟩
theorem ok__law_rule_of {f : Addr} {fd : FuncData} (F : Fun K "_law_rule_of" "_law_rule_of" s__law_rule_of f fd) (T : Gc mg) (c__law_fulls : Cal P w K mg base 1 "_law_fulls" ["_law_names_here"] (sp__law_fulls K)) (c__law_fits : Cal P w K mg base 2 "_law_fits" ["_law_clauses", "_law_some"] (sp__law_fits K))
    (c__law_allowed : Cal P w K mg base 3 "_law_allowed" ["_law_signs", "_law_clauses", "_law_helpers"] (sp__law_allowed K)) : FnOk P w K mg base CX0 4 f fd ["_law_c", "_law_level"] (sp__law_rule_of K) := by
  refine F.ok sc__law_rule_of (fun vs H Q E h => ?_) (fun cdv A outer s H vs Q E hr h => ?_)
  · obtain ⟨x, y, M, v, w, rfl, _⟩ := h
    rfl
  · obtain ⟨c, l, M, v, w, rfl, mh, r1, r2, X, q⟩ := h
    have hu := hr.units
    cases (show w = _ from r2)
    refine ⟨_, (pss_cons (ps_if (pt_cmpR (op_eqP hu) (pv 1) pe_str (nomark _)) (pss_cons (ps_set (i := 2) sc__law_rule_of.nd rfl (by first | exact .inl rfl | exact .inr rfl) (pe_op op_addA (pe_dget (Nat.lt_of_le_of_lt (Nat.add_le_add_left (by decide) _) hu) (pv 0) pe_str (fun _ _ => rfl)) (pe_dget (Nat.lt_of_le_of_lt (Nat.add_le_add_left (by decide) _) hu) (pv 0) pe_str (fun _ _ => rfl))))
      (pss_one (ps_ret (pe_tup (pa_cons (pv 2) (pa_cons (pe_lc (own := [("_law_one", 3)]) (g := (gName 3)) (tt := (tB (tCall (sp__law_fits K) [] E0 (tCons (tDGet (tVar 0) (tC (.str "clauses"))) (tCons (tVar 3) tNil))))) (te := (tVar 3)) (by rfl) sc__law_rule_of.nd (pi_sq (pe_f c__law_fulls (hr.mono (by decide)) (pa_cons (pv 2) pa_nil))) (blkOk_by (by rfl)) (fun _ _ _ _ _ => (pg_name (i := 3) sc__law_rule_of.nd rfl (by first | exact .inl rfl | exact .inr rfl))) (fun _ _ _ _ _ => (pts_one (pt_val (pe_f c__law_fits (hr.mono (by decide)) (pa_cons (pe_dget (Nat.lt_of_le_of_lt (Nat.add_le_add_left (by decide) _) hu) (pv 0) pe_str (fun _ _ => rfl)) (pa_cons (pv 3) pa_nil)))))) (fun _ _ _ _ _ => (pv 3))) pa_nil)))))) pss_nil)
      (pss_one (ps_ret (pe_tup (pa_cons (pe_dget (Nat.lt_of_le_of_lt (Nat.add_le_add_left (by decide) _) hu) (pv 0) pe_str (fun _ _ => rfl)) (pa_cons (pe_f c__law_allowed (hr.mono (by decide)) (pa_cons (pe_dget (Nat.lt_of_le_of_lt (Nat.add_le_add_left (by decide) _) hu) (pv 0) pe_str (fun _ _ => rfl)) (pa_cons (pe_dget (Nat.lt_of_le_of_lt (Nat.add_le_add_left (by decide) _) hu) (pv 0) pe_str (fun _ _ => rfl)) (pa_cons (pe_dget (Nat.lt_of_le_of_lt (Nat.add_le_add_left (by decide) _) hu) (pv 0) pe_str (fun _ _ => rfl)) pa_nil)))) pa_nil)))))), ?_⟩
    have cn : c.clauses.length ≤ 1000000 := X.w.k
    have ce : ∀ d ∈ c.clauses, d.length ≤ 1000000 := fun d hd => Nat.le_trans (lits_len (X.l d hd) X.nm) (Nat.le_trans X.n6 (by decide))
    refine q_if0 (b := decide (l = ("all" : Str))) mh (gt_is (gt_test (gv_eqT (K := K) (neg := false) py_str inj_str (gv_var rfl rfl) (gv_c rfl) (by simp [PyData.depth]))) (by simp)) (fun hb H2 hh => ?_) fun hb H2 hh => ?_
    · have hl := of_decide_eq_true hb
      have mh2 := mh.trans hh
      have G2 : Gr M H M H2 := .idle mh hh
      refine q_asg (P := LiR Tx c.names) mh2 (gl_addL (K := K) (R := Tx) (gv_cS (gv_var rfl r1)) (gv_cH (gv_var rfl r1)) (szM (by have : c.names.length = c.signs.length + c.helpers.length := List.length_append; have := X.n6; omega))).li fun v2 M1 H1 g1 p1 => ?_
      have G1 := G2.trans g1
      have r11 : LawR c M1 v := Mon.mono g1.mm r1
      refine s_ret G1.mh (gv_is (gv_pair (K := K) (R := LiR Tx) (T := LiR TT) (x := c.names) (y := (fulls c.names).filter (fitB c.clauses)) (gv_var rfl p1) (gv_is (gl_c1 (S := TT) (R := TT) (xs := fulls c.names) (gi_sq (K := K) (gv_is (gv_call1 (R1 := SqR K Tx) (pre := fun ns => ns.length ≤ 6 ∧ Shorts ns) (R := fun ns => LiR TT (fulls ns)) (gv_var rfl p1.sq) ⟨X.n6, nm_shorts X.nm⟩) fun _ _ h => h.sq)) (szK (Nat.le_trans (fulls64 X.n6) (by decide))) (fitB c.clauses) id
        (fun s hs M2 u2 sm ru => gt_B (gv_call2 (R1 := SqR K (SqR K Tx)) (R2 := CtR K) (pre := fun cs _ => cs.length ≤ 1000000 ∧ ∀ c ∈ cs, c.length ≤ 1000000) (R := fun cs s => Bl (fitB cs s)) (x := c.clauses) (y := s) (gv_is (gv_cC (gv_var rfl (Mon.mono sm r11))) fun _ _ h => liTT_sqq h) (gv_var rfl (.inl ru.sq)) ⟨cn, ce⟩)) fun s _ _ M2 u2 sm ru => gv_var rfl ru).li fun M' v' h => by rw [List.map_id] at h; exact h)) fun M v h => ?_) fun u M' H' g r => q u M' H' (G1.trans g) r
      show PrR K (LiR Tx) (LiR TT) (lvNames c l, lvSet c l) M v
      rw [lvSet_all X hl, show lvNames c l = c.names from if_pos hl]
      exact h
    · have hl := of_decide_eq_false hb
      have mh2 := mh.trans hh
      have G2 : Gr M H M H2 := .idle mh hh
      refine s_ret mh2 (gv_is (gv_pair (K := K) (R := LiR Tx) (T := LiR TT) (x := c.signs) (y := allowedL c.signs c.clauses c.helpers) (gv_cS (gv_var rfl r1)) (gv_call3 (R1 := SqR K Tx) (R2 := SqR K (SqR K Tx)) (R3 := SqR K Tx) (x := c.signs) (y := c.clauses) (z := c.helpers) (gv_is (gv_cS (gv_var rfl r1)) fun _ _ h => h.sq) (gv_is (gv_cC (gv_var rfl r1)) fun _ _ h => liTT_sqq h) (gv_is (gv_cH (gv_var rfl r1)) fun _ _ h => h.sq) ⟨X.sg.2, nm_shorts X.sg.1, X.hp.1, X.hp.2, cn, ce⟩)) fun M v h => ?_) fun u M' H' g r => q u M' H' (G2.trans g) r
      show PrR K (LiR Tx) (LiR TT) (lvNames c l, lvSet c l) M v
      rw [lvSet_signs X hl, show lvNames c l = c.signs from if_neg hl]
      exact h
end
end My

set_option Elab.async false
set_option linter.all false
set_option maxRecDepth 100000
set_option maxHeartbeats 4000000
namespace My
open PySem PySem.Spec PyProof.Rows L2 L3
/-! codes whose clauses stand as the program keeps them -/
structure Nf (c : CodeD) : Prop where
  a : ∀ x ∈ c.clauses, asc x c.names = x
  nd : c.clauses.Nodup
theorem map_self {α : Type} {f : α → α} {xs : List α} (h : ∀ x ∈ xs, f x = x) : xs.map f = xs := by
  have := List.map_congr_left (l := xs) (f := f) (g := id) h
  rw [this, List.map_id]
theorem Nf.made {c : CodeD} (h : Nf c) : madeOf c = c := by
  obtain ⟨ss, hs, cl⟩ := c
  show CodeD.mk ss hs (once (cl.map fun d => asc d (ss ++ hs))) = _
  rw [map_self (f := fun d => asc d (ss ++ hs)) h.a, once_self h.nd]
theorem nf_up {sg hp ns : List Str} (cs : List (List Str)) (e : sg ++ hp = ns) : Nf ⟨sg, hp, onceUp cs ns⟩ := ⟨fun x hx => by
  show asc x (sg ++ hp) = x
  rw [e]
  obtain ⟨d, _, rfl⟩ := List.mem_map.mp (mem_once.mp (show x ∈ once (cs.map fun d => asc d ns) from hx))
  exact asc_asc _ _, once_nodup _⟩
theorem Good.nf {c : CodeD} (g : Good c) : Nf c := by
  obtain ⟨cs, e, _⟩ := g.cl
  have := nf_up (sg := c.signs) (hp := c.helpers) (ns := c.names) cs rfl
  rw [← e] at this
  exact this
def litsOf (ns : List Str) : List Str := ns.flatMap fun n => [n, ("-" : Str) ++ n]
theorem mem_litsOf {ns : List Str} {x : Str} : x ∈ litsOf ns ↔ LitN ns x := by
  unfold litsOf
  rw [List.mem_flatMap]
  constructor
  · rintro ⟨n, hn, h⟩; exact ⟨n, hn, by simpa using h⟩
  · rintro ⟨n, hn, h⟩; exact ⟨n, hn, by simpa using h⟩
theorem asc_filter (ls ns : List Str) : asc ls ns = (ns.flatMap fun n => [n, ("-" : Str) ++ n]).filter fun x => decide (x ∈ ls) := by
  unfold asc
  rw [List.filter_flatMap]
theorem litsOf_app (xs ys : List Str) : litsOf (xs ++ ys) = litsOf xs ++ litsOf ys := by unfold litsOf; rw [List.flatMap_append]
theorem litsOf_nodup : ∀ {ns : List Str}, ns.Nodup → (∀ n ∈ ns, isNm n = true) → (litsOf ns).Nodup
  | [], _, _ => List.nodup_nil
  | n :: r, nd, nm => by
    obtain ⟨h1, h2⟩ := List.nodup_cons.mp nd
    have hn := nm n (List.mem_cons_self ..)
    have ih := litsOf_nodup h2 fun m hm => nm m (List.mem_cons_of_mem _ hm)
    show ([n, ("-" : Str) ++ n] ++ litsOf r).Nodup
    refine List.nodup_append.mpr ⟨?_, ih, fun a ha b hb e => ?_⟩
    · simp only [List.nodup_cons, List.mem_singleton, List.not_mem_nil, not_false_eq_true, List.nodup_nil, and_true]
      exact neg_ne hn
    · subst e
      obtain ⟨m, hm, s⟩ := mem_litsOf.mp hb
      have hmn := nm m (List.mem_cons_of_mem _ hm)
      simp only [List.mem_cons, List.not_mem_nil, or_false] at ha
      have ne : n ≠ m := fun e => h1 (e ▸ hm)
      rcases ha with ha | ha <;> rcases s with s | s
      · exact ne (ha.symm.trans s)
      · exact neg_ne hn (ha.symm.trans s)
      · exact neg_ne hmn (s.symm.trans ha)
      · exact ne (neg_inj (ha.symm.trans s))
theorem asc_sub {ns x : List Str} (nm : NmL ns) (h : x.Sublist (litsOf ns)) : asc x ns = x := by
  rw [asc_filter]
  exact sub_filter h (litsOf_nodup nm.nd nm.nm)
theorem take_snoc {ns : List Str} {a : Nat} (h : a < ns.length) : ns.take (a + 1) = ns.take a ++ [ns.getD a ""] := by
  rw [List.take_add_one, List.getElem?_eq_getElem h, List.getD_eq_getElem?_getD, List.getElem?_eq_getElem h]
  rfl
theorem litsOf_take {ns : List Str} {a b : Nat} (h : a ≤ b) : (litsOf (ns.take a)).Sublist (litsOf (ns.take b)) := by
  have e : ns.take b = ns.take a ++ (ns.take b).drop a := by
    have := List.take_append_drop a (ns.take b)
    rw [List.take_take, Nat.min_eq_left h] at this
    exact this.symm
  rw [e, litsOf_app]
  exact List.sublist_append_left _ _
structure HalfS (ns : List Str) (p : List Str × Nat) : Prop where
  le : p.2 ≤ ns.length
  s : p.1.Sublist (litsOf (ns.take p.2))
theorem halfS_next {ns : List Str} {lv : List (List Str × Nat)} (h : ∀ p ∈ lv, HalfS ns p) : ∀ p ∈ nextH ns lv, HalfS ns p := fun q hq => by
  obtain ⟨p, hp, hq⟩ := List.mem_flatMap.mp hq
  obtain ⟨a, l, h1, h2, h3, rfl⟩ := mem_stepH hq
  refine ⟨h2, ?_⟩
  show (p.1 ++ [l]).Sublist (litsOf (ns.take (a + 1)))
  rw [take_snoc h2, litsOf_app]
  refine List.Sublist.append ((h p hp).s.trans (litsOf_take h1)) ?_
  show [l].Sublist [ns.getD a "", ("-" : Str) ++ ns.getD a ""]
  rw [List.singleton_sublist]
  simpa using h3
theorem halves_sub {ns : List Str} : ∀ c ∈ halves ns, c.Sublist (litsOf ns) := by
  have up : ∀ {p : List Str × Nat}, HalfS ns p → p.1.Sublist (litsOf ns) := fun {p} h => by
    have := h.s.trans (litsOf_take (ns := ns) h.le)
    rwa [List.take_length] at this
  have go : ∀ (m : Nat) (lv : List (List Str × Nat)) (found : List (List Str)), (∀ p ∈ lv, HalfS ns p) → (∀ c ∈ found, c.Sublist (litsOf ns)) → ∀ c ∈ halfGo ns m lv found, c.Sublist (litsOf ns) := by
    intro m
    induction m with
    | zero => intro lv found _ h2 c hc; exact h2 c hc
    | succ m ih =>
      intro lv found h1 h2 c hc
      refine ih _ _ (halfS_next h1) (fun d hd => ?_) c hc
      rcases List.mem_append.mp hd with hd | hd
      · exact h2 d hd
      · obtain ⟨p, hp, rfl⟩ := List.mem_map.mp hd
        exact up (halfS_next h1 p hp)
  refine go _ _ _ (fun p hp => ?_) fun c hc => ?_
  · rw [List.mem_singleton.mp hp]
    exact ⟨Nat.zero_le _, List.nil_sublist _⟩
  · rw [List.mem_singleton.mp hc]
    exact List.nil_sublist _
theorem halves_asc {ns : List Str} (nm : NmL ns) : ∀ c ∈ halves ns, asc c ns = c := fun c hc => asc_sub nm (halves_sub c hc)
theorem shortest_nodup (ns : List Str) (ss : List (List Str)) : (shortestL ns ss).Nodup := by
  have go : ∀ (xs acc : List (List Str)), acc.Nodup → (xs.foldl (shortP ss) acc).Nodup := by
    intro xs
    induction xs with
    | nil => intro acc h; exact h
    | cons x r ih =>
      intro acc h
      rw [List.foldl_cons]
      refine ih _ ?_
      unfold shortP
      split
      · rename_i hb
        rw [Bool.and_eq_true] at hb
        refine List.nodup_append.mpr ⟨h, by simp, fun a ha b hb' e => ?_⟩
        rw [List.mem_singleton] at hb'
        subst hb'
        subst e
        have : (acc.any fun o => liesIn o a) = true := List.any_eq_true.mpr ⟨a, ha, liesIn_iff.mpr fun _ h => h⟩
        rw [this] at hb
        cases hb.1
      · exact h
  exact go _ _ List.nodup_nil
theorem opps_nodup {ns : List Str} (nm : NmL ns) {xs : List (List Str)} (nd : xs.Nodup) (h : ∀ x ∈ xs, ∀ y ∈ x, LitN ns y) : (xs.map fun x => x.map opp).Nodup := by
  have back : ∀ x ∈ xs, (x.map opp).map opp = x := fun x hx => by
    rw [List.map_map]
    exact map_self fun y hy => (opp_opp nm (h x hx y hy)).1
  refine List.pairwise_map.mpr (List.Pairwise.imp_of_mem (fun {a b} ha hb ne e => ne ?_) nd)
  rw [← back a ha, ← back b hb, e]
end My

set_option Elab.async false
set_option linter.all false
set_option maxRecDepth 100000
set_option maxHeartbeats 8000000
namespace My
open PySem PySem.Spec PyProof.Rows L2 L3
open L3.Strm
/-! one more name -/
theorem nm_snoc {ns : List Str} {n : Str} (nm : NmL ns) (h : isNm n = true) (hn : n ∉ ns) (hl : ns.length ≤ 400) : NmL (ns ++ [n]) := by
  refine ⟨List.nodup_append.mpr ⟨nm.nd, by simp, fun a ha b hb e => ?_⟩, fun m hm => ?_, by rw [List.length_append]; simp; omega⟩
  · rw [List.mem_singleton] at hb
    subst hb
    exact hn (e ▸ ha)
  · rcases List.mem_append.mp hm with hm | hm
    · exact nm.nm m hm
    · rw [List.mem_singleton.mp hm]; exact h
theorem lits_snoc {ns so : List Str} {n l : Str} (nm : NmL ns) (h : isNm n = true) (hn : n ∉ ns) (hl : ns.length ≤ 400) (L : Lits ns so) (e : Side n l) : Lits (ns ++ [n]) (so ++ [l]) := by
  refine lits_put (n := n) (nm_snoc nm h hn hl) (L.wide fun m hm => List.mem_append_left _ hm) (mem_opn.mpr ⟨by simp, fun z => ?_, fun z => ?_⟩) e
  · have := (L.name nm z).1
    rw [nameOf_nm h] at this
    exact hn this
  · have := (L.name nm z).1
    rw [nameOf_neg h] at this
    exact hn this
theorem side_opp {n l : Str} (h : isNm n = true) (e : Side n l) : Side n (opp l) := by
  rcases e with e | e
  · rw [e, opp_nm h]; exact .inr rfl
  · rw [e, opp_neg h]; exact .inl rfl
theorem liTT_liq {K : PySem.W.Frag} {cs : List (List Str)} {M : Hp} {v : V} (h : LiR TT cs M v) : LiR (SqR K Tx) cs M v :=
  let ⟨a, vs, e, r, p⟩ := h
  ⟨a, vs, e, r, Paired.mapP p fun _ _ q => TT.sq q⟩
theorem once_up_law {sg hp ns : List Str} {cs : List (List Str)} (e : sg ++ hp = ns) (nm : NmL ns) (n6 : ns.length ≤ 6) (L : ∀ x ∈ cs, Lits ns x) (k : cs.length ≤ 1000) : LawX ⟨sg, hp, onceUp cs ns⟩ := by
  refine ⟨by show NmL (sg ++ hp); rw [e]; exact nm, by show (sg ++ hp).length ≤ 6; rw [e]; exact n6, fun x hx => ?_, ?_⟩
  · show Lits (sg ++ hp) x
    rw [e]
    obtain ⟨d, hd, rfl⟩ := List.mem_map.mp (mem_once.mp (show x ∈ once (cs.map fun d => asc d ns) from hx))
    exact (L d hd).asc nm
  · show (once (cs.map fun d => asc d ns)).length ≤ 1000
    refine Nat.le_trans (once_len2 _) ?_
    rw [List.length_map]
    exact k
section
variable {P : Program} {w : World} {K : PySem.W.Frag} {mg : Str → Option Value} {base : Heap}
abbrev s__law_parted : Stmt := topS 81
theorem sc__law_parted : FnScope ["_law_stream", "_law_c", "_law_size", "_law_names_here", "_law_some", "_law_at", "_law_name", "_law_clause_here", "_law_side"] ["_law_stream", "_law_c"] (defScope s__law_parted) := ⟨rfl, rfl, rfl, by decide +kernel, rfl, by decide +kernel, by decide +kernel⟩
def sp__law_parted (K : PySem.W.Frag) : Sp := spS1 LawR (fun c => (LawX c ∧ Nf c) ∧ c.names.length ≤ 5 ∧ c.clauses.length ≤ 999) (fun _ => 30) fun c => Ex LawR fun d => (LawX d ∧ Nf d) ∧ d.names.length ≤ c.names.length + 1 ∧ d.clauses.length ≤ c.clauses.length + 1 ∧ d.signs = c.signs
theorem ok__law_parted {f : Addr} {fd : FuncData} (F : Fun K "_law_parted" "_law_parted" s__law_parted f fd) (T : Gc mg) (c__law_draw : Cal P w K mg base 1 "_law_draw" ["_law_stream", "_law_many"] (sp__law_draw K)) (c__law_fresh : Cal P w K mg base 3 "_law_fresh" ["_law_stream", "_law_taken"] (sp__law_fresh K)) (c__law_mixed : Cal P w K mg base 2 "_law_mixed" ["_law_stream", "_law_things"] (sp__law_mixed K))
    (c__law_pick : Cal P w K mg base 2 "_law_pick" ["_law_stream", "_law_things"] (sp__law_pick K)) (c__law_neg : Cal P w K mg base 1 "_law_neg" ["_law_one"] (sp__law_neg K)) (c__law_once : Cal P w K mg base 2 "_law_once" ["_law_clauses", "_law_names_here"] (sp__law_once K)) : FnOk P w K mg base CX0 4 f fd ["_law_stream", "_law_c"] (sp__law_parted K) := by
  refine F.ok sc__law_parted (fun vs H Q E h => ?_) (fun cdv A outer s H vs Q E hr h => ?_)
  · obtain ⟨S, x, M, v, k, rfl, _⟩ := h
    rfl
  · obtain ⟨S, c, M, v, k, rfl, mh, at_, r1, ⟨⟨X, NF⟩, n5, k9⟩, q⟩ := h
    have at_ : S.At (k + 30) H := at_
    have hu := hr.units
    refine ⟨_, (pss_cons (ps_if (pt_cmpR (op_eqP hu) (pe_dget (Nat.lt_of_le_of_lt (Nat.add_le_add_left (by decide) _) hu) (pv 1) pe_str (fun _ _ => rfl)) (pe_lst pa_nil) (nomark _)) (pss_one (ps_ret (pv 1))) pss_nil)
      (pss_cons (ps_par (i := 5) (j := 6) (by rfl) sc__law_parted.nd rfl rfl (by decide) rfl rfl (pa_cons (pe_f c__law_draw (hr.mono (by decide)) (pa_cons (pv 0) (pa_cons (pe_callB call_lenA (by rfl) T.len boot_len (pa_cons (pe_dget (Nat.lt_of_le_of_lt (Nat.add_le_add_left (by decide) _) hu) (pv 1) pe_str (fun _ _ => rfl)) pa_nil)) pa_nil))) (pa_cons (pe_f c__law_fresh (hr.mono (by decide)) (pa_cons (pv 0) (pa_cons (pe_op op_addA (pe_dget (Nat.lt_of_le_of_lt (Nat.add_le_add_left (by decide) _) hu) (pv 1) pe_str (fun _ _ => rfl)) (pe_dget (Nat.lt_of_le_of_lt (Nat.add_le_add_left (by decide) _) hu) (pv 1) pe_str (fun _ _ => rfl))) pa_nil))) pa_nil)) (by rfl))
      (pss_cons (ps_par (i := 7) (j := 8) (by rfl) sc__law_parted.nd rfl rfl (by decide) rfl rfl (pa_cons (pe_f c__law_mixed (hr.mono (by decide)) (pa_cons (pv 0) (pa_cons (pe_ix ix_X (pe_dget (Nat.lt_of_le_of_lt (Nat.add_le_add_left (by decide) _) hu) (pv 1) pe_str (fun _ _ => rfl)) (pv 5) (fun _ _ => rfl)) pa_nil))) (pa_cons (pe_f c__law_pick (hr.mono (by decide)) (pa_cons (pv 0) (pa_cons (pe_lst (pa_cons (pv 6) (pa_cons (pe_op op_addA pe_str (pv 6)) pa_nil))) pa_nil))) pa_nil)) (by rfl))
      (pss_cons (ps_set (i := 2) sc__law_parted.nd rfl (by first | exact .inl rfl | exact .inr rfl) (pe_f c__law_draw (hr.mono (by decide)) (pa_cons (pv 0) (pa_cons (pe_op op_addA (pe_callB call_lenA (by rfl) T.len boot_len (pa_cons (pv 7) pa_nil)) pe_int) pa_nil))))
      (pss_cons (ps_set (i := 3) sc__law_parted.nd rfl (by first | exact .inl rfl | exact .inr rfl) (pe_op op_addA (pe_op op_addA (pe_dget (Nat.lt_of_le_of_lt (Nat.add_le_add_left (by decide) _) hu) (pv 1) pe_str (fun _ _ => rfl)) (pe_dget (Nat.lt_of_le_of_lt (Nat.add_le_add_left (by decide) _) hu) (pv 1) pe_str (fun _ _ => rfl))) (pe_lst (pa_cons (pv 6) pa_nil))))
      (pss_cons (ps_set (i := 4) sc__law_parted.nd rfl (by first | exact .inl rfl | exact .inr rfl) (pe_op op_addA (pe_op op_addA (pe_slice sl_X (pe_dget (Nat.lt_of_le_of_lt (Nat.add_le_add_left (by decide) _) hu) (pv 1) pe_str (fun _ _ => rfl)) po_none (po_some (pv 5))) (pe_lst (pa_cons (pe_op op_addA (pe_slice sl_X (pv 7) po_none (po_some (pv 2))) (pe_lst (pa_cons (pv 8) pa_nil))) (pa_cons (pe_op op_addA (pe_slice sl_X (pv 7) (po_some (pv 2)) po_none) (pe_lst (pa_cons (pe_f c__law_neg (hr.mono (by decide)) (pa_cons (pv 8) pa_nil)) pa_nil))) pa_nil)))) (pe_slice sl_X (pe_dget (Nat.lt_of_le_of_lt (Nat.add_le_add_left (by decide) _) hu) (pv 1) pe_str (fun _ _ => rfl)) (po_some (pe_op op_addA (pv 5) pe_int)) po_none)))
      (pss_one (ps_ret (pe_disp (pps_cons pe_str (pe_dget (Nat.lt_of_le_of_lt (Nat.add_le_add_left (by decide) _) hu) (pv 1) pe_str (fun _ _ => rfl)) (pps_cons pe_str (pe_op op_addA (pe_dget (Nat.lt_of_le_of_lt (Nat.add_le_add_left (by decide) _) hu) (pv 1) pe_str (fun _ _ => rfl)) (pe_lst (pa_cons (pv 6) pa_nil))) (pps_cons pe_str (pe_f c__law_once (hr.mono (by decide)) (pa_cons (pv 4) (pa_cons (pv 3) pa_nil))) pps_nil))) (by rfl) (by rfl) (by intro z; cases z) (by decide)))))))))), ?_⟩
    refine z_if (S := S) (k := k + 30) (c := 0) (B := (· = decide (c.clauses = []))) mh at_ (GvT.s (gt_is (gt_test (gv_eqT (K := K) (R := LiR TT) (neg := false) py_LTT inj_LTT (gv_cC (gv_var rfl r1)) gv_nilL (depth_LTT _))) (by simp))) (fun hb M1 H1 g1 a1 => ?_) fun hb M1 H1 g1 a1 => ?_
    · exact ⟨v, rfl, q _ M1 H1 g1 (a1.le (by omega)) ⟨c, ⟨⟨X, NF⟩, by omega, by omega, rfl⟩, Mon.mono g1.mm r1⟩⟩
    have hne : ¬ c.clauses = [] := of_decide_eq_false hb.symm
    have hpos : 0 < c.clauses.length := List.length_pos_iff.mpr hne
    have r11 : LawR c M1 v := Mon.mono g1.mm r1
    have nl : c.names.length = c.signs.length + c.helpers.length := List.length_append
    -- at, name
    refine q_par2 (z_V (S := S) (k := k + 29) (c := 1) (P := Ex It' fun z => 0 ≤ z ∧ z < (c.clauses.length : Int)) g1.mh (a1.le (by omega)) (gs_draw (K := K) (n := (c.clauses.length : Int)) rfl (gv_lenA (K := K) (R := TT) (gv_is (gv_cC (gv_var rfl r11)) fun _ _ h => h.sq)) (by omega) (by omega)) fun v5 M2 H2 g2 a2 ⟨z, hz, r5⟩ =>
      z_V (S := S) (k := k + 17) (c := 12) (P := Ex Tx fun x => isNm x = true ∧ x ∉ c.names) g2.mh (a2.le (by omega)) (gs_call1 (S := S) (R1 := SqR K Tx) (pre := fun xs => xs.length ≤ 600) (cs := fun _ => 12) (R := fun xs => Ex Tx fun x => isNm x = true ∧ x ∉ xs) (x := c.names) rfl (gv_is (gl_addL (K := K) (R := Tx) (gv_cS (gv_var rfl (Mon.mono g2.mm r11))) (gv_cH (gv_var rfl (Mon.mono g2.mm r11))) (szM (by omega))).li fun _ _ h => h.sq) (by omega)) fun v6 M3 H3 g3 a3 ⟨n, ⟨hnm, hfr⟩, r6⟩ => ⟨_, _, rfl, ?_⟩)
    cases (show v5 = _ from r5)
    cases (show v6 = _ from r6)
    obtain ⟨cl, hcl, hat⟩ := atI_in (xs := c.clauses) hz.1 hz.2
    have G3 := (g1.trans g2).trans g3
    have r13 : LawR c M3 v := Mon.mono (g2.mm.trans g3.mm) r11
    have cl6 := X.len cl hcl
    have hnl := nm_len hnm
    -- clause, side
    refine q_par2 (z_V (S := S) (k := k + 10) (c := cl.length) (P := Ex (LiR Tx) fun ys => ys.Perm cl) G3.mh (a3.le (by omega)) ((gls_call1 (S := S) (R1 := SqR K Tx) (pre := fun xs => xs.length ≤ 1000000) (cs := fun xs => xs.length) (R := fun xs M ws => ∃ ys : List Str, ys.Perm xs ∧ Pd Tx M ys ws) (x := cl) rfl (gv_is (gv_ix (K := K) (R := TT) (xs := c.clauses) (i := z) (gv_is (gv_cC (gv_var rfl r13)) fun _ _ h => h.sq) (gv_var rfl rfl) hat) fun _ _ h => h.sq) (by omega)).gv fun M' vs p ⟨ys, hp, hpd⟩ m => ⟨ys, hp, p, vs, rfl, upd_same, hpd.mono (same_new m)⟩) fun v7 M4 H4 g4 a4 ⟨ys, hper, r7⟩ =>
      z_V (S := S) (k := k + 9) (c := 1) (P := Ex Tx fun x => x ∈ [n, ("-" : Str) ++ n]) g4.mh (a4.le (by omega)) (gs_call1 (S := S) (R1 := SqR K Tx) (pre := fun xs => 0 < xs.length ∧ xs.length ≤ 1000000) (cs := fun _ => 1) (R := fun xs => Ex Tx fun x => x ∈ xs) (x := [n, ("-" : Str) ++ n]) rfl (gv_is (gl_twoL (R := Tx) (gv_var rfl rfl) (gv_addSt (K := K) (gv_c rfl) (gv_var rfl rfl) (szM (by show 1 + n.length ≤ _; omega)))).li fun _ _ h => h.sq) ⟨by simp, by simp⟩) fun v8 M5 H5 g5 a5 ⟨sd, hsd, r8⟩ => ⟨_, _, rfl, ?_⟩)
    cases (show v8 = _ from r8)
    have side : Side n sd := by
      simp only [List.mem_cons, List.not_mem_nil, or_false] at hsd
      exact hsd
    have G5 := (G3.trans g4).trans g5
    have r75 : LiR Tx ys M5 v7 := Mon.mono g5.mm r7
    have yl : ys.length ≤ 6 := by rw [hper.length_eq]; exact cl6
    have Ly : Lits c.names ys := (X.l cl hcl).perm hper
    -- size
    refine z_asg (S := S) (k := k) (c := 1) (P := Ex It' fun z => 0 ≤ z ∧ z < (ys.length : Int) + 1) G5.mh (a5.le (by omega)) (gs_draw (K := K) (n := (ys.length : Int) + 1) rfl (gv_addIn (K := K) (gv_lenA (K := K) (R := Tx) (gv_var rfl r75.sq)) (gv_c rfl)) (by omega) (by omega)) fun v2 M6 H6 g6 a6 ⟨sz, hsz, r2⟩ => ?_
    obtain ⟨sn, rfl⟩ : ∃ sn : Nat, sz = (sn : Int) := ⟨sz.toNat, by omega⟩
    obtain ⟨zn, rfl⟩ : ∃ zn : Nat, z = (zn : Int) := ⟨z.toNat, by omega⟩
    cases (show v2 = _ from r2)
    have G6 := G5.trans g6
    have r16 : LawR c M6 v := Mon.mono (g4.mm.trans (g5.mm.trans g6.mm)) r13
    have r76 : LiR Tx ys M6 v7 := Mon.mono g6.mm r75
    have mh6 := G6.mh.trans cut_same
    -- names
    refine q_asg (P := LiR Tx (c.names ++ [n])) mh6 (gl_addL (K := K) (R := Tx) (gl_addL (K := K) (R := Tx) (gv_cS (gv_var rfl r16)) (gv_cH (gv_var rfl r16)) (szM (by omega))).li (gl_one (R := Tx) (gv_var rfl rfl)).li (szM (by rw [show c.signs ++ c.helpers = c.names from rfl]; simp only [List.length_cons, List.length_nil]; omega))).li fun v3 M7 H7 g7 p7 => ?_
    have r17 : LawR c M7 v := Mon.mono g7.mm r16
    have r77 : LiR Tx ys M7 v7 := Mon.mono g7.mm r76
    -- the clauses
    refine q_asg (P := LiR (SqR K Tx) (c.clauses.take zn ++ [ys.take sn ++ [sd], ys.drop sn ++ [opp sd]] ++ c.clauses.drop (zn + 1))) g7.mh
      (gl_addL (K := K) (R := SqR K Tx) (gl_addL (K := K) (R := SqR K Tx) (gv_is (gl_cut (K := K) (R := SqR K Tx) (lo := none) (hi := some (zn : Int)) (gv_is (gv_cC (gv_var rfl r17)) fun _ _ h => (liTT_liq h).lst) (fun _ _ h => h) (fun _ _ h => ⟨_, rfl, _, rfl, h⟩)).li fun M v h => by rw [cut_take] at h; exact h)
        (gl_twoL (R := SqR K Tx) (x := ys.take sn ++ [sd]) (y := ys.drop sn ++ [opp sd])
          (gv_is (gl_addL (K := K) (R := Tx) (gv_is (gl_cut (K := K) (R := Tx) (lo := none) (hi := some (sn : Int)) (gv_var rfl r77.lst) (fun _ _ h => h) (fun _ _ h => ⟨_, rfl, _, rfl, h⟩)).li fun M v h => by rw [cut_take] at h; exact h) (gl_one (R := Tx) (gv_var rfl rfl)).li (szM (by rw [List.length_take]; simp only [List.length_cons, List.length_nil]; omega))).li fun _ _ h => h.sq)
          (gv_is (gl_addL (K := K) (R := Tx) (gv_is (gl_cut (K := K) (R := Tx) (lo := some (sn : Int)) (hi := none) (gv_var rfl r77.lst) (fun _ _ h => ⟨_, rfl, _, rfl, h⟩) (fun _ _ h => h)).li fun M v h => by rw [cut_drop] at h; exact h) (gl_one (R := Tx) (gv_call1 (R1 := Tx) (pre := fun x => x.length ≤ 1000) (R := fun x => Tx (opp x)) (x := sd) (gv_var rfl rfl) (by rcases side with e | e <;> rw [e]; omega; rw [neg_len]; omega))).li (szM (by rw [List.length_drop]; simp only [List.length_cons, List.length_nil]; omega))).li fun _ _ h => h.sq)).li
        (szM (by rw [List.length_take]; simp only [List.length_cons, List.length_nil]; omega))).li
      (gv_is (gl_cut (K := K) (R := SqR K Tx) (lo := some ((zn + 1 : Nat) : Int)) (hi := none) (gv_is (gv_cC (gv_var rfl r17)) fun _ _ h => (liTT_liq h).lst) (fun _ _ h => ⟨_, rfl, .inl ⟨_, _, rfl, rfl, _, rfl, h⟩⟩) (fun _ _ h => h)).li fun M v h => by rw [cut_drop] at h; exact h)
        (szM (by rw [List.length_append, List.length_take, List.length_drop]; simp only [List.length_cons, List.length_nil]; omega))).li fun v4 M8 H8 g8 p8 => ?_
    have G8 := g7.trans g8
    have cl9 : (c.clauses.take zn ++ [ys.take sn ++ [sd], ys.drop sn ++ [opp sd]] ++ c.clauses.drop (zn + 1)).length ≤ c.clauses.length + 1 := by
      rw [List.length_append, List.length_append, List.length_take, List.length_drop]
      simp only [List.length_cons, List.length_nil]
      omega
    have nmN := nm_snoc X.nm hnm hfr (by omega)
    have LL : ∀ x ∈ c.clauses.take zn ++ [ys.take sn ++ [sd], ys.drop sn ++ [opp sd]] ++ c.clauses.drop (zn + 1), Lits (c.names ++ [n]) x := fun x hx => by
      rcases List.mem_append.mp hx with hx | hx
      · rcases List.mem_append.mp hx with hx | hx
        · exact (X.l x (List.mem_of_mem_take hx)).wide fun m hm => List.mem_append_left _ hm
        · simp only [List.mem_cons, List.not_mem_nil, or_false] at hx
          rcases hx with rfl | rfl
          · exact lits_snoc X.nm hnm hfr (by omega) (Ly.sub (List.take_sublist _ _)) side
          · exact lits_snoc X.nm hnm hfr (by omega) (Ly.sub (List.drop_sublist _ _)) (side_opp hnm side)
      · exact (X.l x (List.mem_of_mem_drop hx)).wide fun m hm => List.mem_append_left _ hm
    revert p8 cl9 LL
    generalize c.clauses.take zn ++ [ys.take sn ++ [sd], ys.drop sn ++ [opp sd]] ++ c.clauses.drop (zn + 1) = cs'
    intro p8 cl9 LL
    have r18 : LawR c M8 v := Mon.mono g8.mm r17
    have p78 : LiR Tx (c.names ++ [n]) M8 v3 := Mon.mono g8.mm p7
    refine s_ret G8.mh (gv_disp3 (R1 := LiR Tx c.signs) (R2 := LiR Tx (c.helpers ++ [n])) (R3 := LiR TT (onceUp cs' (c.names ++ [n]))) (gv_cS (gv_var rfl r18)) (gl_addL (K := K) (R := Tx) (gv_cH (gv_var rfl r18)) (gl_one (R := Tx) (gv_var rfl rfl)).li (szM (by simp only [List.length_cons, List.length_nil]; omega))).li
      ((gl_call2 (R1 := SqR K (CtR K)) (R2 := SqR K Tx) (x := cs') (y := c.names ++ [n]) (gv_var rfl ?_) (gv_var rfl p78.sq) ⟨nm_shorts nmN, by omega⟩).gv fun M' vs p hp m => ⟨p, vs, rfl, upd_same, hp.mono (same_new m)⟩) (by decide) (by decide) (by decide)) fun u M' H' g r => ?_
    · obtain ⟨a, vs, e, hs, hp⟩ := p8
      exact .inl ⟨a, vs, e, .inl (.inl hs), Paired.mapP hp fun _ _ q => .inl q⟩
    · have en : c.signs ++ (c.helpers ++ [n]) = c.names ++ [n] := (List.append_assoc _ _ _).symm
      have LX := once_up_law (cs := cs') en nmN (by rw [List.length_append]; simp only [List.length_cons, List.length_nil]; omega) LL (by omega)
      refine q u M' H' (G6.trans (lift G6.mh a6 (G8.trans g))) (a6.same (G8.trans g).hh) ⟨⟨c.signs, c.helpers ++ [n], onceUp cs' (c.names ++ [n])⟩, ⟨⟨LX, nf_up _ en⟩, ?_, ?_, rfl⟩, r⟩
      · show (c.signs ++ (c.helpers ++ [n])).length ≤ _
        rw [en, List.length_append]
        simp
      · show (once (cs'.map fun d => asc d (c.names ++ [n]))).length ≤ _
        refine Nat.le_trans (once_len2 _) ?_
        rw [List.length_map]
        exact cl9
end
end My

set_option Elab.async false
set_option linter.all false
set_option maxRecDepth 100000
set_option maxHeartbeats 8000000
namespace My
open PySem PySem.Spec PyProof.Rows L2 L3
open L3.Strm
theorem opp_full {ns s : List Str} (nm : NmL ns) (h : Paired Side ns s) : Paired Side ns (s.map opp) := by
  have go : ∀ {ms s : List Str}, Paired Side ms s → (∀ m ∈ ms, isNm m = true) → Paired Side ms (s.map opp) := by
    intro ms s h
    induction h with
    | nil => intro _; exact .nil
    | cons e _ ih => intro hm; exact .cons (side_opp (hm _ (List.mem_cons_self ..)) e) (ih fun z hz => hm z (List.mem_cons_of_mem _ hz))
  exact go h nm.nm
/-- the clauses that a rule is told by -/
structure ClsX (ns : List Str) (cs : List (List Str)) : Prop where
  l : ∀ x ∈ cs, Lits ns x
  k : cs.length ≤ 729
  a : ∀ x ∈ cs, asc x ns = x
  nd : cs.Nodup
theorem ClsX.sub {ns : List Str} {cs ds : List (List Str)} (X : ClsX ns cs) (h : ds.Sublist cs) : ClsX ns ds := ⟨fun x hx => X.l x (h.subset hx), Nat.le_trans h.length_le X.k, fun x hx => X.a x (h.subset hx), X.nd.sublist h⟩
theorem gv_tupTT {K : PySem.W.Frag} {σ : Sl} {M : Hp} {te : TE} {xs : List Str} (h : Gv te σ M (LiR Tx xs)) : Gv (tCB (rTupOf K) (tCons te tNil)) σ M (TT xs) := fun H mh Q q =>
  h H mh _ fun v M1 H1 g1 ⟨a, vs, e, r, p⟩ => by
    have ev := pd_tx p
    subst ev
    exact ⟨a, _, by rw [e], .inl ⟨.inl (.inl (g1.mh _ _ r)), fun l nl => q _ _ _ (g1.trans (.new g1.mh nl)) (TT.new xs)⟩⟩
section
variable {P : Program} {w : World} {K : PySem.W.Frag} {mg : Str → Option Value} {base : Heap}
abbrev s__law_some_code : Stmt := topS 82
theorem sc__law_some_code : FnScope ["_law_stream", "_law_most", "_law_helpers", "_law_way", "_law_clauses", "_law_c", "_law_turn", "_law_signs", "_law_allowed_here", "_law_one", "_law_part"] ["_law_stream", "_law_most", "_law_helpers"] (defScope s__law_some_code) := ⟨rfl, rfl, rfl, by decide +kernel, rfl, by decide +kernel, by decide +kernel⟩
def sp__law_some_code (K : PySem.W.Frag) : Sp := fun vs H Q _ => ∃ (S : Strm) (m h : Nat) (M : Hp) (k : Nat), vs = [.ref S.a, .int (m : Nat), .int (h : Nat)] ∧ Same M (S.cut H) ∧ S.At (k + 1200) H ∧ (0 < m ∧ m + h ≤ 6) ∧
  ∀ c v M' H', Gr M (S.cut H) M' (S.cut H') → S.At k H' → ((LawX c ∧ Nf c) ∧ c.names.length ≤ m + h ∧ c.signs.length ≤ m ∧ c.clauses.length ≤ 740) → LawR c M' v → Q v H'
theorem ok__law_some_code {f : Addr} {fd : FuncData} (F : Fun K "_law_some_code" "_law_some_code" s__law_some_code f fd) (T : Gc mg) (c__law_draw : Cal P w K mg base 1 "_law_draw" ["_law_stream", "_law_many"] (sp__law_draw K)) (c__law_code : Cal P w K mg base 5 "_law_code" ["_law_stream", "_law_signs", "_law_helpers", "_law_many"] (sp__law_code K))
    (c__law_drawn_rule : Cal P w K mg base 5 "_law_drawn_rule" ["_law_stream", "_law_most"] (sp__law_drawn_rule K)) (c__law_shortest : Cal P w K mg base 3 "_law_shortest" ["_law_names_here", "_law_settings"] (sp__law_shortest K)) (c__law_fulls : Cal P w K mg base 1 "_law_fulls" ["_law_names_here"] (sp__law_fulls K))
    (c__law_neg : Cal P w K mg base 1 "_law_neg" ["_law_one"] (sp__law_neg K)) (c__law_parted : Cal P w K mg base 4 "_law_parted" ["_law_stream", "_law_c"] (sp__law_parted K)) : FnOk P w K mg base CX0 6 f fd ["_law_stream", "_law_most", "_law_helpers"] (sp__law_some_code K) := by
  refine F.ok sc__law_some_code (fun vs H Q E h => ?_) (fun cdv A outer s H vs Q E hr h => ?_)
  · obtain ⟨S, m, h, M, k, rfl, _⟩ := h
    rfl
  · obtain ⟨S, m, h, M, k, rfl, mh, at_, ⟨m0, m6⟩, q⟩ := h
    have hu := hr.units
    refine ⟨_, (pss_cons (ps_set (i := 3) sc__law_some_code.nd rfl (by first | exact .inl rfl | exact .inr rfl) (pe_f c__law_draw (hr.mono (by decide)) (pa_cons (pv 0) (pa_cons pe_int pa_nil))))
      (pss_cons (ps_if (pt_cmpR op_lt (pv 3) pe_int (nomark _)) (pss_one (ps_ret (pe_f c__law_code (hr.mono (by decide)) (pa_cons (pv 0) (pa_cons (pv 1) (pa_cons (pv 2) (pa_cons pe_int pa_nil))))))) pss_nil)
      (pss_cons (ps_asg (pe_f c__law_drawn_rule (hr.mono (by decide)) (pa_cons (pv 0) (pa_cons (pv 1) pa_nil))) (pg_tup (by rfl) (pgs_cons (pg_name (i := 7) sc__law_some_code.nd rfl (by first | exact .inl rfl | exact .inr rfl)) (pgs_cons (pg_name (i := 8) sc__law_some_code.nd rfl (by first | exact .inl rfl | exact .inr rfl)) pgs_nil))))
      (pss_cons (ps_set (i := 4) sc__law_some_code.nd rfl (by first | exact .inl rfl | exact .inr rfl) (pe_f c__law_shortest (hr.mono (by decide)) (pa_cons (pv 7) (pa_cons (pv 8) pa_nil))))
      (pss_cons (ps_if (pt_cmpR (op_eqP hu) (pv 3) pe_int (nomark _)) (pss_one (ps_setLc (i := 4) (own := [("_law_one", 9)]) (g := (gName 9)) (tt := (tTest (tOp (rInA K true) (tVar 9) (tVar 8)))) (te := (tCB (rTupOf K) (tCons (tLc (iSq K (tVar 9)) (gName 10) tYes (tCall (sp__law_neg K) [] E0 (tCons (tVar 10) tNil)) [10]) tNil))) (by rfl) sc__law_some_code.nd rfl rfl (sw_true rfl rfl rfl (by decide +kernel)) (pi_sq (pe_f c__law_fulls (hr.mono (by decide)) (pa_cons (pv 7) pa_nil))) (blkOk_by (by rfl)) (fun _ _ _ _ _ => (pg_name (i := 9) sc__law_some_code.nd rfl (by first | exact .inl rfl | exact .inr rfl))) (fun _ _ _ _ _ => (pts_one (pt_cmpR (op_niA hu) (pv 9) (pv 8) (by rfl)))) (fun _ _ _ _ _ => (pe_callTy call_tupA (by rfl) T.tuple boot_tuple (pa_cons (pe_lc (own := [("_law_part", 10)]) (g := (gName 10)) (tt := tYes) (te := (tCall (sp__law_neg K) [] E0 (tCons (tVar 10) tNil))) (by rfl) sc__law_some_code.nd (pi_sq (pv 9)) (blkOk_by (by rfl)) (fun _ _ _ _ _ => (pg_name (i := 10) sc__law_some_code.nd rfl (by first | exact .inl rfl | exact .inr rfl))) (fun _ _ _ _ _ => pts_nil) (fun _ _ _ _ _ => (pe_f c__law_neg (hr.mono (by decide)) (pa_cons (pv 10) pa_nil)))) pa_nil))))) pss_nil)
      (pss_cons (ps_if (pt_cmpR op_gt (pv 3) pe_int (nomark _)) (pss_one (ps_setLc (i := 4) (own := [("_law_one", 9)]) (g := (gName 9)) (tt := (tTest (tOp (rI0 fun i j => .bl (decide (j < i))) (tCall (sp__law_draw K) [] E0 (tCons (tVar 0) (tCons (tC (.int 4)) tNil))) (tC (.int 0))))) (te := (tVar 9)) (by rfl) sc__law_some_code.nd rfl rfl (sw_true rfl rfl rfl (by decide +kernel)) (pi_sq (pv 4)) (blkOk_by (by rfl)) (fun _ _ _ _ _ => (pg_name (i := 9) sc__law_some_code.nd rfl (by first | exact .inl rfl | exact .inr rfl))) (fun _ _ _ _ _ => (pts_one (pt_cmpR op_gt (pe_f c__law_draw (hr.mono (by decide)) (pa_cons (pv 0) (pa_cons pe_int pa_nil))) pe_int (nomark _)))) (fun _ _ _ _ _ => (pv 9)))) pss_nil)
      (pss_cons (ps_set (i := 5) sc__law_some_code.nd rfl (by first | exact .inl rfl | exact .inr rfl) (pe_disp (pps_cons pe_str (pv 7) (pps_cons pe_str (pe_lst pa_nil) (pps_cons pe_str (pe_callTy call_lstA (by rfl) T.list boot_list (pa_cons (pv 4) pa_nil)) pps_nil))) (by rfl) (by rfl) (by intro z; cases z) (by decide)))
      (pss_cons (ps_for PassesOwn.never (by rfl) (pi_range1 (by rfl) T.range (pa_cons (pe_f c__law_draw (hr.mono (by decide)) (pa_cons (pv 0) (pa_cons (pe_op op_addA (pv 2) pe_int) pa_nil))) pa_nil)) (pg_name (i := 6) sc__law_some_code.nd rfl (by first | exact .inl rfl | exact .inr rfl)) (pss_one (ps_set (i := 5) sc__law_some_code.nd rfl (by first | exact .inl rfl | exact .inr rfl) (pe_f c__law_parted (hr.mono (by decide)) (pa_cons (pv 0) (pa_cons (pv 5) pa_nil))))))
      (pss_one (ps_ret (pv 5))))))))))), ?_⟩
    -- way
    refine z_asg (S := S) (k := k + 1199) (c := 1) (P := Ex It' fun z => 0 ≤ z ∧ z < 6) mh (at_.le (by omega)) (gs_draw (K := K) (n := 6) rfl (gv_c rfl) (by decide) (by decide)) fun v3 M1 H1 g1 a1 ⟨wy, hwy, r3⟩ => ?_
    cases (show v3 = _ from r3)
    refine z_if (S := S) (k := k + 1199) (c := 0) (B := (· = decide (wy < 2))) g1.mh a1 (GvT.s (gt_test (gv_lt (i := wy) (j := 2) (gv_var rfl rfl) (gv_c rfl)))) (fun _ M2 H2 g2 a2 => ?_) fun _ M2 H2 g2 a2 => ?_
    · have cc : codeCost m h 9 ≤ 1000 := by
        unfold codeCost
        have h1 : 9 * (2 + 2 * (m + h)) ≤ 9 * 14 := Nat.mul_le_mul_left _ (by omega)
        omega
      exact ⟨.ref S.a, rfl, _, rfl, _, rfl, S, m, h, 9, M2, k, rfl, g2.mh, a2.le (by omega), ⟨m0, by omega, by decide⟩, fun c u M' H' g a ⟨gd, hn, hs⟩ rc => q c u M' H' ((g1.trans g2).trans g) a ⟨⟨good_law gd (by omega), gd.nf⟩, hn, hs, Nat.le_trans gd.few (by decide)⟩ rc⟩
    have G2 := g1.trans g2
    -- signs, allowed
    refine q_asgG (gs_call1 (S := S) (R1 := It') (pre := fun m => 0 ≤ m ∧ m ≤ 6) (cs := fun _ => 150) (R := fun m => Ex (PrR K (LiR Tx) (LiR TT)) (DrawnRule m)) (x := (m : Int)) rfl (gv_var rfl rfl) ⟨by omega, by omega⟩ H2 (k + 1000) g2.mh (a2.le (by show k + 1000 + 150 ≤ _; omega)) _ fun vr M3 H3 g3 a3 ⟨⟨ns, ss⟩, ⟨nm, hnl, hsub⟩, hpr⟩ => tg_2 (K := K) (R := LiR Tx) (S := LiR TT) (ns, ss) M3 vr H3 _ _ hpr (g3.mh.trans cut_same) fun σ3 ⟨v7, v8, rn, rs, e3⟩ => ?_)
    subst e3
    have hnl : (ns.length : Int) ≤ m := hnl
    have X : RuleX ns ss := ⟨nm, by omega, hsub⟩
    have rn : LiR Tx ns M3 v7 := rn
    have rs : LiR TT ss M3 v8 := rs
    have G3 := G2.trans g3
    -- clauses
    refine z_asg (S := S) (k := k + 1000) (c := 0) (P := LiR TT (shortestL ns ss)) G3.mh a3 (gv_call2 (R1 := LstR K Tx) (R2 := SqR K TT) (pre := fun ns ss => (ns.length ≤ 6 ∧ NmL ns) ∧ ss.length ≤ 1000000) (R := fun ns ss => LiR TT (shortestL ns ss)) (x := ns) (y := ss) (gv_var rfl rn.lst) (gv_var rfl rs.sq) ⟨⟨X.n6, nm⟩, Nat.le_trans X.len (by decide)⟩).s fun v4 M4 H4 g4 a4 p4 => ?_
    have G4 := G3.trans g4
    have rn4 : LiR Tx ns M4 v7 := Mon.mono g4.mm rn
    have rs4 : LiR TT ss M4 v8 := Mon.mono g4.mm rs
    have CX : ClsX ns (shortestL ns ss) := ⟨fun x hx => halves_lits nm x (short_sub _ _ x hx), X.due.1, fun x hx => halves_asc nm x (short_sub _ _ x hx), shortest_nodup ns ss⟩
    have f64 := fulls64 X.n6
    refine q_cut (fun σ' H' => ∃ cs v4 M', Gr M (S.cut H) M' (S.cut H') ∧ S.At (k + 1000) H' ∧ ClsX ns cs ∧ LiR TT cs M' v4 ∧ LiR Tx ns M' v7 ∧ σ' = [some (.ref S.a), some (.int (m : Nat)), some (.int (h : Nat)), some (.int wy), some v4, none, none, some v7, some v8, none, none]) (fun nx hnx => ?_) ?_
    · refine z_ifE (S := S) (k := k + 1000) (c := 0) (B := (· = decide (wy = 2))) G4.mh a4 (GvT.s (gt_is (gt_test (gv_eqT (K := K) (neg := false) py_int inj_int (gv_var rfl rfl) (gv_c rfl) (by simp [PyData.depth]))) (by simp))) (fun _ M5 H5 g5 a5 => ?_) fun _ M5 H5 g5 a5 => ?_
      · have G5 := G4.trans g5
        have rn5 : LiR Tx ns M5 v7 := Mon.mono g5.mm rn4
        have rs5 : LiR TT ss M5 v8 := Mon.mono g5.mm rs4
        refine s_asg (P := LiR TT (((fulls ns).filter fun x => decide (x ∉ ss)).map fun x => x.map opp)) (G5.mh.trans cut_same) ?_ fun v9 M6 H6 g6 p6 => hnx _ _ ⟨_, v9, M6, G5.trans (lift G5.mh a5 g6), a5.same g6.hh, ⟨fun x hx => ?_, ?_, fun x hx => ?_, ?_⟩, p6, Mon.mono g6.mm rn5, rfl⟩
        · exact (gl_c1 (S := TT) (R := TT) (xs := fulls ns) (gi_sq (K := K) (gv_is (gv_call1 (R1 := SqR K Tx) (pre := fun ns => ns.length ≤ 6 ∧ Shorts ns) (R := fun ns => LiR TT (fulls ns)) (gv_var rfl rn5.sq) ⟨X.n6, nm_shorts nm⟩) fun _ _ h => h.sq)) (szK (by omega)) (fun x => decide (x ∉ ss)) (fun x => x.map opp)
            (fun x _ M7 u7 sm ru => gt_is (gt_test (gv_inD (K := K) (R := TT) (neg := true) py_TT inj_TT (gv_var rfl ru) (gv_var rfl (Mon.mono sm rs5).sq) (by simp [PyData.depth, depthS]))) (by simp))
            fun x hx _ M7 u7 sm ru => gv_tupTT (K := K) (gl_m1 (S := Tx) (R := Tx) (xs := x) (gi_sq (K := K) (gv_var rfl ru.sq)) (szK (by rw [fulls_each _ x hx]; exact Nat.le_trans X.n6 (by decide))) opp fun y hy M8 u8 sm8 ru8 => gv_call1 (R1 := Tx) (pre := fun x => x.length ≤ 1000) (R := fun x => Tx (opp x)) (x := y) (gv_var rfl ru8) (Nat.le_trans (lits_short (side_lits nm (fulls_paired hx)) nm y hy) (by decide))).li).li
        · obtain ⟨y, hy, rfl⟩ := List.mem_map.mp hx
          exact side_lits nm (opp_full nm (fulls_paired (List.mem_filter.mp hy).1))
        · rw [List.length_map]
          exact Nat.le_trans (List.length_filter_le _ _) (by omega)
        · obtain ⟨y, hy, rfl⟩ := List.mem_map.mp hx
          exact asc_paired nm (opp_full nm (fulls_paired (List.mem_filter.mp hy).1))
        · exact opps_nodup nm ((fulls_nodup nm.nm).sublist List.filter_sublist) fun x hx y hy => (side_lits nm (fulls_paired (List.mem_filter.mp hx).1)).of y hy
      · exact hnx _ _ ⟨_, v4, M5, G4.trans g5, a5, CX, Mon.mono g5.mm p4, Mon.mono g5.mm rn4, rfl⟩
    · rintro σ5 H5 ⟨cs5, v5, M5, G5, a5, CX5, p5, rn5, rfl⟩
      refine q_cut (fun σ' H' => ∃ cs v4 M', Gr M (S.cut H) M' (S.cut H') ∧ S.At (k + 200) H' ∧ ClsX ns cs ∧ LiR TT cs M' v4 ∧ LiR Tx ns M' v7 ∧ σ' = [some (.ref S.a), some (.int (m : Nat)), some (.int (h : Nat)), some (.int wy), some v4, none, none, some v7, some v8, none, none]) (fun nx hnx => ?_) ?_
      · refine z_ifE (S := S) (k := k + 1000) (c := 0) (B := (· = decide (3 < wy))) G5.mh a5 (GvT.s (gt_test (gv_gt (g := fun i j => .bl (decide (j < i))) (i := wy) (j := 3) (gv_var rfl rfl) (gv_c rfl)))) (fun _ M6 H6 g6 a6 => ?_) fun _ M6 H6 g6 a6 => ?_
        · have G6 := G5.trans g6
          refine (gls_sub (S := S) (R := TT) (j := 9) (n := 729) (c1 := 0) (c2 := 1 + 0) (G := (· = cs5)) (by show 9 < 11; decide) (gi_sq (K := K) (gv_var rfl (Mon.mono g6.mm p5).sq)).s (fun xs e => by rw [e]; exact CX5.k) (by decide)
            fun xs _ x _ M7 v7' sm7 r7 => gts_test (P := fun _ v => ∃ b, v = .bl b) (gs_op (P := Ex It' fun z => 0 ≤ z ∧ z < 4) (P1 := It' 0) (gs_draw (K := K) (n := 4) rfl (gv_c rfl) (by decide) (by decide)) (gv_c rfl).s fun M' u w ⟨z, _, pu⟩ pw => fun H mh Q q => gv_gt (g := fun i j => .bl (decide (j < i))) (σ := []) (M := M') (ta := tC u) (tb := tC w) (gv_c pu) (gv_c pw) H mh Q fun v M' H' g r => q v M' H' g ⟨_, r⟩) fun M v ⟨b, e⟩ => ⟨b, e, trivial⟩).gv
            (P := Ex (LiR TT) fun ds => ds.Sublist cs5) (fun M' vs p ⟨xs, ds, e, hs, hpd⟩ mp => ⟨ds, by rw [e] at hs; exact hs, p, vs, rfl, upd_same, hpd.mono (same_new mp)⟩) H6 (k + 200) G6.mh (a6.le (by omega)) _ fun v9 M7 H7 g7 a7 ⟨ds, hds, p7⟩ => ?_
          exact hnx _ _ ⟨ds, v9, M7, G6.trans g7, a7, CX5.sub hds, p7, Mon.mono (g6.mm.trans g7.mm) rn5, rfl⟩
        · exact hnx _ _ ⟨cs5, v5, M6, G5.trans g6, a6.le (by omega), CX5, Mon.mono g6.mm p5, Mon.mono g6.mm rn5, rfl⟩
      · rintro σ6 H6 ⟨cs, v6, M6, G6, a6, CX6, p6, rn6, rfl⟩
        -- the dict
        refine z_asg (S := S) (k := k + 200) (c := 0) (P := LawR ⟨ns, [], cs⟩) G6.mh a6 (gv_disp3 (R1 := LiR Tx ns) (R2 := LiR Tx []) (R3 := LiR TT cs) (gv_var rfl rn6) gv_nilL (gl_lstOf (K := K) (R1 := TT) (gv_var rfl p6.sq)).li (by decide) (by decide) (by decide)).s fun v9 M7 H7 g7 a7 p7 => ?_
        have G7 := G6.trans g7
        have LX : LawX ⟨ns, [], cs⟩ := ⟨by show NmL (ns ++ []); rw [List.append_nil]; exact nm, by show (ns ++ []).length ≤ 6; rw [List.append_nil]; exact X.n6, fun x hx => by show Lits (ns ++ []) x; rw [List.append_nil]; exact CX6.l x hx, Nat.le_trans CX6.k (by decide)⟩
        have NF : Nf ⟨ns, [], cs⟩ := ⟨fun x hx => by show asc x (ns ++ []) = x; rw [List.append_nil]; exact CX6.a x hx, CX6.nd⟩
        -- the turns
        refine z_for (S := S) (k := k + 190) (c := 1) (G := fun xs => ∃ n, n ≤ h ∧ xs = List.range n) (R := fun i : Nat => It' (i : Nat)) G7.mh (a7.le (by omega)) (gis_rng1 (good := fun n => n ≤ h) ((gs_draw (K := K) (n := (h : Int) + 1) rfl (gv_addIn (K := K) (gv_var rfl rfl) (gv_c rfl)) (by omega) (by omega)).is fun M v ⟨z, hz, r⟩ => ⟨z.toNat, by omega, by rw [show v = _ from r]; congr 1; omega⟩) fun n hn => by omega) tg_1
          (fun xs M1' i σ' M' H' => ∃ y6 d vd, Gr M (S.cut H) M' (S.cut H') ∧ Same M1' M' ∧ S.At (k + (xs.length - i) * 30) H' ∧ (LawX d ∧ Nf d) ∧ d.names.length ≤ m + i ∧ d.clauses.length ≤ 729 + i ∧ d.signs = ns ∧ LawR d M' vd ∧ σ' = [some (.ref S.a), some (.int (m : Nat)), some (.int (h : Nat)), some (.int wy), some v6, some vd, y6, some v7, some v8, none, none])
          (fun xs M8 H8 ⟨n, hn, e⟩ g8 a8 => ⟨_, _, v9, G7.trans g8, Same.refl _, a8.le (by rw [e, List.length_range]; omega), ⟨LX, NF⟩, by show (ns ++ []).length ≤ m + 0; rw [List.append_nil]; omega, CX6.k, rfl, Mon.mono g8.mm p7, rfl⟩)
          (fun xs M8 i σ' M' H' ⟨_, _, _, g, s1, a, _⟩ => ⟨s1, g.mh, a.le (Nat.zero_le _)⟩) ?_ ?_
        · rintro xs M8 i x σ' M' H' M9 H9 σ2 ⟨n, hn, e⟩ sM hx ⟨y6, d, vd, g, s1, a, DX, dn, dk, ds, rd, rfl⟩ g9 ⟨vx, rx, rfl⟩
          have hi : i < xs.length := (List.getElem?_eq_some_iff.mp hx).1
          have hn' : xs.length ≤ h := by rw [e, List.length_range]; exact hn
          have g9' := lift g.mh a g9
          have a9 := a.same g9.hh
          refine (gs_call1 (S := S) (R1 := LawR) (pre := fun c => (LawX c ∧ Nf c) ∧ c.names.length ≤ 5 ∧ c.clauses.length ≤ 999) (cs := fun _ => 30) (R := fun c => Ex LawR fun d => (LawX d ∧ Nf d) ∧ d.names.length ≤ c.names.length + 1 ∧ d.clauses.length ≤ c.clauses.length + 1 ∧ d.signs = c.signs) (x := d) rfl (gv_var rfl (Mon.mono g9.mm rd)) ⟨DX, by omega, by omega⟩) H9 (k + (xs.length - (i + 1)) * 30) g9'.mh (a9.le (by show k + (xs.length - (i + 1)) * 30 + 30 ≤ _; omega)) _ fun vc M10 H10 g10 a10 ⟨d2, ⟨DX2, dn2, dk2, ds2⟩, rd2⟩ => ?_
          exact ⟨M10, _, d2, vc, (g.trans g9').trans g10, s1.trans (g9.mm.trans g10.mm), a10, DX2, by omega, by omega, ds2.trans ds, rd2, rfl⟩
        · rintro xs M8 σ' M' H' ⟨n, hn, e⟩ sM ⟨y6, d, vd, g, s1, a, DX, dn, dk, ds, rd, rfl⟩
          exact ⟨vd, rfl, q d vd M' H' g (a.le (by omega)) ⟨DX, by have : xs.length ≤ h := by { rw [e, List.length_range]; exact hn }; omega, by rw [ds]; omega, by have : xs.length ≤ h := by { rw [e, List.length_range]; exact hn }; omega⟩ rd⟩
end
end My

set_option Elab.async false
set_option linter.all false
set_option maxRecDepth 100000
set_option maxHeartbeats 4000000
namespace My
open PySem PySem.Spec PyProof.Rows L2 L3
section
variable {ns : List Str} {cs P : List (List Str)} {hs so : List Str}
/-- a following ends -/
theorem ends_ex (X : Ctx ns cs hs) : ∃ o, EndsOk ns cs hs o := by
  have go : ∀ (k : Nat) (so : List Str), ns.length ≤ so.length + k → So ns cs hs so → ∃ o, EndsOk ns cs hs o := by
    intro k
    induction k with
    | zero =>
      intro so hk S
      by_cases h1 : ∃ c ∈ cs, leftOf so c = []
      · obtain ⟨c, hc, e⟩ := h1
        exact ⟨none, left_none S.snd hc e⟩
      · by_cases h2 : ∃ c ∈ cs, ∃ l, leftOf so c = [l] ∧ l ∉ so
        · obtain ⟨c, hc, l, e, hl⟩ := h2
          have := so_few X (S.put X hc e hl)
          rw [List.length_append] at this
          simp at this
          omega
        · exact ⟨some so, ends_some X S fun c hc => ⟨fun e => h1 ⟨c, hc, e⟩, fun l e => Classical.byContradiction fun hl => h2 ⟨c, hc, l, e, hl⟩⟩⟩
    | succ k ih =>
      intro so hk S
      by_cases h1 : ∃ c ∈ cs, leftOf so c = []
      · obtain ⟨c, hc, e⟩ := h1
        exact ⟨none, left_none S.snd hc e⟩
      · by_cases h2 : ∃ c ∈ cs, ∃ l, leftOf so c = [l] ∧ l ∉ so
        · obtain ⟨c, hc, l, e, hl⟩ := h2
          exact ih _ (by rw [List.length_append]; simp; omega) (S.put X hc e hl)
        · exact ⟨some so, ends_some X S fun c hc => ⟨fun e => h1 ⟨c, hc, e⟩, fun l e => Classical.byContradiction fun hl => h2 ⟨c, hc, l, e, hl⟩⟩⟩
  exact go ns.length hs (by omega) (.init X)
/-- no dead end: never both sides -/
theorem der_one (X : Ctx ns cs hs) (nd : ¬ Dead cs hs) {x : Str} (h1 : Der cs hs x) (h2 : Der cs hs (opp x)) : False := by
  obtain ⟨o, he⟩ := ends_ex X
  cases o with
  | none => exact nd he
  | some so => exact he.2.2.con x ((he.2.1 x).mpr h1) ((he.2.1 _).mpr h2)
theorem der_trans {h2 : List Str} {x : Str} (h : ∀ y ∈ hs, Der cs h2 y) (d : Der cs hs x) : Der cs h2 x := by
  induction d with
  | base hx => exact h _ hx
  | step hc hl _ ih => exact .step hc hl ih
theorem dead_trans {h2 : List Str} (h : ∀ y ∈ hs, Der cs h2 y) (d : Dead cs hs) : Dead cs h2 := by
  obtain ⟨c, hc, hd⟩ := d
  exact ⟨c, hc, fun m hm => der_trans h (hd m hm)⟩
/-! a name put out -/
def Rsv (n : Str) (c d : List Str) (x : Str) : Prop := (x ∈ c ∨ x ∈ d) ∧ nameOf x ≠ n
structure Out (ns : List Str) (cs : List (List Str)) (n : Str) (P : List (List Str)) : Prop where
  keep : ∀ c ∈ cs, n ∉ c → ("-" : Str) ++ n ∉ c → ∃ r ∈ P, ∀ x, x ∈ r ↔ x ∈ c
  res : ∀ c ∈ cs, ∀ d ∈ cs, n ∈ c → ("-" : Str) ++ n ∈ d → (∃ k, Rsv n c d k ∧ Rsv n c d (opp k)) ∨ ∃ r ∈ P, ∀ x, x ∈ r ↔ Rsv n c d x
  only : ∀ r ∈ P, (∃ c ∈ cs, n ∉ c ∧ ("-" : Str) ++ n ∉ c ∧ ∀ x, x ∈ r ↔ x ∈ c) ∨ ∃ c ∈ cs, ∃ d ∈ cs, n ∈ c ∧ ("-" : Str) ++ n ∈ d ∧ ∀ x, x ∈ r ↔ Rsv n c d x
theorem opp_name {x : Str} (nm : NmL ns) (hx : LitN ns x) : nameOf (opp x) = nameOf x := by
  obtain ⟨m, hm, s⟩ := hx
  have h := nm.nm m hm
  rcases s with s | s
  · rw [s, opp_nm h, nameOf_neg h, nameOf_nm h]
  · rw [s, opp_neg h, nameOf_neg h, nameOf_nm h]
structure Two (n a b : Str) (cs P : List (List Str)) : Prop where
  ab : opp a = b
  na : nameOf a = n
  nb : nameOf b = n
  ne : a ≠ b
  only : ∀ x, nameOf x = n → (∃ m, x = m ∨ x = ("-" : Str) ++ m) → True
  res : ∀ c ∈ cs, ∀ d ∈ cs, a ∈ c → b ∈ d → (∃ k, Rsv n c d k ∧ Rsv n c d (opp k)) ∨ ∃ r ∈ P, ∀ x, x ∈ r ↔ Rsv n c d x
/-! clauses that are found -/
def den (r : List Str) (l : Str) : List Str := (r.filter fun x => decide (x ≠ l)).map opp
def Finds (cs : List (List Str)) (r : List Str) : Prop := (r = [] → Dead cs []) ∧ ∀ l ∈ r, Dead cs (den r l) ∨ Der cs (den r l) l
theorem mem_den {r : List Str} {l y : Str} : y ∈ den r l ↔ ∃ m ∈ r, m ≠ l ∧ opp m = y := by
  unfold den
  simp only [List.mem_map, List.mem_filter, decide_eq_true_eq]
  constructor
  · rintro ⟨m, ⟨h1, h2⟩, h3⟩; exact ⟨m, h1, h2, h3⟩
  · rintro ⟨m, h1, h2, h3⟩; exact ⟨m, ⟨h1, h2⟩, h3⟩
theorem finds_der (h : ∀ r ∈ P, Finds cs r) {x : Str} (d : Der P hs x) : Dead cs hs ∨ Der cs hs x := by
  induction d with
  | base hx => exact .inr (.base hx)
  | @step r l hr hl _ ih =>
    by_cases nd : Dead cs hs
    · exact .inl nd
    · have all : ∀ y ∈ den r l, Der cs hs y := fun y hy => by
        obtain ⟨m, hm, hne, rfl⟩ := mem_den.mp hy
        exact (ih m hm hne).resolve_left nd
      rcases (h r hr).2 l hl with h | h
      · exact .inl (dead_trans all h)
      · exact .inr (der_trans all h)
theorem finds_dead (X : Ctx ns cs hs) (h : ∀ r ∈ P, Finds cs r) (d : Dead P hs) : Dead cs hs := by
  obtain ⟨r, hr, hd⟩ := d
  apply Classical.byContradiction
  intro nd
  have all : ∀ m ∈ r, Der cs hs (opp m) := fun m hm => (finds_der h (hd m hm)).resolve_left nd
  cases r with
  | nil => exact nd (dead_trans (hs := []) (fun y hy => by cases hy) ((h [] hr).1 rfl))
  | cons l r =>
    have al : ∀ y ∈ den (l :: r) l, Der cs hs y := fun y hy => by
      obtain ⟨m, hm, _, rfl⟩ := mem_den.mp hy
      exact all m hm
    rcases (h _ hr).2 l (List.mem_cons_self ..) with h1 | h1
    · exact nd (dead_trans al h1)
    · exact der_one X nd (der_trans al h1) (all l (List.mem_cons_self ..))
/-- a clause of the code is found -/
theorem finds_own {c : List Str} (hc : c ∈ cs) : Finds cs c := by
  refine ⟨fun e => ⟨c, hc, fun m hm => by rw [e] at hm; cases hm⟩, fun l hl => .inr (.step hc hl fun m hm hne => .base (mem_den.mpr ⟨m, hm, hne, rfl⟩))⟩
end
end My

set_option Elab.async false
set_option linter.all false
set_option maxRecDepth 100000
set_option maxHeartbeats 8000000
namespace My
open PySem PySem.Spec PyProof.Rows L2 L3
open L3.Strm
section
end
end My

set_option Elab.async false
set_option linter.all false
set_option maxRecDepth 100000
set_option maxHeartbeats 8000000
namespace My
open PySem PySem.Spec PyProof.Rows L2 L3
/-- whether a clause is found -/
noncomputable def findsB (cs : List (List Str)) (c : List Str) : Bool := if c = [] then deadB cs [] else c.all fun l => deadB cs (den c l) || derB cs (den c l) l
theorem findsB_iff {cs : List (List Str)} {c : List Str} : findsB cs c = true ↔ Finds cs c := by
  unfold findsB Finds
  by_cases e : c = []
  · rw [if_pos e, deadB_iff]
    exact ⟨fun h => ⟨fun _ => h, fun l hl => by rw [e] at hl; cases hl⟩, fun h => h.1 e⟩
  · rw [if_neg e, List.all_eq_true]
    simp only [Bool.or_eq_true, deadB_iff, derB_iff]
    exact ⟨fun h => ⟨fun z => absurd z e, h⟩, fun h => h.2⟩
theorem lits_den {ns c : List Str} (nm : NmL ns) (L : Lits ns c) (l : Str) : Lits ns (den c l) := by
  have L2 := L.sub (List.filter_sublist (p := fun x => decide (x ≠ l)))
  refine ⟨?_, fun y hy => ?_⟩
  · unfold den
    rw [List.map_map]
    have : (c.filter fun x => decide (x ≠ l)).map (nameOf ∘ opp) = (c.filter fun x => decide (x ≠ l)).map nameOf := List.map_congr_left fun x hx => opp_name nm (L2.of x hx)
    rw [this]
    exact L2.nd
  · obtain ⟨m, hm, _, rfl⟩ := mem_den.mp hy
    obtain ⟨n, hn, e⟩ := L.of m hm
    exact ⟨n, hn, side_opp (nm.nm n hn) e⟩
section
variable {P : Program} {w : World} {K : PySem.W.Frag} {mg : Str → Option Value} {base : Heap}
abbrev s_opposites : Stmt := topS 17
theorem sc_opposites : FnScope ["literals", "literal"] ["literals"] (defScope s_opposites) := ⟨rfl, rfl, rfl, by decide +kernel, rfl, by decide +kernel, by decide +kernel⟩
def sp_opposites (K : PySem.W.Frag) : Sp := sp1 (SqR K Tx) shortT fun ls => TT (ls.map opp)
theorem ok_opposites {f : Addr} {fd : FuncData} (F : Fun K "opposites" "opposites" s_opposites f fd) (T : Gc mg) (c_opposite : Cal P w K mg base 1 "opposite" ["literal"] (sp_opposite K)) : FnOk P w K mg base CX0 2 f fd ["literals"] (sp_opposites K) := by
  refine F.ok sc_opposites (fun vs H Q E h => ?_) (fun cdv A outer s H vs Q E hr h => ?_)
  · obtain ⟨x, M, v, rfl, _⟩ := h
    rfl
  · obtain ⟨ls, M, v, rfl, mh, r1, ⟨h1, h2⟩, q⟩ := h
    have hu := hr.units
    refine ⟨_, (pss_one (ps_ret (pe_callTy call_tupA (by rfl) T.tuple boot_tuple (pa_cons (pe_lc (own := [("literal", 1)]) (g := (gName 1)) (tt := tYes) (te := (tCall (sp_opposite K) [] E0 (tCons (tVar 1) tNil))) (by rfl) sc_opposites.nd (pi_sq (pv 0)) (blkOk_by (by rfl)) (fun _ _ _ _ _ => (pg_name (i := 1) sc_opposites.nd rfl (by first | exact .inl rfl | exact .inr rfl))) (fun _ _ _ _ _ => pts_nil) (fun _ _ _ _ _ => (pe_f c_opposite (hr.mono (by decide)) (pa_cons (pv 1) pa_nil)))) pa_nil)))), ?_⟩
    exact s_ret mh (gv_tupTT (K := K) (gl_m1 (S := Tx) (R := Tx) (xs := ls) (gi_sq (K := K) (gv_var rfl r1)) (szK h1) opp fun l hl M1 u sm ru => gv_call1 (R1 := Tx) (pre := fun x => x.length ≤ 1000) (R := fun x => Tx (opp x)) (gv_var rfl ru) (h2 l hl)).li) q
abbrev s_denied_but : Stmt := topS 40
theorem sc_denied_but : FnScope ["clause", "literal", "other"] ["clause", "literal"] (defScope s_denied_but) := ⟨rfl, rfl, rfl, by decide +kernel, rfl, by decide +kernel, by decide +kernel⟩
def sp_denied_but (K : PySem.W.Frag) : Sp := sp2 (SqR K Tx) Tx (fun c _ => shortT c) fun c l => TT (den c l)
theorem ok_denied_but {f : Addr} {fd : FuncData} (F : Fun K "denied_but" "denied_but" s_denied_but f fd) (c_opposites : Cal P w K mg base 2 "opposites" ["literals"] (sp_opposites K)) : FnOk P w K mg base CX0 3 f fd ["clause", "literal"] (sp_denied_but K) := by
  refine F.ok sc_denied_but (fun vs H Q E h => ?_) (fun cdv A outer s H vs Q E hr h => ?_)
  · obtain ⟨x, y, M, v, w, rfl, _⟩ := h
    rfl
  · obtain ⟨c, l, M, v, w, rfl, mh, r1, r2, ⟨h1, h2⟩, q⟩ := h
    have hu := hr.units
    cases (show w = _ from r2)
    refine ⟨_, (pss_one (ps_ret (pe_f c_opposites (hr.mono (by decide)) (pa_cons (pe_lc (own := [("other", 2)]) (g := (gName 2)) (tt := (tTest (tOp (rEqP K true) (tVar 2) (tVar 1)))) (te := (tVar 2)) (by rfl) sc_denied_but.nd (pi_sq (pv 0)) (blkOk_by (by rfl)) (fun _ _ _ _ _ => (pg_name (i := 2) sc_denied_but.nd rfl (by first | exact .inl rfl | exact .inr rfl))) (fun _ _ _ _ _ => (pts_one (pt_cmpR (op_neP hu) (pv 2) (pv 1) (nomark _)))) (fun _ _ _ _ _ => (pv 2))) pa_nil)))), ?_⟩
    exact s_ret mh (gv_call1 (R1 := SqR K Tx) (pre := shortT) (R := fun ls => TT (ls.map opp)) (x := c.filter fun x => decide (x ≠ l)) (gv_is (gl_c1 (S := Tx) (R := Tx) (xs := c) (gi_sq (K := K) (gv_var rfl r1)) (szK h1) (fun x => decide (x ≠ l)) id
      (fun x _ M1 u sm ru => gt_is (gt_test (gv_eqT (K := K) (neg := true) py_str inj_str (gv_var rfl ru) (gv_var rfl rfl) (by simp [PyData.depth]))) (by simp)) fun x _ _ M1 u sm ru => gv_var rfl ru).li fun M v h => by rw [List.map_id] at h; exact h.sq) ⟨Nat.le_trans (List.length_filter_le _ _) h1, fun x hx => h2 x (List.mem_filter.mp hx).1⟩) q
abbrev s_draws : Stmt := topS 33
theorem sc_draws : FnScope ["clauses", "setting", "literal", "so", "steps"] ["clauses", "setting", "literal"] (defScope s_draws) := ⟨rfl, rfl, rfl, by decide +kernel, rfl, by decide +kernel, by decide +kernel⟩
def sp_draws (K : PySem.W.Frag) : Sp := sp3 (SqR K (SqR K Tx)) (SqR K Tx) Tx (fun cs hs _ => ChW cs ∧ ∃ ns, Ctx ns cs hs) fun cs hs l => Bl (deadB cs hs || derB cs hs l)
theorem ok_draws {f : Addr} {fd : FuncData} (F : Fun K "draws" "draws" s_draws f fd) (c_chase : Cal P w K mg base 3 "chase" ["clauses", "setting"] (sp_chase K)) : FnOk P w K mg base CX0 4 f fd ["clauses", "setting", "literal"] (sp_draws K) := by
  refine F.ok sc_draws (fun vs H Q E h => ?_) (fun cdv A outer s H vs Q E hr h => ?_)
  · obtain ⟨x, y, z, M, v, w, u, rfl, _⟩ := h
    rfl
  · obtain ⟨cs, hs, l, M, v, w, u, rfl, mh, r1, r2, r3, ⟨hw, ns, X⟩, q⟩ := h
    have hu := hr.units
    cases (show u = _ from r3)
    refine ⟨_, (pss_cons (ps_asg (pe_f c_chase (hr.mono (by decide)) (pa_cons (pv 0) (pa_cons (pv 1) pa_nil))) (pg_tup (by rfl) (pgs_cons (pg_name (i := 3) sc_draws.nd rfl (by first | exact .inl rfl | exact .inr rfl)) (pgs_cons (pg_name (i := 4) sc_draws.nd rfl (by first | exact .inl rfl | exact .inr rfl)) pgs_nil))))
      (pss_one (ps_ret (pe_or (pe_cmp (pc_isN (pv 3))) (pe_one (pe_cmpR (op_inA hu) (pv 2) (pv 3) (by rfl))))))), ?_⟩
    refine q_chase (ns := ns) mh (gv_var rfl r1) (gv_var rfl r2) X hw fun o u5 v6 M1 H1 g1 he ru => ?_
    refine s_ret g1.mh (gv_is (gv_orV (b := o.isNone) (c := o.elim false fun so => decide (l ∈ so)) (gv_isN (b := o.isNone) (gv_var (P := OpR' DcF o) rfl ru) fun M v h => opD_non h) fun hb => ?_) fun M v h => ?_) fun z M' H' g r => q z M' H' (g1.trans g) r
    · cases o with
      | none => cases hb
      | some so => exact gv_is (gv_inA (K := K) (gv_var rfl rfl) (gv_var rfl (.inr (DcF.dc (show DcF so M1 u5 from ru))))) fun M v h => by simpa using h
    · show Bl (deadB cs hs || derB cs hs l) M v
      cases o with
      | none => rw [deadB_iff.mpr he]; exact h
      | some so =>
        have e : derB cs hs l = decide (l ∈ so) := by rw [Bool.eq_iff_iff, derB_iff, decide_eq_true_eq]; exact (he.2.1 l).symm
        rw [deadB_no he.1, e]; exact h
abbrev s_is_dead : Stmt := topS 42
theorem sc_is_dead : FnScope ["clauses", "setting", "so", "steps"] ["clauses", "setting"] (defScope s_is_dead) := ⟨rfl, rfl, rfl, by decide +kernel, rfl, by decide +kernel, by decide +kernel⟩
def sp_is_dead (K : PySem.W.Frag) : Sp := sp2 (SqR K (SqR K Tx)) (SqR K Tx) (fun cs hs => ChW cs ∧ ∃ ns, Ctx ns cs hs) fun cs hs => Bl (deadB cs hs)
theorem ok_is_dead {f : Addr} {fd : FuncData} (F : Fun K "is_dead" "is_dead" s_is_dead f fd) (c_chase : Cal P w K mg base 3 "chase" ["clauses", "setting"] (sp_chase K)) : FnOk P w K mg base CX0 4 f fd ["clauses", "setting"] (sp_is_dead K) := by
  refine F.ok sc_is_dead (fun vs H Q E h => ?_) (fun cdv A outer s H vs Q E hr h => ?_)
  · obtain ⟨x, y, M, v, w, rfl, _⟩ := h
    rfl
  · obtain ⟨cs, hs, M, v, w, rfl, mh, r1, r2, ⟨hw, ns, X⟩, q⟩ := h
    have hu := hr.units
    refine ⟨_, (pss_cons (ps_asg (pe_f c_chase (hr.mono (by decide)) (pa_cons (pv 0) (pa_cons (pv 1) pa_nil))) (pg_tup (by rfl) (pgs_cons (pg_name (i := 2) sc_is_dead.nd rfl (by first | exact .inl rfl | exact .inr rfl)) (pgs_cons (pg_name (i := 3) sc_is_dead.nd rfl (by first | exact .inl rfl | exact .inr rfl)) pgs_nil))))
      (pss_one (ps_ret (pe_cmp (pc_isN (pv 2)))))), ?_⟩
    refine q_chase (ns := ns) mh (gv_var rfl r1) (gv_var rfl r2) X hw fun o u5 v6 M1 H1 g1 he ru => ?_
    refine s_ret g1.mh (gv_is (gv_isN (b := o.isNone) (gv_var (P := OpR' DcF o) rfl ru) fun M v h => opD_non h) fun M v h => ?_) fun z M' H' g r => q z M' H' (g1.trans g) r
    show Bl (deadB cs hs) M v
    cases o with
    | none => rw [deadB_iff.mpr he]; exact h
    | some so => rw [deadB_no he.1]; exact h
abbrev s_finds : Stmt := topS 41
theorem sc_finds : FnScope ["clauses", "clause", "literal"] ["clauses", "clause"] (defScope s_finds) := ⟨rfl, rfl, rfl, by decide +kernel, rfl, by decide +kernel, by decide +kernel⟩
def sp_finds (K : PySem.W.Frag) : Sp := sp2 (SqR K (SqR K Tx)) TT (fun cs c => ChW cs ∧ shortT c ∧ ∃ ns, Ctx ns cs c) fun cs c => Bl (findsB cs c)
theorem ok_finds {f : Addr} {fd : FuncData} (F : Fun K "finds" "finds" s_finds f fd) (T : Gc mg) (c_is_dead : Cal P w K mg base 4 "is_dead" ["clauses", "setting"] (sp_is_dead K)) (c_draws : Cal P w K mg base 4 "draws" ["clauses", "setting", "literal"] (sp_draws K)) (c_denied_but : Cal P w K mg base 3 "denied_but" ["clause", "literal"] (sp_denied_but K)) : FnOk P w K mg base CX0 5 f fd ["clauses", "clause"] (sp_finds K) := by
  refine F.ok sc_finds (fun vs H Q E h => ?_) (fun cdv A outer s H vs Q E hr h => ?_)
  · obtain ⟨x, y, M, v, w, rfl, _⟩ := h
    rfl
  · obtain ⟨cs, c, M, v, w, rfl, mh, r1, r2, ⟨hw, hc, ns, X⟩, q⟩ := h
    have hu := hr.units
    refine ⟨_, (pss_cons (ps_if (pt_cmpR (op_eqP hu) (pv 1) (pe_tup pa_nil) (nomark _)) (pss_one (ps_ret (pe_f c_is_dead (hr.mono (by decide)) (pa_cons (pv 0) (pa_cons (pe_tup pa_nil) pa_nil))))) pss_nil)
      (pss_one (ps_ret (pe_callB (cr_all rfl) (by rfl) T.all boot_all (pa_cons (pe_lc (own := [("literal", 2)]) (g := (gName 2)) (tt := tYes) (te := (tCall (sp_draws K) [] E0 (tCons (tVar 0) (tCons (tCall (sp_denied_but K) [] E0 (tCons (tVar 1) (tCons (tVar 2) tNil))) (tCons (tVar 2) tNil))))) (by rfl) sc_finds.nd (pi_sq (pv 1)) (blkOk_by (by rfl)) (fun _ _ _ _ _ => (pg_name (i := 2) sc_finds.nd rfl (by first | exact .inl rfl | exact .inr rfl))) (fun _ _ _ _ _ => pts_nil) (fun _ _ _ _ _ => (pe_f c_draws (hr.mono (by decide)) (pa_cons (pv 0) (pa_cons (pe_f c_denied_but (hr.mono (by decide)) (pa_cons (pv 1) (pa_cons (pv 2) pa_nil))) (pa_cons (pv 2) pa_nil)))))) pa_nil))))), ?_⟩
    refine q_if0 (b := decide (c = [])) mh (gt_is (gt_test (gv_eqT (K := K) (R := TT) (neg := false) py_TT inj_TT (gv_var rfl r2) gv_nilT (by simp [PyData.depth, depthS]))) (by simp)) (fun hb H2 hh => ?_) fun hb H2 hh => ?_
    · have e := of_decide_eq_true hb
      refine s_ret (mh.trans hh) (gv_is (gv_call2 (R1 := SqR K (SqR K Tx)) (R2 := SqR K Tx) (pre := fun cs hs => ChW cs ∧ ∃ ns, Ctx ns cs hs) (R := fun cs hs => Bl (deadB cs hs)) (x := cs) (y := []) (gv_var rfl r1) (gv_is gv_nilT fun _ _ h => h.sq) ⟨hw, ns, X.nm, X.c, .nil⟩) fun M v h => ?_) fun z M' H' g r => q z M' H' (.trans (.idle mh hh) g) r
      show Bl (findsB cs c) M v
      unfold findsB
      rw [if_pos e]
      exact h
    · have e := of_decide_eq_false hb
      refine s_ret (mh.trans hh) (gv_is (gv_all (K := K) (gl_m1 (S := Bl) (R := Tx) (xs := c) (gi_sq (K := K) (gv_var rfl r2.sq)) (szK hc.1) (fun l => deadB cs (den c l) || derB cs (den c l) l) fun l hl M1 u sm ru =>
        gv_call3 (R1 := SqR K (SqR K Tx)) (R2 := SqR K Tx) (R3 := Tx) (pre := fun cs hs _ => ChW cs ∧ ∃ ns, Ctx ns cs hs) (R := fun cs hs l => Bl (deadB cs hs || derB cs hs l)) (x := cs) (y := den c l) (z := l) (gv_var rfl (Mon.mono sm r1)) (gv_is (gv_call2 (R1 := SqR K Tx) (R2 := Tx) (pre := fun c _ => shortT c) (R := fun c l => TT (den c l)) (x := c) (y := l) (gv_var rfl (Mon.mono sm r2).sq) (gv_var rfl ru) hc) fun _ _ h => h.sq) (gv_var rfl ru) ⟨hw, ns, X.nm, X.c, lits_den X.nm X.h l⟩)) fun M v h => ?_) fun z M' H' g r => q z M' H' (.trans (.idle mh hh) g) r
      show Bl (findsB cs c) M v
      unfold findsB
      rw [if_neg e, show v = _ from h, List.all_map]
      rfl
end
end My

set_option Elab.async false
set_option linter.all false
set_option maxRecDepth 100000
set_option maxHeartbeats 8000000
namespace My
open PySem PySem.Spec PyProof.Rows L2 L3
open L3.Strm
section
variable {P : Program} {w : World} {K : PySem.W.Frag} {mg : Str → Option Value} {base : Heap}
abbrev s__law_led_to : Stmt := topS 84
theorem sc__law_led_to : FnScope ["_law_clauses", "_law_clause_here", "_law_literal", "_law_so", "_law_one"] ["_law_clauses", "_law_clause_here", "_law_literal"] (defScope s__law_led_to) := ⟨rfl, rfl, rfl, by decide +kernel, rfl, by decide +kernel, by decide +kernel⟩
def sp__law_led_to (K : PySem.W.Frag) : Sp := sp3 (SqR K (SqR K Tx)) (SqR K Tx) Tx (fun cs c _ => ChW cs ∧ shortT c ∧ ∃ ns, Ctx ns cs c) fun cs c l => Bl (deadB cs (den c l) || derB cs (den c l) l)
theorem opL_non' {o : Option (List Str)} {M : Hp} {v : V} (h : OpR' (LiR Tx) o M v) : decide (v = .non) = o.isNone := op_non li_ref h
theorem ok__law_led_to {f : Addr} {fd : FuncData} (F : Fun K "_law_led_to" "_law_led_to" s__law_led_to f fd) (c__law_chase : Cal P w K mg base 2 "_law_chase" ["_law_clauses", "_law_half_here"] (sp__law_chase K)) (c__law_neg : Cal P w K mg base 1 "_law_neg" ["_law_one"] (sp__law_neg K)) : FnOk P w K mg base CX0 3 f fd ["_law_clauses", "_law_clause_here", "_law_literal"] (sp__law_led_to K) := by
  refine F.ok sc__law_led_to (fun vs H Q E h => ?_) (fun cdv A outer s H vs Q E hr h => ?_)
  · obtain ⟨x, y, z, M, v, w, u, rfl, _⟩ := h
    rfl
  · obtain ⟨cs, c, l, M, v, w, u, rfl, mh, r1, r2, r3, ⟨hw, hc, ns, X⟩, q⟩ := h
    have hu := hr.units
    cases (show u = _ from r3)
    refine ⟨_, (pss_cons (ps_set (i := 3) sc__law_led_to.nd rfl (by first | exact .inl rfl | exact .inr rfl) (pe_f c__law_chase (hr.mono (by decide)) (pa_cons (pv 0) (pa_cons (pe_lc (own := [("_law_one", 4)]) (g := (gName 4)) (tt := (tTest (tOp (rEqP K true) (tVar 4) (tVar 2)))) (te := (tCall (sp__law_neg K) [] E0 (tCons (tVar 4) tNil))) (by rfl) sc__law_led_to.nd (pi_sq (pv 1)) (blkOk_by (by rfl)) (fun _ _ _ _ _ => (pg_name (i := 4) sc__law_led_to.nd rfl (by first | exact .inl rfl | exact .inr rfl))) (fun _ _ _ _ _ => (pts_one (pt_cmpR (op_neP hu) (pv 4) (pv 2) (nomark _)))) (fun _ _ _ _ _ => (pe_f c__law_neg (hr.mono (by decide)) (pa_cons (pv 4) pa_nil)))) pa_nil))))
      (pss_one (ps_ret (pe_or (pe_cmp (pc_isN (pv 3))) (pe_one (pe_cmpR (op_inA hu) (pv 2) (pv 3) (by rfl))))))), ?_⟩
    have XD : Ctx ns cs (den c l) := ⟨X.nm, X.c, lits_den X.nm X.h l⟩
    have dl : (den c l).length ≤ 1000000 := by
      unfold den
      rw [List.length_map]
      exact Nat.le_trans (List.length_filter_le _ _) hc.1
    refine q_asg (P := fun M v => ∃ r, LChase cs (once (den c l)) r ∧ OpR' (LiR Tx) r M v) mh (gv_call2 (R1 := SqR K (SqR K Tx)) (R2 := SqR K Tx) (x := cs) (y := den c l) (gv_var rfl r1) (gv_is (gl_c1 (S := Tx) (R := Tx) (xs := c) (gi_sq (K := K) (gv_var rfl r2)) (szK hc.1) (fun x => decide (x ≠ l)) opp
      (fun x _ M1 u1 sm ru => gt_is (gt_test (gv_eqT (K := K) (neg := true) py_str inj_str (gv_var rfl ru) (gv_var rfl rfl) (by simp [PyData.depth]))) (by simp)) fun x hx _ M1 u1 sm ru => gv_call1 (R1 := Tx) (pre := fun x => x.length ≤ 1000) (R := fun x => Tx (opp x)) (gv_var rfl ru) (hc.2 x hx)).li fun M v h => h.sq) ⟨hw.1, hw.2.1, hw.2.2, dl⟩) fun v3 M1 H1 g1 ⟨o, hch, p1⟩ => ?_
    rw [once_self (lits_nodup XD.h)] at hch
    have he := lchase_ok XD hch (.init XD)
    refine s_ret g1.mh (gv_is (gv_orV (b := o.isNone) (c := o.elim false fun so => decide (l ∈ so)) (gv_isN (b := o.isNone) (gv_var (P := OpR' (LiR Tx) o) rfl p1) fun M v h => opL_non' h) fun hb => ?_) fun M v h => ?_) fun z M' H' g r => q z M' H' (g1.trans g) r
    · cases o with
      | none => cases hb
      | some so => exact gv_is (gv_inA (K := K) (gv_var rfl rfl) (gv_var rfl (.inl (LiR.sq (show LiR Tx so M1 v3 from p1))))) fun M v h => by simpa using h
    · show Bl (deadB cs (den c l) || derB cs (den c l) l) M v
      cases o with
      | none => rw [deadB_iff.mpr he]; exact h
      | some so =>
        have e : derB cs (den c l) l = decide (l ∈ so) := by rw [Bool.eq_iff_iff, derB_iff, decide_eq_true_eq]; exact (he.2.1 l).symm
        rw [deadB_no he.1, e]; exact h
abbrev s__law_finds : Stmt := topS 85
theorem sc__law_finds : FnScope ["_law_clauses", "_law_clause_here", "_law_literal"] ["_law_clauses", "_law_clause_here"] (defScope s__law_finds) := ⟨rfl, rfl, rfl, by decide +kernel, rfl, by decide +kernel, by decide +kernel⟩
def sp__law_finds (K : PySem.W.Frag) : Sp := sp2 (SqR K (SqR K Tx)) (SqR K Tx) (fun cs c => ChW cs ∧ shortT c ∧ ∃ ns, Ctx ns cs c) fun cs c => Bl (findsB cs c)
theorem ok__law_finds {f : Addr} {fd : FuncData} (F : Fun K "_law_finds" "_law_finds" s__law_finds f fd) (T : Gc mg) (c__law_chase : Cal P w K mg base 2 "_law_chase" ["_law_clauses", "_law_half_here"] (sp__law_chase K)) (c__law_led_to : Cal P w K mg base 3 "_law_led_to" ["_law_clauses", "_law_clause_here", "_law_literal"] (sp__law_led_to K)) : FnOk P w K mg base CX0 4 f fd ["_law_clauses", "_law_clause_here"] (sp__law_finds K) := by
  refine F.ok sc__law_finds (fun vs H Q E h => ?_) (fun cdv A outer s H vs Q E hr h => ?_)
  · obtain ⟨x, y, M, v, w, rfl, _⟩ := h
    rfl
  · obtain ⟨cs, c, M, v, w, rfl, mh, r1, r2, ⟨hw, hc, ns, X⟩, q⟩ := h
    have hu := hr.units
    refine ⟨_, (pss_cons (ps_if (pt_cmpR (op_eqP hu) (pe_callB call_lenA (by rfl) T.len boot_len (pa_cons (pv 1) pa_nil)) pe_int (nomark _)) (pss_one (ps_ret (pe_cmp (pc_isN (pe_f c__law_chase (hr.mono (by decide)) (pa_cons (pv 0) (pa_cons (pe_lst pa_nil) pa_nil))))))) pss_nil)
      (pss_one (ps_ret (pe_callB (cr_all rfl) (by rfl) T.all boot_all (pa_cons (pe_lc (own := [("_law_literal", 2)]) (g := (gName 2)) (tt := tYes) (te := (tCall (sp__law_led_to K) [] E0 (tCons (tVar 0) (tCons (tVar 1) (tCons (tVar 2) tNil))))) (by rfl) sc__law_finds.nd (pi_sq (pv 1)) (blkOk_by (by rfl)) (fun _ _ _ _ _ => (pg_name (i := 2) sc__law_finds.nd rfl (by first | exact .inl rfl | exact .inr rfl))) (fun _ _ _ _ _ => pts_nil) (fun _ _ _ _ _ => (pe_f c__law_led_to (hr.mono (by decide)) (pa_cons (pv 0) (pa_cons (pv 1) (pa_cons (pv 2) pa_nil)))))) pa_nil))))), ?_⟩
    refine q_if0 (b := decide (c = [])) mh (gt_is (gt_test (gv_eqT (K := K) (neg := false) (x := (c.length : Int)) (y := 0) py_int inj_int (gv_lenA (K := K) (R := Tx) (gv_var rfl r2)) (gv_c rfl) (by simp [PyData.depth]))) (by rw [Bool.eq_iff_iff]; simp)) (fun hb H2 hh => ?_) fun hb H2 hh => ?_
    · have e := of_decide_eq_true hb
      have X0 : Ctx ns cs [] := ⟨X.nm, X.c, .nil⟩
      haveI : Mono (fun M v => ∃ r, LChase cs (once []) r ∧ OpR' (LiR Tx) r M v) := ⟨fun e ⟨r, h, p⟩ => ⟨r, h, Mon.mono e p⟩⟩
      refine s_ret (mh.trans hh) (gv_is (gv_isN (P := fun M v => ∃ r, LChase cs (once []) r ∧ OpR' (LiR Tx) r M v) (b := deadB cs []) (gv_call2 (R1 := SqR K (SqR K Tx)) (R2 := SqR K Tx) (x := cs) (y := []) (gv_var rfl r1) (gv_is (gv_nilL (R := Tx)) fun _ _ h => h.sq) ⟨hw.1, hw.2.1, hw.2.2, by simp⟩) fun M v ⟨o, hch, p⟩ => ?_) fun M v h => ?_) fun z M' H' g r => q z M' H' (.trans (.idle mh hh) g) r
      · rw [opL_non' p]
        have he := lchase_ok X0 hch (.init X0)
        cases o with
        | none => rw [deadB_iff.mpr he]; rfl
        | some so => rw [deadB_no he.1]; rfl
      · show Bl (findsB cs c) M v
        unfold findsB
        rw [if_pos e]
        exact h
    · have e := of_decide_eq_false hb
      refine s_ret (mh.trans hh) (gv_is (gv_all (K := K) (gl_m1 (S := Bl) (R := Tx) (xs := c) (gi_sq (K := K) (gv_var rfl r2)) (szK hc.1) (fun l => deadB cs (den c l) || derB cs (den c l) l) fun l hl M1 u sm ru =>
        gv_call3 (R1 := SqR K (SqR K Tx)) (R2 := SqR K Tx) (R3 := Tx) (pre := fun cs c _ => ChW cs ∧ shortT c ∧ ∃ ns, Ctx ns cs c) (R := fun cs c l => Bl (deadB cs (den c l) || derB cs (den c l) l)) (x := cs) (y := c) (z := l) (gv_var rfl (Mon.mono sm r1)) (gv_var rfl (Mon.mono sm r2)) (gv_var rfl ru) ⟨hw, hc, ns, X⟩)) fun M v h => ?_) fun z M' H' g r => q z M' H' (.trans (.idle mh hh) g) r
      show Bl (findsB cs c) M v
      unfold findsB
      rw [if_neg e, show v = _ from h, List.all_map]
      rfl
end
end My

set_option Elab.async false
set_option linter.all false
set_option maxRecDepth 100000
set_option maxHeartbeats 4000000
namespace My
open PySem PySem.Spec PyProof.Rows L2 L3
/-! needless clauses -/
theorem flat_sub {xs ys : List (List Str)} (h : xs.Sublist ys) : xs.flatten.length ≤ ys.flatten.length := by
  induction h with
  | slnil => exact Nat.le_refl _
  | cons a _ ih => rw [List.flatten_cons, List.length_append]; omega
  | cons_cons a _ ih => rw [List.flatten_cons, List.flatten_cons, List.length_append, List.length_append]; omega
theorem ChW.sub {cs ds : List (List Str)} (w : ChW cs) (h : ds.Sublist cs) : ChW ds := ⟨fun c hc => w.1 c (h.subset hc), Nat.le_trans (flat_sub h) w.2.1, Nat.le_trans h.length_le w.2.2⟩
/-- codes of moderate size -/
structure CodeP (c : CodeD) : Prop where
  nm : NmL c.names
  l : ∀ x ∈ c.clauses, Lits c.names x
  n : c.names.length ≤ 100
  k : c.clauses.length ≤ 1000
section
variable {c : CodeD}
theorem CodeP.len (X : CodeP c) : ∀ x ∈ c.clauses, x.length ≤ 100 := fun x hx => Nat.le_trans (lits_len (X.l x hx) X.nm) X.n
theorem CodeP.w (X : CodeP c) : CodeW c := by
  have h2 := flat_len X.len
  have h4 : c.clauses.length * 100 ≤ 1000 * 100 := Nat.mul_le_mul_right _ X.k
  have h5 := X.k
  exact ⟨fun x hx => ⟨Nat.le_trans (X.len x hx) (by decide), fun l hl => Nat.le_trans (lits_short (X.l x hx) X.nm l hl) (by decide)⟩, by omega, by omega, nm_shorts X.nm⟩
theorem CodeP.ch (X : CodeP c) : ChW c.clauses := ⟨X.w.c, X.w.n, X.w.k⟩
theorem CodeP.ok (X : CodeP c) : CodeOk c.signs c.helpers c.clauses := by
  have hn := X.n
  have hl : c.names.length = c.signs.length + c.helpers.length := List.length_append
  obtain ⟨n1, n2, n3⟩ := List.nodup_append.mp (show (c.signs ++ c.helpers).Nodup from X.nm.nd)
  refine ⟨⟨n1, fun x hx => ⟨X.nm.nm x (List.mem_append_left _ hx), fun h => by cases h⟩, by omega⟩, ⟨n2, fun x hx => ⟨X.nm.nm x (List.mem_append_right _ hx), fun h => n3 x h x hx rfl⟩, by omega⟩, Nat.le_trans X.k (by decide), fun x hx => clOk_lits X.nm (X.l x hx), ?_⟩
  show c.names.length ≤ 1000
  omega
theorem LawX.p (X : LawX c) : CodeP c := ⟨X.nm, X.l, Nat.le_trans X.n6 (by decide), X.k⟩
theorem CodeP.sub {ds : List (List Str)} (X : CodeP c) (h : ds.Sublist c.clauses) : CodeP ⟨c.signs, c.helpers, ds⟩ := ⟨X.nm, fun x hx => X.l x (h.subset hx), X.n, Nat.le_trans h.length_le X.k⟩
theorem Nf.sub {ds : List (List Str)} (X : Nf c) (h : ds.Sublist c.clauses) : Nf ⟨c.signs, c.helpers, ds⟩ := ⟨fun x hx => X.a x (h.subset hx), X.nd.sublist h⟩
end
/-! a clause is needless: the same is found everywhere -/
section
variable {ns : List Str} {cs ds : List (List Str)} {c h : List Str}
theorem asc_at (nm : NmL ns) (L : Lits ns h) : asc h ns ∈ halves ns ∧ (∀ cs : List (List Str), Dead cs (asc h ns) ↔ Dead cs h) ∧ ∀ (cs : List (List Str)) x, Der cs (asc h ns) x ↔ Der cs h x := by
  have s1 : ∀ (cs : List (List Str)), ∀ y ∈ asc h ns, Der cs h y := fun cs y hy => .base ((asc_same L y).mp hy)
  have s2 : ∀ (cs : List (List Str)), ∀ y ∈ h, Der cs (asc h ns) y := fun cs y hy => .base ((asc_same L y).mpr hy)
  exact ⟨halves_all fun m hm => lits_one nm L hm, fun cs => ⟨dead_trans (s1 cs), dead_trans (s2 cs)⟩, fun cs x => ⟨der_trans (s1 cs), der_trans (s2 cs)⟩⟩
end
end My

set_option Elab.async false
set_option linter.all false
set_option maxRecDepth 100000
set_option maxHeartbeats 8000000
namespace My
open PySem PySem.Spec PyProof.Rows L2 L3
theorem gv_mkCode {K : PySem.W.Frag} {σ : Sl} {M : Hp} {t1 t2 t3 : TE} {C : Addr} {ss hs : List Str} {cs : List (List Str)} (h1 : Gv t1 σ M (SqR K Tx ss)) (h2 : Gv t2 σ M (SqR K (SqR K Tx) cs)) (h3 : Gv t3 σ M (SqR K Tx hs)) (ok : CodeOk ss hs cs) : Gv (tMake C (sp_Code_init K C) [] E0 (tCons t1 (tCons t2 (tCons t3 tNil)))) σ M (CodeR C (mkCode ss hs cs)) := fun H mh Q q =>
  h1 H mh _ fun v1 M1 H1 g1 q1 => h2.le g1.mm H1 g1.mh _ fun v2 M2 H2 g2 q2 => h3.le (g1.mm.trans g2.mm) H2 g2.mh _ fun v3 M3 H3 g3 q3 x dx hx hdx hne => by
    have m3 := g3.mh
    have gN : Gr M3 H3 M3 (upd (upd H3 dx (.own x)) x (.ins C dx [])) := (Gr.own m3 hdx).trans (.own (m3.trans (same_new hdx)) (by rw [upd_ne (Ne.symm hne)]; exact hx))
    exact ⟨ss, hs, cs, M3, H3, x, dx, v1, v2, v3, rfl, gN, hx, m3.free hx, upd_same, Mon.mono (g2.mm.trans g3.mm) q1, Mon.mono g3.mm q2, q3, ok, fun M' H' g r => ⟨rfl, q _ M' H' (((g1.trans g2).trans g3).trans g) r⟩⟩
section
end
end My

set_option Elab.async false
set_option linter.all false
set_option maxRecDepth 100000
set_option maxHeartbeats 8000000
namespace My
open PySem PySem.Spec PyProof.Rows L2 L3
open L3.Strm
/-! what the laws compare is small enough to be shown -/
theorem fit_bool (b : Bool) : FitD (.bool b) := by
  cases b
  · exact ⟨rfl, by simp [PyData.depth], by decide +kernel⟩
  · exact ⟨rfl, by simp [PyData.depth], by decide +kernel⟩
section
end
/-! the thing itself -/
def IdR : Rl V := fun x _ v => v = x
instance : Mon IdR := ⟨fun _ h => h⟩
instance : Stl IdR := ⟨fun _ _ h => h⟩
instance : Stl fun n : Nat => It' (n : Int) := ⟨fun _ _ h => h⟩
section
end
end My

set_option Elab.async false
set_option linter.all false
set_option maxRecDepth 100000
set_option maxHeartbeats 8000000
namespace My
open PySem PySem.Spec PyProof.Rows L2 L3
section
end
end My

set_option Elab.async false
set_option linter.all false
set_option maxRecDepth 100000
set_option maxHeartbeats 4000000
namespace My
open PySem PySem.Spec PyProof.Rows L2 L3
/-! sight by shortest consequences -/
theorem nodup_le2 {α : Type} [DecidableEq α] : ∀ {xs ys : List α}, xs.Nodup → (∀ x ∈ xs, x ∈ ys) → xs.length ≤ ys.length
  | [], _, _, _ => Nat.zero_le _
  | x :: xs, ys, nd, h => by
    have hx := h x (List.mem_cons_self ..)
    obtain ⟨n1, n2⟩ := List.nodup_cons.mp nd
    have h1 := nodup_le2 (ys := ys.erase x) n2 fun y hy => (List.mem_erase_of_ne (fun e => n1 (by rw [← e]; exact hy))).mpr (h y (List.mem_cons_of_mem _ hy))
    rw [List.length_erase_of_mem hx] at h1
    have h2 : 0 < ys.length := List.length_pos_of_mem hx
    rw [List.length_cons]
    omega
theorem halves_sorted (ns : List Str) : (halves ns).Pairwise fun a b => a.length ≤ b.length := by
  have step : ∀ {t : Nat} {lv : List (List Str × Nat)}, (∀ p ∈ lv, p.1.length = t) → ∀ p ∈ nextH ns lv, p.1.length = t + 1 := fun {t lv} h q hq => by
    obtain ⟨p, hp, hq⟩ := List.mem_flatMap.mp hq
    obtain ⟨a, l, _, _, _, rfl⟩ := mem_stepH hq
    show (p.1 ++ [l]).length = t + 1
    rw [List.length_append, h p hp]
    rfl
  have go : ∀ (m t : Nat) (lv : List (List Str × Nat)) (found : List (List Str)), (∀ p ∈ lv, p.1.length = t) → (∀ x ∈ found, x.length ≤ t) → found.Pairwise (fun a b => a.length ≤ b.length) → (halfGo ns m lv found).Pairwise fun a b => a.length ≤ b.length := by
    intro m
    induction m with
    | zero => intro t lv found _ _ h; exact h
    | succ m ih =>
      intro t lv found h1 h2 h3
      have h4 := step h1
      have h5 : ∀ x ∈ (nextH ns lv).map (·.1), x.length = t + 1 := fun x hx => by
        obtain ⟨p, hp, rfl⟩ := List.mem_map.mp hx
        exact h4 p hp
      refine ih (t + 1) _ _ h4 (fun x hx => ?_) (List.pairwise_append.mpr ⟨h3, ?_, fun a ha b hb => ?_⟩)
      · rcases List.mem_append.mp hx with hx | hx
        · have := h2 x hx; omega
        · rw [h5 x hx]; exact Nat.le_refl _
      · refine List.pairwise_of_forall_mem_list fun a ha b hb => ?_
        rw [h5 a ha, h5 b hb]
        exact Nat.le_refl _
      · have := h2 a ha
        rw [h5 b hb]
        omega
  refine go _ 0 _ _ (fun p hp => ?_) (fun x hx => ?_) (List.pairwise_singleton _ _)
  · rw [List.mem_singleton.mp hp]; rfl
  · rw [List.mem_singleton.mp hx]; exact Nat.le_refl _
theorem head_map {α β : Type} {f : α → Option β} {b : β} : ∀ {L : List α}, (L.filterMap f).head? = some b → ∃ pre h post, L = pre ++ h :: post ∧ f h = some b ∧ ∀ x ∈ pre, f x = none
  | [], e => by cases e
  | a :: r, e => by
    cases ea : f a with
    | some c =>
      rw [List.filterMap_cons_some ea] at e
      cases e
      exact ⟨[], a, r, rfl, ea, fun _ h => by cases h⟩
    | none =>
      rw [List.filterMap_cons_none ea] at e
      obtain ⟨pre, h, post, e1, e2, e3⟩ := head_map e
      exact ⟨a :: pre, h, post, by rw [e1]; rfl, e2, fun x hx => (List.mem_cons.mp hx).elim (fun z => z ▸ ea) (e3 x)⟩
/-- nothing shorter than the first -/
theorem first_short {β : Type} {f : List Str → Option β} {L : List (List Str)} {b : β} (so : L.Pairwise fun a b => a.length ≤ b.length) (e : (L.filterMap f).head? = some b) : ∃ h ∈ L, f h = some b ∧ ∀ h' ∈ L, f h' ≠ none → h.length ≤ h'.length := by
  obtain ⟨pre, h, post, rfl, e2, e3⟩ := head_map e
  refine ⟨h, by simp, e2, fun h' hm hn => ?_⟩
  rcases List.mem_append.mp hm with hm | hm
  · exact absurd (e3 h' hm) hn
  · rcases List.mem_cons.mp hm with rfl | hm
    · exact Nat.le_refl _
    · have := (List.pairwise_append.mp so).2.1
      exact (List.pairwise_cons.mp this).1 h' hm
section
variable {ns : List Str} {ss cs : List (List Str)} {h : List Str} {l : Str}
theorem forced_no : forcedL ss h = none ↔ ∀ s ∈ ss, ¬ ∀ x ∈ h, x ∈ s := by
  unfold forcedL
  constructor
  · intro e s hs hx
    have : s ∈ fits ss h := fits_iff.mpr ⟨hs, hx⟩
    cases ef : fits ss h with
    | nil => rw [ef] at this; cases this
    | cons a r => rw [ef] at e; cases e
  · intro k
    cases ef : fits ss h with
    | nil => rfl
    | cons a r =>
      have : a ∈ fits ss h := by rw [ef]; simp
      exact absurd (fits_iff.mp this).2 (k a (fits_iff.mp this).1)
theorem forced_mem {f : List Str} (e : forcedL ss h = some f) {x : Str} : x ∈ f ↔ (∃ s ∈ ss, (∀ y ∈ h, y ∈ s)) ∧ x ∉ h ∧ ∀ s ∈ ss, (∀ y ∈ h, y ∈ s) → x ∈ s := by
  unfold forcedL at e
  cases ef : fits ss h with
  | nil => rw [ef] at e; cases e
  | cons a r =>
    rw [ef] at e
    cases e
    have ha : a ∈ fits ss h := by rw [ef]; simp
    have all : ∀ s, s ∈ a :: r ↔ s ∈ ss ∧ ∀ y ∈ h, y ∈ s := fun s => by rw [← ef]; exact fits_iff
    rw [List.mem_filter, Bool.and_eq_true, decide_eq_true_eq, List.all_eq_true]
    constructor
    · rintro ⟨h1, h2, h3⟩
      exact ⟨⟨a, (fits_iff.mp ha).1, (fits_iff.mp ha).2⟩, h2, fun s hs hy => of_decide_eq_true (h3 s ((all s).mpr ⟨hs, hy⟩))⟩
    · rintro ⟨_, h2, h3⟩
      exact ⟨h3 a (fits_iff.mp ha).1 (fits_iff.mp ha).2, h2, fun s hs => decide_eq_true (h3 s ((all s).mp hs).1 ((all s).mp hs).2)⟩
/-- a blind place -/
theorem blind_some {b : List Str × Option Str} (e : blindAt cs ss h l = some b) : ¬ Dead cs h ∧ b.1 = h ∧ ((b.2 = none ∧ forcedL ss h = none) ∨ ∃ f x, b.2 = some x ∧ forcedL ss h = some f ∧ x ∈ f ∧ ¬ Der cs h x ∧ l ≠ ("dead" : Str)) := by
  unfold blindAt at e
  by_cases d : Dead cs h
  · rw [if_pos (deadB_iff.mpr d)] at e; cases e
  · rw [deadB_no d] at e
    refine ⟨d, ?_⟩
    cases ef : forcedL ss h with
    | none =>
      rw [ef] at e
      have e : some (h, none) = some b := e
      cases e
      exact ⟨rfl, .inl ⟨rfl, rfl⟩⟩
    | some f =>
      rw [ef] at e
      have e : blindOf h (lackL cs f h l) = some b := e
      cases el : lackL cs f h l with
      | nil => rw [el] at e; cases e
      | cons x r =>
        rw [el] at e
        have e : some (h, some x) = some b := e
        cases e
        have hx : x ∈ lackL cs f h l := by rw [el]; simp
        unfold lackL at hx
        rw [List.mem_filter, Bool.and_eq_true, decide_eq_true_eq, Bool.not_eq_true'] at hx
        exact ⟨rfl, .inr ⟨f, x, rfl, rfl, hx.1, fun z => (by rw [derB_iff.mpr z] at hx; cases hx.2.1), hx.2.2⟩⟩
theorem blind_ne (d : ¬ Dead cs h) (k : forcedL ss h = none ∨ ∃ f x, forcedL ss h = some f ∧ x ∈ f ∧ ¬ Der cs h x ∧ l ≠ ("dead" : Str)) : blindAt cs ss h l ≠ none := by
  unfold blindAt
  rw [deadB_no d]
  rcases k with e | ⟨f, x, e, hx, hn, hl⟩
  · rw [e]; intro z; cases z
  · rw [e]
    show blindOf h (lackL cs f h l) ≠ none
    have hx : x ∈ lackL cs f h l := by
      unfold lackL
      refine List.mem_filter.mpr ⟨hx, ?_⟩
      rw [Bool.and_eq_true, decide_eq_true_eq, Bool.not_eq_true']
      exact ⟨by rw [← Bool.not_eq_true]; exact fun z => hn (derB_iff.mp z), hl⟩
    cases el : lackL cs f h l with
    | nil => rw [el] at hx; cases hx
    | cons a r => intro z; cases z
theorem opp_lit {x : Str} (nm : NmL ns) (hx : LitN ns x) : LitN ns (opp x) := by
  obtain ⟨n, hn, e⟩ := hx
  rcases e with e | e
  · rw [e, opp_nm (nm.nm n hn)]; exact ⟨n, hn, .inr rfl⟩
  · rw [e, opp_neg (nm.nm n hn)]; exact ⟨n, hn, .inl rfl⟩
theorem lits_opp (nm : NmL ns) (L : Lits ns h) : Lits ns (h.map opp) := by
  refine ⟨?_, fun y hy => ?_⟩
  · have : h.map (nameOf ∘ opp) = h.map nameOf := List.map_congr_left fun x hx => opp_name nm (L.of x hx)
    rw [List.map_map, this]
    exact L.nd
  · obtain ⟨x, hx, rfl⟩ := List.mem_map.mp hy
    exact opp_lit nm (L.of x hx)
/-- of two settings in order, one within the other and not shorter: they are the same -/
theorem asc_eq {a b : List Str} (nm : NmL ns) (La : Lits ns a) (Lb : Lits ns b) (sub : ∀ x ∈ a, x ∈ b) (len : b.length ≤ a.length) : asc a ns = asc b ns := by
  have na := lits_nodup La
  have nb := lits_nodup Lb
  have back : ∀ x ∈ b, x ∈ a := fun x hx => Classical.byContradiction fun hn => by
    have := nodup_le2 (xs := x :: a) (ys := b) (List.nodup_cons.mpr ⟨hn, na⟩) fun z hz => (List.mem_cons.mp hz).elim (fun e => e ▸ hx) (sub z)
    rw [List.length_cons] at this
    omega
  exact asc_congr fun n _ x _ => ⟨sub x, back x⟩
theorem opp_opps (nm : NmL ns) (L : ∀ x ∈ h, LitN ns x) : (h.map opp).map opp = h := by
  rw [List.map_map]
  exact map_self fun x hx => (opp_opp nm (L x hx)).1
/-- the clause that a blind place asks for -/
def clauseOf (b : List Str × Option Str) : List Str := b.1.map opp ++ b.2.toList
variable (X : RuleX ns ss)
include X
theorem short_of {d : List Str} (L : Lits ns d) (hc : ∀ s ∈ ss, ∃ x ∈ d, x ∈ s) : ∃ o ∈ shortestL ns ss, ∀ x ∈ o, x ∈ d := by
  have := short_any (ns := ns) (ss := ss) (d := d) (fun s hs x hx _ => (side_lits X.nm (X.side s hs)).of x hx) fun n hn => lits_one X.nm L hn
  rw [isCons_iff.mpr hc, List.any_eq_true] at this
  obtain ⟨o, ho, e⟩ := this
  exact ⟨o, ho, liesIn_iff.mp e⟩
theorem short_cons {o : List Str} (ho : o ∈ shortestL ns ss) : (∀ s ∈ ss, ∃ x ∈ o, x ∈ s) ∧ Lits ns o ∧ asc o ns = o := by
  have h1 := (short_ok ss (halves ns)).1 o ho
  have h2 := short_sub _ _ o ho
  exact ⟨isCons_iff.mp h1, halves_lits X.nm o h2, halves_asc X.nm o h2⟩
theorem full_not {s : List Str} (hs : s ∈ ss) {x : Str} (hx : LitN ns x) : opp x ∈ s ↔ x ∉ s := full_opp X.nm (X.side s hs) hx
/-- the first blind place asks for a shortest consequence -/
theorem first_blind {b : List Str × Option Str} (e : ((halves ns).filterMap fun h => blindAt cs ss h l).head? = some b) (mono : ∀ h h' : List Str, (∀ x ∈ h', x ∈ h) → (Dead cs h' → Dead cs h) ∧ ∀ x, Der cs h' x → Der cs h x) : asc (clauseOf b) ns ∈ shortestL ns ss ∧ Lits ns (clauseOf b) ∧ b.1 ∈ halves ns ∧ blindAt cs ss b.1 l = some b := by
  obtain ⟨h, hh, eb, fst⟩ := first_short (halves_sorted ns) e
  obtain ⟨nd, e1, k⟩ := blind_some eb
  have nm := X.nm
  have Lh := halves_lits nm h hh
  have ha := halves_asc nm h hh
  have Lo := lits_opp nm Lh
  -- the place of a shortest consequence
  have goal : ∀ o ∈ shortestL ns ss, ∀ d : List Str, Lits ns d → (∀ x ∈ o, x ∈ d) → d.length ≤ o.length → asc d ns ∈ shortestL ns ss := fun o ho d Ld sub len => by
    obtain ⟨_, L1, a1⟩ := short_cons X ho
    rw [← asc_eq nm L1 Ld sub len, a1]
    exact ho
  have place : ∀ h', Lits ns h' → (∀ x ∈ h', x ∈ h) → blindAt cs ss (asc h' ns) l ≠ none → h.length ≤ h'.length := fun h' L' _ hb => by
    have := fst (asc h' ns) (halves_all fun n hn => lits_one nm L' hn) hb
    have e2 : (asc h' ns).length ≤ h'.length := by
      have na := lits_nodup (Lits.asc nm L')
      exact (nodup_le2 na fun x hx => (asc_same L' x).mp hx)
    omega
  have sme : ∀ {h' : List Str}, Lits ns h' → (∀ s : List Str, (∀ x ∈ asc h' ns, x ∈ s) ↔ ∀ x ∈ h', x ∈ s) := fun {h'} L' s => ⟨fun k x hx => k x ((asc_same L' x).mpr hx), fun k x hx => k x ((asc_same L' x).mp hx)⟩
  rcases k with ⟨e2, en⟩ | ⟨f, x, e2, ef, hx, nx, hl⟩
  · -- a dead end
    have cl : clauseOf b = h.map opp := by unfold clauseOf; rw [e1, e2]; simp
    refine ⟨?_, by rw [cl]; exact Lo, by rw [e1]; exact hh, by rw [e1]; exact eb⟩
    rw [cl]
    have hc : ∀ s ∈ ss, ∃ x ∈ h.map opp, x ∈ s := fun s hs => Classical.byContradiction fun hn => forced_no.mp en s hs fun x hx => Classical.byContradiction fun hxs => hn ⟨opp x, List.mem_map.mpr ⟨x, hx, rfl⟩, (full_not X hs (Lh.of x hx)).mpr hxs⟩
    obtain ⟨o, ho, sub⟩ := short_of X Lo hc
    obtain ⟨c1, L1, a1⟩ := short_cons X ho
    refine goal o ho _ Lo sub ?_
    have L1o := lits_opp nm L1
    have back : ∀ x ∈ o.map opp, x ∈ h := fun x hx => by
      obtain ⟨y, hy, rfl⟩ := List.mem_map.mp hx
      obtain ⟨z, hz, rfl⟩ := List.mem_map.mp (sub y hy)
      rw [(opp_opp nm (Lh.of z hz)).1]
      exact hz
    have := place (o.map opp) L1o back (blind_ne (fun z => nd ((mono h _ fun x hx => back x ((asc_same L1o x).mp hx)).1 z)) (.inl (forced_no.mpr fun s hs hxs => by
      obtain ⟨y, hy, hys⟩ := c1 s hs
      exact (full_not X hs (L1.of y hy)).mp (((sme L1o s).mp hxs) (opp y) (List.mem_map.mpr ⟨y, hy, rfl⟩)) hys)))
    rw [List.length_map] at this ⊢
    exact this
  · obtain ⟨⟨s0, hs0, hy0⟩, hxh, hall⟩ := (forced_mem ef).mp hx
    have hxl : LitN ns x := (side_lits nm (X.side s0 hs0)).of x (hall s0 hs0 hy0)
    have hoh : opp x ∉ h := fun z => (full_not X hs0 hxl).mp (hy0 _ z) (hall s0 hs0 hy0)
    have cl : clauseOf b = h.map opp ++ [x] := by unfold clauseOf; rw [e1, e2]; rfl
    have Lc : Lits ns (h.map opp ++ [x]) := by
      refine ⟨?_, fun y hy => (List.mem_append.mp hy).elim (Lo.of y) fun z => by rw [List.mem_singleton.mp z]; exact hxl⟩
      rw [List.map_append]
      refine List.nodup_append.mpr ⟨Lo.nd, by simp, fun a ha c hc e => ?_⟩
      obtain ⟨y, hy, rfl⟩ := List.mem_map.mp ha
      have hc : c = nameOf x := by simpa using hc
      rw [hc] at e
      obtain ⟨z, hz, rfl⟩ := List.mem_map.mp hy
      rw [opp_name nm (Lh.of z hz)] at e
      obtain ⟨n, hn, s1⟩ := Lh.of z hz
      obtain ⟨m, hm, s2⟩ := hxl
      rw [side_name (nm.nm n hn) s1, side_name (nm.nm m hm) s2] at e
      subst e
      rcases s1 with s1 | s1 <;> rcases s2 with s2 | s2
      · exact hxh (by rw [s2, ← s1]; exact hz)
      · exact hoh (by rw [s2, opp_neg (nm.nm n hn), ← s1]; exact hz)
      · exact hoh (by rw [s2, opp_nm (nm.nm n hn), ← s1]; exact hz)
      · exact hxh (by rw [s2, ← s1]; exact hz)
    refine ⟨?_, by rw [cl]; exact Lc, by rw [e1]; exact hh, by rw [e1]; exact eb⟩
    rw [cl]
    have hc : ∀ s ∈ ss, ∃ y ∈ h.map opp ++ [x], y ∈ s := fun s hs => Classical.byContradiction fun hn => by
      refine hn ⟨x, by simp, hall s hs fun y hy => Classical.byContradiction fun hys => hn ⟨opp y, List.mem_append_left _ (List.mem_map.mpr ⟨y, hy, rfl⟩), (full_not X hs (Lh.of y hy)).mpr hys⟩⟩
    obtain ⟨o, ho, sub⟩ := short_of X Lc hc
    obtain ⟨c1, L1, a1⟩ := short_cons X ho
    have hxo : x ∈ o := Classical.byContradiction fun hn => by
      obtain ⟨y, hy, hys⟩ := c1 s0 hs0
      rcases List.mem_append.mp (sub y hy) with h1 | h1
      · obtain ⟨z, hz, rfl⟩ := List.mem_map.mp h1
        exact (full_not X hs0 (Lh.of z hz)).mp hys (hy0 z hz)
      · rw [List.mem_singleton.mp h1] at hy; exact hn hy
    refine goal o ho _ Lc sub ?_
    have Ld := lits_den nm L1 x
    have back : ∀ y ∈ den o x, y ∈ h := fun y hy => by
      obtain ⟨m, hm, hne, rfl⟩ := mem_den.mp hy
      rcases List.mem_append.mp (sub m hm) with h1 | h1
      · obtain ⟨z, hz, rfl⟩ := List.mem_map.mp h1
        rw [(opp_opp nm (Lh.of z hz)).1]
        exact hz
      · exact absurd (List.mem_singleton.mp h1) hne
    have xnd : x ∉ asc (den o x) ns := fun z => hxh (back x ((asc_same Ld x).mp z))
    have fit0 : ∀ y ∈ asc (den o x) ns, y ∈ s0 := fun y hy => hy0 y (back y ((asc_same Ld y).mp hy))
    have f1 : ∃ f', forcedL ss (asc (den o x) ns) = some f' := by
      cases e3 : forcedL ss (asc (den o x) ns) with
      | some f' => exact ⟨f', rfl⟩
      | none => exact absurd fit0 (forced_no.mp e3 s0 hs0)
    obtain ⟨f', ef'⟩ := f1
    have hx' : x ∈ f' := (forced_mem ef').mpr ⟨⟨s0, hs0, fit0⟩, xnd, fun s hs hys => by
      obtain ⟨y, hy, hys'⟩ := c1 s hs
      by_cases e4 : y = x
      · rw [← e4]; exact hys'
      · have := (sme Ld s).mp hys (opp y) (mem_den.mpr ⟨y, hy, e4, rfl⟩)
        exact absurd hys' ((full_not X hs (L1.of y hy)).mp this)⟩
    have mo := mono h (asc (den o x) ns) fun y hy => back y ((asc_same Ld y).mp hy)
    have := place (den o x) Ld back (blind_ne (fun z => nd (mo.1 z)) (.inr ⟨f', x, ef', hx', fun z => nx (mo.2 x z), hl⟩))
    have dl : (den o x).length + 1 ≤ o.length := by
      unfold den
      rw [List.length_map]
      have : (o.filter fun y => decide (y ≠ x)).length < o.length := List.length_filter_lt_length_iff_exists.mpr ⟨x, hxo, by simp⟩
      omega
    rw [List.length_append, List.length_map]
    show h.length + 1 ≤ o.length
    omega
end
end My

set_option Elab.async false
set_option linter.all false
set_option maxRecDepth 100000
set_option maxHeartbeats 4000000
namespace My
open PySem PySem.Spec PyProof.Rows L2 L3
/-! codes that grow where they are blind -/
abbrev fo : Str := "forced"
def addC (c : CodeD) (o : List Str) : CodeD := ⟨c.signs, c.helpers, c.clauses ++ [o]⟩
theorem der_wide {cs : List (List Str)} {h h' : List Str} (sub : ∀ x ∈ h', x ∈ h) : (Dead cs h' → Dead cs h) ∧ ∀ x, Der cs h' x → Der cs h x := ⟨dead_trans fun y hy => .base (sub y hy), fun _ => der_trans fun y hy => .base (sub y hy)⟩
theorem lv_fo (c : CodeD) : lvNames c fo = c.signs := by unfold lvNames; rw [if_neg (by decide +kernel)]
section
variable {c : CodeD} {b : List Str × Option Str}
/-- one step -/
structure Step1 (c : CodeD) (b : List Str × Option Str) (o : List Str) : Prop where
  eq : asc (clauseOf b) c.names = o
  sh : o ∈ shortestL c.signs (lvSet c fo)
  new : o ∉ c.clauses
  x : LawX (addC c o)
  n : Nf (addC c o)
  set : lvSet (addC c o) fo = lvSet c fo
structure GrowTo (c d : CodeD) : Prop where
  x : LawX d
  n : Nf d
  bl : blinds d fo = []
  set : lvSet d fo = lvSet c fo
  sg : d.signs = c.signs
  hp : d.helpers = c.helpers
end
end My

set_option Elab.async false
set_option linter.all false
set_option maxRecDepth 100000
set_option maxHeartbeats 4000000
namespace My
open PySem PySem.Spec PyProof.Rows L2 L3
/-! an even number of names is so -/
section
/-! missing names -/
end
end My

set_option Elab.async false
set_option linter.all false
set_option maxRecDepth 100000
set_option maxHeartbeats 1000000
namespace My
open PySem PySem.Spec PyProof.Rows L2 L3
/-! sight told by the shortest consequences -/
noncomputable def seenL (cs os : List (List Str)) (l : Str) : Bool := if l = ("dead" : Str) then os.all fun o => deadB cs (o.map opp) else os.all (findsB cs)
/-- where a code can be blind first -/
def startsOf (l : Str) (o : List Str) : List (List Str) := (if l = ("dead" : Str) ∨ o.map opp = [] then [o.map opp] else []) ++ (if l = ("dead" : Str) then [] else (o.map opp).map fun y => (o.map opp).filter fun p => decide (p ≠ y))
def startsL (os : List (List Str)) (l : Str) : List (List Str) := os.flatMap (startsOf l)
section
variable {ns : List Str} {ss cs : List (List Str)} {h : List Str} {l : Str}
theorem asc_opp (nm : NmL ns) {d : List Str} (L : Lits ns d) : asc (d.map opp) ns = (asc d ns).map opp := by
  unfold asc
  rw [List.map_flatMap]
  rw [List.flatMap_def, List.flatMap_def]
  congr 1
  refine List.map_congr_left fun n hn => ?_
  have on := opp_nm (nm.nm n hn)
  have oo := opp_neg (nm.nm n hn)
  have one := lits_one nm L hn
  have e1 : n ∈ d.map opp ↔ ("-" : Str) ++ n ∈ d := by rw [mem_opp nm L ⟨n, hn, .inl rfl⟩, on]
  have e2 : ("-" : Str) ++ n ∈ d.map opp ↔ n ∈ d := by rw [mem_opp nm L ⟨n, hn, .inr rfl⟩, oo]
  have d1 : decide (n ∈ d.map opp) = decide (("-" : Str) ++ n ∈ d) := decide_eq_decide.mpr e1
  have d2 : decide (("-" : Str) ++ n ∈ d.map opp) = decide (n ∈ d) := decide_eq_decide.mpr e2
  rw [List.filter_cons, List.filter_cons, List.filter_nil, List.filter_cons, List.filter_cons, List.filter_nil, d1, d2]
  by_cases h1 : n ∈ d
  · have h2 : ¬ ("-" : Str) ++ n ∈ d := fun z => one ⟨h1, z⟩
    simp [h1, h2, on]
  · by_cases h2 : ("-" : Str) ++ n ∈ d
    · simp [h1, h2, oo]
    · simp [h1, h2]
theorem seen_of (X : RuleX ns ss) (no : ∀ h ∈ halves ns, blindAt cs ss h l = none) : seenL cs (shortestL ns ss) l = true := by
  have nm := X.nm
  unfold seenL
  split
  · rw [List.all_eq_true]
    intro o ho
    obtain ⟨c1, L1, a1⟩ := short_cons X ho
    have L := lits_opp nm L1
    obtain ⟨h1, h2, h3⟩ := asc_at nm L
    refine deadB_iff.mpr (Classical.byContradiction fun nd => blind_ne (fun z => nd ((h2 cs).mp z)) (.inl (forced_no.mpr fun s hs hx => ?_)) (no _ h1))
    obtain ⟨y, hy, hys⟩ := c1 s hs
    exact (full_not X hs (L1.of y hy)).mp (hx _ ((asc_same L _).mpr (List.mem_map.mpr ⟨y, hy, rfl⟩))) hys
  · rename_i hl
    rw [List.all_eq_true]
    intro o ho
    obtain ⟨c1, L1, a1⟩ := short_cons X ho
    refine findsB_iff.mpr ⟨fun e => ?_, fun x hx => ?_⟩
    · subst e
      have L : Lits ns [] := ⟨List.nodup_nil, fun x hx => by cases hx⟩
      obtain ⟨h1, h2, h3⟩ := asc_at nm L
      refine Classical.byContradiction fun nd => blind_ne (fun z => nd ((h2 cs).mp z)) (.inl (forced_no.mpr fun s hs _ => ?_)) (no _ h1)
      obtain ⟨y, hy, _⟩ := c1 s hs
      cases hy
    · have L := lits_den nm L1 x
      obtain ⟨h1, h2, h3⟩ := asc_at nm L
      refine Classical.byContradiction fun nf => ?_
      have nd : ¬ Dead cs (den o x) := fun z => nf (.inl z)
      have nx : ¬ Der cs (den o x) x := fun z => nf (.inr z)
      have sme : ∀ y, y ∈ asc (den o x) ns ↔ y ∈ den o x := fun y => asc_same L y
      refine blind_ne (l := l) (ss := ss) (fun z => nd ((h2 cs).mp z)) ?_ (no _ h1)
      cases ef : forcedL ss (asc (den o x) ns) with
      | none => exact .inl rfl
      | some f =>
        refine .inr ⟨f, x, rfl, ?_, fun z => nx ((h3 cs x).mp z), hl⟩
        have ex : ∃ s ∈ ss, ∀ y ∈ asc (den o x) ns, y ∈ s := Classical.byContradiction fun hn => by
          rw [forced_no.mpr fun s hs hy => hn ⟨s, hs, hy⟩] at ef
          cases ef
        have lx := L1.of x hx
        refine (forced_mem ef).mpr ⟨ex, fun z => ?_, fun s hs hy => ?_⟩
        · obtain ⟨m, hm, hne, e⟩ := mem_den.mp ((sme x).mp z)
          have := (opp_opp nm (L1.of m hm)).1
          rw [e] at this
          obtain ⟨n, hn, s1⟩ := lx
          rcases s1 with s1 | s1
          · rw [s1, opp_nm (nm.nm n hn)] at this
            exact lits_one nm L1 hn ⟨s1 ▸ hx, this ▸ hm⟩
          · rw [s1, opp_neg (nm.nm n hn)] at this
            exact lits_one nm L1 hn ⟨this ▸ hm, s1 ▸ hx⟩
        · obtain ⟨y, hy1, hy2⟩ := c1 s hs
          by_cases e : y = x
          · exact e ▸ hy2
          · exact absurd hy2 ((full_not X hs (L1.of y hy1)).mp (hy _ ((sme _).mpr (mem_den.mpr ⟨y, hy1, e, rfl⟩))))
/-- the first blind place lies where a shortest consequence asks for it, and that one is not seen -/
theorem first_start (X : RuleX ns ss) {ms : List Str} (cx : ∀ h ∈ halves ns, Ctx ms cs h) {b : List Str × Option Str} (e : ((halves ns).filterMap fun h => blindAt cs ss h l).head? = some b) : b.1 ∈ startsL (shortestL ns ss) l ∧ seenL cs (shortestL ns ss) l = false := by
  have nm := X.nm
  have mono : ∀ h h' : List Str, (∀ x ∈ h', x ∈ h) → (Dead cs h' → Dead cs h) ∧ ∀ x, Der cs h' x → Der cs h x := fun h h' sub => der_wide sub
  obtain ⟨sh, Lc, hb, eb⟩ := first_blind X e mono
  obtain ⟨nd, _, k⟩ := blind_some eb
  have Lh := halves_lits nm b.1 hb
  have ab := halves_asc nm b.1 hb
  have Lo := lits_opp nm Lh
  have mo : ∀ x, x ∈ asc (clauseOf b) ns ↔ x ∈ clauseOf b := asc_same Lc
  have CX := cx b.1 hb
  have eo : (asc (clauseOf b) ns).map opp = asc ((clauseOf b).map opp) ns := (asc_opp nm Lc).symm
  have no : ∀ {xs : List (List Str)} {f : List Str → Bool} {x : List Str}, x ∈ xs → f x = false → xs.all f = false := fun {xs f x} hx hf => by
    rw [← Bool.not_eq_true, List.all_eq_true]
    exact fun z => by rw [z x hx] at hf; cases hf
  rcases k with ⟨e2, en⟩ | ⟨f, x, e2, ef, hx, nx, hl⟩
  · have cl : clauseOf b = b.1.map opp := by unfold clauseOf; rw [e2]; simp
    have e3 : (asc (clauseOf b) ns).map opp = b.1 := by rw [eo, cl, opp_opps nm Lh.of, ab]
    by_cases hd : l = ("dead" : Str)
    · refine ⟨List.mem_flatMap.mpr ⟨_, sh, ?_⟩, ?_⟩
      · unfold startsOf
        rw [if_pos (.inl hd), e3]
        exact List.mem_append_left _ (List.mem_singleton.mpr rfl)
      · unfold seenL
        rw [if_pos hd]
        exact no sh (by rw [e3]; exact deadB_no nd)
    · -- a dead end that is not met stands at nothing
      have nil : b.1 = [] := by
        cases eh : b.1 with
        | nil => rfl
        | cons z r =>
          exfalso
          obtain ⟨h0, hh0, eb0, fst⟩ := first_short (halves_sorted ns) e
          have e0 := (blind_some eb0).2.1
          rw [← e0] at fst
          have hz : z ∈ b.1 := by rw [eh]; simp
          have ndh := lits_nodup Lh
          have sub : ∀ x ∈ r, x ∈ b.1 := fun x hx => by rw [eh]; exact List.mem_cons_of_mem _ hx
          have zr : z ∉ r := by rw [eh] at ndh; exact (List.nodup_cons.mp ndh).1
          have Lr : Lits ns r := ⟨by have := Lh.nd; rw [eh] at this; exact (List.nodup_cons.mp this).2, fun x hx => Lh.of x (sub x hx)⟩
          obtain ⟨h1, h2, h3⟩ := asc_at nm Lr
          have len : (asc r ns).length ≤ r.length := nodup_le2 (lits_nodup (Lits.asc nm Lr)) fun x hx => (asc_same Lr x).mp hx
          have up := mono b.1 r sub
          have := fst (asc r ns) h1 (blind_ne (fun q => nd (up.1 ((h2 cs).mp q))) (by
            cases er : forcedL ss (asc r ns) with
            | none => exact .inl rfl
            | some f =>
              have ex : ∃ s ∈ ss, ∀ y ∈ asc r ns, y ∈ s := Classical.byContradiction fun hn => by
                rw [forced_no.mpr fun s hs hy => hn ⟨s, hs, hy⟩] at er
                cases er
              refine .inr ⟨f, opp z, rfl, (forced_mem er).mpr ⟨ex, fun q => ?_, fun s hs hy => (full_not X hs (Lh.of z hz)).mpr fun q => ?_⟩, fun q => ?_, hd⟩
              · have q := (asc_same Lr _).mp q
                obtain ⟨n, hn, s1⟩ := Lh.of z hz
                rcases s1 with s1 | s1
                · rw [s1, opp_nm (nm.nm n hn)] at q
                  exact lits_one nm Lh hn ⟨s1 ▸ hz, sub _ q⟩
                · rw [s1, opp_neg (nm.nm n hn)] at q
                  exact lits_one nm Lh hn ⟨sub _ q, s1 ▸ hz⟩
              · refine forced_no.mp en s hs fun y hy' => ?_
                rw [eh] at hy'
                rcases List.mem_cons.mp hy' with rfl | hy'
                · exact q
                · exact hy y ((asc_same Lr y).mpr hy')
              · exact der_one CX nd (.base hz) (up.2 _ ((h3 cs _).mp q))))
          rw [eh, List.length_cons] at this
          omega
      have e4 : asc (clauseOf b) ns = [] := by
        rw [cl, nil]
        exact halves_asc nm [] (nil ▸ hb)
      refine ⟨List.mem_flatMap.mpr ⟨_, sh, ?_⟩, ?_⟩
      · unfold startsOf
        rw [if_pos (.inr (by rw [e4]; rfl)), e4, nil]
        exact List.mem_append_left _ (List.mem_singleton.mpr rfl)
      · unfold seenL
        rw [if_neg hd]
        refine no sh ?_
        rw [e4]
        unfold findsB
        rw [if_pos rfl, ← nil]
        exact deadB_no nd
  · have cl : clauseOf b = b.1.map opp ++ [x] := by unfold clauseOf; rw [e2]; rfl
    obtain ⟨⟨s0, hs0, hy0⟩, hxh, hall⟩ := (forced_mem ef).mp hx
    have hxl : LitN ns x := (side_lits nm (X.side s0 hs0)).of x (hall s0 hs0 hy0)
    have hoh : opp x ∉ b.1 := fun z => (full_not X hs0 hxl).mp (hy0 _ z) (hall s0 hs0 hy0)
    refine ⟨List.mem_flatMap.mpr ⟨_, sh, ?_⟩, ?_⟩
    · unfold startsOf
      rw [if_neg hl]
      refine List.mem_append_right _ (List.mem_map.mpr ⟨opp x, List.mem_map.mpr ⟨x, (mo x).mpr (by rw [cl]; simp), rfl⟩, ?_⟩)
      rw [eo, cl, List.map_append, opp_opps nm Lh.of, asc_filter, List.filter_filter]
      refine Eq.trans (List.filter_congr fun y _ => ?_) ((asc_filter b.1 ns).symm.trans ab)
      by_cases hy : y = opp x
      · subst hy
        simp [hoh]
      · simp [hy]
    · unfold seenL
      rw [if_neg hl]
      refine no sh ?_
      rw [← Bool.not_eq_true, findsB_iff]
      intro F
      have sub : ∀ y ∈ den (asc (clauseOf b) ns) x, y ∈ b.1 := fun y hy => by
        obtain ⟨m, hm, hne, rfl⟩ := mem_den.mp hy
        have hm := (mo m).mp hm
        rw [cl] at hm
        rcases List.mem_append.mp hm with hm | hm
        · obtain ⟨z, hz, rfl⟩ := List.mem_map.mp hm
          rw [(opp_opp nm (Lh.of z hz)).1]
          exact hz
        · exact absurd (List.mem_singleton.mp hm) hne
      rcases F.2 x ((mo x).mpr (by rw [cl]; simp)) with F | F
      · exact nd ((mono _ _ sub).1 F)
      · exact nx ((mono _ _ sub).2 _ F)
theorem seen_iff (X : RuleX ns ss) {ms : List Str} (cx : ∀ h ∈ halves ns, Ctx ms cs h) : ((halves ns).filterMap fun h => blindAt cs ss h l).isEmpty = seenL cs (shortestL ns ss) l := by
  cases e : (halves ns).filterMap fun h => blindAt cs ss h l with
  | nil =>
    symm
    exact seen_of X fun h hh => by
      have := List.filterMap_eq_nil_iff.mp e h hh
      exact this
  | cons b r => exact (first_start X cx (b := b) (by rw [e]; rfl)).2.symm
end
end My

set_option Elab.async false
set_option linter.all false
set_option maxRecDepth 100000
set_option maxHeartbeats 1000000
namespace My
open PySem PySem.Spec PyProof.Rows L2 L3
/-! from one level to the next lower one; codes of the shortest consequences; codes of rows -/
theorem lv_dead (c : CodeD) : lvNames c ("dead" : Str) = c.signs := if_neg (by decide +kernel)
theorem set_dead (c : CodeD) : lvSet c ("dead" : Str) = lvSet c fo := by unfold lvSet; rw [lv_dead, lv_fo]
section
end
/-! the code of the shortest consequences -/
section
end
end My

set_option Elab.async false
set_option linter.all false
set_option maxRecDepth 100000
set_option maxHeartbeats 8000000
namespace My
open PySem PySem.Spec PyProof.Rows L2 L3
def moreC (c : CodeD) (ds : List (List Str)) : CodeD := ⟨c.signs, c.helpers, c.clauses ++ ds.map fun d => asc d c.names⟩
structure MoreOk (c : CodeD) (ds : List (List Str)) : Prop where
  x : LawX c
  k : ds.length ≤ 1000
  l : ∀ d ∈ ds, Lits c.names d
  y : LawX (moreC c ds)
  n : Nf (moreC c ds)
theorem short_lits {ns h : List Str} (nm : NmL ns) (L : Lits ns h) : shortT h := (clOk_lits nm L).2
section
variable {P : Program} {w : World} {K : PySem.W.Frag} {mg : Str → Option Value} {base : Heap}
abbrev s_Code_more : Stmt := inClass (topS 37) 12
theorem sc_Code_more : FnScope ["self", "clauses"] ["self", "clauses"] (defScope s_Code_more) := ⟨rfl, rfl, rfl, by decide +kernel, rfl, by decide +kernel, by decide +kernel⟩
end
end My

set_option Elab.async false
set_option linter.all false
set_option maxRecDepth 100000
set_option maxHeartbeats 1000000
/-! C70: while code runs that was promised over any table of bare generators, all generators that sleep stay as they are -/
namespace L3
open PySem PySem.Spec PyProof.Rows GenW
open Sem (wp)

/-- asleep for good; from outside it looks the same -/
def muted : GenState → GenState
  | .suspended _ l c p fs cl => .suspended (fun _ => .unsupported "") l c p fs cl
  | x => x
def isSus : GenState → Bool
  | .suspended .. => true
  | _ => false
def isOld : GenState → Bool
  | .fresh _ => false
  | _ => true
theorem isOld_sus {x : GenState} (h : isSus x = true) : isOld x = true := by cases x <;> first | rfl | cases h
theorem muted_bare (x : GenState) : (muted x).bare = x.bare := by cases x <;> rfl
theorem muted_seen (x : GenState) : (muted x).seen = x.seen := by cases x <;> rfl
theorem muted_not' {x : GenState} (h : isOld x = false) : muted x = x := by cases x <;> first | rfl | cases h
def NoGenFs (x : GenState) : Prop := ∀ k l c p fs cl, x = .suspended k l c p fs cl → splitAtGen fs = none
/-- the table with those of B in their places -/
def swp (B : Nat → Option GenState) (s : Shared) : Shared := { s with gens := s.gens.mapIdx fun i y => (B i).getD y }
structure Asl (B : Nat → Option GenState) (s : Shared) : Prop where
  at' : ∀ i x, B i = some x → isOld x = true ∧ s.gens[i]? = some (muted x)
  no : ∀ i x, B i = none → s.gens[i]? = some x → NoGenFs x

section
variable {B : Nat → Option GenState} {s : Shared}
theorem swp_get (i : Nat) : (swp B s).gens[i]? = (s.gens[i]?).map fun y => (B i).getD y := by
  show (s.gens.mapIdx _)[i]? = _
  rw [Array.getElem?_mapIdx]
theorem swp_size : (swp B s).gens.size = s.gens.size := by
  show (s.gens.mapIdx _).size = _
  rw [Array.size_mapIdx]
theorem swp_none {g : Nat} (h : B g = none) : (swp B s).gens[g]? = s.gens[g]? := by
  rw [swp_get, h]
  cases s.gens[g]? <;> rfl
theorem swp_some {g : Nat} {x : GenState} (a : Asl B s) (h : B g = some x) : (swp B s).gens[g]? = some x := by
  rw [swp_get, h, (a.at' g x h).2]; rfl
theorem swp_set {g : Nat} {x : GenState} (h : B g = none) : swp B (s.setGen g x) = (swp B s).setGen g x := by
  show ({ s with gens := _ } : Shared) = { s with gens := _ }
  congr 1
  apply Array.ext_getElem?
  intro i
  show ((s.gens.setIfInBounds g x).mapIdx _)[i]? = ((s.gens.mapIdx _).setIfInBounds g x)[i]?
  rw [Array.getElem?_mapIdx, Array.getElem?_setIfInBounds, Array.getElem?_setIfInBounds, Array.getElem?_mapIdx, Array.size_mapIdx]
  by_cases e : g = i
  · subst e
    rw [if_pos rfl, if_pos rfl]
    split <;> simp [h]
  · rw [if_neg e, if_neg e]
theorem swp_push {x : GenState} (h : B s.gens.size = none) : swp B { s with gens := s.gens.push x } = { swp B s with gens := (swp B s).gens.push x } := by
  show ({ s with gens := _ } : Shared) = { s with gens := _ }
  congr 1
  show (s.gens.push x).mapIdx _ = (s.gens.mapIdx _).push x
  rw [Array.mapIdx_push, h]
  rfl
theorem Asl.out (a : Asl B s) {g : Nat} (h : s.gens.size ≤ g) : B g = none := by
  cases e : B g with
  | none => rfl
  | some x =>
    have := (a.at' g x e).2
    rw [Array.getElem?_eq_none h] at this
    cases this
/-- an index that does not sleep -/
theorem Asl.awake (a : Asl B s) {g : Nat} {x : GenState} (h : s.gens[g]? = some x) (hx : isOld x = false) : B g = none := by
  cases e : B g with
  | none => rfl
  | some y =>
    obtain ⟨h1, h2⟩ := a.at' g y e
    rw [h] at h2
    cases h2
    cases y <;> first | (cases h1; done) | (cases hx; done)
/-- one that runs or has ended looks so in both tables -/
theorem Asl.fix (a : Asl B s) {g : Nat} {x : GenState} (h : s.gens[g]? = some x) (hx : muted x = x) (hi : ∀ y, muted y = x → y = x) : (swp B s).gens[g]? = some x := by
  cases e : B g with
  | none => rw [swp_none e]; exact h
  | some y =>
    obtain ⟨h1, h2⟩ := a.at' g y e
    rw [h] at h2
    have h3 := Option.some.inj h2
    rw [swp_some a e, hi y h3.symm]
theorem Asl.set (a : Asl B s) {g : Nat} {x : GenState} (h : B g = none) (hx : NoGenFs x) : Asl B (s.setGen g x) := by
  refine ⟨fun i y e => ⟨(a.at' i y e).1, ?_⟩, fun i y e hy => ?_⟩
  · show (s.gens.setIfInBounds g x)[i]? = _
    rw [Array.getElem?_setIfInBounds]
    by_cases z : g = i
    · rw [z, e] at h; cases h
    · rw [if_neg z]; exact (a.at' i y e).2
  · have hy' : (s.gens.setIfInBounds g x)[i]? = some y := hy
    rw [Array.getElem?_setIfInBounds] at hy'
    by_cases z : g = i
    · rw [if_pos z] at hy'
      split at hy'
      · cases hy'; exact hx
      · cases hy'
    · rw [if_neg z] at hy'; exact a.no i y e hy'
theorem Asl.push (a : Asl B s) {x : GenState} (hx : NoGenFs x) : Asl B { s with gens := s.gens.push x } := by
  refine ⟨fun i y e => ⟨(a.at' i y e).1, ?_⟩, fun i y e hy => ?_⟩
  · have h := (a.at' i y e).2
    have hi : i < s.gens.size := (Array.getElem?_eq_some_iff.mp h).1
    show (s.gens.push x)[i]? = _
    rw [Array.getElem?_push, if_neg (Nat.ne_of_lt hi)]; exact h
  · have hy' : (s.gens.push x)[i]? = some y := hy
    rw [Array.getElem?_push] at hy'
    split at hy'
    · cases hy'; exact hx
    · exact a.no i y e hy'
theorem Asl.same {s' : Shared} (a : Asl B s) (h : s'.gens = s.gens) : Asl B s' := ⟨fun i x e => by rw [h]; exact a.at' i x e, fun i x e hx => a.no i x e (by rw [← h]; exact hx)⟩
end

theorem muted_run (y : GenState) (h : muted y = .running) : y = .running := by cases y <;> first | rfl | cases h
theorem muted_fin (y : GenState) (h : muted y = .finished) : y = .finished := by cases y <;> first | rfl | cases h
theorem noGen_of {x : GenState} (h : isSus x = false) : NoGenFs x := fun k l c p fs cl e => by rw [e] at h; cases h
theorem split_ret {k : Result → Sem PySem.Fin} {h : Option Value} {g : Bool} {l kp : List Value} {c : Code} {p : Pos} {fs : List Frame} (e : splitAtGen (.ret k h g l c p kp :: fs) = none) : splitAtGen fs = none := by
  have e' : (splitAtGen fs).map _ = none := e
  cases q : splitAtGen fs with
  | none => rfl
  | some x => rw [q] at e'; cases e'
theorem split_app {a b : List Frame} (ha : splitAtGen a = none) (hb : splitAtGen b = none) : splitAtGen (a ++ b) = none := by
  induction a with
  | nil => exact hb
  | cons f r ih =>
    cases f with
    | gen => cases ha
    | ret k h g l c p kp =>
      show (splitAtGen (r ++ b)).map _ = none
      rw [ih (split_ret ha)]; rfl
theorem no_uns {M : Model} {Γ : PySem.Ctx} {p : Pos} {w : String} {fs : List Frame} {s s' : Shared} {e : End} : ¬ Runs M Γ p (.unsupported w) fs s e s' := by
  intro h
  generalize ht : (Sem.unsupported w : Sem PySem.Fin) = t at h
  induction h with
  | segRet _ _ ih _ => exact ih ht
  | segGen _ _ ih _ => exact ih ht
  | segSuspOut _ _ ih => exact ih ht
  | segSuspGen _ _ _ _ ih _ => exact ih ht
  | _ => cases ht
/-- how a run may end -/
def EndOk (e : End) : Prop := ∀ v g l k c p fs, e = .susp v g l k c p fs → splitAtGen fs = none
theorem EndOk.ret {r : Result} : EndOk (.ret r) := fun _ _ _ _ _ _ _ e => by cases e
theorem EndOk.gen {e : End} (h : EndOk e) : NoGenFs e.genState := fun k l c p fs cl z => by
  cases e with
  | ret => cases z
  | susp v g l' k' c' p' fs' => cases z; exact h _ _ _ _ _ _ _ rfl

theorem gs_swp {M : Model} {B : Nat → Option GenState} {Γ : PySem.Ctx} {p : Pos} {g : Nat} {k : GenStatus × Option (List (Code × Pos)) → Sem PySem.Fin} {st : GenState} {s s' : Shared} {e : End} (hg : s.gens[g]? = some st) (a : Asl B s)
    (h : Asl B s' ∧ EndOk e ∧ Runs M Γ p (k st.seen) [] (swp B s) e (swp B s')) : Asl B s' ∧ EndOk e ∧ Runs M Γ p (.genState g k) [] (swp B s) e (swp B s') := by
  obtain ⟨x, y, z⟩ := h
  cases q : B g with
  | none => exact ⟨x, y, .genState (by rw [swp_none q]; exact hg) z⟩
  | some r =>
    obtain ⟨_, h2⟩ := a.at' g r q
    rw [hg] at h2
    cases h2
    rw [muted_seen] at z
    exact ⟨x, y, .genState (swp_some a q) z⟩

theorem runs_swp {M : Model} {B : Nat → Option GenState} {Γ : PySem.Ctx} {p : Pos} {t : Sem PySem.Fin} {fs : List Frame} {s s' : Shared} {e : End} (h : Runs M Γ p t fs s e s') :
    Asl B s → splitAtGen fs = none → Asl B s' ∧ EndOk e ∧ Runs M Γ p t fs (swp B s) e (swp B s') := by
  induction h with
  | done => intro a _; exact ⟨a, .ret, .done⟩
  | raise => intro a _; exact ⟨a, .ret, .raise⟩
  | again hq _ ih => intro a f; obtain ⟨x, y, z⟩ := ih a f; exact ⟨x, y, .again hq z⟩
  | rule _ ih => intro a f; obtain ⟨x, y, z⟩ := ih a f; exact ⟨x, y, .rule z⟩
  | «at» _ ih => intro a f; obtain ⟨x, y, z⟩ := ih a f; exact ⟨x, y, .at z⟩
  | load ho _ ih => intro a f; obtain ⟨x, y, z⟩ := ih a f; exact ⟨x, y, .load ho z⟩
  | update hs _ ih => intro a f; obtain ⟨x, y, z⟩ := ih (a.same rfl) f; exact ⟨x, y, .update hs z⟩
  | loadIfAlive _ ih => intro a f; obtain ⟨x, y, z⟩ := ih a f; exact ⟨x, y, .loadIfAlive z⟩
  | point _ ih => intro a f; obtain ⟨x, y, z⟩ := ih a f; exact ⟨x, y, .point z⟩
  | alloc _ ih => intro a f; obtain ⟨x, y, z⟩ := ih (a.same rfl) f; exact ⟨x, y, .alloc z⟩
  | fresh _ ih => intro a f; obtain ⟨x, y, z⟩ := ih (a.same rfl) f; exact ⟨x, y, .fresh z⟩
  | ask _ ih => intro a f; obtain ⟨x, y, z⟩ := ih a f; exact ⟨x, y, .ask z⟩
  | choose hn _ ih => intro a f; obtain ⟨x, y, z⟩ := ih (a.same rfl) f; exact ⟨x, y, .choose hn z⟩
  | os _ ih => intro a f; obtain ⟨x, y, z⟩ := ih (a.same rfl) f; exact ⟨x, y, .os z⟩
  | handled _ ih => intro a f; obtain ⟨x, y, z⟩ := ih a f; exact ⟨x, y, .handled z⟩
  | genState hg _ ih => intro a f; exact gs_swp hg a (ih a f)
  | stack _ ih => intro a f; obtain ⟨x, y, z⟩ := ih a f; exact ⟨x, y, .stack z⟩
  | thread _ ih => intro a f; obtain ⟨x, y, z⟩ := ih a f; exact ⟨x, y, .thread z⟩
  | @newGen Γ p k s c e s' _ ih =>
    intro a f
    have q := a.out (Nat.le_refl _)
    obtain ⟨x, y, z⟩ := ih (a.push (noGen_of rfl)) f
    rw [swp_push q] at z
    refine ⟨x, y, .newGen ?_⟩
    rw [swp_size]; exact z
  | call _ _ ih1 ih2 =>
    intro a f
    obtain ⟨x, _, z⟩ := ih1 a rfl
    obtain ⟨x2, y2, z2⟩ := ih2 x f
    exact ⟨x2, y2, .call z z2⟩
  | callSusp _ ih =>
    intro a f
    obtain ⟨x, y, z⟩ := ih a rfl
    refine ⟨x, fun _ _ _ _ _ _ _ q => ?_, .callSusp z⟩
    cases q
    exact split_app (y _ _ _ _ _ _ _ rfl) rfl
  | yield => intro a _; exact ⟨a, fun _ _ _ _ _ _ _ q => by cases q; rfl, .yield⟩
  | resumeFresh hg _ hq _ ih1 ih2 =>
    intro a f
    have q := a.awake hg rfl
    obtain ⟨x, y, z⟩ := ih1 (a.set q (noGen_of rfl)) rfl
    obtain ⟨x2, y2, z2⟩ := ih2 (x.set q y.gen) f
    rw [swp_set q] at z z2
    exact ⟨x2, y2, .resumeFresh (by rw [swp_none q]; exact hg) z hq z2⟩
  | @resumeSuspended Γ p g r l k s k₀ l₀ c₀ p₀ fs cl e₁ s₁ e s' hg h1 hq _ ih1 ih2 =>
    intro a f
    cases q : B g with
    | none =>
      have fs0 := a.no g _ q hg _ _ _ _ _ _ rfl
      obtain ⟨x, y, z⟩ := ih1 (a.set q (noGen_of rfl)) fs0
      obtain ⟨x2, y2, z2⟩ := ih2 (x.set q y.gen) f
      rw [swp_set q] at z z2
      exact ⟨x2, y2, .resumeSuspended (by rw [swp_none q]; exact hg) z hq z2⟩
    | some r =>
      exfalso
      obtain ⟨hs, h2⟩ := a.at' g r q
      rw [hg] at h2
      cases r <;> cases h2
      exact no_uns h1
  | resumeJustStarted hg hv _ ih =>
    intro a f
    have q := a.awake hg rfl
    obtain ⟨x, y, z⟩ := ih a f
    exact ⟨x, y, .resumeJustStarted (by rw [swp_none q]; exact hg) hv z⟩
  | resumeThrowFresh hg _ ih =>
    intro a f
    have q := a.awake hg rfl
    obtain ⟨x, y, z⟩ := ih (a.set q (noGen_of rfl)) f
    rw [swp_set q] at z
    exact ⟨x, y, .resumeThrowFresh (by rw [swp_none q]; exact hg) z⟩
  | resumeRunning hg _ ih =>
    intro a f
    obtain ⟨x, y, z⟩ := ih a f
    exact ⟨x, y, .resumeRunning (a.fix hg rfl muted_run) z⟩
  | resumeFinished hg _ ih =>
    intro a f
    obtain ⟨x, y, z⟩ := ih a f
    exact ⟨x, y, .resumeFinished (a.fix hg rfl muted_fin) z⟩
  | segRet _ _ ih1 ih2 =>
    intro a f
    obtain ⟨x, _, z⟩ := ih1 a rfl
    obtain ⟨x2, y2, z2⟩ := ih2 x (split_ret f)
    exact ⟨x2, y2, .segRet z z2⟩
  | segGen _ _ _ _ => intro a f; cases f
  | segSuspOut hn _ ih =>
    intro a f
    obtain ⟨x, y, z⟩ := ih a rfl
    refine ⟨x, fun _ _ _ _ _ _ _ q => ?_, .segSuspOut hn z⟩
    cases q
    exact split_app (y _ _ _ _ _ _ _ rfl) f
  | segSuspGen hs _ _ _ _ _ => intro a f; rw [f] at hs; cases hs

theorem wakes_swp {M : Model} {B : Nat → Option GenState} {Γ : PySem.Ctx} {p : Pos} {g : Nat} {r : Resume} {s s' : Shared} {res : GenResult} (a : Asl B s) (h : Wakes M Γ p g r s res s') : Asl B s' ∧ Wakes M Γ p g r (swp B s) res (swp B s') := by
  unfold Wakes at h
  cases hg : s.gens[g]? with
  | none => rw [hg] at h; exact h.elim
  | some x =>
    rw [hg] at h
    cases q : B g with
    | some y =>
      obtain ⟨hs, h2⟩ := a.at' g y q
      rw [hg] at h2
      unfold Wakes
      rw [swp_some a q]
      cases y with
      | fresh => cases hs
      | suspended =>
        cases h2
        obtain ⟨_, _, h1, _⟩ := h
        exact (no_uns h1).elim
      | running => cases h2; obtain ⟨h1, rfl⟩ := h; exact ⟨a, h1, rfl⟩
      | finished => cases h2; obtain ⟨h1, rfl⟩ := h; exact ⟨a, h1, rfl⟩
    | none =>
      unfold Wakes
      rw [swp_none q, hg]
      cases x with
      | fresh c =>
        cases r with
        | throw e => obtain ⟨h1, rfl⟩ := h; exact ⟨a.set q (noGen_of rfl), h1, swp_set q⟩
        | send v =>
          cases v
          case none =>
            obtain ⟨e₁, s₁, h1, h2, h3, rfl⟩ := h
            obtain ⟨x1, y1, z1⟩ := runs_swp h1 (a.set q (noGen_of rfl)) rfl
            rw [swp_set q] at z1
            exact ⟨x1.set q y1.gen, e₁, _, z1, h2, h3, swp_set q⟩
          all_goals (obtain ⟨h1, rfl⟩ := h; exact ⟨a, h1, rfl⟩)
      | suspended k l c p0 fs cl =>
        obtain ⟨e₁, s₁, h1, h2, h3, rfl⟩ := h
        obtain ⟨x1, y1, z1⟩ := runs_swp h1 (a.set q (noGen_of rfl)) (a.no g _ q hg _ _ _ _ _ _ rfl)
        rw [swp_set q] at z1
        exact ⟨x1.set q y1.gen, e₁, _, z1, h2, h3, swp_set q⟩
      | running => obtain ⟨h1, rfl⟩ := h; exact ⟨a, h1, rfl⟩
      | finished => obtain ⟨h1, rfl⟩ := h; exact ⟨a, h1, rfl⟩

theorem wp_swp {α : Type} (M : Model) (Γ : PySem.Ctx) (B : Nat → Option GenState) (t : Sem α) : ∀ (Q : α → Pos → Shared → Prop) (E : Value → Pos → Shared → Prop) (p : Pos) (s : Shared), Asl B s → wp M Γ t Q E p s →
    wp M Γ t (fun a p' s' => ∃ s2, s' = swp B s2 ∧ Asl B s2 ∧ Q a p' s2) (fun e p' s' => ∃ s2, s' = swp B s2 ∧ Asl B s2 ∧ E e p' s2) p (swp B s) := by
  induction t with
  | pure a => intro Q E p s ha h; exact ⟨s, rfl, ha, h⟩
  | raise e => intro Q E p s ha h; exact ⟨s, rfl, ha, h⟩
  | unsupported _ => intro Q E p s _ h; exact h
  | finish _ => intro Q E p s _ h; exact h
  | rule _ k ih => intro Q E p s ha h; exact ih () Q E p s ha h
  | «at» p' k ih => intro Q E p s ha h; exact ih () Q E p' s ha h
  | load a _ k ih => intro Q E p s ha h; obtain ⟨o, ho, h⟩ := h; exact ⟨o, ho, ih o Q E p s ha h⟩
  | update a _ f k ih => intro Q E p s ha h; exact ⟨h.1, ih () Q E p { s with heap := s.heap.update a f } (ha.same rfl) h.2⟩
  | loadIfAlive a k ih => intro Q E p s ha h; exact ih _ Q E p s ha h
  | point _ k ih => intro Q E p s ha h; exact ih () Q E p s ha h
  | register _ _ => intro Q E p s _ h; exact h
  | alloc o k ih => intro Q E p s ha h; exact ih _ Q E p { s with heap := s.heap.push o } (ha.same rfl) h
  | fresh k ih => intro Q E p s ha h; exact ih _ Q E p { s with toks := s.toks + 1 } (ha.same rfl) h
  | ask k ih => intro Q E p s ha h; exact ih _ Q E p s ha h
  | choose src m k ih => intro Q E p s ha h; exact ⟨h.1, ih _ Q E p { s with drawn := s.drawn.bump src } (ha.same rfl) h.2⟩
  | os q _ k ih => intro Q E p s ha h; exact ih _ Q E p { s with os := (Os.step s.os q).1 } (ha.same rfl) h
  | call c hd _ _ k ih =>
    intro Q E p s ha h
    obtain ⟨r, s', hr, h⟩ := h
    obtain ⟨a2, _, hr2⟩ := runs_swp (show Runs _ _ _ _ _ _ _ _ from hr) ha rfl
    exact ⟨r, swp B s', hr2, ih r Q E p s' a2 h⟩
  | handled own k ih => intro Q E p s ha h; exact ih _ Q E p s ha h
  | genState g k ih =>
    intro Q E p s ha h
    obtain ⟨st, hs, h⟩ := h
    cases q : B g with
    | none => exact ⟨st, by rw [swp_none q]; exact hs, ih _ Q E p s ha h⟩
    | some r =>
      obtain ⟨_, h2⟩ := ha.at' g r q
      rw [hs] at h2
      cases h2
      rw [muted_seen] at h
      exact ⟨r, swp_some ha q, ih _ Q E p s ha h⟩
  | newGen c k ih =>
    intro Q E p s ha h
    have q := ha.out (Nat.le_refl _)
    have z := ih _ Q E p _ (ha.push (x := .fresh c) (noGen_of rfl)) h
    rw [swp_push q, ← swp_size (B := B)] at z
    exact z
  | resume g r _ k ih =>
    intro Q E p s ha h
    obtain ⟨res, s', hw, h⟩ := h
    obtain ⟨a2, hw2⟩ := wakes_swp ha hw
    exact ⟨res, swp B s', hw2, ih res Q E p s' a2 h⟩
  | yield _ _ _ _ => intro Q E p s _ h; exact h
  | stack k ih => intro Q E p s ha h; exact ih _ Q E p s ha h
  | fork _ _ => intro Q E p s _ h; exact h
  | thread k ih => intro Q E p s ha h; exact ih _ Q E p s ha h
  | await _ _ _ _ _ => intro Q E p s _ h; exact h

theorem wpAny_swp {α : Type} {M : Model} {A : Around} {B : Nat → Option GenState} {s : Shared} {t : Sem α} {Q : α → Shared → Prop} {E : Value → Shared → Prop} (a : Asl B s) (h : wpAny M A t Q E s) :
    wpAny M A t (fun x s' => ∃ s2, s' = swp B s2 ∧ Asl B s2 ∧ Q x s2) (fun e s' => ∃ s2, s' = swp B s2 ∧ Asl B s2 ∧ E e s2) (swp B s) :=
  fun Γ p hΓ => wp_swp M Γ B t _ _ p s a (h Γ p hΓ)

/-- all that sleeps, put to sleep for good -/
def hush (s : Shared) : Shared := { s with gens := s.gens.map muted }
def sleepers (s : Shared) : Nat → Option GenState := fun i => (s.gens[i]?).bind fun x => if isOld x = true then some x else none
theorem sleepers_some {s : Shared} {i : Nat} {x : GenState} : sleepers s i = some x ↔ s.gens[i]? = some x ∧ isOld x = true := by
  unfold sleepers
  cases s.gens[i]? with
  | none => simp
  | some y =>
    show (if isOld y = true then some y else none) = some x ↔ _
    split
    · next h => exact ⟨fun e => by cases e; exact ⟨rfl, h⟩, fun e => e.1⟩
    · next h => exact ⟨fun e => by simp at e, fun e => by cases e.1; exact absurd e.2 h⟩
theorem asl_hush (s : Shared) : Asl (sleepers s) (hush s) := by
  refine ⟨fun i x e => ?_, fun i x e hx => ?_⟩
  · obtain ⟨h1, h2⟩ := sleepers_some.mp e
    refine ⟨h2, ?_⟩
    show (s.gens.map muted)[i]? = _
    rw [Array.getElem?_map, h1]; rfl
  · have hx' : (s.gens.map muted)[i]? = some x := hx
    rw [Array.getElem?_map] at hx'
    cases q : s.gens[i]? with
    | none => rw [q] at hx'; cases hx'
    | some y =>
      rw [q] at hx'
      cases hx'
      cases hy : isOld y with
      | true => rw [sleepers_some.mpr ⟨q, hy⟩] at e; cases e
      | false =>
        cases y <;> first | exact noGen_of rfl | cases hy
theorem swp_hush (s : Shared) : swp (sleepers s) (hush s) = s := by
  show ({ s with gens := _ } : Shared) = { s with gens := s.gens }
  congr 1
  apply Array.ext_getElem?
  intro i
  show ((s.gens.map muted).mapIdx _)[i]? = _
  rw [Array.getElem?_mapIdx, Array.getElem?_map]
  cases q : s.gens[i]? with
  | none => rfl
  | some y =>
    show some ((sleepers s i).getD (muted y)) = some y
    cases hy : isOld y with
    | true => rw [sleepers_some.mpr ⟨q, hy⟩]; rfl
    | false =>
      have : sleepers s i = none := by
        cases e : sleepers s i with
        | none => rfl
        | some z =>
          obtain ⟨h1, h2⟩ := sleepers_some.mp e
          rw [q] at h1; cases h1; rw [hy] at h2; cases h2
      rw [this, muted_not' hy]; rfl
theorem bare_hush {s : Shared} (h : AllBare s.gens) : AllBare (hush s).gens := fun y hy => by
  obtain ⟨x, hx, rfl⟩ := Array.mem_map.mp hy
  rw [muted_bare]; exact h x hx
theorem bare_swp {B : Nat → Option GenState} {s : Shared} (a : Asl B s) (h : AllBare s.gens) : AllBare (swp B s).gens := fun y hy => by
  obtain ⟨i, hi, e⟩ := Array.mem_iff_getElem.mp hy
  have e2 : (swp B s).gens[i]? = some y := by rw [Array.getElem?_eq_getElem hi, e]
  cases q : B i with
  | none => rw [swp_none q] at e2; exact h y (Array.mem_of_getElem? e2)
  | some x =>
    rw [swp_some a q] at e2
    cases e2
    have := h _ (Array.mem_of_getElem? (a.at' i y q).2)
    rw [muted_bare] at this
    exact this
/-- the heap only grows -/
theorem runs_grow {M : Model} {Γ : PySem.Ctx} {p : Pos} {t : Sem PySem.Fin} {fs : List Frame} {s s' : Shared} {e : End} (h : Runs M Γ p t fs s e s') : s.heap.objs.size ≤ s'.heap.objs.size := by
  induction h <;> (try simp only [Shared.setGen, Heap.size_push, Heap.size_update] at *) <;> omega
theorem wakes_grow {M : Model} {Γ : PySem.Ctx} {p : Pos} {g : Nat} {r : Resume} {s s' : Shared} {res : GenResult} (h : Wakes M Γ p g r s res s') : s.heap.objs.size ≤ s'.heap.objs.size := by
  unfold Wakes at h
  split at h
  · exact h.elim
  · split at h
    · obtain ⟨_, _, y, _, _, rfl⟩ := h; have z := runs_grow y; exact z
    · rw [h.2]; exact Nat.le_refl _
    · rw [h.2]; exact Nat.le_refl _
  · obtain ⟨_, _, y, _, _, rfl⟩ := h; have z := runs_grow y; exact z
  · rw [h.2]; exact Nat.le_refl _
  · rw [h.2]; exact Nat.le_refl _
theorem wp_grow {α : Type} (M : Model) (Γ : PySem.Ctx) (n : Nat) (t : Sem α) : ∀ (Q : α → Pos → Shared → Prop) (E : Value → Pos → Shared → Prop) (p : Pos) (s : Shared), n ≤ s.heap.objs.size → wp M Γ t Q E p s →
    wp M Γ t (fun a p' s' => n ≤ s'.heap.objs.size ∧ Q a p' s') (fun e p' s' => n ≤ s'.heap.objs.size ∧ E e p' s') p s := by
  induction t with
  | pure a => intro Q E p s hz h; exact ⟨hz, h⟩
  | raise e => intro Q E p s hz h; exact ⟨hz, h⟩
  | unsupported _ => intro Q E p s _ h; exact h
  | finish _ => intro Q E p s _ h; exact h
  | rule _ k ih => intro Q E p s hz h; exact ih () Q E p s hz h
  | «at» p' k ih => intro Q E p s hz h; exact ih () Q E p' s hz h
  | load a _ k ih => intro Q E p s hz h; obtain ⟨o, ho, h⟩ := h; exact ⟨o, ho, ih o Q E p s hz h⟩
  | update a _ f k ih => intro Q E p s hz h; exact ⟨h.1, ih () Q E p { s with heap := s.heap.update a f } (by show n ≤ (s.heap.update a f).objs.size; rw [Heap.size_update]; exact hz) h.2⟩
  | loadIfAlive a k ih => intro Q E p s hz h; exact ih _ Q E p s hz h
  | point _ k ih => intro Q E p s hz h; exact ih () Q E p s hz h
  | register _ _ => intro Q E p s _ h; exact h
  | alloc o k ih => intro Q E p s hz h; exact ih _ Q E p { s with heap := s.heap.push o } (by show n ≤ (s.heap.push o).objs.size; rw [Heap.size_push]; omega) h
  | fresh k ih => intro Q E p s hz h; exact ih _ Q E p { s with toks := s.toks + 1 } hz h
  | ask k ih => intro Q E p s hz h; exact ih _ Q E p s hz h
  | choose src m k ih => intro Q E p s hz h; exact ⟨h.1, ih _ Q E p { s with drawn := s.drawn.bump src } hz h.2⟩
  | os q _ k ih => intro Q E p s hz h; exact ih _ Q E p { s with os := (Os.step s.os q).1 } hz h
  | call c hd _ _ k ih => intro Q E p s hz h; obtain ⟨r, s', hr, h⟩ := h; exact ⟨r, s', hr, ih r Q E p s' (Nat.le_trans hz (runs_grow (show Runs _ _ _ _ _ _ _ _ from hr))) h⟩
  | handled own k ih => intro Q E p s hz h; exact ih _ Q E p s hz h
  | genState g k ih => intro Q E p s hz h; obtain ⟨st, hs, h⟩ := h; exact ⟨st, hs, ih _ Q E p s hz h⟩
  | newGen c k ih => intro Q E p s hz h; exact ih _ Q E p { s with gens := s.gens.push (.fresh c) } hz h
  | resume g r _ k ih => intro Q E p s hz h; obtain ⟨res, s', hw, h⟩ := h; exact ⟨res, s', hw, ih res Q E p s' (Nat.le_trans hz (wakes_grow hw)) h⟩
  | yield _ _ _ _ => intro Q E p s _ h; exact h
  | stack k ih => intro Q E p s hz h; exact ih _ Q E p s hz h
  | fork _ _ => intro Q E p s _ h; exact h
  | thread k ih => intro Q E p s hz h; exact ih _ Q E p s hz h
  | await _ _ _ _ _ => intro Q E p s _ h; exact h
theorem wpAny_grow {α : Type} {M : Model} {A : Around} {s : Shared} {t : Sem α} {Q : α → Shared → Prop} {E : Value → Shared → Prop} {n : Nat} (hz : n ≤ s.heap.objs.size) (h : wpAny M A t Q E s) :
    wpAny M A t (fun x s' => n ≤ s'.heap.objs.size ∧ Q x s') (fun e s' => n ≤ s'.heap.objs.size ∧ E e s') s := fun Γ p hΓ => wp_grow M Γ n t _ _ p s hz (h Γ p hΓ)
/-- those that slept, ran or had ended stand as they stood -/
structure KeptG (s s' : Shared) : Prop where
  gen : ∀ (i : Nat) (x : GenState), s.gens[i]? = some x → isOld x = true → s'.gens[i]? = some x
  siz : s.heap.objs.size ≤ s'.heap.objs.size
/-- s', but for the table of generators -/
structure SameG (s s' : Shared) : Prop where
  heap : s'.heap = s.heap
  os : s'.os = s.os
  bare : AllBare s.gens → AllBare s'.gens
  swap : ∃ B, Asl B s ∧ s' = swp B s
theorem key_asleep {s s2 : Shared} (a : Asl (sleepers s) s2) (hz : s.heap.objs.size ≤ s2.heap.objs.size) : KeptG s (swp (sleepers s) s2) ∧ SameG s2 (swp (sleepers s) s2) :=
  ⟨⟨fun _ _ e hx => swp_some a (sleepers_some.mpr ⟨e, hx⟩), hz⟩, rfl, rfl, bare_swp a, _, a, rfl⟩
theorem wpAny_asleep {α : Type} {M : Model} {A : Around} {s : Shared} {t : Sem α} {Q : α → Shared → Prop} {E : Value → Shared → Prop} (h : wpAny M A t Q E (hush s)) :
    wpAny M A t (fun x s' => KeptG s s' ∧ ∃ s2, SameG s2 s' ∧ Q x s2) (fun e s' => KeptG s s' ∧ ∃ s2, SameG s2 s' ∧ E e s2) s := by
  have z := wpAny_swp (asl_hush s) (wpAny_grow (n := s.heap.objs.size) (Nat.le_refl _) h)
  rw [swp_hush] at z
  refine wpAny_mono z (fun x s' ⟨s2, e, a, hz, q⟩ => ?_) fun x s' ⟨s2, e, a, hz, q⟩ => ?_
  · subst e; exact ⟨(key_asleep a hz).1, s2, (key_asleep a hz).2, q⟩
  · subst e; exact ⟨(key_asleep a hz).1, s2, (key_asleep a hz).2, q⟩
theorem wpAny_asleep2 {α β : Type} {M : Model} {A : Around} {s : Shared} {t : Sem α} {u : α → Sem β} {Q : β → Shared → Prop} {E : Value → Shared → Prop} (h : wpAny M A t (fun x s1 => wpAny M A (u x) Q E s1) E (hush s)) :
    wpAny M A t (fun x s1 => wpAny M A (u x) (fun y s' => KeptG s s' ∧ ∃ s2, SameG s2 s' ∧ Q y s2) (fun e s' => KeptG s s' ∧ ∃ s2, SameG s2 s' ∧ E e s2) s1) (fun e s' => KeptG s s' ∧ ∃ s2, SameG s2 s' ∧ E e s2) s := by
  have z := wpAny_swp (asl_hush s) (wpAny_grow (n := s.heap.objs.size) (Nat.le_refl _) h)
  rw [swp_hush] at z
  refine wpAny_mono z (fun x s1 ⟨s2, e, a, hz, q⟩ => ?_) fun x s1 ⟨s2, e, a, hz, q⟩ => ?_
  · subst e
    refine wpAny_mono (wpAny_swp a (wpAny_grow hz q)) (fun y s3 ⟨s4, e, a, hz, q⟩ => ?_) fun y s3 ⟨s4, e, a, hz, q⟩ => ?_
    · subst e; exact ⟨(key_asleep a hz).1, s4, (key_asleep a hz).2, q⟩
    · subst e; exact ⟨(key_asleep a hz).1, s4, (key_asleep a hz).2, q⟩
  · subst e; exact ⟨(key_asleep a hz).1, s2, (key_asleep a hz).2, q⟩
theorem wpAny_asleepO {α β : Type} {M : Model} {A : Around} {s : Shared} {t : Sem (Option α)} {u : α → Sem β} {Q : α → β → Shared → Prop} {E : Value → Shared → Prop} (h : wpAny M A t (fun r s1 => ∃ x, r = some x ∧ wpAny M A (u x) (Q x) E s1) E (hush s)) :
    wpAny M A t (fun r s1 => ∃ x, r = some x ∧ wpAny M A (u x) (fun y s' => KeptG s s' ∧ ∃ s2, SameG s2 s' ∧ Q x y s2) (fun e s' => KeptG s s' ∧ ∃ s2, SameG s2 s' ∧ E e s2) s1) (fun e s' => KeptG s s' ∧ ∃ s2, SameG s2 s' ∧ E e s2) s := by
  have z := wpAny_swp (asl_hush s) (wpAny_grow (n := s.heap.objs.size) (Nat.le_refl _) h)
  rw [swp_hush] at z
  refine wpAny_mono z (fun r s1 ⟨s2, e, a, hz, x, er, q⟩ => ⟨x, er, ?_⟩) fun x s1 ⟨s2, e, a, hz, q⟩ => ?_
  · subst e
    refine wpAny_mono (wpAny_swp a (wpAny_grow hz q)) (fun y s3 ⟨s4, e, a, hz, q⟩ => ?_) fun y s3 ⟨s4, e, a, hz, q⟩ => ?_
    · subst e; exact ⟨(key_asleep a hz).1, s4, (key_asleep a hz).2, q⟩
    · subst e; exact ⟨(key_asleep a hz).1, s4, (key_asleep a hz).2, q⟩
  · subst e; exact ⟨(key_asleep a hz).1, s2, (key_asleep a hz).2, q⟩
theorem Inv.sameG {X : L2.Cx} {pins : List (Addr × Obj)} {σ : L2.St} {H : L2.Hp} {s s' : Shared} (I : L2.Inv X pins σ H s) (h : SameG s s') : L2.Inv X pins σ H s' := by
  obtain ⟨e1, e2, e3, _⟩ := h
  refine ⟨I.ok, e2.trans I.os, e3 I.bare, ?_, ?_, ?_, I.free, I.freeC, ?_, ?_, I.len⟩
  · rw [e1]; exact I.base
  · rw [e1]; exact I.loc
  · rw [e1]; exact I.cell
  · rw [e1]; exact I.pin
  · rw [e1]; exact I.hok
theorem Inv.hush {X : L2.Cx} {pins : List (Addr × Obj)} {σ : L2.St} {H : L2.Hp} {s : Shared} (I : L2.Inv X pins σ H s) : L2.Inv X pins σ H (hush s) :=
  ⟨I.ok, I.os, bare_hush I.bare, I.base, I.loc, I.cell, I.free, I.freeC, I.pin, I.hok, I.len⟩
end L3

set_option Elab.async false
set_option linter.all false
set_option maxRecDepth 100000
set_option maxHeartbeats 1000000
/-! C71: one stretch of a generator's run; the next item of a generator -/
namespace L3
open PySem PySem.Spec PyProof.Rows GenW
open Sem (wp)

/-- a stretch of a generator's run, to its next yield or its end -/
def Sg (M : Model) (B : Around) (Z : End → Shared → Prop) (cd : Code) (tr : Sem PySem.Fin) (fr : List Frame) (s : Shared) : Prop :=
  ∀ Γ p, Γ.code = cd → Γ.Woken B → ∃ e s2, Runs M Γ p tr fr s e s2 ∧ Z e s2

section
variable {M : Model} {B : Around} {Z : End → Shared → Prop} {cd : Code} {fr : List Frame} {s : Shared} {K : Flow → Sem PySem.Fin} {J : Value → Sem PySem.Fin} {gd : Bool → Bool} {lv : List Value → List Value}
theorem sg_w {α : Type} {m : Sem α} {K : α → Sem PySem.Fin} (h : wpAny M (B.over cd fr) m (fun x s2 => Sg M B Z cd (K x) fr s2) (fun x s2 => Sg M B Z cd (J x) fr s2) s) : Sg M B Z cd (m.wrap K J gd lv) fr s := by
  intro Γ p hc hw
  subst hc
  exact runs_wrap_of_wp K J gd lv m (h (Γ.over fr) p (hw.over fr)) (fun _ q _ z => z Γ q rfl hw) fun _ q _ z => z Γ q rfl hw
theorem sg_bw {α β : Type} {m : Sem α} {f : α → Sem β} {K : β → Sem PySem.Fin} (h : wpAny M (B.over cd fr) m (fun x s2 => Sg M B Z cd ((f x).wrap K J gd lv) fr s2) (fun x s2 => Sg M B Z cd (J x) fr s2) s) :
    Sg M B Z cd ((m >>= f).wrap K J gd lv) fr s := by
  rw [Sem.bind_eq_wrap', Sem.wrap_wrap]
  exact sg_w h
theorem sg_at {q : Pos} {k : Unit → Sem PySem.Fin} (h : Sg M B Z cd (k ()) fr s) : Sg M B Z cd (.at q k) fr s :=
  sg_w (m := standAt q) (K := k) (J := .raise) (gd := id) (lv := id) (wpAny_standAt h)
theorem sg_pt {l : List Value} {k : Unit → Sem PySem.Fin} (h : Sg M B Z cd (k ()) fr s) : Sg M B Z cd (.point l k) fr s :=
  sg_w (m := point) (K := k) (J := .raise) (gd := id) (lv := fun _ => l) (wpAny_point h)
theorem sg_call {c2 : Code} {h g l} {k : Result → Sem PySem.Fin} (hc : ∀ p, Sg M B Z c2 (M.den c2) (.ret k h g l cd p [] :: fr) s) : Sg M B Z cd (.call c2 h g l k) fr s := by
  intro Γ p hcd hw
  subst hcd
  obtain ⟨e, s2, r, z⟩ := hc p (Γ.goto c2) p rfl (hw.goto c2)
  exact ⟨e, s2, runs_call_seg r, z⟩
theorem sg_pop {k h g l c1 p1 kp} (r : Result) (hk : Sg M B Z c1 (k r) fr s) : Sg M B Z cd (leafOf r) (.ret k h g l c1 p1 kp :: fr) s := by
  intro Γ p hcd hw
  subst hcd
  obtain ⟨e, s2, y, z⟩ := hk (Γ.goto c1) p1 rfl (hw.goto c1)
  exact ⟨e, s2, Runs.pop r y, z⟩
theorem sg_again {c2 : Code} (hq : c2.quiet = true) (hc : Sg M B Z c2 (M.den c2) fr s) : Sg M B Z cd (.pure (.again c2)) fr s := by
  intro Γ p hcd hw
  subst hcd
  obtain ⟨e, s2, y, z⟩ := hc (Γ.goto c2) p rfl (hw.goto c2)
  exact ⟨e, s2, Runs.head (c₁ := c2) (fun _ _ x => .again hq x) y, z⟩
theorem sg_end (r : Result) (h : Z (.ret r) s) : Sg M B Z cd (leafOf r) [] s := by
  intro Γ p hcd _
  subst hcd
  exact ⟨.ret r, s, Runs.leaf r, h⟩
theorem sg_yield {v g l} {k : Resume → Sem PySem.Fin} (hn : splitAtGen fr = none) (h : ∀ p, Z (.susp v g l k cd p fr) s) : Sg M B Z cd (.yield v g l k) fr s := by
  intro Γ p hcd _
  subst hcd
  exact ⟨_, s, Runs.yield' fr hn, h p⟩
theorem sg_cons {env : Env} {st : Stmt} {rest : List Stmt} (h : Sg M B Z cd ((exec st env).wrap (fun f => match f with | .next => (execs rest env).wrap K J gd lv | f => K f) J gd lv) fr s) :
    Sg M B Z cd ((execs (st :: rest) env).wrap K J gd lv) fr s := by rw [execs_cons_wrap]; exact h
theorem sg_if {env : Env} {test : Expr} {body orelse : List Stmt} {pos : Pos}
    (h : wpAny M (B.over cd fr) (isTrue test env (eval test env)) (fun b s2 => Sg M B Z cd ((execs (if b = true then body else orelse) env).wrap K J gd lv) fr s2) (fun x s2 => Sg M B Z cd (J x) fr s2) s) :
    Sg M B Z cd ((exec (.If test body orelse pos) env).wrap K J gd lv) fr s := by
  rw [exec_If]
  refine sg_bw (wpAny_standAt (sg_bw (wpAny_mono h (fun b s2 z => ?_) fun _ _ z => z)))
  cases b
  · exact z
  · exact z
/-- yield e, as a statement -/
theorem sg_put {env : Env} {e : Expr} {yp pos : Pos} (hn : splitAtGen fr = none)
    (h : wpAny M (B.over cd fr) (eval e env) (fun v s2 => ∀ l k p, (∀ Z2 s3, Sg M B Z2 cd (K .next) fr s3 → Sg M B Z2 cd (k (.send .none)) fr s3) → Z (.susp v (gd false) l k cd p fr) s2) (fun x s2 => Sg M B Z cd (J x) fr s2) s)
    (hco : env.scope.isCoroutine = false := by rfl) (hi : interactive env = false := by rfl) : Sg M B Z cd ((exec (.Expr (.Yield (some e) yp) pos) env).wrap K J gd lv) fr s := by
  rw [exec_Expr env _ pos hi rfl]
  have one : ∀ u, yieldOut env u = yieldValue u := fun u => by simp only [yieldOut, hco, Bool.false_eq_true, if_false]
  show Sg M B Z cd ((standAt pos >>= fun _ => ((eval e env >>= fun v => (standAt yp >>= fun _ => yieldOut env v)) >>= fun x => dropValue (.Yield (some e) yp) pos x)).wrap K J gd lv) fr s
  simp only [one]
  refine sg_bw (wpAny_standAt ?_)
  rw [Sem.bind_eq_wrap', Sem.bind_eq_wrap', Sem.wrap_wrap, Sem.wrap_wrap]
  refine sg_w (wpAny_mono h (fun v s2 z => ?_) fun _ _ z => z)
  refine sg_at (sg_yield hn fun p => ?_)
  exact z _ _ p fun Z2 s3 y => y
end
/-- a table's entry, woken with None: this stretch follows -/
def GoZ (M : Model) (B : Around) (Z : End → Shared → Prop) (x : GenState) (s : Shared) : Prop :=
  match x with
  | .fresh c => Sg M B Z c (M.den c) [] s
  | .suspended k _ c _ fr _ => Sg M B Z c (k (.send .none)) fr s
  | _ => False
theorem res_go {M : Model} {B : Around} {Z : End → Shared → Prop} {x : GenState} {g : Nat} {l : List Value} {α : Type} {k : GenResult → Sem α} {Q : α → Shared → Prop} {E : Value → Shared → Prop} {s : Shared}
    (hx : s.gens[g]? = some x) (go : GoZ M B Z x (s.setGen g .running)) (hz : ∀ e s1, Z e s1 → e.quiet = true ∧ wpAny M B (k e.result) Q E (s1.setGen g e.genState)) : wpAny M B (.resume g (.send .none) l k) Q E s := by
  intro Γ p hw
  rw [Sem.wp_resume]
  cases x with
  | fresh c =>
    obtain ⟨e, s1, y, z⟩ := go (Γ.wake c p) p rfl (hw.wake c p)
    exact ⟨e.result, s1.setGen g e.genState, by unfold Wakes; rw [hx]; exact ⟨e, s1, y, (hz e s1 z).1, rfl, rfl⟩, (hz e s1 z).2 Γ p hw⟩
  | suspended k0 l0 c0 p0 fr0 cl =>
    obtain ⟨e, s1, y, z⟩ := go (Γ.wake c0 p) p0 rfl (hw.wake c0 p)
    exact ⟨e.result, s1.setGen g e.genState, by unfold Wakes; rw [hx]; exact ⟨e, s1, y, (hz e s1 z).1, rfl, rfl⟩, (hz e s1 z).2 Γ p hw⟩
  | running => exact go.elim
  | finished => exact go.elim
/-- what the consumer makes of a stretch's end -/
def NextZ (g : Nat) (Q : Option Value → Shared → Prop) (e : End) (s1 : Shared) : Prop :=
  match e with
  | .ret r => (r = .ok (.ret .none) ∨ r = .ok .next) ∧ ∀ h2 : Heap, (∀ b o, s1.heap.get? b = some o → h2.get? b = some o) → Q none { s1.setGen g .finished with heap := h2 }
  | .susp v g0 l k c p fr => Q (some v) (s1.setGen g (End.susp v g0 l k c p fr).genState)
theorem next_go {P : Program} {w : World} {A : Around} {Z : End → Shared → Prop} {x : GenState} {a : Addr} {g : Nat} {Q : Option Value → Shared → Prop} {E : Value → Shared → Prop} {s : Shared} (ha : A.handled = none) (hd : A.depth < recursionLimit)
    (hl : s.heap.NoLimit) (hg : s.heap.IsGen a g) (hx : s.gens[g]? = some x) (go : GoZ (model P w) A.in1 Z x (s.setGen g .running)) (hz : ∀ e s1, Z e s1 → e.quiet = true ∧ NextZ g Q e s1) : wpAny (model P w) A (pyNext (.ref a)) Q E s := by
  unfold pyNext
  refine wpAny_bind (wpAny_attempt ?_)
  refine wpAny_callSpecial?_slot (name := Str.ofString "__next__") hg.typeIs slot_gen_next ?_
  refine wpAny_call_entry slot_gen_next hg.typeIs entry_gen_next ?_ (args_gen_next _)
  show wpAny (model P w) A.in1 (Builtin.Generator.genWake (.ref a) (.send .none)) _ _ s
  unfold Builtin.Generator.genWake
  refine wpAny_bind (wpAny_holding ?_)
  refine wpAny_genNumber hg (wpAny_bind ?_)
  refine wpAny_genState hx ?_
  have done : ∀ {α : Type} {l : List Value} {k : GenResult → Sem α} {Q2 : α → Shared → Prop} {E2 : Value → Shared → Prop}, (∀ e s1, e.quiet = true → NextZ g Q e s1 → wpAny (model P w) A.in1 (k e.result) Q2 E2 (s1.setGen g e.genState)) →
      wpAny (model P w) A.in1 (.resume g (.send .none) l k) Q2 E2 s := fun f => res_go hx go fun e s1 z => ⟨(hz e s1 z).1, f e s1 (hz e s1 z).1 (hz e s1 z).2⟩
  cases x with
  | running => exact go.elim
  | finished => exact go.elim
  | _ =>
    refine wpAny_bind (wpAny_roomToWake hl hd ?_)
    show wpAny (model P w) A.in1 (.resume g (.send .none) [] _) _ _ s
    refine done fun e s1 hq z => ?_
    cases e with
    | susp v g0 l k c p fr => exact wpAny_pure ⟨v, rfl, wpAny_pure z⟩
    | ret r =>
      obtain ⟨hr, z⟩ := z
      have er : End.result (.ret r) = .returned .none := by rcases hr with y | y <;> rw [y] <;> rfl
      rw [er]
      show wpAny (model P w) A.in1 (newExc (.type "StopIteration") [] >>= _) _ _ _
      refine wpAny_bind ?_
      simp only [newExc, newTuple]
      refine wpAny_bind ?_
      refine wpAny_newObj_type ?_ (by size_fits)
      refine wpAny_bind (m := firstArgMember _ _) ?_
      refine wpAny_of_eq (a := Value.none) (by first | rfl | (simp only [firstArgMember]; rfl)) ?_
      refine wpAny_newObj_type ?_ (by size_fits)
      simp only [raiseNew]
      refine wpAny_bind (wpAny_bind ?_)
      refine wpAny_handled ?_
      rw [show A.in1.handled = none from ha]
      refine wpAny_throw ?_
      refine wpAny_bind ?_
      refine wpAny_isInstance (T := "StopIteration") (b := true) ⟨_, Heap.get?_push_size _ rfl, rfl⟩ isSubtype_stop ?_
      exact wpAny_pure (z _ fun b o hb => Heap.get?_push_of_some _ (Heap.get?_push_of_some _ hb))
end L3

set_option Elab.async false
set_option linter.all false
set_option maxRecDepth 100000
set_option maxHeartbeats 1000000
/-! C72: a generator's frame, entered anew at each waking; what a generator hands out, list by list; `for` over it -/
namespace L3
open PySem PySem.Spec PyProof.Rows GenW L2
open Sem (wp)

/-! ### the heap below an address -/
def below (h : Heap) (L : Addr) : Heap := ⟨h.objs.extract 0 L, h.life⟩
section
variable {h : Heap} {L b : Addr} {o : Obj}
theorem below_size : (below h L).objs.size = min L h.objs.size := by
  show (h.objs.extract 0 L).size = _
  rw [Array.size_extract]; omega
theorem below_lt (hb : b < L) : (below h L).get? b = h.get? b := by
  have e : (below h L).objs[b]? = h.objs[b]? := by
    show (h.objs.extract 0 L)[b]? = _
    rw [Array.getElem?_extract, Nat.zero_add]
    split
    · rfl
    · next z =>
      have z2 : h.objs.size ≤ b := by
        have hb' : (b : Nat) < L := hb
        rw [Nat.sub_zero] at z
        rcases Nat.lt_or_ge b h.objs.size with y | y
        · exact absurd (Nat.lt_min.mpr ⟨hb', y⟩) z
        · exact y
      rw [Array.getElem?_eq_none z2]
  unfold Heap.get?
  rw [e]
theorem of_below (e : (below h L).get? b = some o) : b < L ∧ h.get? b = some o := by
  have z := Heap.lt_size e
  rw [below_size] at z
  have hb : b < L := Nat.lt_of_lt_of_le z (Nat.min_le_left _ _)
  exact ⟨hb, by rw [← below_lt hb]; exact e⟩
theorem funs_below {base : Heap} {l : List Env} (hl : h.FunFrames base l) (lo : ∀ b ∈ frs l, b < L) : (below h L).FunFrames base l := by
  induction l with
  | nil => trivial
  | cons env rest ih =>
    obtain ⟨hk, ⟨L', o, hf, hn, ho, hd⟩, hr⟩ := hl
    refine ⟨hk, ⟨L', o, hf, hn, ?_, hd⟩, ih hr fun b hb => lo b ?_⟩
    · rw [below_lt (lo L' (List.mem_filterMap.mpr ⟨env, List.mem_cons_self, hf⟩))]; exact ho
    · obtain ⟨x, hx, e⟩ := List.mem_filterMap.mp hb
      exact List.mem_filterMap.mpr ⟨x, List.mem_cons_of_mem _ hx, e⟩
end

/-! ### a generator's frame -/
def gcx (P : Program) (w : World) (K : PySem.W.Frag) (mg : Str → Option Value) (base : Heap) (N : List Str) (env : Env) (outer : List Env) (A : Around) (s : Shared) (H : Hp) : L2.Cx :=
  { prog := P, w := w, K := K, mg := mg, base := base, A := A, N := N, s_0 := { s with heap := below s.heap env.locals }, H_0 := H, env := env, outer := outer, stack := env :: outer, ex := [], fn := fun _ => false, calm := true, pn := [], xe := fun _ _ => False }
structure GFr (base : Heap) (env : Env) (outer : List Env) : Prop where
  kind : env.scope.kind = .function
  glob : env.globals = mainGlobals
  blt : env.builtins = builtinsNs
  nc : ∀ x, env.cells.lookup x = none
  nk : ∀ x, env.kindOf x ≠ some .cell ∧ env.kindOf x ≠ some .free
  fr : env.frame = some env.locals
  low : ∀ b ∈ frs outer, b < env.locals
  bs : base.objs.size ≤ env.locals
/-- the frame's names hold the values σ -/
def GLoc (N : List Str) (env : Env) (σ : L2.St) (h : Heap) : Prop :=
  ∃ m, h.Ns env.locals m ∧ ∀ (i : Nat) (x : Str) (v : V), N[i]? = some x → σ[i]? = some (some v) → Vis env.scope x → ∃ u, RelV v u ∧ Look env h m x u
section
variable {P : Program} {w : World} {K : PySem.W.Frag} {mg : Str → Option Value} {base : Heap} {N : List Str} {env : Env} {outer : List Env} {A Ac : Around} {s : Shared} {H : Hp} {pins : List (Addr × Obj)} {σ : L2.St}
theorem gcx_inv (F : GFr base env outer) (e0 : Env0 P w K mg base Ac outer s H) (hd : A.handled = none) (hf : A.frames = some (env :: outer)) (lc : GLoc N env σ s.heap) (hL : H env.locals = none)
    (hp : ∀ p ∈ pins, s.heap.get? p.1 = some p.2 ∧ H p.1 = none ∧ p.1 ≠ env.locals ∧ p.1 ∉ frs outer ∧ ∀ v, p.2.data ≠ .cell v) (hl : σ.length = N.length) : Inv (gcx P w K mg base N env outer A s H) pins σ H s where
  ok := ⟨e0.mod, F.kind, F.glob, F.blt, (by show (below s.heap env.locals).objs.size ≤ env.locals; rw [below_size]; exact Nat.min_le_left _ _), fun x y c h1 _ => absurd (show env.cells.lookup x = some c from h1) (by rw [F.nc x]; simp), fun x h => (show env.kindOf x = some .cell ∨ env.kindOf x = some .free from h).elim (fun z => absurd z (F.nk x).1) fun z => absurd z (F.nk x).2, fun x c h _ => (by cases h), fun _ => hd, hf, .inr ⟨rfl, F.fr⟩,
    fun b z => absurd (show b ∈ ([] : List Addr) from z) (by simp), fun b o e => ⟨(by show (below s.heap env.locals).get? b = some o; rw [below_lt (Nat.lt_of_lt_of_le (Heap.lt_size e) F.bs)]; exact (e0.bs b o e).1), (e0.bs b o e).2⟩,
    (by show base.objs.size ≤ (below s.heap env.locals).objs.size; rw [below_size]; exact Nat.le_min.mpr ⟨F.bs, e0.bsz⟩), fun b _ _ => (by show b ∉ ([] : List Addr); simp), fun b z => absurd (show b ∈ ([] : List Addr) from z) (by simp), funs_below e0.funs F.low, e0.frf⟩
  os := rfl
  bare := e0.bare
  base := Un.kept fun b u q => (of_below q).2
  loc := lc
  cell := fun x c e => absurd (show env.cells.lookup x = some c from e) (by rw [F.nc x]; simp)
  free := hL
  freeC := fun x c e => absurd (show env.cells.lookup x = some c from e) (by rw [F.nc x]; simp)
  pin := fun p hm => hp p (by simpa [gcx] using hm)
  hok := e0.hok
  len := hl
end

/-! ### what a stretch does, what the consumer does meanwhile -/
def ExtH (H H' : Hp) : Prop := ∀ b u, H b = some u → H' b = some u
theorem ExtH.refl {H : Hp} : ExtH H H := fun _ _ e => e
theorem ExtH.trans {H H1 H2 : Hp} (a : ExtH H H1) (b : ExtH H1 H2) : ExtH H H2 := fun c u e => b c u (a c u e)
structure Went (P : Program) (w : World) (fs : List Addr) (lo : Addr) (own own1 : List Addr) (s : Shared) (H : Hp) (s1 : Shared) (H1 : Hp) : Prop where
  os : s1.os = s.os
  bare : AllBare s1.gens
  un : ∃ ch, Un fs ch H H1 s.heap s1.heap ∧ ∀ b ∈ ch, b ∈ own ∨ (lo ≤ b ∧ ∃ o v, s.heap.get? b = some o ∧ o.data = .cell v)
  hok : HOk P w H1 s1.heap
  ext : ExtH H H1
  own : ∀ b ∈ own1, (b ∈ own ∨ s.heap.objs.size ≤ b) ∧ H1 b = none ∧ ∃ o, s1.heap.get? b = some o ∧ ∀ v, o.data ≠ .cell v
  run : ∀ i : Nat, s.gens[i]? = some GenState.running → s1.gens[i]? = some GenState.running
  siz : s.heap.objs.size ≤ s1.heap.objs.size
structure Woke0 (P : Program) (w : World) (K : PySem.W.Frag) (mg : Str → Option Value) (base : Heap) (A : Around) (outer : List Env) (own : List Addr) (s1 : Shared) (H1 : Hp) (s2 : Shared) (H2 : Hp) : Prop where
  env0 : Env0 P w K mg base A outer s2 H2
  keep : ∀ b ∈ own, ∀ o, s1.heap.get? b = some o → s2.heap.get? b = some o ∧ H2 b = none
  ext : ExtH H1 H2
structure Woke (P : Program) (w : World) (K : PySem.W.Frag) (mg : Str → Option Value) (base : Heap) (A : Around) (outer : List Env) (own : List Addr) (s1 : Shared) (H1 : Hp) (s2 : Shared) (H2 : Hp) : Prop extends Woke0 P w K mg base A outer own s1 H1 s2 H2 where
  gens : ∀ (i : Nat) (x : GenState), s1.gens[i]? = some x → isSus x = true → s2.gens[i]? = some x
/-- the rest of what a generator hands out, from its waking at (s, H) on -/
def HZ (P : Program) (w : World) (K : PySem.W.Frag) (mg : Str → Option Value) (base : Heap) (A : Around) (outer : List Env) (lo a : Addr) (g : Nat) : List (List V) → List Addr → Shared → Hp → End → Shared → Prop
  | [], own, s, H, e, s1 => (e = .ret (.ok (.ret .none)) ∨ e = .ret (.ok .next)) ∧ ∃ H1, Went P w (frs outer) lo own [] s H s1 H1
  | y :: ys, own, s, H, e, s1 => ∃ v g0 l k c p fr b own1 H1, e = .susp v g0 l k c p fr ∧ e.quiet = true ∧ v = .ref b ∧ H b = none ∧ H1 b = some (.lst y) ∧ Went P w (frs outer) lo own own1 s H s1 H1 ∧ a ∈ own1 ∧ s1.heap.IsGen a g ∧
      ∀ s2 H2, Woke P w K mg base A outer own1 (s1.setGen g e.genState) H1 s2 H2 → GoZ (model P w) A.in1 (HZ P w K mg base A outer lo a g ys own1 (s2.setGen g .running) H2) e.genState (s2.setGen g .running)
abbrev Hand (P : Program) (w : World) (K : PySem.W.Frag) (mg : Str → Option Value) (base : Heap) (A : Around) (outer : List Env) (lo a : Addr) (g : Nat) (ys : List (List V)) (own : List Addr) (x : GenState) (s : Shared) (H : Hp) : Prop :=
  GoZ (model P w) A.in1 (HZ P w K mg base A outer lo a g ys own (s.setGen g .running) H) x (s.setGen g .running)

theorem Inv.setG {X : L2.Cx} {pins : List (Addr × Obj)} {σ : L2.St} {H : Hp} {s : Shared} {g : Nat} {x : GenState} (I : L2.Inv X pins σ H s) (hx : x.bare = true) : L2.Inv X pins σ H (s.setGen g x) :=
  ⟨I.ok, I.os, allBare_setGen I.bare hx, I.base, I.loc, I.cell, I.free, I.freeC, I.pin, I.hok, I.len⟩
section
variable {X : L2.Cx} {pins : List (Addr × Obj)} {σ : L2.St} {H H1 : Hp} {s s1 : Shared} {lo : Addr} {own own1 : List Addr}
/-- the generator is younger than the consumer's frame -/
structure Young (X : L2.Cx) (lo : Addr) : Prop where
  s0 : X.s_0.heap.objs.size ≤ lo
  loc : X.env.locals < lo
  cel : ∀ x c, X.env.cells.lookup x = some c → c < lo
theorem Inv.young {L : Addr} (I : L2.Inv X pins σ H s) (h : s.heap.objs.size ≤ L) : Young X L :=
  ⟨Nat.le_trans I.sz h, Nat.lt_of_lt_of_le I.lt h, fun x c e => by obtain ⟨v, q⟩ := I.cell x c e; exact Nat.lt_of_lt_of_le q.lt h⟩
theorem went_inv (I : L2.Inv X pins σ H s) (Y : Young X lo) (hw : Went X.prog X.w (frs X.stack) lo own own1 s H s1 H1) (ho : ∀ b ∈ own, FpOk X pins H b) : L2.Inv X pins σ H1 s1 := by
  obtain ⟨ch, un, hch⟩ := hw.un
  refine I.call' (ch := ch) hw.os un hw.hok hw.bare fun b hb => ?_
  rcases hch b hb with z | ⟨z, o, v, eo, ed⟩
  · obtain ⟨_, f1, _, f3, f4, f5⟩ := ho b z
    exact ⟨f3, f1, f4, f5⟩
  · refine ⟨.inr (Nat.le_trans Y.s0 z), fun q => absurd Y.loc (by rw [← q]; exact Nat.not_lt.mpr z), fun x c q r => absurd (Y.cel x c q) (by rw [r]; exact Nat.not_lt.mpr z), fun p hp q => ?_⟩
    have i1 := I.pin p hp
    rw [q, eo] at i1
    have e1 := Option.some.inj i1.1
    exact i1.2.2.2.2 v (by rw [← e1]; exact ed)
theorem went_fp (I : L2.Inv X pins σ H s) (hw : Went X.prog X.w (frs X.stack) lo own own1 s H s1 H1) (ho : ∀ b ∈ own, FpOk X pins H b) : ∀ b ∈ own1, FpOk X pins H1 b := fun b hb => by
  obtain ⟨z, n, _⟩ := hw.own b hb
  rcases z with z | z
  · obtain ⟨_, f⟩ := ho b z
    exact ⟨n, f⟩
  · exact I.fpOk z n
end

/-! ### for over a generator -/
/-- a generator that has not begun -/
structure GNew (P : Program) (w : World) (K : PySem.W.Frag) (mg : Str → Option Value) (base : Heap) (k : Nat) (outer : List Env) (H : Hp) (s : Shared) (ys : List (List V)) (u : Value) (s' : Shared) : Prop where
  ex : ∃ (a lo : Addr) (g : Nat) (c : Code), u = .ref a ∧ s.heap.objs.size ≤ lo ∧ s.heap.objs.size ≤ a ∧ s'.heap.IsGen a g ∧ s'.gens[g]? = some (.fresh c) ∧ (∃ o, s'.heap.get? lo = some o ∧ ∀ v, o.data ≠ .cell v) ∧
    ∀ A s2 H2, Room k A → A.frames = some outer → s2.gens[g]? = some (.fresh c) → Woke0 P w K mg base A outer [lo, a] s' H s2 H2 → Hand P w K mg base A outer lo a g ys [lo, a] (.fresh c) s2 H2
  os : s'.os = s.os
  bare : AllBare s'.gens
  keep : ∀ b o, s.heap.get? b = some o → s'.heap.get? b = some o
abbrev TGs := L2.St → Hp → (List (List V) → Hp → Prop) → Prop
structure PGn (X : L2.Cx) (k : Nat) (iter : Expr) (tg : TGs) : Prop where
  run : ∀ (pins : List (Addr × Obj)) (s : Shared) (σ : L2.St) (H : Hp) (R : List (List V) → Hp → Prop), L2.Inv X pins σ H s → tg σ H R →
    wpAny (model X.prog X.w) X.A (eval iter X.env) (fun u s1 => ∃ H1 s0 ys, s.heap.objs.size ≤ s0.heap.objs.size ∧ L2.Inv X pins σ H1 s0 ∧ GNew X.prog X.w X.K X.mg X.base k X.stack H1 s0 ys u s1 ∧ R ys H1) X.xe s
theorem GNew.sameG {P : Program} {w : World} {K : PySem.W.Frag} {mg : Str → Option Value} {base : Heap} {k : Nat} {outer : List Env} {H : Hp} {s s1 s2 : Shared} {ys : List (List V)} {u : Value} (G : GNew P w K mg base k outer H s ys u s1) (sm : SameG s1 s2) : GNew P w K mg base k outer H s ys u s2 := by
  obtain ⟨a, lo, g, c, h1, h2, h3, h4, h5, h6, h7⟩ := G.ex
  obtain ⟨e1, e2, e3, B, aB, rfl⟩ := sm
  refine ⟨⟨a, lo, g, c, h1, h2, h3, h4, ?_, h6, fun A s3 H3 r f hg W => h7 A s3 H3 r f hg ⟨W.env0, W.keep, W.ext⟩⟩, G.os, e3 G.bare, G.keep⟩
  rw [swp_none (aB.awake h5 rfl)]; exact h5
/-- an exception on its way does not hang on the table of generators -/
def XeG (X : L2.Cx) : Prop := ∀ e s s', SameG s s' → X.xe e s → X.xe e s'
def tForG (tg : TGs) (g : TG) (tb : TS) : TS := fun D σ H => tg σ H fun ys H1 => ∃ W : List (List V) → L2.St → Hp → Prop, W ys σ H1 ∧ (∀ σ H, W [] σ H → ∀ H', ExtH H H' → D.nx σ H') ∧
  ∀ y r σ H, W (y :: r) σ H → ∀ H' b, ExtH H H' → H b = none → H' b = some (.lst y) → g (.ref b) σ H' fun σ2 H2 => tb { D with nx := fun σ3 H3 => ExtH H' H3 ∧ W r σ3 H3, ct := fun σ3 H3 => ExtH H' H3 ∧ W r σ3 H3, bk := D.nx } σ2 H2
theorem ps_forG {X : L2.Cx} {k : Nat} {x : Str} {px : Pos} {iter : Expr} {body : List Stmt} {tg : TGs} {g : TG} {tb : TS} {pos : Pos} (hp : PassesOwn (model X.prog X.w) X.A X.env X.xe) (hxe : XeG X) (hr : Room k X.A) (hi : PGn X k iter tg) (hg : PG X (.Name x px) g)
    (hb : PSs X body tb) (hs : ∀ x, foldedSetIterable iter X.env x = pure x := by intro _; rfl) : PS X (.For (.Name x px) iter body [] pos) (tForG tg g tb) := by
  refine ⟨fun pins s σ H D I h => ?_⟩
  refine wpAny_For (thn (hi.run pins s σ H _ I h) fun u s1 z => ?_) hs
  obtain ⟨H1, s0, ys, _, I0, G, W, w0, we, ws⟩ := z
  obtain ⟨a, lo, gi, c, rfl, hlo, ha, hgen, hgs, ⟨olo, elo, dlo⟩, wake⟩ := G.ex
  have I1 : L2.Inv X pins σ H1 s1 := I0.call' (ch := []) G.os (Un.kept G.keep) (I0.hok.kept G.keep) G.bare (by simp)
  have Y : Young X lo := Inv.young I0 hlo
  have dep : X.A.depth < recursionLimit := by have := hr.dp; omega
  refine wpAny_pyIter_gen hgen ?_
  have fp0 : ∀ b ∈ [lo, a], FpOk X pins H1 b := fun b hm => by
    have hb : s0.heap.objs.size ≤ b := by
      rcases List.mem_cons.mp hm with z | z
      · rw [z]; exact hlo
      · rw [List.mem_singleton.mp z]; exact ha
    exact I0.fpOk hb (I0.hok.fresh hb)
  refine codeAny_forLoop_any (fun n s' => ∃ zs own xg σ' H', n = zs.length ∧ L2.Inv X pins σ' H' s' ∧ W zs σ' H' ∧ s'.heap.IsGen a gi ∧ s'.gens[gi]? = some xg ∧ Hand X.prog X.w X.K X.mg X.base X.A X.stack lo a gi zs own xg s' H' ∧ ∀ b ∈ own, FpOk X pins H' b) ?_ ys.length
    ⟨ys, [lo, a], .fresh c, σ, H1, rfl, I1, w0, hgen, hgs, wake X.A s1 H1 hr I1.ok.frames hgs ⟨I1.env0, fun b hb o e => ⟨e, (fp0 b hb).1⟩, .refl⟩, fp0⟩
  rintro n s3 ⟨zs, own, xg, σ3, H3, rfl, I3, w3, g3, x3, h3, f3⟩
  have I3r : L2.Inv X pins σ3 H3 (s3.setGen gi .running) := Inv.setG I3 rfl
  have lt3 : gi < s3.gens.size := (Array.getElem?_eq_some_iff.mp x3).1
  have run3 : (s3.setGen gi .running).gens[gi]? = some .running := setGen_at lt3
  cases zs with
  | nil =>
    refine wpAny_passesOwn hp (thn (next_go (E := X.xe) (Q := fun rr s4 => rr = none ∧ ∃ H4, L2.Inv X pins σ3 H4 s4 ∧ ExtH H3 H4) hr.hd dep I3.nolimit g3 x3 h3 fun e s4 z => ?_) fun rr s4 z => ?_)
    · obtain ⟨he, H4, wt⟩ := z
      have I4 := went_inv I3r Y wt f3
      have fin : ∀ h2 : Heap, (∀ b o, s4.heap.get? b = some o → h2.get? b = some o) → ∃ H5, L2.Inv X pins σ3 H5 { s4.setGen gi .finished with heap := h2 } ∧ ExtH H3 H5 := fun h2 kk =>
        ⟨H4, (Inv.setG (g := gi) (x := .finished) I4 rfl).kept (t' := s4.toks) kk, wt.ext⟩
      rcases he with rfl | rfl
      · exact ⟨rfl, .inl rfl, fun h2 kk => ⟨rfl, fin h2 kk⟩⟩
      · exact ⟨rfl, .inr rfl, fun h2 kk => ⟨rfl, fin h2 kk⟩⟩
    · obtain ⟨rfl, H4, I4, e4⟩ := z
      exact wpAny_execs_nil ⟨σ3, H4, I4, we σ3 H3 w3 H4 e4⟩
  | cons y r =>
    refine wpAny_passesOwn hp (thn (next_go (E := X.xe) (Q := fun rr s4 => ∃ b own1 H4 x4, rr = some (.ref b) ∧ L2.Inv X pins σ3 H4 s4 ∧ ExtH H3 H4 ∧ H3 b = none ∧ H4 b = some (.lst y) ∧ a ∈ own1 ∧ s4.heap.IsGen a gi ∧ s4.gens[gi]? = some x4 ∧ isSus x4 = true ∧
      (∀ b ∈ own1, FpOk X pins H4 b) ∧ (∀ b ∈ own1, ∃ o, s4.heap.get? b = some o ∧ ∀ v, o.data ≠ .cell v) ∧ ∀ s2 H2, Woke X.prog X.w X.K X.mg X.base X.A X.stack own1 s4 H4 s2 H2 → Hand X.prog X.w X.K X.mg X.base X.A X.stack lo a gi r own1 x4 s2 H2)
      hr.hd dep I3.nolimit g3 x3 h3 fun e s4 z => ?_) fun rr s4 z => ?_)
    · obtain ⟨v, g0, l, kk, cc, pp, fr, b, own1, H4, rfl, hq, rfl, hb3, t4, wt, ao, g4, cont⟩ := z
      refine ⟨hq, ?_⟩
      have I4 := went_inv I3r Y wt f3
      have lt4 : gi < s4.gens.size := (Array.getElem?_eq_some_iff.mp (wt.run gi run3)).1
      exact ⟨b, own1, H4, _, rfl, Inv.setG I4 (End.bare_of_quiet hq), wt.ext, hb3, t4, ao, g4, setGen_at lt4, rfl, went_fp I3r wt f3, fun b hb => (wt.own b hb).2.2, cont⟩
    · obtain ⟨b, own1, H4, x4, rfl, I4, e4, n3, t4, ao, g4, gs4, sx, f4, o4, cont⟩ := z
      refine wpAny_passesOwn hp (wpAny_pure ?_)
      have P4 := I4.pinned f4 o4
      refine wpAny_passesOwn hp (wpAny_mono (wpAny_asleep (hg.run _ (hush s4) σ3 H4 (.ref b) (.ref b) _ (Inv.hush P4) rfl (ws y r σ3 H3 w3 H4 b e4 n3 t4))) (fun _ s5 z => ?_) fun e s5 ⟨_, s5', sm, q⟩ => hxe e s5' s5 sm q)
      obtain ⟨k5, s5', sm5, σ5, H5, I5', q5⟩ := z
      have I5 := Inv.sameG I5' sm5
      refine wpAny_passesOwn hp (wpAny_mono (wpAny_asleep (hb.run _ (hush s5) σ5 H5 _ (Inv.hush I5) q5)) (fun f s7 z => ?_) fun e s5 ⟨_, s5', sm, q⟩ => hxe e s5' s5 sm q)
      obtain ⟨k7, s7', sm7, q7⟩ := z
      have gk : ∀ (i : Nat) (x : GenState), s4.gens[i]? = some x → isSus x = true → s7.gens[i]? = some x := fun i x e hx => k7.gen i x (k5.gen i x e (isOld_sus hx)) (isOld_sus hx)
      have again : ∀ {σ7 : L2.St} {H7 : Hp}, L2.Inv X (pins ++ pinsAt own1 s4.heap) σ7 H7 s7' → ExtH H4 H7 ∧ W r σ7 H7 → ∃ m, m < r.length + 1 ∧ ∃ zs own xg σ' H', m = zs.length ∧ L2.Inv X pins σ' H' s7 ∧ W zs σ' H' ∧ s7.heap.IsGen a gi ∧ s7.gens[gi]? = some xg ∧
          Hand X.prog X.w X.K X.mg X.base X.A X.stack lo a gi zs own xg s7 H' ∧ ∀ b ∈ own, FpOk X pins H' b := fun {σ7 H7} I7' ⟨e7, w7⟩ => by
        have I7 := Inv.sameG I7' sm7
        have keep : ∀ b ∈ own1, ∀ o, s4.heap.get? b = some o → s7.heap.get? b = some o ∧ H7 b = none := fun b hb o e => by
          have z := I7.pin (b, o) (List.mem_append_right _ (List.mem_append_right _ (mem_pinsAt hb e)))
          exact ⟨z.1, z.2.1⟩
        refine ⟨r.length, Nat.lt_succ_self _, r, own1, x4, σ7, H7, rfl, I7.unpinned, w7, ?_, gk _ _ gs4 sx, cont s7 H7 ⟨⟨I7.env0, keep, e7⟩, gk⟩, fun b hb => ?_⟩
        · obtain ⟨o, nm, qn, eo, z⟩ := g4
          exact ⟨o, nm, qn, (keep a ao o eo).1, z⟩
        · obtain ⟨o, eo, _⟩ := o4 b hb
          exact ⟨(keep b hb o eo).2, (f4 b hb).2⟩
      cases f with
      | next => obtain ⟨σ7, H7, I7, n7⟩ := q7; exact again I7 n7
      | cont => obtain ⟨σ7, H7, I7, n7⟩ := q7; exact again I7 n7
      | brk => obtain ⟨σ7, H7, I7, n7⟩ := q7; exact ⟨σ7, H7, (Inv.sameG I7 sm7).unpinned, n7⟩
      | ret v => obtain ⟨x7, σ7, H7, I7, r7, n7⟩ := q7; exact ⟨x7, σ7, H7, (Inv.sameG I7 sm7).unpinned, r7, n7⟩
end L3

set_option Elab.async false
set_option linter.all false
set_option maxRecDepth 100000
set_option maxHeartbeats 1000000
/-! C73: within a generator's body: stretches between two wakings; `for` there; a generator def's promise -/
namespace L3
open PySem PySem.Spec PyProof.Rows GenW L2
open Sem (wp)

/-! ### all others stand still -/
def cellQ (o : Obj) : Bool := match o.data with | .cell _ => true | _ => false
theorem cellQ_no {o : Obj} (h : cellQ o = false) : ∀ v, o.data ≠ .cell v := fun v e => by unfold cellQ at h; rw [e] at h; cases h
theorem cellQ_yes {o : Obj} (h : cellQ o = true) : ∃ v, o.data = .cell v := by
  unfold cellQ at h
  split at h
  · next v e => exact ⟨v, e⟩
  · cases h
/-- the other objects from L on, as they stand: neither known, nor the generator's own, nor cells -/
def oth (s : Shared) (H : Hp) (own : List Addr) (L : Addr) : List (Addr × Obj) :=
  (List.range s.heap.objs.size).filterMap fun b => if L ≤ b ∧ b ∉ own ∧ (H b).isNone = true then (s.heap.get? b).bind fun o => if cellQ o = true then none else some (b, o) else none
/-- the cells from L on -/
def celsAt (s : Shared) (L : Addr) : List Addr :=
  (List.range s.heap.objs.size).filter fun b => decide (L ≤ b) && ((s.heap.get? b).elim false cellQ)
section
variable {s : Shared} {H : Hp} {own : List Addr} {L b : Addr} {o : Obj} {p : Addr × Obj}
theorem mem_oth (h1 : L ≤ b) (h2 : b ∉ own) (h3 : H b = none) (e : s.heap.get? b = some o) (hc : cellQ o = false) : (b, o) ∈ oth s H own L := by
  refine List.mem_filterMap.mpr ⟨b, List.mem_range.mpr (Heap.lt_size e), ?_⟩
  rw [if_pos ⟨h1, h2, by rw [h3]; rfl⟩, e]
  show (if cellQ o = true then none else some (b, o)) = some (b, o)
  rw [hc]; rfl
theorem of_oth (hp : p ∈ oth s H own L) : L ≤ p.1 ∧ p.1 ∉ own ∧ H p.1 = none ∧ s.heap.get? p.1 = some p.2 ∧ ∀ v, p.2.data ≠ .cell v := by
  obtain ⟨b, _, e⟩ := List.mem_filterMap.mp hp
  split at e
  · next hc =>
    cases q : s.heap.get? b with
    | none => rw [q] at e; cases e
    | some o =>
      rw [q] at e
      have e2 : (if cellQ o = true then none else some (b, o)) = some p := e
      cases z : cellQ o with
      | true => rw [z] at e2; cases e2
      | false =>
        rw [z] at e2
        cases e2
        refine ⟨hc.1, hc.2.1, ?_, q, cellQ_no z⟩
        have n := hc.2.2
        show H b = none
        cases w : H b with
        | none => rfl
        | some u => rw [w] at n; cases n
  · cases e
theorem of_cels (h : b ∈ celsAt s L) : L ≤ b ∧ ∃ o v, s.heap.get? b = some o ∧ o.data = .cell v := by
  obtain ⟨_, e⟩ := List.mem_filter.mp h
  rw [Bool.and_eq_true] at e
  refine ⟨of_decide_eq_true e.1, ?_⟩
  cases q : s.heap.get? b with
  | none => rw [q] at e; cases e.2
  | some o =>
    rw [q] at e
    obtain ⟨v, z⟩ := cellQ_yes (show cellQ o = true from e.2)
    exact ⟨o, v, rfl, z⟩
theorem mem_cels (h1 : L ≤ b) (e : s.heap.get? b = some o) (hc : cellQ o = true) : b ∈ celsAt s L := by
  refine List.mem_filter.mpr ⟨List.mem_range.mpr (Heap.lt_size e), ?_⟩
  rw [Bool.and_eq_true, e]
  exact ⟨decide_eq_true h1, hc⟩
end
theorem _root_.L2.ObjOk.there {P : Program} {w : World} {H : Hp} {h : Heap} {a : Addr} {o : HO} (x : ObjOk P w H h a o) : ∃ ob, h.get? a = some ob := by
  cases o with
  | lst xs => obtain ⟨_, _, _, _, e⟩ := x; exact ⟨_, e⟩
  | tup xs => obtain ⟨_, _, _, o, e, _⟩ := x; exact ⟨_, e⟩
  | dK kvs => obtain ⟨_, _, _, _, o, _, _, e, _⟩ := x; exact ⟨_, e⟩
  | dT kvs => obtain ⟨_, _, _, _, o, _, _, e, _⟩ := x; exact ⟨_, e⟩
  | set S n => obtain ⟨o, _, _, _, e, _⟩ := x; exact ⟨_, e⟩
  | ins C dx fs => obtain ⟨_, _, _, e, _⟩ := x; exact ⟨_, e⟩
  | own y => exact x
  | xd fs => obtain ⟨_, ⟨_, _, _, e, _⟩, _⟩ := x; exact ⟨_, e⟩
  | rng lo hi => obtain ⟨_, _, _, e⟩ := x; exact ⟨_, e⟩
  | frz ob u => obtain ⟨e, _⟩ := x; exact ⟨_, e⟩
  | tbl ps => exact ⟨_, show h.get? a = some _ from x⟩
  | met f y => exact ⟨_, show h.get? a = some _ from x⟩
  | ext φ => obtain ⟨_, e, _⟩ := x; exact e

/-! ### a stretch -/
/-- between a waking at (w0, H0) and now; own: what was the generator's own at the waking -/
structure Sm (P : Program) (w : World) (K : PySem.W.Frag) (mg : Str → Option Value) (base : Heap) (N : List Str) (env : Env) (outer : List Env) (A : Around) (w0 : Shared) (H0 : Hp) (own : List Addr) (ip : List (Addr × Obj)) (σ : L2.St) (H : Hp) (s : Shared) : Prop where
  inv : L2.Inv (gcx P w K mg base N env outer A w0 H0) (oth w0 H0 own env.locals ++ ip) σ H s
  ext : ExtH H0 H
  run : ∀ i : Nat, w0.gens[i]? = some GenState.running → s.gens[i]? = some GenState.running
  siz : w0.heap.objs.size ≤ s.heap.objs.size
section
variable {P : Program} {w : World} {K : PySem.W.Frag} {mg : Str → Option Value} {base : Heap} {N : List Str} {env : Env} {outer : List Env} {A Ac : Around} {w0 s : Shared} {H0 H : Hp} {own own1 : List Addr} {ip : List (Addr × Obj)} {σ : L2.St}
theorem sm_start (F : GFr base env outer) (e0 : Env0 P w K mg base Ac outer w0 H0) (hd : A.handled = none) (hf : A.frames = some (env :: outer)) (lc : GLoc N env σ w0.heap) (hL : H0 env.locals = none) (hl : σ.length = N.length) (ho : env.locals ∈ own)
    (hp : ∀ p ∈ ip, w0.heap.get? p.1 = some p.2 ∧ H0 p.1 = none ∧ env.locals < p.1 ∧ ∀ v, p.2.data ≠ .cell v) : Sm P w K mg base N env outer A w0 H0 own ip σ H0 w0 where
  inv := gcx_inv F e0 hd hf lc hL (fun p hm => by
    rcases List.mem_append.mp hm with z | z
    · obtain ⟨h1, h2, h3, h4, h5⟩ := of_oth z
      refine ⟨h4, h3, fun q => h2 (by rw [q]; exact ho), fun q => absurd (F.low p.1 q) (Nat.not_lt.mpr h1), h5⟩
    · obtain ⟨h1, h2, h3, h4⟩ := hp p z
      exact ⟨h1, h2, Nat.ne_of_gt h3, fun q => absurd (F.low p.1 q) (Nat.not_lt.mpr (Nat.le_of_lt h3)), h4⟩) hl
  ext := .refl
  run := fun _ e => e
  siz := Nat.le_refl _
theorem Sm.drop {ip2 : List (Addr × Obj)} (S : Sm P w K mg base N env outer A w0 H0 own ip σ H s) (h : ∀ p ∈ ip2, p ∈ ip) : Sm P w K mg base N env outer A w0 H0 own ip2 σ H s :=
  ⟨S.inv.pins_of fun p hp => S.inv.pin p (by
    rcases List.mem_append.mp hp with z | z
    · exact List.mem_append_right _ (List.mem_append_left _ z)
    · exact List.mem_append_right _ (List.mem_append_right _ (h p z))), S.ext, S.run, S.siz⟩
theorem Sm.add {fp : List Addr} (S : Sm P w K mg base N env outer A w0 H0 own ip σ H s) (hf : ∀ b ∈ fp, FpOk (gcx P w K mg base N env outer A w0 H0) (oth w0 H0 own env.locals ++ ip) H b) (ho : ∀ b ∈ fp, ∃ o, s.heap.get? b = some o ∧ ∀ v, o.data ≠ .cell v) :
    Sm P w K mg base N env outer A w0 H0 own (ip ++ pinsAt fp s.heap) σ H s :=
  ⟨by rw [← List.append_assoc]; exact S.inv.pinned hf ho, S.ext, S.run, S.siz⟩
theorem Sm.at (S : Sm P w K mg base N env outer A w0 H0 own ip σ H s) {p : Addr × Obj} (hp : p ∈ ip) : s.heap.get? p.1 = some p.2 ∧ H p.1 = none ∧ p.1 ≠ env.locals ∧ p.1 ∉ frs outer ∧ ∀ v, p.2.data ≠ .cell v :=
  S.inv.pin p (List.mem_append_right _ (List.mem_append_right _ hp))
/-- all that it has done -/
theorem Sm.went (S : Sm P w K mg base N env outer A w0 H0 own ip σ H s) (F : GFr base env outer) (ho : env.locals ∈ own) (e1 : ∀ b ∈ own1, b = env.locals ∨ ∃ o, (b, o) ∈ ip) (hip : ∀ p ∈ ip, p.1 ∈ own ∨ w0.heap.objs.size ≤ p.1) (hk0 : HOk P w H0 w0.heap) :
    Went P w (frs outer) env.locals own own1 w0 H0 s H where
  os := S.inv.os
  bare := S.inv.bare
  un := by
    have I := S.inv
    have B : Un (frs outer) [] H0 H (below w0.heap env.locals) s.heap := I.base
    have hi : ∀ b o, env.locals ≤ b → b ∉ own ++ celsAt w0 env.locals → w0.heap.get? b = some o → H0 b = none → s.heap.get? b = some o ∧ H b = none := fun b o hb hn e n => by
      have h1 : b ∉ own := fun z => hn (List.mem_append_left _ z)
      have h2 : cellQ o = false := by
        cases q : cellQ o with
        | false => rfl
        | true => exact absurd (List.mem_append_right _ (mem_cels hb e q)) hn
      have z := I.pin (b, o) (List.mem_append_right _ (List.mem_append_left _ (mem_oth hb h1 n e h2)))
      exact ⟨z.1, z.2.1⟩
    have low : ∀ b o, b < env.locals → w0.heap.get? b = some o → (below w0.heap env.locals).get? b = some o := fun b o hb e => by rw [below_lt hb]; exact e
    have nil : ∀ b : Addr, b ∉ ([] : List Addr) := fun b => by simp
    refine ⟨own ++ celsAt w0 env.locals, ⟨fun b o e n hb hn => ?_, fun b o e n hb _ => ?_, fun b o e n hn => ?_, fun b o e hn => ?_, B.tups, B.frzs, B.tbls⟩, fun b hb => ?_⟩
    · rcases Nat.lt_or_ge b env.locals with z | z
      · exact B.keep b o (low b o z e) n hb (nil b)
      · exact (hi b o z hn e n).1
    · exact B.slot b o (low b o (F.low b hb) e) n hb (nil b)
    · rcases Nat.lt_or_ge b env.locals with z | z
      · exact B.free b o (low b o z e) n (nil b)
      · exact (hi b o z hn e n).2
    · rcases Nat.lt_or_ge b env.locals with z | z
      · exact B.there b o (low b o z e) (nil b)
      · cases q : H0 b with
        | none => exact ⟨o, (hi b o z hn e q).1⟩
        | some u => exact (I.hok b u (S.ext b u q)).there
    · rcases List.mem_append.mp hb with z | z
      · exact .inl z
      · exact .inr (of_cels z)
  hok := S.inv.hok
  ext := S.ext
  own := fun b hb => by
    rcases e1 b hb with z | ⟨o, z⟩
    · subst z
      obtain ⟨m, ⟨ob, es, ep, eo, ed, _⟩, _⟩ := S.inv.loc
      refine ⟨.inl ho, S.inv.free, ob, eo, fun v q => ?_⟩
      rw [ed] at q; cases q
    · obtain ⟨h1, h2, _, _, h5⟩ := S.at z
      exact ⟨hip _ z, h2, o, h1, h5⟩
  run := S.run
  siz := S.siz
/-- a step of the body -/
theorem Sm.of (S : Sm P w K mg base N env outer A w0 H0 own ip σ H s) {σ2 : L2.St} {H2 : Hp} {s2 s3 : Shared} (I : L2.Inv (gcx P w K mg base N env outer A w0 H0) (oth w0 H0 own env.locals ++ ip) σ2 H2 s2) (sm : SameG s2 s3) (k : KeptG s s3) (e : ExtH H0 H2) :
    Sm P w K mg base N env outer A w0 H0 own ip σ2 H2 s3 := ⟨Inv.sameG I sm, e, fun i z => k.gen i _ (S.run i z) rfl, Nat.le_trans S.siz k.siz⟩
theorem Sm.pe {e : Expr} {te : TE} (he : PE (gcx P w K mg base N env outer A w0 H0) e te) (S : Sm P w K mg base N env outer A w0 H0 own ip σ H s) {R : V → Hp → Prop} {E : Value → Shared → Prop} (t : te σ H fun v H2 => ExtH H0 H2 ∧ R v H2) :
    wpAny (model P w) A (eval e env) (fun u s2 => ∃ v H2, Sm P w K mg base N env outer A w0 H0 own ip σ H2 s2 ∧ RelV v u ∧ R v H2 ∧ KeptG s s2) E s :=
  wpAny_mono (wpAny_asleep (he.run _ (hush s) σ H _ (Inv.hush S.inv) t)) (fun u s2 ⟨k, s2', sm, v, H2, I, r, x, q⟩ => ⟨v, H2, S.of I sm k x, r, q, k⟩) fun _ _ ⟨_, _, _, f⟩ => False.elim f
theorem Sm.pt {e : Expr} {te : L2.TT} (he : PT (gcx P w K mg base N env outer A w0 H0) e te) (S : Sm P w K mg base N env outer A w0 H0 own ip σ H s) {R : Bool → Hp → Prop} {E : Value → Shared → Prop} (t : te σ H fun v H2 => ExtH H0 H2 ∧ R v H2) :
    wpAny (model P w) A (isTrue e env (eval e env)) (fun b s2 => ∃ H2, Sm P w K mg base N env outer A w0 H0 own ip σ H2 s2 ∧ R b H2 ∧ KeptG s s2) E s :=
  wpAny_mono (wpAny_asleep (he.run _ (hush s) σ H _ (Inv.hush S.inv) t)) (fun u s2 ⟨k, s2', sm, H2, I, x, q⟩ => ⟨H2, S.of I sm k x, q, k⟩) fun _ _ ⟨_, _, _, f⟩ => False.elim f
theorem Sm.pg {tg : Expr} {g : TG} (hg : PG (gcx P w K mg base N env outer A w0 H0) tg g) (S : Sm P w K mg base N env outer A w0 H0 own ip σ H s) {v : V} {u : Value} (r : RelV v u) {R : L2.St → Hp → Prop} {E : Value → Shared → Prop} (t : g v σ H fun σ2 H2 => ExtH H0 H2 ∧ R σ2 H2) :
    wpAny (model P w) A (assign tg env u) (fun _ s2 => ∃ σ2 H2, Sm P w K mg base N env outer A w0 H0 own ip σ2 H2 s2 ∧ R σ2 H2 ∧ KeptG s s2) E s :=
  wpAny_mono (wpAny_asleep (hg.run _ (hush s) σ H v u _ (Inv.hush S.inv) r t)) (fun u s2 ⟨k, s2', sm, σ2, H2, I, x, q⟩ => ⟨σ2, H2, S.of I sm k x, q, k⟩) fun _ _ ⟨_, _, _, f⟩ => False.elim f
/-- woken again -/
theorem Sm.wake {g : Nat} {x : GenState} {s2 : Shared} {H2 : Hp} (S : Sm P w K mg base N env outer A w0 H0 own ip σ H s) (F : GFr base env outer) (hd : A.handled = none) (hf : A.frames = some (env :: outer)) (W : Woke P w K mg base Ac outer own1 (s.setGen g x) H s2 H2)
    (hL : env.locals ∈ own1) (hip : ∀ p ∈ ip, p.1 ∈ own1 ∧ env.locals < p.1) : Sm P w K mg base N env outer A (s2.setGen g .running) H2 own1 ip σ H2 (s2.setGen g .running) := by
  have e2 : Env0 P w K mg base Ac outer (s2.setGen g .running) H2 := ⟨W.env0.frames, W.env0.mod, W.env0.bs, W.env0.bsz, W.env0.funs, W.env0.frf, W.env0.hok, allBare_setGen W.env0.bare rfl⟩
  obtain ⟨m1, ⟨ob, es, ep, eo, ed, er⟩, vals⟩ := S.inv.loc
  have kL := W.keep _ hL ob eo
  refine sm_start F e2 hd hf ⟨m1, ⟨ob, es, ep, kL.1, ed, er⟩, fun i y v z1 z2 z3 => ?_⟩ kL.2 S.inv.len hL fun p hp => ?_
  · obtain ⟨u, ru, lk⟩ := vals i y v z1 z2 z3
    exact ⟨u, ru, lk.imp id fun z => z.1.elim (fun q => absurd q (F.nk y).1) fun q => absurd q (F.nk y).2⟩
  · obtain ⟨h1, h2, _, _, h5⟩ := S.at hp
    have k := W.keep _ (hip p hp).1 _ h1
    exact ⟨k.1, k.2, (hip p hp).2, h5⟩
end
end L3

set_option Elab.async false
set_option linter.all false
set_option maxRecDepth 100000
set_option maxHeartbeats 1000000
/-! C74: `for` within a generator's body; a generator def's promise -/
namespace L3
open PySem PySem.Spec PyProof.Rows GenW L2
open Sem (wp)

/-- where the body's code stands -/
structure Pl (B A : Around) (cd : Code) (fr : List Frame) (gd : Bool → Bool) : Prop where
  over : B.over cd fr = A
  split : splitAtGen fr = none
  guard : fr.any Frame.guarded = false
  gd : gd false = false
theorem Pl.func {B : Around} {body : List Stmt} {env : Env} : Pl B (B.deeper env) (.func body env) [] id := ⟨over_func, rfl, rfl, rfl⟩
theorem Pl.loop {B A : Around} {cd c2 : Code} {fr : List Frame} {gd : Bool → Bool} {k : Result → Sem PySem.Fin} {l kp : List Value} {p : Pos} (h : Pl B A cd fr gd) (hw : c2.weight = 0) (hu : c2.cUnits = 0) : Pl B A c2 (.ret k none (gd false) l cd p kp :: fr) id where
  over := (over_loop hw hu).trans h.over
  split := by
    have e : (splitAtGen fr).map (fun x => (Frame.ret k none (gd false) l cd p kp :: x.1, x.2.1, x.2.2)) = none := by rw [h.split]; rfl
    exact e
  guard := by
    have e : (gd false || fr.any Frame.guarded) = false := by rw [h.gd, h.guard]; rfl
    exact e
  gd := rfl
section
variable {P : Program} {w : World} {B A : Around} {Z : End → Shared → Prop} {cd : Code} {fr : List Frame} {s : Shared} {K : Flow → Sem PySem.Fin} {J : Value → Sem PySem.Fin} {gd : Bool → Bool} {lv : List Value → List Value} {env : Env} {tg iter : Expr} {body : List Stmt} {pos : Pos}
theorem sg_for (ho : B.over cd fr = A) (h : wpAny (model P w) A (eval iter env) (fun x s1 => wpAny (model P w) A (pyIter x) (fun it s2 => ∀ (k : Result → Sem PySem.Fin) (p : Pos), k (.ok .next) = K .next →
      Sg (model P w) B Z (.forLoop tg it body [] env) ((model P w).den (.forLoop tg it body [] env)) (.ret k none (gd false) (lv []) cd p [] :: fr) s2) (fun _ _ => False) s1) (fun _ _ => False) s)
    (hs : ∀ x, foldedSetIterable iter env x = pure x := by intro _; rfl) : Sg (model P w) B Z cd ((exec (.For tg iter body [] pos) env).wrap K J gd lv) fr s := by
  subst ho
  rw [exec_For]
  refine sg_bw (wpAny_standAt ?_)
  refine sg_bw (wpAny_mono h (fun x s1 h1 => ?_) fun _ _ f => f.elim)
  refine sg_bw (wpAny_of_eq (hs x) ?_)
  refine sg_bw (wpAny_standAt ?_)
  refine sg_bw (wpAny_holding ?_)
  refine wpAny_mono h1 (fun it s2 h2 => ?_) fun _ _ f => f.elim
  show Sg (model P w) B Z cd (.call (.forLoop tg it body [] env) none (gd false) (lv []) _) fr s2
  exact sg_call fun p => h2 _ p rfl
/-- what follows a turn of the loop -/
def turnK (c : Code) : Flow → Sem PySem.Fin
  | .next => .pure (.again c)
  | .cont => .pure (.again c)
  | .brk => .pure (.done .next)
  | .ret v => .pure (.done (.ret v))
theorem sg_turn {it : Value} {x : Str} {px : Pos} {k : Result → Sem PySem.Fin} {g : Bool} {l kp : List Value} {p1 : Pos} {c1 : Code} {fr1 : List Frame} (ho : B.over (.forLoop (.Name x px) it body [] env) fr = A) (hf : fr = .ret k none g l c1 p1 kp :: fr1)
    (h : wpAny (model P w) A (pyNext it) (fun r s1 => match r with
      | none => Sg (model P w) B Z c1 (k (.ok .next)) fr1 s1
      | some v => wpAny (model P w) A (letOwnedTupleGo (.Name x px) it v) (fun _ s1 => wpAny (model P w) A (assign (.Name x px) env v) (fun _ s2 => ∀ J : Value → Sem PySem.Fin, Sg (model P w) B Z (.forLoop (.Name x px) it body [] env) ((execs body env).wrap (turnK (.forLoop (.Name x px) it body [] env)) J id id) fr s2) (fun _ _ => False) s1) (fun _ _ => False) s1) (fun _ _ => False) s) :
    Sg (model P w) B Z (.forLoop (.Name x px) it body [] env) ((model P w).den (.forLoop (.Name x px) it body [] env)) fr s := by
  subst ho
  show Sg (model P w) B Z _ ((forTurn (.Name x px) it body [] env).onRaise (fun e => do noteFrame e env; theTreesLotGoes e)) fr s
  rw [Sem.onRaise_eq_wrap]
  simp only [forTurn]
  refine sg_bw (wpAny_standAt ?_)
  refine sg_bw (wpAny_onRaise ?_)
  refine wpAny_mono h (fun r s1 h1 => ?_) fun _ _ f => f.elim
  cases r with
  | none =>
    show Sg (model P w) B Z _ (.pure (.again (.block [] env))) fr s1
    refine sg_again rfl ?_
    show Sg (model P w) B Z (.block [] env) (leafOf (.ok .next)) fr s1
    rw [hf]
    exact sg_pop _ h1
  | some v =>
    refine sg_bw (wpAny_mono h1 (fun _ s1 h1 => ?_) fun _ _ f => f.elim)
    refine sg_bw (wpAny_mono h1 (fun _ s2 h2 => ?_) fun _ _ f => f.elim)
    rw [Sem.bind_eq_wrap', Sem.wrap_wrap]
    refine Eq.mp ?_ (h2 fun e => (Sem.raise e : Sem PySem.Fin).wrap .pure (fun e => (do noteFrame e env; theTreesLotGoes e : Sem Unit).bind fun _ => .raise e) id id)
    congr 1
    exact Sem.wrap_congr _ _ _ (fun f => by cases f <;> rfl) fun _ => rfl
end

theorem sg_func {P : Program} {w : World} {B : Around} {Z : End → Shared → Prop} {fr : List Frame} {s : Shared} {env : Env} {body : List Stmt}
    (h : ∀ J : Value → Sem PySem.Fin, Sg (model P w) B Z (.func body env) ((execs body env).wrap (fun fl => .pure (.done (.ret (match fl with | .ret v => v | _ => .none)))) J id id) fr s) : Sg (model P w) B Z (.func body env) ((model P w).den (.func body env)) fr s := by
  show Sg (model P w) B Z _ (.point [] fun _ => ((execs body env).onRaise (leaving env)) >>= _) fr s
  refine sg_pt ?_
  rw [Sem.onRaise_eq_wrap, Sem.bind_eq_wrap', Sem.wrap_wrap]
  rw [Sem.wrap_congr (execs body env) _ _ (K' := fun fl => .pure (.done (.ret (match fl with | .ret v => v | _ => .none)))) (H' := _) (fun f => by cases f <;> rfl) fun _ => rfl]
  exact h _
/-! ### a generator def -/
structure GPr (P : Program) (w : World) (K : PySem.W.Frag) (mg : Str → Option Value) (base : Heap) (k : Nat) (f : Addr) (fd : FuncData) (ps : List Str) (sp : List V → Hp → List (List V) → Prop) : Prop where
  run : ∀ (A : Around) (outer : List Env) (s : Shared) (H : Hp) (args : Args) (us : List Value) (vs : List V) (ys : List (List V)), A.handled = none → A.depth < recursionLimit → Env0 P w K mg base A outer s H → BindsTo s fd args (ps.zip us) → Vals vs us → sp vs H ys →
    codeAny (model P w) A (.call (.ref f) args) (fun r s' => match r with | .ok (.ret u) => GNew P w K mg base k outer H s ys u s' | _ => False) s
section
variable {P : Program} {w : World} {K : PySem.W.Frag} {mg : Str → Option Value} {base : Heap} {k : Nat} {f : Addr} {name qual : Str} {params : Arguments} {body : List Stmt} {scope : Scope} {dV kV doc pm cdv ct oc : Value} {an od : Option Addr} {osl : Array (Option Value)} {N ps : List Str} {sp : List V → Hp → List (List V) → Prop}
theorem gpr_of (lk : K.lookup f = some ⟨oc, od, .func (PySem.W.fnOf name qual params body scope dV kV doc pm an cdv ct), osl⟩) (hcd : PySem.W.codeIn K cdv qual = true) (S : GScope N ps scope) (nk : ∀ (L : Addr) (x : Str), (envOfC qual scope L f cdv).kindOf x ≠ some .cell ∧ (envOfC qual scope L f cdv).kindOf x ≠ some .free)
    (hcl : ∀ L : Addr, cellsFrom (L + 1) scope.names [] = []) (hlen : ∀ vs H ys, sp vs H ys → vs.length = ps.length)
    (hbody : ∀ (Ac : Around) (outer : List Env) (L a : Addr) (g : Nat) (oa : Obj) (vs : List V) (ys : List (List V)) (Hc w0H : Hp) (w0 : Shared), Room k Ac → Ac.frames = some outer → sp vs Hc ys → ExtH Hc w0H → GFr base (envOfC qual scope L f cdv) outer → L < a → (∀ h : Heap, h.get? a = some oa → h.IsGen a g) → w0.gens[g]? = some .running → HOk P w w0H w0.heap →
      Sm P w K mg base N (envOfC qual scope L f cdv) outer (Ac.in1.deeper (envOfC qual scope L f cdv)) w0 w0H [L, a] [(a, oa)] (start N vs) w0H w0 → ∀ J : Value → Sem PySem.Fin,
      Sg (model P w) Ac.in1 (HZ P w K mg base Ac outer L a g ys [L, a] w0 w0H) (.func body (envOfC qual scope L f cdv)) ((execs body (envOfC qual scope L f cdv)).wrap (fun fl => .pure (.done (.ret (match fl with | .ret v => v | _ => .none)))) J id id) [] w0) :
    GPr P w K mg base k f (PySem.W.fnOf name qual params body scope dV kV doc pm an cdv ct) ps sp := by
  refine ⟨fun A outer s H args us vs ys hh hdep e0 hb r hsp => ?_⟩
  have hl := hlen _ _ _ hsp
  have KX : K.In s.heap := e0.mod.kin.keeps fun b o e => (e0.bs b o e).1
  have nl : s.heap.NoLimit := e0.mod.nolimit.keeps fun b o e => (e0.bs b o e).1
  have kinds : ∀ y ∈ ps.zip us, scope.names.lookup y.1 = some .local ∨ (scope.names.lookup y.1 = some .cell ∧ ((cellsFrom (s.heap.objs.size + 1) scope.names []).lookup y.1).isSome = true) := fun ⟨n, v⟩ hy =>
    (S.par n (List.of_mem_zip hy).1).imp id fun q => ⟨q, PySem.W.cellsFrom_some _ _ _ (.inl q)⟩
  refine codeAny_call_generator hdep (KX _ _ lk) rfl S.co S.gen rfl (PySem.W.codeRec_of KX hcd) ?_
  refine hb _ _ _ _ ?_
  refine wpAny_newFunctionEnv_cells S.kind kinds fun env he s1 x => ?_
  subst he
  have I1 : L2.Inv (gcxOf P w K mg base N qual scope f cdv A outer s H (fun _ _ _ => False) []) [] (start N vs) H s1 := inv_startG S hh e0 hl r x
  have L1 : GLoc N (envOfC qual scope s.heap.objs.size f cdv) (start N vs) s1.heap := I1.loc
  have kp : ∀ b o, s.heap.get? b = some o → s1.heap.get? b = some o := x.toInCall.keep
  have sz : s.heap.objs.size < s1.heap.objs.size := x.toInCall.ns.lt
  obtain ⟨h1, tk, es1, hk1⟩ := x.done
  have og : s1.os = s.os ∧ s1.gens = s.gens := by rw [es1]; exact ⟨rfl, rfl⟩
  refine ⟨nl.keeps kp, ?_⟩
  have main : ∀ (go : Obj) (nm qn : Value) (tk2 : Nat), go.cls = .type "generator" → go.data = .fields #[.int s1.gens.size 0, nm, qn] → go.slots = #[] → (∀ h : Heap, (h.push go).get? h.objs.size = some go) →
      GNew P w K mg base k outer H s ys (.ref s1.heap.objs.size) { s1 with gens := s1.gens.push (.fresh (.func body (envOfC qual scope s.heap.objs.size f cdv))), toks := tk2, heap := s1.heap.push go } := by
    intro go nm qn tk2 c1 c2 c3 c4
    have isg : ∀ h : Heap, h.get? s1.heap.objs.size = some go → h.IsGen s1.heap.objs.size s1.gens.size := fun h e => ⟨go, nm, qn, e, c1, c2, c3⟩
    have top := c4 s1.heap
    have kp2 : ∀ b o, s1.heap.get? b = some o → (s1.heap.push go).get? b = some o := fun b o e => Heap.get?_push_of_some _ e
    obtain ⟨m1, ⟨ob, es, ep, eo, ed, erest⟩, vals⟩ := L1
    refine ⟨⟨s1.heap.objs.size, s.heap.objs.size, s1.gens.size, _, rfl, Nat.le_refl _, Nat.le_of_lt sz, isg _ top, Array.getElem?_push_size .., ⟨ob, kp2 _ _ eo, fun v q => by rw [ed] at q; cases q⟩, ?_⟩, og.1, AllBare.push (by rw [og.2]; exact e0.bare) rfl, fun b o e => kp2 b o (kp b o e)⟩
    · intro Aw s2 H2 hrw hfr hgs W
      have F : GFr base (envOfC qual scope s.heap.objs.size f cdv) outer := ⟨S.kind, rfl, rfl, fun y => by show (cellsFrom (s.heap.objs.size + 1) scope.names []).lookup y = none; rw [hcl]; rfl, fun y => nk _ y, rfl, fun b hb => by
        obtain ⟨_, o, eo, _⟩ := e0.funs.mem hb
        exact Heap.lt_size eo, e0.bsz⟩
      have kL := W.keep _ List.mem_cons_self ob (kp2 _ _ eo)
      have kA := W.keep _ (List.mem_cons_of_mem _ List.mem_cons_self) go top
      have e2 : Env0 P w K mg base Aw outer (s2.setGen s1.gens.size .running) H2 := ⟨W.env0.frames, W.env0.mod, W.env0.bs, W.env0.bsz, W.env0.funs, W.env0.frf, W.env0.hok, allBare_setGen W.env0.bare rfl⟩
      refine sg_func fun J => ?_
      refine hbody Aw outer s.heap.objs.size s1.heap.objs.size s1.gens.size go vs ys H H2 (s2.setGen s1.gens.size .running) hrw hfr hsp W.ext F sz isg (setGen_at (Array.getElem?_eq_some_iff.mp hgs).1) W.env0.hok ?_ J
      refine sm_start F e2 hrw.hd (Around.frames_deeper (show Aw.in1.frames = some outer from hfr)) ⟨m1, ⟨ob, es, ep, kL.1, ed, erest⟩, fun i y v z1 z2 z3 => let ⟨u, ru, lk2⟩ := vals i y v z1 z2 z3; ⟨u, ru, lk2.imp id fun z => (z.1.elim (fun q => absurd q (nk _ y).1) fun q => absurd q (nk _ y).2)⟩⟩ kL.2 I1.len List.mem_cons_self fun p hp => ?_
      rw [List.mem_singleton.mp hp]
      exact ⟨kA.1, kA.2, sz, fun v q => by rw [c2] at q; cases q⟩
  exact main _ _ _ _ rfl rfl rfl fun h => Heap.get?_push_size _ rfl
/-- f(e, ..) of a generator def -/
theorem pgn_call {X : L2.Cx} {k : Nat} {f : Addr} {fd : FuncData} {ps : List Str} {sp : List V → Hp → List (List V) → Prop} {e : Expr} {es : List Expr} {t : TA} {x : Str} {p pos : Pos} (F : GPr X.prog X.w X.K X.mg X.base k f fd ps sp) (hh : X.A.handled = none) (hd : X.A.depth < recursionLimit)
    (hl : ∀ vs H ys, sp vs H ys → vs.length = ps.length) (hg : Gl X x) (hm : X.mg x = some (.ref f)) (hk : PySem.W.keepIn X.K (.ref f) = true) (hb : Binds X.K fd ps []) (ha : PA X (e :: es) t)
    (hdb : (x == ("__debug__" : Str)) = false := by decide) (he : starEach (e :: es) X.env = (false, eval e X.env) :: starEach es X.env := by rfl) (hpl : (backTo pos (starEach es X.env)).any (·.1) = false := by rfl) :
    PGn X k (.Call (.Name x p) (e :: es) [] pos) fun σ H R => t σ H fun vs H1 => ∃ ys, sp vs H1 ys ∧ R ys H1 := by
  refine ⟨fun pins s σ H R I h => ?_⟩
  refine wpAny_Call_Name_kw (ld_glob I hg hm ?_ hdb)
  refine PySem.W.callWith_K (h₀ := X.base) I.ok.mod.kin hk ?_ he hpl
  refine wpAny_mono (wpAny_grow (n := s.heap.objs.size) (Nat.le_refl _) (ha.run pos pins s σ H _ I h)) (fun us s1 z => ?_) fun _ _ z => z.2
  obtain ⟨hz, vs, H1, I1, r, ys, h1, h2⟩ := z
  refine ⟨I1.kIn, ?_⟩
  have hlen : (us ++ []).length = ps.length := by rw [List.append_nil, ← r.length]; exact hl _ _ _ h1
  refine wpAny_call (codeAny_mono (F.run X.A X.stack s1 H1 ⟨us, []⟩ (us ++ []) vs ys hh hd I1.env0 (hb s1 us I1.kIn hlen) (by rw [List.append_nil]; exact r) h1) fun r s2 q => ?_)
  cases r with
  | error e => exact q.elim
  | ok fl =>
    cases fl with
    | ret u => exact ⟨H1, s1, ys, hz, I1, q, h2⟩
    | next => exact q.elim
    | brk => exact q.elim
    | cont => exact q.elim
end
end L3

set_option Elab.async false
set_option linter.all false
set_option maxRecDepth 100000
set_option maxHeartbeats 1000000
/-! C75: within a generator's body: `for x in g: yield e` over another generator -/
namespace L3
open PySem PySem.Spec PyProof.Rows GenW L2
open Sem (wp)

/-- what the inner generator has of its own, seen from the outer one's stretch -/
def InOwn (lim : Addr) (own : List Addr) (w0 : Shared) (H : Hp) (s : Shared) (ownI : List Addr) : Prop :=
  ∀ b ∈ ownI, lim ≤ b ∧ (b ∈ own ∨ w0.heap.objs.size ≤ b) ∧ H b = none ∧ ∃ o, s.heap.get? b = some o ∧ ∀ v, o.data ≠ .cell v
section
variable {P : Program} {w : World} {K : PySem.W.Frag} {mg : Str → Option Value} {base : Heap} {N : List Str} {env : Env} {outer : List Env} {A Ac : Around} {w0 s : Shared} {H0 H : Hp} {own ownI : List Addr} {ip ipR : List (Addr × Obj)} {σ : L2.St} {lim : Addr}
theorem InOwn.fp (S : Sm P w K mg base N env outer A w0 H0 own ipR σ H s) (F : GFr base env outer) (hR : ∀ p ∈ ipR, env.locals < p.1 ∧ p.1 < lim) (hl : env.locals < lim) (h : InOwn lim own w0 H s ownI) :
    ∀ b ∈ ownI, FpOk (gcx P w K mg base N env outer A w0 H0) (oth w0 H0 own env.locals ++ ipR) H b := fun b hb => by
  obtain ⟨h1, h2, h3, o, h4, _⟩ := h b hb
  have lb : env.locals < b := Nat.lt_of_lt_of_le hl h1
  refine ⟨h3, Nat.ne_of_gt lb, fun z => absurd (F.low b z) (Nat.not_lt.mpr (Nat.le_of_lt lb)), .inr ?_, fun x c z => ?_, fun p hp z => ?_⟩
  · show (below w0.heap env.locals).objs.size ≤ b
    rw [below_size]
    exact Nat.le_trans (Nat.min_le_left _ _) (Nat.le_of_lt lb)
  · have z' : env.cells.lookup x = some c := z
    rw [F.nc x] at z'; cases z'
  · have hp' : p ∈ oth w0 H0 own env.locals ++ ipR := by simpa [gcx] using hp
    rcases List.mem_append.mp hp' with y | y
    · obtain ⟨_, y2, _, y4, _⟩ := of_oth y
      rcases h2 with q | q
      · exact y2 (by rw [z]; exact q)
      · exact absurd (Heap.lt_size y4) (by rw [z]; exact Nat.not_lt.mpr q)
    · exact absurd (hR p y).2 (by rw [z]; exact Nat.not_lt.mpr h1)
theorem Sm.young (F : GFr base env outer) (hl : env.locals < lim) : Young (gcx P w K mg base N env outer A w0 H0) lim where
  s0 := by
    show (below w0.heap env.locals).objs.size ≤ lim
    rw [below_size]
    exact Nat.le_trans (Nat.min_le_left _ _) (Nat.le_of_lt hl)
  loc := hl
  cel := fun x c e => by
    have e' : env.cells.lookup x = some c := e
    rw [F.nc x] at e'; cases e'
theorem run_set {s : Shared} {g i : Nat} {x : GenState} (hx : s.gens[g]? ≠ some .running) (h : s.gens[i]? = some .running) : (s.setGen g x).gens[i]? = some .running := by
  show (s.gens.setIfInBounds g x)[i]? = _
  rw [Array.getElem?_setIfInBounds]
  by_cases e : g = i
  · subst e; exact absurd h hx
  · rw [if_neg e]; exact h
theorem sus_set {s : Shared} {g i : Nat} {x y : GenState} (hg : s.gens[g]? = some .running) (h : s.gens[i]? = some x) (hx : isSus x = true) : (s.setGen g y).gens[i]? = some x := by
  show (s.gens.setIfInBounds g y)[i]? = _
  rw [Array.getElem?_setIfInBounds]
  by_cases e : g = i
  · subst e; rw [hg] at h; cases h; cases hx
  · rw [if_neg e]; exact h
end

section
variable {P : Program} {w : World} {K : PySem.W.Frag} {mg : Str → Option Value} {base : Heap} {N : List Str} {env : Env} {outer : List Env} {Ac : Around} {ipR : List (Addr × Obj)} {lim a a' lo' : Addr} {g g' : Nat}
/-- for x in g: yield ye -/
theorem inner_loop {x : Str} {px yp ypos p3 : Pos} {ye : Expr} {i : Nat} {tl : List V} {rest : List (List V)} {k3 : Result → Sem PySem.Fin} {cd1 : Code} {fr1 : List Frame} {gd1 : Bool → Bool} {l3 kp3 : List Value} (Gd : L2.St → Hp → Prop) (Pz : List V → Prop)
    (F : GFr base env outer) (hh : Ac.handled = none) (hfr : Ac.frames = some outer) (hdep : (Ac.in1.deeper env).depth < recursionLimit) (hR : ∀ p ∈ ipR, env.locals < p.1 ∧ p.1 < lim) (ha : ∃ oa, (a, oa) ∈ ipR ∧ ∀ h : Heap, h.get? a = some oa → h.IsGen a g)
    (hlo : lim ≤ lo') (hiN : i < N.length) (hco : env.scope.isCoroutine = false) (hin : interactive env = false) (hgg : ∀ σ H H', Gd σ H → ExtH H H' → Gd σ H') (hgs : ∀ σ H v, Gd σ H → Gd (σ.set i v) H)
    (hg : ∀ w0 H0, PG (gcx P w K mg base N env outer (Ac.in1.deeper env) w0 H0) (.Name x px) (gName i))
    (hy : ∀ w0 H0, ∃ te, PE (gcx P w K mg base N env outer (Ac.in1.deeper env) w0 H0) ye te ∧ ∀ σ H b z, Gd σ H → σ[i]? = some (some (.ref b)) → H b = some (.lst z) → Pz z → GvL te σ H fun _ ws => ws = tl ++ z)
    (pl : Pl Ac.in1 (Ac.in1.deeper env) cd1 fr1 gd1)
    (cont : ∀ w0 H0 own σ H s, Sm P w K mg base N env outer (Ac.in1.deeper env) w0 H0 own ipR σ H s → env.locals ∈ own → (∀ p ∈ ipR, p.1 ∈ own ∨ w0.heap.objs.size ≤ p.1) → HOk P w H0 w0.heap → w0.gens[g]? = some .running → Gd σ H →
      Sg (model P w) Ac.in1 (HZ P w K mg base Ac outer env.locals a g rest own w0 H0) cd1 (k3 (.ok .next)) fr1 s) :
    ∀ (zs : List (List V)), (∀ z ∈ zs, Pz z) → ∀ (w0 : Shared) (H0 : Hp) (own : List Addr) (σ : L2.St) (H : Hp) (s : Shared) (ownI : List Addr) (xg : GenState), Sm P w K mg base N env outer (Ac.in1.deeper env) w0 H0 own ipR σ H s → env.locals ∈ own →
      (∀ p ∈ ipR, p.1 ∈ own ∨ w0.heap.objs.size ≤ p.1) → HOk P w H0 w0.heap → w0.gens[g]? = some .running → Gd σ H → s.heap.IsGen a' g' → s.gens[g']? = some xg → (isSus xg = true ∨ ∃ c, xg = .fresh c) →
      Hand P w K mg base (Ac.in1.deeper env) (env :: outer) lo' a' g' zs ownI xg s H → InOwn lim own w0 H s ownI → a' ∈ ownI →
      Sg (model P w) Ac.in1 (HZ P w K mg base Ac outer env.locals a g (zs.map (fun z => tl ++ z) ++ rest) own w0 H0) (.forLoop (.Name x px) (.ref a') [.Expr (.Yield (some ye) yp) ypos] [] env)
        ((model P w).den (.forLoop (.Name x px) (.ref a') [.Expr (.Yield (some ye) yp) ypos] [] env)) (.ret k3 none (gd1 false) l3 cd1 p3 kp3 :: fr1) s := by
  obtain ⟨oa, hoa, hga⟩ := ha
  have hLl : env.locals < lim := Nat.lt_trans (hR _ hoa).1 (hR _ hoa).2
  have pl3 : ∀ it, Pl Ac.in1 (Ac.in1.deeper env) (.forLoop (.Name x px) it [.Expr (.Yield (some ye) yp) ypos] [] env) (.ret k3 none (gd1 false) l3 cd1 p3 kp3 :: fr1) id := fun it => pl.loop rfl rfl
  have hha : (Ac.in1.deeper env).handled = none := hh
  have hfa : (Ac.in1.deeper env).frames = some (env :: outer) := Around.frames_deeper (show Ac.in1.frames = some outer from hfr)
  intro zs
  induction zs with
  | nil =>
    intro hpz w0 H0 own σ H s ownI xg S hL hip hk0 hrun gdh hg' hx hxs hand hown hai
    have nr : s.gens[g']? ≠ some .running := fun z => by
      rw [hx] at z
      rcases hxs with y | ⟨c, y⟩ <;> cases z
      · cases y
      · cases y
    refine sg_turn (pl3 _).over rfl ?_
    have Yo : Young (gcx P w K mg base N env outer (Ac.in1.deeper env) w0 H0) lo' := Sm.young F (Nat.lt_of_lt_of_le hLl hlo)
    refine wpAny_mono (wpAny_grow S.siz (next_go (E := fun _ _ => False) (Q := fun rr s4 => rr = none ∧ ∃ H4, L2.Inv (gcx P w K mg base N env outer (Ac.in1.deeper env) w0 H0) (oth w0 H0 own env.locals ++ ipR) σ H4 s4 ∧ ExtH H0 H4 ∧ (∀ i : Nat, w0.gens[i]? = some GenState.running → s4.gens[i]? = some GenState.running) ∧ Gd σ H4) hha hdep S.inv.nolimit hg' hx hand fun e s4 z => ?_)) (fun rr s4 z => ?_) fun _ _ f => f.2.elim
    · obtain ⟨he, H4, wt⟩ := z
      have I4 := went_inv (Inv.setG (g := g') (x := .running) S.inv rfl) Yo wt (hown.fp S F hR hLl)
      have r4 : ∀ i : Nat, w0.gens[i]? = some GenState.running → (s4.setGen g' .finished).gens[i]? = some GenState.running := fun i hi => by
        have h1 : (s.setGen g' .running).gens[i]? = some GenState.running := run_set nr (S.run i hi)
        have h2 := wt.run i h1
        by_cases e : g' = i
        · subst e; exact absurd (S.run _ hi) nr
        · show (s4.gens.setIfInBounds g' _)[i]? = _
          rw [Array.getElem?_setIfInBounds, if_neg e]; exact h2
      have fin : ∀ h2 : Heap, (∀ b o, s4.heap.get? b = some o → h2.get? b = some o) → ∃ H5, L2.Inv (gcx P w K mg base N env outer (Ac.in1.deeper env) w0 H0) (oth w0 H0 own env.locals ++ ipR) σ H5 { s4.setGen g' .finished with heap := h2 } ∧ ExtH H0 H5 ∧ (∀ i : Nat, w0.gens[i]? = some GenState.running → (s4.setGen g' .finished).gens[i]? = some GenState.running) ∧ Gd σ H5 := fun h2 kk =>
        ⟨H4, (Inv.setG (g := g') (x := .finished) I4 rfl).kept (t' := s4.toks) kk, S.ext.trans wt.ext, r4, hgg _ _ _ gdh wt.ext⟩
      rcases he with rfl | rfl
      · exact ⟨rfl, .inl rfl, fun h2 kk => ⟨rfl, fin h2 kk⟩⟩
      · exact ⟨rfl, .inr rfl, fun h2 kk => ⟨rfl, fin h2 kk⟩⟩
    · obtain ⟨hz, rfl, H4, I4, e4, r4, gd4⟩ := z
      exact cont w0 H0 own σ H4 s4 ⟨I4, e4, r4, hz⟩ hL hip hk0 hrun gd4
  | cons z zs ih =>
    intro hpz w0 H0 own σ H s ownI xg S hL hip hk0 hrun gdh hg' hx hxs hand hown hai
    have nr : s.gens[g']? ≠ some .running := fun z => by
      rw [hx] at z
      rcases hxs with y | ⟨c, y⟩ <;> cases z
      · cases y
      · cases y
    have lt3 : g' < s.gens.size := (Array.getElem?_eq_some_iff.mp hx).1
    have Yo : Young (gcx P w K mg base N env outer (Ac.in1.deeper env) w0 H0) lo' := Sm.young F (Nat.lt_of_lt_of_le hLl hlo)
    refine sg_turn (pl3 _).over rfl ?_
    refine wpAny_mono (next_go (E := fun _ _ => False) (Q := fun rr s4 => ∃ b own1 H4 x4, rr = some (.ref b) ∧ Sm P w K mg base N env outer (Ac.in1.deeper env) w0 H0 own ipR σ H4 s4 ∧ H4 b = some (.lst z) ∧ Gd σ H4 ∧ a' ∈ own1 ∧ s4.heap.IsGen a' g' ∧
      s4.gens[g']? = some x4 ∧ isSus x4 = true ∧ InOwn lim own w0 H4 s4 own1 ∧
      ∀ s2 H2, Woke P w K mg base (Ac.in1.deeper env) (env :: outer) own1 s4 H4 s2 H2 → Hand P w K mg base (Ac.in1.deeper env) (env :: outer) lo' a' g' zs own1 x4 s2 H2) hha hdep S.inv.nolimit hg' hx hand fun e s4 z => ?_) (fun rr s4 z => ?_) fun _ _ f => f.elim
    · obtain ⟨v, g0, l, kk, cc, pp, fr, b, own1, H4, rfl, hq, rfl, hb3, t4, wt, ao, g4, cn⟩ := z
      refine ⟨hq, ?_⟩
      have I3 := Inv.setG (g := g') (x := .running) S.inv rfl
      have fp := hown.fp S F hR hLl
      have I4 := went_inv I3 Yo wt fp
      have lt4 : g' < s4.gens.size := (Array.getElem?_eq_some_iff.mp (wt.run g' (setGen_at lt3))).1
      have r4 : ∀ i : Nat, w0.gens[i]? = some GenState.running → (s4.setGen g' (End.susp (.ref b) g0 l kk cc pp fr).genState).gens[i]? = some GenState.running := fun i hi => by
        have h2 := wt.run i (run_set nr (S.run i hi))
        by_cases e : g' = i
        · subst e; exact absurd (S.run _ hi) nr
        · show (s4.gens.setIfInBounds g' _)[i]? = _
          rw [Array.getElem?_setIfInBounds, if_neg e]; exact h2
      have lsz : lim ≤ s.heap.objs.size := by
        obtain ⟨o', _, _, eo', _⟩ := hg'
        exact Nat.le_trans (hown a' hai).1 (Nat.le_of_lt (Heap.lt_size eo'))
      have wsz : w0.heap.objs.size ≤ s.heap.objs.size := S.siz
      refine ⟨b, own1, H4, _, rfl, ⟨Inv.setG I4 (End.bare_of_quiet hq), S.ext.trans wt.ext, r4, Nat.le_trans S.siz wt.siz⟩, t4, hgg _ _ _ gdh wt.ext, ao, g4, setGen_at lt4, rfl, fun c hc => ?_, cn⟩
      obtain ⟨y1, y2, y3⟩ := wt.own c hc
      rcases y1 with y | y
      · obtain ⟨q1, q2, _⟩ := hown c y
        exact ⟨q1, q2, y2, y3⟩
      · exact ⟨Nat.le_trans lsz y, .inr (Nat.le_trans wsz y), y2, y3⟩
    · obtain ⟨b, own1, H4, x4, rfl, S4, t4, gd4, ao, g4, gs4, sx, in4, cn⟩ := z
      have o4 : ∀ b ∈ own1, ∃ o, s4.heap.get? b = some o ∧ ∀ v, o.data ≠ .cell v := fun b hb => (in4 b hb).2.2.2
      have S4p := S4.add (in4.fp S4 F hR hLl) o4
      have hil : i < σ.length := by rw [S.inv.len]; exact hiN
      refine wpAny_pure ?_
      refine wpAny_mono (Sm.pg (hg w0 H0) S4p (v := .ref b) (u := .ref b) (E := fun _ _ => False) rfl (R := fun σ5 H5 => σ5 = σ.set i (some (.ref b)) ∧ H5 = H4) ⟨S4.ext, rfl, rfl⟩) (fun _ s5 z5 => ?_) fun _ _ f => f
      obtain ⟨σ5, H5, S5, ⟨e51, e52⟩, k5⟩ := z5
      subst e51 e52
      intro J
      obtain ⟨te, hye, hyv⟩ := hy w0 H0
      refine sg_cons (sg_put (pl3 (.ref a')).split ?_ hco hin)
      rw [(pl3 _).over]
      refine wpAny_mono (Sm.pe hye S5 (E := fun _ _ => False) (R := fun v H6 => ∃ p', v = .ref p' ∧ H5 p' = none ∧ H6 p' = some (.lst (tl ++ z)) ∧ ExtH H5 H6) (hyv _ _ b z (hgs _ _ _ gd4) (by simp [hil]) t4 (hpz z List.mem_cons_self) H5 (Same.refl H5) _ fun p' vs M' H' gr n1 _ t1 e1 =>
        ⟨S5.ext.trans gr.hh, p', rfl, n1, by rw [t1, e1], gr.hh⟩)) (fun u s6 z6 => ?_) fun _ _ f => f.elim
      obtain ⟨v6, H6, S6, r6, ⟨p', rfl, n6, t6, e6⟩, k6⟩ := z6
      obtain rfl : u = Value.ref p' := r6
      intro l k p hk
      have hoa2 : (a, oa) ∈ ipR ++ pinsAt own1 s4.heap := List.mem_append_left _ hoa
      have mo : ∀ b o, b ∈ own1 → s4.heap.get? b = some o → (b, o) ∈ ipR ++ pinsAt own1 s4.heap := fun b o hb e => List.mem_append_right _ (mem_pinsAt hb e)
      have r6 : s6.gens[g]? = some .running := S6.run g hrun
      have lt6 : g < s6.gens.size := (Array.getElem?_eq_some_iff.mp r6).1
      refine ⟨.ref p', _, l, k, _, p, _, p', env.locals :: (ipR.map (·.1) ++ own1), H6, rfl, ?_, rfl, ?_, t6, ?_, ?_, hga _ (S6.at hoa2).1, ?_⟩
      · have q := (pl3 (.ref a')).guard
        simp only [End.quiet, id, Bool.false_or, q, Bool.not_false]
      · cases q : H0 p' with
        | none => rfl
        | some y => rw [S5.ext p' y q] at n6; cases n6
      · refine S6.went F hL (fun c hc => ?_) (fun q hq => ?_) hk0
        · rcases List.mem_cons.mp hc with y | y
          · exact .inl y
          · rcases List.mem_append.mp y with y | y
            · obtain ⟨q, hq, rfl⟩ := List.mem_map.mp y
              exact .inr ⟨q.2, List.mem_append_left _ hq⟩
            · obtain ⟨o, eo, _⟩ := o4 c y
              exact .inr ⟨o, mo c o y eo⟩
        · rcases List.mem_append.mp hq with y | y
          · exact hip q y
          · exact (in4 _ (of_pinsAt y).1).2.1
      · exact List.mem_cons_of_mem _ (List.mem_append_left _ (List.mem_map.mpr ⟨(a, oa), hoa, rfl⟩))
      · intro s2 H2 W
        have ino : ∀ b ∈ own1, b ∈ env.locals :: (ipR.map (·.1) ++ own1) := fun b hb => List.mem_cons_of_mem _ (List.mem_append_right _ hb)
        have ini : ∀ q ∈ ipR, q.1 ∈ env.locals :: (ipR.map (·.1) ++ own1) := fun q hq => List.mem_cons_of_mem _ (List.mem_append_left _ (List.mem_map.mpr ⟨q, hq, rfl⟩))
        have Sw := S6.wake F hha hfa W List.mem_cons_self fun q hq => by
          rcases List.mem_append.mp hq with y | y
          · exact ⟨ini q y, (hR q y).1⟩
          · exact ⟨ino _ (of_pinsAt y).1, Nat.lt_of_lt_of_le hLl (in4 _ (of_pinsAt y).1).1⟩
        have keep : ∀ b ∈ own1, ∀ o, s4.heap.get? b = some o → (s2.setGen g .running).heap.get? b = some o ∧ H2 b = none := fun b hb o e => W.keep b (ino b hb) o (S6.at (mo b o hb e)).1
        have chain : ∀ (j : Nat) (y : GenState), s4.gens[j]? = some y → isSus y = true → (s2.setGen g .running).gens[j]? = some y := fun j y e hy => by
          have e6' := k6.gen j y (k5.gen j y e (isOld_sus hy)) (isOld_sus hy)
          have e2 := W.gens j y (sus_set r6 e6' hy) hy
          show (s2.gens.setIfInBounds g _)[j]? = _
          rw [Array.getElem?_setIfInBounds, if_neg (fun z => by subst z; rw [r6] at e6'; cases e6'; cases hy)]
          exact e2
        have lt2 : g < s2.gens.size := (Array.getElem?_eq_some_iff.mp (W.gens g _ (setGen_at lt6) rfl)).1
        show Sg (model P w) Ac.in1 _ _ (k (.send .none)) _ _
        refine hk _ _ ?_
        show Sg (model P w) Ac.in1 _ _ (.pure (.again _)) _ _
        refine sg_again rfl (ih (fun y hy => hpz y (List.mem_cons_of_mem _ hy)) (s2.setGen g .running) H2 (env.locals :: (ipR.map (·.1) ++ own1)) _ H2 (s2.setGen g .running) own1 x4 (Sw.drop fun q hq => List.mem_append_left _ hq) List.mem_cons_self (fun q hq => .inl (ini q hq)) W.env0.hok (setGen_at lt2)
          (hgg _ _ _ (hgs _ _ _ gd4) (e6.trans W.ext)) ?_ (chain _ _ gs4 sx) (.inl sx) (cn _ H2 ⟨⟨Sw.inv.env0, keep, e6.trans W.ext⟩, chain⟩) (fun b hb => ?_) ao)
        · obtain ⟨o, nm, qn, eo, y⟩ := g4
          exact ⟨o, nm, qn, (keep a' ao o eo).1, y⟩
        · obtain ⟨o, eo, no⟩ := o4 b hb
          exact ⟨(in4 b hb).1, .inl (ino b hb), (keep b hb o eo).2, o, (keep b hb o eo).1, no⟩
/-- range(e): a new iterator -/
theorem run_range {X : L2.Cx} {e : Expr} {ta : TA} {p pos : Pos} {pins : List (Addr × Obj)} {s : Shared} {σ : L2.St} {H : Hp} {R : Nat → Hp → Prop} (hg : Gl X "range") (hm : X.mg "range" = none) (ha : PA X [e] ta) (I : L2.Inv X pins σ H s)
    (t : ta σ H fun vs H1 => ∃ j : Int, vs = [.int j] ∧ -(2 ^ 62) ≤ j ∧ j < 2 ^ 62 ∧ R j.toNat H1) (hs : starEach [e] X.env = [(false, eval e X.env)] := by rfl) :
    wpAny (model X.prog X.w) X.A (eval (.Call (.Name "range" p) [e] [] pos) X.env) (fun v s1 => wpAny (model X.prog X.w) X.A (pyIter v) (fun u s2 => ∃ it n H1, u = .ref it ∧ s.heap.objs.size ≤ it ∧ L2.Inv X pins σ H1 s2 ∧ IsRangeIter s2.heap it 0 (n : Nat) 1 ∧ H1 it = none ∧ R n H1) X.xe s1) X.xe s := by
  refine Call_ (ld_blt I hg hm boot_range ?_)
  refine PyProof.Rows.callWith_type1 ?_ hs rfl
  refine wpAny_mono (wpAny_grow (n := s.heap.objs.size) (Nat.le_refl _) (ha.run pos pins s σ H _ I t)) (fun us s1 z => ?_) fun _ _ z => z.2
  obtain ⟨hz, vs, H1, I1, r, j, rfl, b1, b2, q⟩ := z
  obtain ⟨_, rfl, tk, rfl⟩ := vals1 r
  refine call_range_1 ?_
  refine wpAny_pyIter_range (IsRange.new ..) (small_one (by omega) (by omega) b1 b2) ?_
  have I2 : L2.Inv X pins σ H1 _ := I1.kept (t' := s1.toks + 1 + 1) fun b o e => Heap.get?_push_of_some { cls := .type "range", data := .fields #[.int 0 s1.toks, .int j tk, .int 1 (s1.toks + 1)] } e
  refine ⟨_, j.toNat, H1, rfl, ?_, I2.kept (t' := s1.toks + 1 + 1) fun b o e => Heap.get?_push_of_some _ e, ?_, I2.hok.fresh (Nat.le_refl _), q⟩
  · show s.heap.objs.size ≤ (s1.heap.push _).objs.size
    rw [Heap.size_push]; omega
  · have e : ((j.toNat : Nat) : Int) = Builtin.Range.rangeSize 0 j 1 := by rw [rangeSize_one]; split <;> omega
    rw [e]
    exact Heap.get?_push_size _ rfl
/-- the inner generator is called -/
theorem Sm.call {A : Around} {k : Nat} {iter : Expr} {tg : TGs} {w0 s : Shared} {H0 H : Hp} {own : List Addr} {ip : List (Addr × Obj)} {σ : L2.St} {R : List (List V) → Hp → Prop} (hi : PGn (gcx P w K mg base N env outer A w0 H0) k iter tg) (S : Sm P w K mg base N env outer A w0 H0 own ip σ H s) (hr : Room k A)
    (t : tg σ H fun ys H1 => ExtH H0 H1 ∧ R ys H1) : wpAny (model P w) A (eval iter env) (fun u s1 => ∃ H1 ys a' lo' g' c lim, u = .ref a' ∧ Sm P w K mg base N env outer A w0 H0 own ip σ H1 s1 ∧ (∀ p ∈ ip, p.1 < lim) ∧ lim ≤ lo' ∧ s1.heap.IsGen a' g' ∧ s1.gens[g']? = some (.fresh c) ∧
      InOwn lim own w0 H1 s1 [lo', a'] ∧ Hand P w K mg base A (env :: outer) lo' a' g' ys [lo', a'] (.fresh c) s1 H1 ∧ KeptG s s1 ∧ R ys H1) (fun _ _ => False) s := by
  refine wpAny_mono (wpAny_asleep (hi.run _ (hush s) σ H _ (Inv.hush S.inv) t)) (fun u s1 ⟨k1, s1', sm, H1, s0, ys, hz, I0, G', ex, r⟩ => ?_) fun _ _ ⟨_, _, _, f⟩ => f.elim
  have G := G'.sameG sm
  have I1' : L2.Inv (gcx P w K mg base N env outer A w0 H0) (oth w0 H0 own env.locals ++ ip) σ H1 s1' := I0.call' (ch := []) G'.os (Un.kept G'.keep) (I0.hok.kept G'.keep) G'.bare (by simp)
  have S1 := S.of I1' sm k1 ex
  obtain ⟨a, lo, g, c, rfl, h2, h3, h4, h5, ⟨olo, elo, nlo⟩, h7⟩ := G.ex
  have fr : ∀ b : Addr, s0.heap.objs.size ≤ b → H1 b = none := fun b hb => I0.hok.fresh hb
  have w0s : w0.heap.objs.size ≤ s0.heap.objs.size := Nat.le_trans S.siz hz
  have two : ∀ b ∈ [lo, a], s0.heap.objs.size ≤ b ∧ ∃ o, s1.heap.get? b = some o ∧ ∀ v, o.data ≠ .cell v := fun b hb => by
    rcases List.mem_cons.mp hb with z | z
    · rw [z]; exact ⟨h2, olo, elo, nlo⟩
    · rw [List.mem_singleton.mp z]
      obtain ⟨o, nm, qn, eo, _, ed, _⟩ := h4
      exact ⟨h3, o, eo, fun v q => by rw [ed] at q; cases q⟩
  refine ⟨H1, ys, a, lo, g, c, s0.heap.objs.size, rfl, S1, fun p hp => ?_, h2, h4, h5, fun b hb => ?_, ?_, k1, r⟩
  · exact Heap.lt_size (I0.pin p (List.mem_append_right _ (List.mem_append_right _ hp))).1
  · exact ⟨(two b hb).1, .inr (Nat.le_trans w0s (two b hb).1), fr b (two b hb).1, (two b hb).2⟩
  · exact h7 A s1 H1 hr S1.inv.ok.frames h5 ⟨S1.inv.env0, fun b hb o e => ⟨e, fr b (two b hb).1⟩, .refl⟩
end
end L3

set_option Elab.async false
set_option linter.all false
set_option maxRecDepth 100000
set_option maxHeartbeats 2000000
namespace My
open PySem PySem.Spec PyProof.Rows L2 L3 GenW

/-- the lists of so many of some things, in order -/
def picks {α : Type} : Nat → List α → List (List α)
  | 0, _ => [[]]
  | m + 1, xs => (List.range (xs.length - m)).flatMap fun i => (picks m (xs.drop (i + 1))).map fun r => (xs[i]?).toList ++ r
/-- those that begin at i or behind it -/
def picksFrom {α : Type} (m : Nat) (xs : List α) (i n : Nat) : List (List α) := (List.range' i n).flatMap fun j => (picks m (xs.drop (j + 1))).map fun r => (xs[j]?).toList ++ r
theorem picks_succ {α : Type} (m : Nat) (xs : List α) : picks (m + 1) xs = picksFrom m xs 0 (xs.length - m) := by
  show (List.range _).flatMap _ = _
  rw [List.range_eq_range']
  rfl
theorem picksFrom_succ {α : Type} (m : Nat) (xs : List α) (i n : Nat) : picksFrom m xs i (n + 1) = ((picks m (xs.drop (i + 1))).map fun r => (xs[i]?).toList ++ r) ++ picksFrom m xs (i + 1) n := by
  show (List.range' i (n + 1)).flatMap _ = _
  rw [List.range'_succ, List.flatMap_cons]
  rfl
/-- a value as it is -/
def Vr : Rl V := fun x _ v => v = x
instance : Mon Vr := ⟨fun _ h => h⟩
theorem pd_raw {M : Hp} : ∀ {xs ws : List V}, Pd Vr M xs ws → ws = xs
  | [], [], _ => rfl
  | x :: xs, w :: ws, h => by cases h with | cons h1 h2 => rw [show w = x from h1, pd_raw h2]
theorem raw_pd {M : Hp} : ∀ xs : List V, Pd Vr M xs xs
  | [] => .nil
  | x :: xs => .cons rfl (raw_pd xs)

theorem gl_isL {te : TE} {σ : Sl} {M : Hp} {R R' : Hp → List V → Prop} (h : GvL te σ M R) (e : ∀ M vs, R M vs → R' M vs) : GvL te σ M R' := fun H mh Q q => h H mh Q fun p vs M' H' g a b c r => q p vs M' H' g a b c (e _ _ r)
section
variable {P : Program} {w : World} {K : PySem.W.Frag} {mg : Str → Option Value} {base : Heap}
abbrev s_picks_of : Stmt := topS 55
theorem sc_picks_of : GScope ["things", "many", "at", "rest"] ["things", "many"] (defScope s_picks_of) := ⟨rfl, rfl, rfl, by decide +kernel, rfl, by decide +kernel, by decide +kernel⟩
def spPicks (m : Nat) (vs : List V) (H : Hp) (ys : List (List V)) : Prop := ∃ a xs, vs = [.ref a, .int m] ∧ H a = some (.lst xs) ∧ xs.length ≤ 1000000 ∧ m ≤ 1000000 ∧ ys = picks m xs
theorem picks_len {α : Type} : ∀ (m : Nat) (xs : List α), ∀ r ∈ picks m xs, r.length = m
  | 0, xs, r, h => by rw [List.mem_singleton.mp h]; rfl
  | m + 1, xs, r, h => by
    obtain ⟨i, hi, h⟩ := List.mem_flatMap.mp h
    obtain ⟨r', h', rfl⟩ := List.mem_map.mp h
    have hi' : i < xs.length := by have := List.mem_range.mp hi; omega
    rw [List.length_append, picks_len m _ r' h', List.getElem?_eq_getElem hi']
    simp [Nat.add_comm]

abbrev pE (f L : Addr) (cdv : Value) : Env := envOfC "picks_of" (defScope s_picks_of) L f cdv
abbrev pN : List Str := ["things", "many", "at", "rest"]
theorem p_nk (f L : Addr) (cdv : Value) (x : Str) : (pE f L cdv).kindOf x ≠ some .cell ∧ (pE f L cdv).kindOf x ≠ some .free := by
  have key : ∀ y ∈ (defScope s_picks_of).names, y.2 ≠ .cell ∧ y.2 ≠ .free := by decide +kernel
  refine ⟨fun e => ?_, fun e => ?_⟩
  · exact (key _ (PySem.mem_of_lookup (show (defScope s_picks_of).names.lookup x = some .cell from e))).1 rfl
  · exact (key _ (PySem.mem_of_lookup (show (defScope s_picks_of).names.lookup x = some .free from e))).2 rfl
theorem p_cl (L : Addr) : cellsFrom (L + 1) (defScope s_picks_of).names [] = [] := rfl
/-- things and many stand -/
def PG0 (ta : Addr) (xs : List V) (m : Nat) (σ : L2.St) (H : Hp) : Prop := σ[0]? = some (some (.ref ta)) ∧ σ[1]? = some (some (.int m)) ∧ H ta = some (.lst xs)
theorem PG0.ext {ta : Addr} {xs : List V} {m : Nat} {σ : L2.St} {H H' : Hp} (h : PG0 ta xs m σ H) (e : ExtH H H') : PG0 ta xs m σ H' := ⟨h.1, h.2.1, e _ _ h.2.2⟩
theorem PG0.set {ta : Addr} {xs : List V} {m : Nat} {σ : L2.St} {H : Hp} {i : Nat} {v : Option V} (h : PG0 ta xs m σ H) (hi : 2 ≤ i) : PG0 ta xs m (σ.set i v) H :=
  ⟨by rw [List.getElem?_set_ne (by omega)]; exact h.1, by rw [List.getElem?_set_ne (by omega)]; exact h.2.1, h.2.2⟩
/-- how many places -/
def places (m n : Nat) : Nat := if m = 0 then 0 else n - (m - 1)

def stBody : Stmt → List Stmt
  | .For _ _ b _ _ => b
  | .If _ b _ _ => b
  | _ => []
def stIter : Stmt → Expr
  | .For _ i _ _ _ => i
  | .If i _ _ _ => i
  | .Expr (.Yield (some e) _) _ => e
  | _ => .List [] default
def stTg : Stmt → Expr
  | .For t _ _ _ _ => t
  | _ => .List [] default
def stAt (b : List Stmt) (i : Nat) : Stmt := b.getD i default
abbrev pFor : Stmt := stAt (defBody s_picks_of) 1
abbrev pIn : Stmt := stAt (stBody pFor) 0
abbrev pOut : Stmt := stAt (stBody pIn) 0

section
variable {f a L : Addr} {fd : FuncData} {cdv : Value} {outer : List Env} {Ac : Around} {g m : Nat} {ta : Addr} {xs : List V} {oa : Obj}
abbrev pX (P : Program) (w : World) (K : PySem.W.Frag) (mg : Str → Option Value) (base : Heap) (f L : Addr) (cdv : Value) (outer : List Env) (A : Around) (w0 : Shared) (H0 : Hp) : L2.Cx := gcx P w K mg base pN (pE f L cdv) outer A w0 H0
/-- what is handed out, one thing ahead of the rest -/
theorem p_out {A : Around} {w0 : Shared} {H0 : Hp} {i : Nat} {x : V} (hx : xs[i]? = some x) (hl : xs.length ≤ 1000000) : ∃ te, PE (pX P w K mg base f L cdv outer A w0 H0) (stIter pOut) te ∧ ∀ σ H b z, (PG0 ta xs m σ H ∧ σ[2]? = some (some (.int i))) → σ[3]? = some (some (.ref b)) → H b = some (.lst z) →
    z.length ≤ 1000000 → GvL te σ H fun _ ws => ws = (xs[i]?).toList ++ z := by
  refine ⟨_, (pe_op op_addA (pe_lst (pa_cons (pe_ix ix_X (pv 0) (pv 2) (fun _ _ => rfl)) pa_nil)) (pv 3)), fun σ H b z ⟨h, h2⟩ h3 hb hz => ?_⟩
  have hs : SqR K Vr xs H (.ref ta) := (show LiR Vr xs H (.ref ta) from ⟨ta, xs, rfl, h.2.2, raw_pd xs⟩).sq
  have one : GvL _ σ H fun M vs => Pd Vr M [x] vs := gl_isL (gl_lst (ga_cons (P := Vr x) (gv_ix (K := K) (R := Vr) (xs := xs) (i := (i : Int)) (gv_var h.1 hs) (gv_var h2 rfl) (by rw [atI_nat]; exact hx)) fun M1 _ => ga_nil) fun _ vs ⟨v, r, e1, _, e2⟩ => by rw [e1, e2]; show 1 ≤ sizeLine; decide)
    fun M vs ⟨v, r, e1, e2, e3⟩ => by rw [e1, e3]; exact .cons e2 .nil
  refine gl_isL (gl_addL (K := K) (R := Vr) (xs := [x]) (ys := z) one.li (gv_var (v := .ref b) h3 ⟨b, z, rfl, hb, raw_pd z⟩) ?_) fun M vs e => ?_
  · show 1 + z.length ≤ sizeLine
    have : sizeLine = 16777216 := rfl
    omega
  · rw [pd_raw e, hx]; rfl
/-- picks_of(things[at + 1:], many - 1) -/
theorem p_call {A : Around} {w0 : Shared} {H0 : Hp} (hh : A.handled = none) (hd : A.depth < recursionLimit) (ih : GPr P w K mg base (2 * m + 8) f fd ["things", "many"] (spPicks m)) (hm : mg "picks_of" = some (.ref f)) (hk : PySem.W.keepIn K (.ref f) = true) (hb : Binds K fd ["things", "many"] []) (hl : xs.length ≤ 1000000) (hml : m + 1 ≤ 1000000) :
    ∃ tg, PGn (pX P w K mg base f L cdv outer A w0 H0) (2 * m + 8) (stIter pIn) tg ∧ ∀ (σ : L2.St) (H : Hp) (i : Nat) (R : List (List V) → Hp → Prop), PG0 ta xs (m + 1) σ H → σ[2]? = some (some (.int i)) → (∀ H2, ExtH H H2 → R (picks m (xs.drop (i + 1))) H2) → tg σ H R := by
  refine ⟨_, pgn_call ih hh hd (fun vs H ys ⟨_, _, e, _⟩ => by rw [e]; rfl) (by rfl) hm hk hb (pa_cons (pe_slice sl_X (pv 0) (po_some (pe_op op_addA (pv 2) pe_int)) po_none) (pa_cons (pe_op op_sub (pv 1) pe_int) pa_nil)), fun σ H i R h h2 q => ?_⟩
  have hs : LstR K Vr xs H (.ref ta) := (show LiR Vr xs H (.ref ta) from ⟨ta, xs, rfl, h.2.2, raw_pd xs⟩).lst
  refine gl_cut (K := K) (R := Vr) (lo := some ((i + 1 : Nat) : Int)) (hi := none) (gv_var h.1 hs) (fun _ _ z => ⟨_, h2, .inl ⟨_, _, rfl, rfl, _, rfl, z⟩⟩) (fun _ _ z => z) H (Same.refl H) _ fun p vs M' H' gr n1 _ t1 e => ?_
  have ev : vs = xs.drop (i + 1) := by rw [pd_raw e, cut_drop]
  subst ev
  refine gv_gt (g := fun i j => .int (i - j)) (σ := σ) (M := H') (i := ((m + 1 : Nat) : Int)) (j := 1) (gv_var h.2.1 rfl) (gv_c rfl) H' (Same.refl H') _ fun v M2 H2 gr2 ev => ?_
  have e1 : v = .int (m : Nat) := by rw [ev]; congr 1; omega
  subst e1
  exact ⟨_, ⟨p, xs.drop (i + 1), rfl, gr2.hh _ _ t1, by rw [List.length_drop]; omega, by omega, rfl⟩, q H2 (fun b u z => gr2.hh _ _ (gr.hh b u z))⟩
/-- range(..) -/
theorem p_range {A : Around} {w0 : Shared} {H0 : Hp} {σ : L2.St} {H : Hp} {s : Shared} {pins : List (Addr × Obj)} {R : Nat → Hp → Prop} (T : Gc mg) (I : L2.Inv (pX P w K mg base f L cdv outer A w0 H0) pins σ H s) (h : PG0 ta xs m σ H) (hl : xs.length ≤ 1000000) (hml : m ≤ 1000000)
    (q : ∀ H2, ExtH H H2 → R (places m xs.length) H2) :
    wpAny (model P w) A (eval (stIter pFor) (pE f L cdv)) (fun v s1 => wpAny (model P w) A (pyIter v) (fun u s2 => ∃ it n H1, u = .ref it ∧ s.heap.objs.size ≤ it ∧ L2.Inv (pX P w K mg base f L cdv outer A w0 H0) pins σ H1 s2 ∧ IsRangeIter s2.heap it 0 (n : Nat) 1 ∧ H1 it = none ∧ R n H1) (fun _ _ => False) s1) (fun _ _ => False) s := by
  refine run_range (X := pX P w K mg base f L cdv outer A w0 H0) (by rfl) T.range (pa_cons (pe_ifExp (pt_cmpR op_gt (pv 1) pe_int (nomark _)) (pe_op op_addA (pe_op op_sub (pe_callB call_lenA (by rfl) T.len boot_len (pa_cons (pv 0) pa_nil)) (pv 1)) pe_int) pe_int) pa_nil) I ?_
  have hs : SqR K Vr xs H (.ref ta) := (show LiR Vr xs H (.ref ta) from ⟨ta, xs, rfl, h.2.2, raw_pd xs⟩).sq
  have key := gv_if (P := It' (if m = 0 then (0 : Int) else (xs.length : Int) - m + 1)) (σ := σ) (M := H) (b := decide ((0 : Int) < m)) (gt_test (gv_gt (g := fun i j => .bl (decide (j < i))) (i := (m : Int)) (j := 0) (gv_var h.2.1 rfl) (gv_c rfl)))
    (ta := tOp (rAddA K) (tOp (rI0 fun i j => .int (i - j)) (tCB (rLenA K) (tCons (tVar 0) tNil)) (tVar 1)) (tC (.int 1))) (tb := tC (.int 0))
    (fun hb => gv_is (gv_addIn (K := K) (gv_gt (g := fun i j => .int (i - j)) (i := (xs.length : Int)) (j := (m : Int)) (gv_lenA (K := K) (R := Vr) (gv_var h.1 hs)) (gv_var h.2.1 rfl)) (gv_c rfl)) fun M v e => by
      have := of_decide_eq_true hb
      rw [if_neg (by omega)]; exact e) fun hb => gv_c (by
      have := of_decide_eq_false hb
      rw [if_pos (by omega)])
  refine key H (Same.refl H) _ fun v M' H' gr e => ?_
  have e' : v = .int (if m = 0 then (0 : Int) else (xs.length : Int) - m + 1) := e
  subst e'
  refine ⟨_, rfl, ?_, ?_, ?_⟩
  · split <;> omega
  · split <;> omega
  · have : (if m = 0 then (0 : Int) else (xs.length : Int) - m + 1).toNat = places m xs.length := by
      unfold places
      split <;> omega
    rw [this]
    exact q H' gr.hh

def outs (m : Nat) (xs : List V) (i d : Nat) : List (List V) := match m with | 0 => [] | m + 1 => picksFrom m xs i d
abbrev pCode (f L : Addr) (cdv : Value) (it : Addr) : Code := .forLoop (stTg pFor) (.ref it) (stBody pFor) [] (pE f L cdv)
abbrev pFn (f L : Addr) (cdv : Value) : Code := .func (defBody s_picks_of) (pE f L cdv)
theorem p_outer {it : Addr} {k1 : Result → Sem PySem.Fin} {l1 kp1 : List Value} {p1 : Pos} (FG : GFr base (pE f L cdv) outer) (hh : Ac.handled = none) (hfr : Ac.frames = some outer) (hrA : Room (2 * m + 6) (Ac.in1.deeper (pE f L cdv))) (hLa : L < a) (hai : a < it) (hga : ∀ h : Heap, h.get? a = some oa → h.IsGen a g)
    (ih : ∀ m', m = m' + 1 → GPr P w K mg base (2 * m' + 8) f fd ["things", "many"] (spPicks m')) (hm : mg "picks_of" = some (.ref f)) (hk : PySem.W.keepIn K (.ref f) = true) (hb : Binds K fd ["things", "many"] []) (hl : xs.length ≤ 1000000) (hml : m ≤ 1000000)
    (hk1 : k1 (.ok .next) = leafOf (.ok (.ret .none))) : ∀ (d i : Nat), i + d = places m xs.length → ∀ (w0 : Shared) (H0 : Hp) (own : List Addr) (σ : L2.St) (H : Hp) (s : Shared), Sm P w K mg base pN (pE f L cdv) outer (Ac.in1.deeper (pE f L cdv)) w0 H0 own [(a, oa)] σ H s → L ∈ own →
      (a ∈ own ∨ w0.heap.objs.size ≤ a) → HOk P w H0 w0.heap → w0.gens[g]? = some .running → PG0 ta xs m σ H → IsRangeIter s.heap it (0 + (i : Nat) * 1) (((places m xs.length : Nat) : Int) - (i : Nat)) 1 → InOwn (a + 1) own w0 H s [it] →
      Sg (model P w) Ac.in1 (HZ P w K mg base Ac outer L a g (outs m xs i d) own w0 H0) (pCode f L cdv it) ((model P w).den (pCode f L cdv it)) (.ret k1 none false l1 (pFn f L cdv) p1 kp1 :: []) s := by
  have pl1 : Pl Ac.in1 (Ac.in1.deeper (pE f L cdv)) (pCode f L cdv it) (.ret k1 none false l1 (pFn f L cdv) p1 kp1 :: []) id := Pl.func.loop rfl rfl
  have hha : (Ac.in1.deeper (pE f L cdv)).handled = none := hh
  have hdep : (Ac.in1.deeper (pE f L cdv)).depth < recursionLimit := by have := hrA.dp; omega
  have T : Turn P w K (stTg pFor) (Itr 0 (places m xs.length)) [it] it (fun i h => IsRangeIter h it (0 + (i : Nat) * 1) (((places m xs.length : Nat) : Int) - (i : Nat)) 1) := turn_range it 0 (places m xs.length)
  have hR1 : ∀ p ∈ [(a, oa)], (pE f L cdv).locals < p.1 ∧ p.1 < a + 1 := fun p hp => by rw [List.mem_singleton.mp hp]; exact ⟨hLa, Nat.lt_succ_self _⟩
  have hL1 : (pE f L cdv).locals < a + 1 := Nat.lt_succ_of_lt hLa
  intro d
  induction d with
  | zero =>
    intro i hi w0 H0 own σ H s S hL ha hk0 hrun gd hti hin
    have fp := hin.fp S FG hR1 hL1
    refine sg_turn pl1.over rfl ?_
    refine wpAny_mono (wpAny_asleep (T.done (pX P w K mg base f L cdv outer (Ac.in1.deeper (pE f L cdv)) w0 H0) rfl rfl rfl rfl i _ (hush s) σ H (fun _ _ => False) (Inv.hush S.inv) fp hti (show places m xs.length ≤ i by omega))) (fun r s4 ⟨k4, s4', sm, hr, I4⟩ => ?_) fun _ _ ⟨_, _, _, f⟩ => f.elim
    subst hr
    have S4 := S.of I4 sm k4 S.ext
    show Sg (model P w) Ac.in1 _ (pFn f L cdv) (k1 (.ok .next)) [] s4
    rw [hk1]
    refine sg_end _ ?_
    have eo : outs m xs i 0 = [] := by unfold outs; cases m <;> rfl
    rw [eo]
    exact ⟨.inl rfl, H, S4.went FG hL (fun b hb => absurd hb (by simp)) (fun p hp => by rw [List.mem_singleton.mp hp]; exact ha) hk0⟩
  | succ d ihd =>
    intro i hi w0 H0 own σ H s S hL ha hk0 hrun gd hti hin
    obtain ⟨m', rfl⟩ : ∃ m', m = m' + 1 := by
      cases m with
      | zero => exact absurd hi (by unfold places; simp)
      | succ m' => exact ⟨m', rfl⟩
    have pm : places (m' + 1) xs.length = xs.length - m' := by unfold places; simp
    have hix : i < xs.length := by omega
    have fp := hin.fp S FG hR1 hL1
    refine sg_turn pl1.over rfl ?_
    refine wpAny_mono (wpAny_asleepO (u := fun v => letOwnedTupleGo (stTg pFor) (.ref it) v) (T.item (pX P w K mg base f L cdv outer (Ac.in1.deeper (pE f L cdv)) w0 H0) rfl rfl rfl rfl i _ (hush s) σ H (fun _ _ => False) (Inv.hush S.inv) fp hti (show i < places (m' + 1) xs.length by omega))) (fun r s4 ⟨v, hr, h4⟩ => ?_) fun _ _ ⟨_, _, _, f⟩ => f.elim
    subst hr
    refine wpAny_mono h4 (fun _ s5 ⟨k5, s5', sm, x, H5, I5, r5, ⟨y6, y5⟩, st5, fr5⟩ => ?_) fun _ _ ⟨_, _, _, f⟩ => f.elim
    have y7 := y6.symm
    subst y7
    have S5 := S.of I5 sm k5 S.ext
    have st5' : IsRangeIter s5.heap it (0 + ((i + 1 : Nat) : Nat) * 1) (((places (m' + 1) xs.length : Nat) : Int) - ((i + 1 : Nat) : Nat)) 1 := by rw [sm.heap]; exact st5
    have xe : x = .int (i : Nat) := by rw [y5, Int.zero_add]
    subst xe
    obtain ⟨oit, eoit, noit⟩ := T.obj (i + 1) s5.heap st5' it List.mem_cons_self
    have in5 : InOwn (a + 1) own w0 H s5 [it] := fun b hb => by
      rw [List.mem_singleton.mp hb]
      exact ⟨hai, (hin it List.mem_cons_self).2.1, fr5 it List.mem_cons_self, oit, eoit, noit⟩
    have S5p := S5.add (in5.fp S5 FG hR1 hL1) fun b hb => (in5 b hb).2.2.2
    refine wpAny_mono (Sm.pg (tg := stTg pFor) (g := gName 2) (pg_name (i := 2) sc_picks_of.nd rfl (by first | exact .inl rfl | exact .inr rfl)) S5p (v := .int (i : Nat)) (u := v) (E := fun _ _ => False) r5 (R := fun σ6 H6 => σ6 = σ.set 2 (some (.int (i : Nat))) ∧ H6 = H) ⟨S5.ext, rfl, rfl⟩) (fun _ s6 z6 => ?_) fun _ _ f => f
    obtain ⟨σ6, H6, S6, ⟨e61, e62⟩, k6⟩ := z6
    subst e61 e62
    intro J
    have hlen2 : 2 < σ.length := by rw [S.inv.len]; show 2 < 4; decide
    have g6 : PG0 ta xs (m' + 1) (σ.set 2 (some (.int (i : Nat)))) H6 := gd.set (Nat.le_refl _)
    have g62 : (σ.set 2 (some (V.int (i : Nat))))[2]? = some (some (.int (i : Nat))) := by simp [hlen2]
    obtain ⟨tg, hcall, hread⟩ := p_call (xs := xs) (ta := ta) (outer := outer) (w0 := w0) (H0 := H0) (L := L) (cdv := cdv) hha hdep (ih m' rfl) hm hk hb hl hml
    refine sg_cons (sg_for pl1.over ?_)
    refine wpAny_mono (Sm.call hcall S6 (hrA.mono (by omega)) (R := fun ys H7 => ys = picks m' (xs.drop (i + 1)) ∧ ExtH H6 H7) (hread _ _ i _ g6 g62 fun H2 e2 => ⟨S6.ext.trans e2, rfl, e2⟩)) (fun u s7 z7 => ?_) fun _ _ f => f
    obtain ⟨H7, ys, a', lo', g', c7, lim, rfl, S7, hlim, hlo7, hgen7, hgs7, in7, hand7, k7, ⟨rfl, e7⟩⟩ := z7
    refine wpAny_pyIter_gen hgen7 ?_
    intro k3 p3 hk3
    obtain ⟨xi, hxi⟩ : ∃ xi, xs[i]? = some xi := ⟨_, List.getElem?_eq_getElem hix⟩
    have eo : outs (m' + 1) xs i (d + 1) = (picks m' (xs.drop (i + 1))).map (fun z => (xs[i]?).toList ++ z) ++ outs (m' + 1) xs (i + 1) d := picksFrom_succ m' xs i d
    rw [eo]
    refine inner_loop (N := pN) (env := pE f L cdv) (outer := outer) (Ac := Ac) (lim := lim) (a := a) (g := g) (x := "rest") (i := 3) (tl := (xs[i]?).toList) (rest := outs (m' + 1) xs (i + 1) d) (k3 := k3) (cd1 := pCode f L cdv it) (gd1 := id) (fun σ H => PG0 ta xs (m' + 1) σ H ∧ σ[2]? = some (some (.int (i : Nat)))) (fun z => z.length ≤ 1000000)
      FG hh hfr hdep (fun q hq => ?_) ⟨oa, ?_, hga⟩ hlo7 (by decide) rfl rfl (fun σ H H' h e => ⟨h.1.ext e, h.2⟩) (fun σ H v h => ⟨h.1.set (by decide), by rw [List.getElem?_set_ne (by decide)]; exact h.2⟩)
      (fun w0 H0 => pg_name (i := 3) sc_picks_of.nd rfl (by first | exact .inl rfl | exact .inr rfl)) (fun w0 H0 => p_out hxi hl) pl1 ?_ (picks m' (xs.drop (i + 1))) (fun z hz => ?_) w0 H0 own _ H7 s7 [lo', a'] _ S7 hL ?_ hk0 hrun ⟨g6.ext e7, g62⟩ hgen7 hgs7 (.inr ⟨_, rfl⟩) hand7 in7 (by simp)
    · refine ⟨?_, hlim q hq⟩
      rcases List.mem_append.mp hq with y | y
      · rw [List.mem_singleton.mp y]; exact hLa
      · rw [List.mem_singleton.mp (of_pinsAt y).1]; exact Nat.lt_trans hLa hai
    · exact List.mem_append_left _ List.mem_cons_self
    · intro w1 H1 own1 σ1 H2 s8 S8 hL8 hip8 hk8 hrun8 gd8
      have mit : (it, oit) ∈ [(a, oa)] ++ pinsAt [it] s5.heap := List.mem_append_right _ (mem_pinsAt List.mem_cons_self eoit)
      rw [hk3]
      show Sg (model P w) Ac.in1 _ _ (.pure (.again (pCode f L cdv it))) _ _
      refine sg_again rfl (ihd (i + 1) (by omega) w1 H1 own1 σ1 H2 s8 (S8.drop fun q hq => List.mem_append_left _ hq) hL8 (hip8 (a, oa) (List.mem_append_left _ List.mem_cons_self)) hk8 hrun8 gd8.1 ?_ fun b hb => ?_)
      · refine T.keep (i + 1) s5.heap s8.heap st5' fun b hb o e => ?_
        rw [List.mem_singleton.mp hb] at e ⊢
        rw [eoit] at e
        cases e
        exact (S8.at mit).1
      · rw [List.mem_singleton.mp hb]
        exact ⟨hai, hip8 _ mit, (S8.at mit).2.1, oit, (S8.at mit).1, noit⟩
    · rw [picks_len _ _ z hz]; omega
    · intro q hq
      rcases List.mem_append.mp hq with y | y
      · rw [List.mem_singleton.mp y]; exact ha
      · exact (in5 q.1 (of_pinsAt y).1).2.1
abbrev pEnd : Flow → Sem PySem.Fin := fun fl => .pure (.done (.ret (match fl with | .ret v => v | _ => .none)))
theorem p_for (T : Gc mg) (FG : GFr base (pE f L cdv) outer) (hh : Ac.handled = none) (hfr : Ac.frames = some outer) (hrA : Room (2 * m + 6) (Ac.in1.deeper (pE f L cdv))) (hLa : L < a) (hga : ∀ h : Heap, h.get? a = some oa → h.IsGen a g)
    (ih : ∀ m', m = m' + 1 → GPr P w K mg base (2 * m' + 8) f fd ["things", "many"] (spPicks m')) (hm : mg "picks_of" = some (.ref f)) (hk : PySem.W.keepIn K (.ref f) = true) (hb : Binds K fd ["things", "many"] []) (hl : xs.length ≤ 1000000) (hml : m ≤ 1000000)
    {w0 : Shared} {H0 : Hp} {own : List Addr} {σ : L2.St} {H : Hp} {s : Shared} (S : Sm P w K mg base pN (pE f L cdv) outer (Ac.in1.deeper (pE f L cdv)) w0 H0 own [(a, oa)] σ H s) (hL : L ∈ own) (ha : a ∈ own ∨ w0.heap.objs.size ≤ a) (hk0 : HOk P w H0 w0.heap) (hrun : w0.gens[g]? = some .running) (gd : PG0 ta xs m σ H) (J : Value → Sem PySem.Fin) :
    Sg (model P w) Ac.in1 (HZ P w K mg base Ac outer L a g (outs m xs 0 (places m xs.length)) own w0 H0) (pFn f L cdv) ((execs [pFor] (pE f L cdv)).wrap pEnd J id id) [] s := by
  refine sg_cons (sg_for Pl.func.over ?_)
  refine wpAny_mono (wpAny_asleep2 (p_range (ta := ta) (xs := xs) (m := m) T (Inv.hush S.inv) gd hl hml (R := fun n H2 => n = places m xs.length ∧ ExtH H H2) fun H2 e => ⟨rfl, e⟩)) (fun v s1 h1 => ?_) fun _ _ ⟨_, _, _, f⟩ => f.elim
  refine wpAny_mono h1 (fun u s2 ⟨k2, s2', sm, it, n, H1, eu, hsz, I2, ri, hn, en, e1⟩ => ?_) fun _ _ ⟨_, _, _, f⟩ => f.elim
  subst eu en
  intro k p hk1
  have S2 := S.of I2 sm k2 (S.ext.trans e1)
  have ri2 : IsRangeIter s2.heap it 0 ((places m xs.length : Nat) : Int) 1 := by rw [sm.heap]; exact ri
  have hai : a < it := Nat.lt_of_lt_of_le (Heap.lt_size (S.at (p := (a, oa)) List.mem_cons_self).1) hsz
  refine p_outer (g := g) (oa := oa) FG hh hfr hrA hLa hai hga ih hm hk hb hl hml (hk1.trans rfl) (places m xs.length) 0 (Nat.zero_add _) w0 H0 own σ H1 s2 S2 hL ha hk0 hrun (gd.ext e1) (by simpa using ri2) fun b hb => ?_
  rw [List.mem_singleton.mp hb]
  exact ⟨hai, .inr (Nat.le_trans S.siz hsz), hn, _, ri2, fun v q => by cases q⟩
end
theorem gpr_picks {f : Addr} {fd : FuncData} (F : Fun K "picks_of" "picks_of" s_picks_of f fd) (hb : Binds K fd ["things", "many"] []) (T : Gc mg) (hm : mg "picks_of" = some (.ref f)) : ∀ m, m ≤ 1000000 → GPr P w K mg base (2 * m + 8) f fd ["things", "many"] (spPicks m) := by
  have hk := F.kp
  intro m
  induction m with
  | zero =>
    intro hml
    obtain ⟨oc, od, kV, doc, pm, an, cdv, ct, osl, rfl, lk, hcd⟩ := F.ex
    refine gpr_of (N := pN) lk hcd sc_picks_of (fun L x => p_nk f L cdv x) p_cl (fun vs H ys ⟨_, _, e, _⟩ => by rw [e]; rfl) fun Ac outer L a g oa vs ys Hc w0H w0 hrw hfr hsp hext FG hLa isg hrun hok0 S J => ?_
    obtain ⟨ta, xs, rfl, hta, hlen, _, rfl⟩ := hsp
    have hrA : Room (2 * 0 + 6) (Ac.in1.deeper (pE f L cdv)) := Room.deeper (Room.in1 hrw) _
    have hu := hrA.units
    have gd : PG0 ta xs 0 [some (.ref ta), some (.int (0 : Nat)), none, none] w0H := ⟨rfl, rfl, hext _ _ hta⟩
    have S' : Sm P w K mg base pN (pE f L cdv) outer (Ac.in1.deeper (pE f L cdv)) w0 w0H [L, a] [(a, oa)] [some (.ref ta), some (.int (0 : Nat)), none, none] w0H w0 := S
    refine sg_cons (sg_if ?_)
    rw [show Ac.in1.over (.func (defBody s_picks_of) (pE f L cdv)) [] = Ac.in1.deeper (pE f L cdv) from Pl.func.over]
    refine wpAny_mono (Sm.pt (pt_cmpR (op_eqP hu) (pv 1) pe_int (nomark _)) S' (E := fun _ _ => False) (R := fun b H2 => b = true ∧ ExtH w0H H2) ((gt_is (gt_test (gv_eqT (K := K) (neg := false) py_int inj_int (gv_var (v := .int (0 : Nat)) rfl rfl) (gv_c rfl) (by simp [PyData.depth]))) (by simp)) w0H (Same.refl _) _ fun M' H' gr => ⟨gr.hh, rfl, gr.hh⟩)) (fun b s1 z => ?_) fun _ _ f => f.elim
    obtain ⟨H1, S1, ⟨rfl, e1⟩, k1⟩ := z
    refine sg_cons (sg_put rfl ?_)
    rw [show Ac.in1.over (.func (defBody s_picks_of) (pE f L cdv)) [] = Ac.in1.deeper (pE f L cdv) from Pl.func.over]
    refine wpAny_mono (Sm.pe (pe_lst pa_nil) S1 (E := fun _ _ => False) (R := fun v H6 => ∃ p', v = .ref p' ∧ H1 p' = none ∧ H6 p' = some (.lst []) ∧ ExtH H1 H6) (gl_nil H1 (Same.refl _) _ fun p' vs M' H' gr n1 _ t1 e2 => ⟨S1.ext.trans gr.hh, p', rfl, n1, by rw [t1, e2], gr.hh⟩)) (fun u s6 z6 => ?_) fun _ _ f => f.elim
    obtain ⟨v6, H6, S6, r6, ⟨p', rfl, n6, t6, e6⟩, k6⟩ := z6
    obtain rfl : u = Value.ref p' := r6
    intro l k p hk'
    have r6 : s6.gens[g]? = some .running := S6.run g hrun
    have lt6 : g < s6.gens.size := (Array.getElem?_eq_some_iff.mp r6).1
    refine ⟨.ref p', _, l, k, _, p, _, p', [L, a], H6, rfl, rfl, rfl, ?_, t6, ?_, List.mem_cons_of_mem _ List.mem_cons_self, isg _ (S6.at (p := (a, oa)) List.mem_cons_self).1, ?_⟩
    · cases q : w0H p' with
      | none => rfl
      | some y => rw [e1 p' y q] at n6; cases n6
    · refine S6.went FG List.mem_cons_self (fun c hc => ?_) (fun q hq => ?_) hok0
      · rcases List.mem_cons.mp hc with y | y
        · exact .inl y
        · exact .inr ⟨oa, by rw [List.mem_singleton.mp y]; exact List.mem_cons_self⟩
      · rw [List.mem_singleton.mp hq]; exact .inl (List.mem_cons_of_mem _ List.mem_cons_self)
    · intro s2 H2 W
      have Sw := S6.wake FG hrA.hd (Around.frames_deeper (show Ac.in1.frames = some outer from hfr)) W List.mem_cons_self fun q hq => by
        rw [List.mem_singleton.mp hq]; exact ⟨List.mem_cons_of_mem _ List.mem_cons_self, hLa⟩
      have lt2 : g < s2.gens.size := (Array.getElem?_eq_some_iff.mp (W.gens g _ (setGen_at lt6) rfl)).1
      show Sg (model P w) Ac.in1 _ _ (k (.send .none)) _ _
      refine hk' _ _ ?_
      exact p_for T FG hrw.hd hfr hrA hLa isg (fun m' e => by cases e) hm hk hb hlen hml Sw List.mem_cons_self (.inl (List.mem_cons_of_mem _ List.mem_cons_self)) W.env0.hok (setGen_at lt2) ((gd.ext e1).ext (e6.trans W.ext)) J
  | succ m ih =>
    intro hml
    have ih2 := ih (by omega)
    obtain ⟨oc, od, kV, doc, pm, an, cdv, ct, osl, rfl, lk, hcd⟩ := F.ex
    refine gpr_of (N := pN) lk hcd sc_picks_of (fun L x => p_nk f L cdv x) p_cl (fun vs H ys ⟨_, _, e, _⟩ => by rw [e]; rfl) fun Ac outer L a g oa vs ys Hc w0H w0 hrw hfr hsp hext FG hLa isg hrun hok0 S J => ?_
    obtain ⟨ta, xs, rfl, hta, hlen, _, rfl⟩ := hsp
    have hrA : Room (2 * (m + 1) + 6) (Ac.in1.deeper (pE f L cdv)) := Room.deeper (Room.in1 hrw) _
    have hu := hrA.units
    have gd : PG0 ta xs (m + 1) [some (.ref ta), some (.int (m + 1 : Nat)), none, none] w0H := ⟨rfl, rfl, hext _ _ hta⟩
    have S' : Sm P w K mg base pN (pE f L cdv) outer (Ac.in1.deeper (pE f L cdv)) w0 w0H [L, a] [(a, oa)] [some (.ref ta), some (.int (m + 1 : Nat)), none, none] w0H w0 := S
    refine sg_cons (sg_if ?_)
    rw [show Ac.in1.over (.func (defBody s_picks_of) (pE f L cdv)) [] = Ac.in1.deeper (pE f L cdv) from Pl.func.over]
    refine wpAny_mono (Sm.pt (pt_cmpR (op_eqP hu) (pv 1) pe_int (nomark _)) S' (E := fun _ _ => False) (R := fun b H2 => b = false ∧ ExtH w0H H2) ((gt_is (gt_test (gv_eqT (K := K) (neg := false) py_int inj_int (gv_var (v := .int (m + 1 : Nat)) rfl rfl) (gv_c rfl) (by simp [PyData.depth]))) (by simp; omega)) w0H (Same.refl _) _ fun M' H' gr => ⟨gr.hh, rfl, gr.hh⟩)) (fun b s1 z => ?_) fun _ _ f => f.elim
    obtain ⟨H1, S1, ⟨rfl, e1⟩, k1⟩ := z
    have eo : picks (m + 1) xs = outs (m + 1) xs 0 (places (m + 1) xs.length) := picks_succ m xs
    rw [eo]
    exact p_for T FG hrw.hd hfr hrA hLa isg (fun m' e => by cases e; exact ih2) hm hk hb hlen hml S1 List.mem_cons_self (.inl (List.mem_cons_of_mem _ List.mem_cons_self)) hok0 hrun (gd.ext e1) J
end
end My

set_option Elab.async false
set_option linter.all false
set_option maxRecDepth 100000
set_option maxHeartbeats 8000000
namespace My
open PySem PySem.Spec PyProof.Rows L2 L3 GenW
/-! a generator def as it is called -/
def Gnr (P : Program) (w : World) (K : PySem.W.Frag) (mg : Str → Option Value) (base : Heap) (k : Nat) (x : Str) (ps : List Str) (sp : List V → Hp → List (List V) → Prop) : Prop :=
  ∃ f fd, GPr P w K mg base k f fd ps sp ∧ mg x = some (.ref f) ∧ PySem.W.keepIn K (.ref f) = true ∧ Binds K fd ps [] ∧ ∀ vs H ys, sp vs H ys → vs.length = ps.length
theorem pgn_g {X : L2.Cx} {k : Nat} {x : Str} {ps : List Str} {sp : List V → Hp → List (List V) → Prop} {e : Expr} {es : List Expr} {t : TA} {p pos : Pos} (c : Gnr X.prog X.w X.K X.mg X.base k x ps sp) (hr : Room k X.A) (hg : Gl X x) (ha : PA X (e :: es) t)
    (hdb : (x == ("__debug__" : Str)) = false := by decide) (he : starEach (e :: es) X.env = (false, eval e X.env) :: starEach es X.env := by rfl) (hpl : (backTo pos (starEach es X.env)).any (·.1) = false := by rfl) :
    PGn X k (.Call (.Name x p) (e :: es) [] pos) fun σ H R => t σ H fun vs H1 => ∃ ys, sp vs H1 ys ∧ R ys H1 :=
  let ⟨_, _, G, m, kp, b, l⟩ := c
  pgn_call G hr.hd (by have := hr.dp; omega) l hg m kp b ha hdb he hpl
theorem xeg0 {X : L2.Cx} : XeG X.nox := fun _ _ _ _ h => h.elim
theorem GNew.mono {P : Program} {w : World} {K : PySem.W.Frag} {mg : Str → Option Value} {base : Heap} {k k' : Nat} {outer : List Env} {H : Hp} {s s' : Shared} {ys : List (List V)} {u : Value} (G : GNew P w K mg base k outer H s ys u s') (h : k ≤ k') : GNew P w K mg base k' outer H s ys u s' := by
  obtain ⟨a, lo, g, c, h1, h2, h3, h4, h5, h6, h7⟩ := G.ex
  exact ⟨⟨a, lo, g, c, h1, h2, h3, h4, h5, h6, fun A s3 H3 r f hg W => h7 A s3 H3 (r.mono h) f hg W⟩, G.os, G.bare, G.keep⟩
def spFew (n : Nat) (vs : List V) (H : Hp) (ys : List (List V)) : Prop := ∃ m, m ≤ n ∧ spPicks m vs H ys
theorem gpr_few {P : Program} {w : World} {K : PySem.W.Frag} {mg : Str → Option Value} {base : Heap} {f : Addr} {fd : FuncData} (F : Fun K "picks_of" "picks_of" s_picks_of f fd) (hb : Binds K fd ["things", "many"] []) (T : Gc mg) (hm : mg "picks_of" = some (.ref f)) {n : Nat} (hn : n ≤ 1000000) :
    Gnr P w K mg base (2 * n + 8) "picks_of" ["things", "many"] (spFew n) := by
  refine ⟨f, fd, ⟨fun A outer s H args us vs ys h1 h2 e0 b r ⟨m, h, sp⟩ => ?_⟩, hm, F.kp, hb, fun vs H ys ⟨_, _, _, _, e, _⟩ => by rw [e]; rfl⟩
  refine codeAny_mono ((gpr_picks F hb T hm m (by omega)).run A outer s H args us vs ys h1 h2 e0 b r sp) fun r s' q => ?_
  cases r with
  | error e => exact q
  | ok fl =>
    cases fl with
    | ret u => exact GNew.mono q (by omega)
    | next => exact q
    | brk => exact q
    | cont => exact q
theorem gv_tupU {K : PySem.W.Frag} {σ : Sl} {M : Hp} {te : TE} {α : Type} {R : Rl α} [Mon R] {xs : List α} (h : Gv te σ M (LiR R xs)) : Gv (tCB (rTupOf K) (tCons te tNil)) σ M (TuR R xs) := gv_cb1 h fun M' v hv H mh Q q => by
  obtain ⟨a, vs, rfl, hs, hp⟩ := hv
  exact ⟨a, vs, rfl, .inl ⟨.inl (.inl (mh _ _ hs)), fun l nl => q _ _ _ (.new mh nl) ⟨l, vs, rfl, upd_same, hp.mono (same_new (mh.free nl))⟩⟩⟩

/-! what is seen -/
noncomputable def seen1 (cs : List (List Str)) (l : Str) (o : List Str) : Bool := if l = ("dead" : Str) then deadB cs (o.map opp) else findsB cs o
theorem seenL_eq {cs os : List (List Str)} {l : Str} : seenL cs os l = os.all (seen1 cs l) := by
  unfold seenL seen1
  split <;> rfl
def lessL (sh : List (List Str)) (o : List Str) : List (List Str) := sh.filter fun x => decide (x ≠ o)
noncomputable def mustL (cs sh : List (List Str)) (l : Str) : List (List Str) := sh.filter fun o => !seen1 (cs ++ lessL sh o) l o
noncomputable def freeL (cs sh : List (List Str)) (l : Str) : List (List Str) := sh.filter fun o => decide (o ∉ mustL cs sh l) && !findsB (cs ++ mustL cs sh l) o
noncomputable def fewestL (cs sh : List (List Str)) (l : Str) : List (List Str) :=
  match ((List.range ((freeL cs sh l).length + 1)).flatMap fun m => picks m (freeL cs sh l)).find? fun p => seenL (cs ++ mustL cs sh l ++ p) sh l with
  | some p => sh.filter fun o => decide (o ∈ mustL cs sh l) || decide (o ∈ p)
  | none => sh
structure FewPre (cs sh : List (List Str)) (l : Str) : Prop where
  ex : ∃ ns, NmL ns ∧ (∀ c ∈ cs, Lits ns c) ∧ (∀ o ∈ sh, Lits ns o) ∧ ns.length ≤ 14
  kc : cs.length ≤ 2000
  ks : sh.length ≤ 1000
  kf : (freeL cs sh l).length ≤ 100
section
variable {P : Program} {w : World} {K : PySem.W.Frag} {mg : Str → Option Value} {base : Heap}
abbrev s_without : Stmt := topS 53
theorem sc_without : FnScope ["clauses", "clause", "one"] ["clauses", "clause"] (defScope s_without) := ⟨rfl, rfl, rfl, by decide +kernel, rfl, by decide +kernel, by decide +kernel⟩
def sp_without (K : PySem.W.Frag) : Sp := sp2 (SqR K TT) TT (fun cs _ => cs.length ≤ 1000000) fun cs c => TuR TT (lessL cs c)
theorem ok_without {f : Addr} {fd : FuncData} (F : Fun K "without" "without" s_without f fd) (T : Gc mg) : FnOk P w K mg base CX0 2 f fd ["clauses", "clause"] (sp_without K) := by
  refine F.ok sc_without (fun vs H Q E h => ?_) (fun cdv A outer s H vs Q E hr h => ?_)
  · obtain ⟨x, y, M, v, w, rfl, _⟩ := h
    rfl
  · obtain ⟨cs, c, M, v, w, rfl, mh, r1, r2, h1, q⟩ := h
    have hu := hr.units
    refine ⟨_, (pss_one (ps_ret (pe_callTy call_tupA (by rfl) T.tuple boot_tuple (pa_cons (pe_lc (own := [("one", 2)]) (g := (gName 2)) (tt := (tTest (tOp (rEqP K true) (tVar 2) (tVar 1)))) (te := (tVar 2)) (by rfl) sc_without.nd (pi_sq (pv 0)) (blkOk_by (by rfl)) (fun _ _ _ _ _ => (pg_name (i := 2) sc_without.nd rfl (by first | exact .inl rfl | exact .inr rfl))) (fun _ _ _ _ _ => (pts_one (pt_cmpR (op_neP hu) (pv 2) (pv 1) (nomark _)))) (fun _ _ _ _ _ => (pv 2))) pa_nil)))), ?_⟩
    exact s_ret mh (gv_tupU (gl_isL (gl_c1 (S := TT) (R := TT) (xs := cs) (gi_sq (K := K) (gv_var rfl r1)) (szK h1) (fun x => decide (x ≠ c)) id (fun x _ M1 u sm ru => gt_is (gt_test (gv_eqT (K := K) (neg := true) py_TT inj_TT (gv_var rfl ru) (gv_var rfl (Mon.mono sm r2)) (by simp [PyData.depth, depthS]))) (by simp)) fun x _ _ M1 u sm ru => gv_var rfl ru)
      fun M vs h => by rw [List.map_id] at h; exact h).li) q
abbrev s_is_seen : Stmt := topS 54
theorem sc_is_seen : FnScope ["clauses", "clause", "level"] ["clauses", "clause", "level"] (defScope s_is_seen) := ⟨rfl, rfl, rfl, by decide +kernel, rfl, by decide +kernel, by decide +kernel⟩
def sp_is_seen (K : PySem.W.Frag) : Sp := sp3 (SqR K (SqR K Tx)) TT Tx (fun cs c _ => ChW cs ∧ shortT c ∧ ∃ ns, Ctx ns cs c) fun cs c l => Bl (seen1 cs l c)
theorem ok_is_seen {f : Addr} {fd : FuncData} (F : Fun K "is_seen" "is_seen" s_is_seen f fd) (c_is_dead : Cal P w K mg base 4 "is_dead" ["clauses", "setting"] (sp_is_dead K)) (c_opposites : Cal P w K mg base 2 "opposites" ["literals"] (sp_opposites K)) (c_finds : Cal P w K mg base 5 "finds" ["clauses", "clause"] (sp_finds K)) :
    FnOk P w K mg base CX0 6 f fd ["clauses", "clause", "level"] (sp_is_seen K) := by
  refine F.ok sc_is_seen (fun vs H Q E h => ?_) (fun cdv A outer s H vs Q E hr h => ?_)
  · obtain ⟨x, y, z, M, v, w, u, rfl, _⟩ := h
    rfl
  · obtain ⟨cs, c, l, M, v, w, u, rfl, mh, r1, r2, r3, ⟨hw, hc, ns, X⟩, q⟩ := h
    have hu := hr.units
    cases (show u = _ from r3)
    refine ⟨_, (pss_one (ps_ret (pe_ifExp (pt_cmpR (op_eqP hu) (pv 2) pe_str (nomark _)) (pe_f c_is_dead (hr.mono (by decide)) (pa_cons (pv 0) (pa_cons (pe_f c_opposites (hr.mono (by decide)) (pa_cons (pv 1) pa_nil)) pa_nil))) (pe_f c_finds (hr.mono (by decide)) (pa_cons (pv 0) (pa_cons (pv 1) pa_nil)))))), ?_⟩
    refine s_ret mh (gv_if (P := Bl (seen1 cs l c)) (b := decide (l = ("dead" : Str))) (gt_is (gt_test (gv_eqT (K := K) (neg := false) py_str inj_str (gv_var rfl rfl) (gv_c rfl) (by simp [PyData.depth]))) (by simp)) (fun hb => ?_) fun hb => ?_) q
    · refine gv_is (gv_call2 (R1 := SqR K (SqR K Tx)) (R2 := SqR K Tx) (pre := fun cs hs => ChW cs ∧ ∃ ns, Ctx ns cs hs) (R := fun cs hs => Bl (deadB cs hs)) (x := cs) (y := c.map opp) (gv_var rfl r1) (gv_is (gv_call1 (R1 := SqR K Tx) (pre := shortT) (R := fun ls => TT (ls.map opp)) (x := c) (gv_var rfl r2.sq) hc) fun _ _ h => h.sq) ⟨hw, ns, X.nm, X.c, lits_opp X.nm X.h⟩) fun M v h => ?_
      unfold seen1
      rw [if_pos (of_decide_eq_true hb)]; exact h
    · refine gv_is (gv_call2 (R1 := SqR K (SqR K Tx)) (R2 := TT) (pre := fun cs c => ChW cs ∧ shortT c ∧ ∃ ns, Ctx ns cs c) (R := fun cs c => Bl (findsB cs c)) (x := cs) (y := c) (gv_var rfl r1) (gv_var rfl r2) ⟨hw, hc, ns, X⟩) fun M v h => ?_
      unfold seen1
      rw [if_neg (of_decide_eq_false hb)]; exact h
end
end My

set_option Elab.async false
set_option linter.all false
set_option maxRecDepth 100000
set_option maxHeartbeats 8000000
namespace My
open PySem PySem.Spec PyProof.Rows L2 L3 GenW
/-! a new list from three arguments -/
section
variable {α β γ : Type} {K : PySem.W.Frag} {σ : Sl} {M : Hp} {t1 t2 t3 : TE} {R1 : Rl α} {R2 : Rl β} {R3 : Rl γ} {E : XK}
def sl3 (R1 : Rl α) (R2 : Rl β) (R3 : Rl γ) (pre : α → β → γ → Prop) (R : α → β → γ → Hp → List V → Prop) : Sp := fun vs H Q _ => ∃ x y z M v w u, vs = [v, w, u] ∧ Same M H ∧ R1 x M v ∧ R2 y M w ∧ R3 z M u ∧ pre x y z ∧
  ∀ p ws M' H', Gr M H M' H' → H p = none → M' p = none → H' p = some (.lst ws) → R x y z M' ws → Q (.ref p) H'
theorem gl_call3 [Mon R1] [Mon R2] [Mon R3] {pre : α → β → γ → Prop} {R : α → β → γ → Hp → List V → Prop} {x : α} {y : β} {z : γ} (h1 : Gv t1 σ M (R1 x)) (h2 : Gv t2 σ M (R2 y)) (h3 : Gv t3 σ M (R3 z)) (hp : pre x y z) :
    GvL (tCall (sl3 R1 R2 R3 pre R) [] E (tCons t1 (tCons t2 (tCons t3 tNil)))) σ M (R x y z) := fun H mh Q q =>
  h1 H mh _ fun v M1 H1 g1 p1 => h2.le g1.mm H1 g1.mh _ fun w M2 H2 g2 p2 => h3.le (g1.mm.trans g2.mm) H2 g2.mh _ fun u M3 H3 g3 p3 =>
    ⟨x, y, z, M3, v, w, u, rfl, g3.mh, Mon.mono (g2.mm.trans g3.mm) p1, Mon.mono g3.mm p2, p3, hp, fun p ws M' H' g h0 m0 hw r => q p ws M' H' (((g1.trans g2).trans g3).trans g) (((g1.trans g2).trans g3).hh.free h0) m0 hw r⟩
end
/-! picks by places -/
theorem picks_sub {α : Type} : ∀ (m : Nat) (xs : List α), ∀ r ∈ picks m xs, ∀ x ∈ r, x ∈ xs
  | 0, xs, r, h, x, hx => by rw [List.mem_singleton.mp h] at hx; cases hx
  | m + 1, xs, r, h, x, hx => by
    obtain ⟨i, _, h⟩ := List.mem_flatMap.mp h
    obtain ⟨r', h', rfl⟩ := List.mem_map.mp h
    rcases List.mem_append.mp hx with y | y
    · rw [Option.mem_toList] at y
      exact List.mem_of_getElem? y
    · exact List.mem_of_mem_drop (picks_sub m _ r' h' x y)
theorem _root_.L3.Gr.noneM {M H M' H' : Hp} {p : Addr} (g : Gr M H M' H') (h : H' p = none) : M' p = none := by
  cases e : M' p with
  | none => rfl
  | some u => rw [g.mh p u e] at h; cases h
theorem pd_len {α β : Type} {F : α → β → Prop} {xs : List α} {ys : List β} (h : Paired F xs ys) : xs.length = ys.length := by
  induction h with
  | nil => rfl
  | cons _ _ ih => simp [ih]
theorem pd_flat {α β γ δ : Type} {F : α → β → Prop} {f : Nat → List α} {g : Nat → List β} (h : ∀ i, Paired F (f i) (g i)) : ∀ is : List Nat, Paired F (is.flatMap f) (is.flatMap g)
  | [] => .nil
  | i :: is => pd_app (h i) (pd_flat (γ := γ) (δ := δ) h is)
theorem pd_map {α β α' β' : Type} {F : α → β → Prop} {G : α' → β' → Prop} {f : α → α'} {g : β → β'} (h : ∀ a b, F a b → G (f a) (g b)) : ∀ {xs : List α} {ys : List β}, Paired F xs ys → Paired G (xs.map f) (ys.map g)
  | _, _, .nil => .nil
  | _, _, .cons r t => .cons (h _ _ r) (pd_map h t)
theorem pd_opt {α β : Type} {F : α → β → Prop} {xs : List α} {ys : List β} (h : Paired F xs ys) (i : Nat) : Paired F (xs[i]?).toList (ys[i]?).toList := by
  induction h generalizing i with
  | nil => exact .nil
  | cons r t ih =>
    cases i with
    | zero => exact .cons r .nil
    | succ i => simpa using ih i
theorem pd_picks {α β : Type} {F : α → β → Prop} : ∀ (m : Nat) {xs : List α} {ys : List β}, Paired F xs ys → Paired (Paired F) (picks m xs) (picks m ys)
  | 0, _, _, _ => .cons .nil .nil
  | m + 1, xs, ys, h => by
    show Paired _ ((List.range (xs.length - m)).flatMap _) ((List.range (ys.length - m)).flatMap _)
    rw [pd_len h]
    exact pd_flat (γ := Nat) (δ := Nat) (fun i => pd_map (fun a b r => pd_app (pd_opt h i) r) (pd_picks m (pd_drop (i + 1) h))) _
theorem find_first {α : Type} {g : Nat → List α} {f : α → Bool} {m n : Nat} {A B : List α} {d : α} (hm : m ≤ n) (h1 : ∀ m' < m, ∀ p ∈ g m', f p = false) (e : g m = A ++ d :: B) (h2 : ∀ x ∈ A, f x = false) (hd : f d = true) : ((List.range (n + 1)).flatMap g).find? f = some d := by
  have er : List.range (n + 1) = List.range m ++ m :: (List.range (n - m)).map fun x => m + (1 + x) := by
    have a1 : n + 1 = m + (1 + (n - m)) := by omega
    rw [a1, List.range_add, List.range_add, List.map_append, List.map_map]
    rfl
  rw [er, List.flatMap_append, List.flatMap_cons, e, List.find?_append, List.find?_append]
  have n1 : ((List.range m).flatMap g).find? f = none := List.find?_eq_none.mpr fun x hx => by
    obtain ⟨m', hm', hx⟩ := List.mem_flatMap.mp hx
    rw [h1 m' (List.mem_range.mp hm') x hx]; simp
  have n2 : (A ++ d :: B).find? f = some d := by
    rw [List.find?_append, List.find?_eq_none.mpr fun x hx => by rw [h2 x hx]; simp, List.find?_cons, hd]
    rfl
  rw [n1, n2]
  rfl
theorem find_no {α : Type} {g : Nat → List α} {f : α → Bool} {n : Nat} (h : ∀ m < n, ∀ p ∈ g m, f p = false) : ((List.range n).flatMap g).find? f = none := List.find?_eq_none.mpr fun x hx => by
  obtain ⟨m', hm', hx⟩ := List.mem_flatMap.mp hx
  rw [h m' (List.mem_range.mp hm') x hx]; simp
section
variable {P : Program} {w : World} {K : PySem.W.Frag} {mg : Str → Option Value} {base : Heap}
abbrev s_fewest_of : Stmt := topS 52
theorem sc_fewest_of : FnScope ["clauses", "shortest", "level", "must", "kept", "free", "many", "chosen", "one"] ["clauses", "shortest", "level"] (defScope s_fewest_of) := ⟨rfl, rfl, rfl, by decide +kernel, rfl, by decide +kernel, by decide +kernel⟩
def sp_fewest_of (K : PySem.W.Frag) : Sp := sl3 (TuR TT) (SqR K TT) Tx FewPre fun cs sh l M ws => Pd TT M (fewestL cs sh l) ws
theorem few_chw {ns : List Str} (nm : NmL ns) (n14 : ns.length ≤ 14) {ds : List (List Str)} (hl : ∀ d ∈ ds, Lits ns d) (hk : ds.length ≤ 10000) : ChW ds := by
  refine ⟨fun d hd => short_lits nm (hl d hd), ?_, by omega⟩
  have := flat_len (n := 14) (xs := ds) fun d hd => Nat.le_trans (lits_len (hl d hd) nm) n14
  omega
theorem ok_fewest_of {f : Addr} {fd : FuncData} (F : Fun K "fewest_of" "fewest_of" s_fewest_of f fd) (T : Gc mg) (c_is_seen : Cal P w K mg base 6 "is_seen" ["clauses", "clause", "level"] (sp_is_seen K)) (c_without : Cal P w K mg base 2 "without" ["clauses", "clause"] (sp_without K)) (c_finds : Cal P w K mg base 5 "finds" ["clauses", "clause"] (sp_finds K))
    (n_picks_of : Gnr P w K mg base 208 "picks_of" ["things", "many"] (spFew 100)) : FnOk P w K mg base CX0 210 f fd ["clauses", "shortest", "level"] (sp_fewest_of K) := by
  refine F.ok sc_fewest_of (fun vs H Q E h => ?_) (fun cdv A outer s H vs Q E hr h => ?_)
  · obtain ⟨x, y, z, M, v, w, u, rfl, _⟩ := h
    rfl
  · obtain ⟨cs, sh, l, M, v, w, u, rfl, mh, r1, r2, r3, X, q⟩ := h
    have hu := hr.units
    cases (show u = _ from r3)
    obtain ⟨ns, nm, Lc, Ls, n14⟩ := X.ex
    have kc := X.kc
    have ks := X.ks
    have kf := X.kf
    refine ⟨_, (pss_cons (ps_set (i := 3) sc_fewest_of.nd rfl (by first | exact .inl rfl | exact .inr rfl) (pe_lc (own := [("one", 8)]) (g := (gName 8)) (tt := (tNot (tB (tCall (sp_is_seen K) [] E0 (tCons (tOp (rAddA K) (tVar 0) (tCall (sp_without K) [] E0 (tCons (tVar 1) (tCons (tVar 8) tNil)))) (tCons (tVar 8) (tCons (tVar 2) tNil))))))) (te := (tVar 8)) (by rfl) sc_fewest_of.nd (pi_sq (pv 1)) (blkOk_by (by rfl)) (fun _ _ _ _ _ => (pg_name (i := 8) sc_fewest_of.nd rfl (by first | exact .inl rfl | exact .inr rfl))) (fun _ _ _ _ _ => (pts_one (pt_not (pt_val (pe_f c_is_seen (hr.mono (by decide)) (pa_cons (pe_op op_addA (pv 0) (pe_f c_without (hr.mono (by decide)) (pa_cons (pv 1) (pa_cons (pv 8) pa_nil)))) (pa_cons (pv 8) (pa_cons (pv 2) pa_nil)))))))) (fun _ _ _ _ _ => (pv 8))))
      (pss_cons (ps_set (i := 4) sc_fewest_of.nd rfl (by first | exact .inl rfl | exact .inr rfl) (pe_op op_addA (pv 0) (pe_callTy call_tupA (by rfl) T.tuple boot_tuple (pa_cons (pv 3) pa_nil))))
      (pss_cons (ps_setLc (i := 5) (own := [("one", 8)]) (g := (gName 8)) (tt := (tAnd (tTest (tOp (rInA K true) (tVar 8) (tVar 3))) (tNot (tB (tCall (sp_finds K) [] E0 (tCons (tVar 4) (tCons (tVar 8) tNil))))))) (te := (tVar 8)) (by rfl) sc_fewest_of.nd rfl rfl (sw_true rfl rfl rfl (by decide +kernel)) (pi_sq (pv 1)) (blkOk_by (by rfl)) (fun _ _ _ _ _ => (pg_name (i := 8) sc_fewest_of.nd rfl (by first | exact .inl rfl | exact .inr rfl))) (fun _ _ _ _ _ => (pts_one (PW.pt (pw_and (pt_cmpR (op_niA hu) (pv 8) (pv 3) (by rfl)) (pw_and1 (pt_not (pt_val (pe_f c_finds (hr.mono (by decide)) (pa_cons (pv 4) (pa_cons (pv 8) pa_nil)))))))))) (fun _ _ _ _ _ => (pv 8)))
      (pss_cons (ps_for PassesOwn.never (by rfl) (pi_range1 (by rfl) T.range (pa_cons (pe_op op_addA (pe_callB call_lenA (by rfl) T.len boot_len (pa_cons (pv 5) pa_nil)) pe_int) pa_nil)) (pg_name (i := 6) sc_fewest_of.nd rfl (by first | exact .inl rfl | exact .inr rfl)) (pss_one (ps_forG PassesOwn.never xeg0 (hr.mono (by decide)) (pgn_g n_picks_of (hr.mono (by decide)) (by rfl) (pa_cons (pv 5) (pa_cons (pv 6) pa_nil))) (pg_name (i := 7) sc_fewest_of.nd rfl (by first | exact .inl rfl | exact .inr rfl)) (pss_one (ps_if (pt_val (pe_callB (cr_all rfl) (by rfl) T.all boot_all (pa_cons (pe_lc (own := [("one", 8)]) (g := (gName 8)) (tt := tYes) (te := (tCall (sp_is_seen K) [] E0 (tCons (tOp (rAddA K) (tVar 4) (tCB (rTupOf K) (tCons (tVar 7) tNil))) (tCons (tVar 8) (tCons (tVar 2) tNil))))) (by rfl) sc_fewest_of.nd (pi_sq (pv 1)) (blkOk_by (by rfl)) (fun _ _ _ _ _ => (pg_name (i := 8) sc_fewest_of.nd rfl (by first | exact .inl rfl | exact .inr rfl))) (fun _ _ _ _ _ => pts_nil) (fun _ _ _ _ _ => (pe_f c_is_seen (hr.mono (by decide)) (pa_cons (pe_op op_addA (pv 4) (pe_callTy call_tupA (by rfl) T.tuple boot_tuple (pa_cons (pv 7) pa_nil))) (pa_cons (pv 8) (pa_cons (pv 2) pa_nil)))))) pa_nil))) (pss_one (ps_ret (pe_lc (own := [("one", 8)]) (g := (gName 8)) (tt := (tOr (tTest (tOp (rInA K false) (tVar 8) (tVar 3))) (tTest (tOp (rInA K false) (tVar 8) (tVar 7))))) (te := (tVar 8)) (by rfl) sc_fewest_of.nd (pi_sq (pv 1)) (blkOk_by (by rfl)) (fun _ _ _ _ _ => (pg_name (i := 8) sc_fewest_of.nd rfl (by first | exact .inl rfl | exact .inr rfl))) (fun _ _ _ _ _ => (pts_one (PW.pt (pw_or (pt_cmpR (op_inA hu) (pv 8) (pv 3) (by rfl)) (pw_or1 (pt_cmpR (op_inA hu) (pv 8) (pv 7) (by rfl))))))) (fun _ _ _ _ _ => (pv 8))))) pss_nil)))))
      (pss_one (ps_ret (pe_callTy call_lstA (by rfl) T.list boot_list (pa_cons (pv 1) pa_nil)))))))), ?_⟩
    have lm : ∀ o ∈ mustL cs sh l, o ∈ sh := fun o h => (List.mem_filter.mp h).1
    have klm : (mustL cs sh l).length ≤ 1000 := Nat.le_trans (List.length_filter_le _ _) ks
    have kll : ∀ o, (lessL sh o).length ≤ 1000 := fun o => Nat.le_trans (List.length_filter_le _ _) ks
    have Lw : ∀ ds : List (List Str), (∀ d ∈ ds, d ∈ sh) → ∀ d ∈ cs ++ ds, Lits ns d := fun ds h d hd => (List.mem_append.mp hd).elim (Lc d) fun z => Ls d (h d z)
    refine q_asg (P := LiR TT (mustL cs sh l)) mh (gl_isL (gl_c1 (S := TT) (R := TT) (xs := sh) (gi_sq (K := K) (gv_var rfl r2)) (szK (by omega)) (fun o => !seen1 (cs ++ lessL sh o) l o) id (fun o ho M1 u1 sm ru => gt_not (gt_B (gv_call3 (R1 := SqR K (SqR K Tx)) (R2 := TT) (R3 := Tx) (x := cs ++ lessL sh o) (y := o) (z := l)
      (gv_is (gv_addT (R := TT) (gv_var rfl (Mon.mono sm r1)) (gv_call2 (R1 := SqR K TT) (R2 := TT) (x := sh) (y := o) (gv_var rfl (Mon.mono sm r2)) (gv_var rfl ru) (by omega)) (szM (by have := kll o; omega))) fun _ _ h => h.sqq) (gv_var rfl ru) (gv_var rfl rfl) ⟨few_chw nm n14 (Lw _ fun d hd => (List.mem_filter.mp hd).1) (by rw [List.length_append]; have := kll o; omega), short_lits nm (Ls o ho), ns, nm, Lw _ fun d hd => (List.mem_filter.mp hd).1, Ls o ho⟩)))
      fun o _ _ M1 u1 sm ru => gv_var rfl ru) fun M vs h => by rw [List.map_id] at h; exact h).li fun v3 M1 H1 g1 p1 => ?_
    refine q_asg (P := TuR TT (cs ++ mustL cs sh l)) g1.mh (gv_addT (R := TT) (gv_var rfl (Mon.mono g1.mm r1)) (gv_tupU (gv_var rfl p1)) (szM (by omega))) fun v4 M2 H2 g2 p2 => ?_
    have Lk : ∀ d ∈ cs ++ mustL cs sh l, Lits ns d := Lw _ lm
    refine q_asg (P := LiR TT (freeL cs sh l)) g2.mh (gl_isL (gl_c1 (S := TT) (R := TT) (xs := sh) (gi_sq (K := K) (gv_var rfl (Mon.mono (g1.mm.trans g2.mm) r2))) (szK (by omega)) (fun o => decide (o ∉ mustL cs sh l) && !findsB (cs ++ mustL cs sh l) o) id
      (fun o ho M1 u1 sm ru => gt_and (gt_is (gt_test (gv_inD (K := K) (R := TT) (neg := true) py_TT inj_TT (gv_var rfl ru) (gv_var rfl (Mon.mono (g2.mm.trans sm) p1).sq) (by simp [PyData.depth, depthS]))) (by simp)) fun _ => gt_not (gt_B (gv_call2 (R1 := SqR K (SqR K Tx)) (R2 := TT) (x := cs ++ mustL cs sh l) (y := o) (gv_var rfl (Mon.mono sm p2).sqq) (gv_var rfl ru)
        ⟨few_chw nm n14 Lk (by rw [List.length_append]; omega), short_lits nm (Ls o ho), ns, nm, Lk, Ls o ho⟩))) fun o _ _ M1 u1 sm ru => gv_var rfl ru) fun M vs h => by rw [List.map_id] at h; exact h).li fun v5 M3 H3 g3 p3 => ?_
    have G3 := (g1.trans g2).trans g3
    obtain ⟨b5, vs5, rfl, hb5, pd5⟩ := id p3
    refine q_forG (R := fun i : Nat => It' (i : Nat)) (xs := List.range ((freeL cs sh l).length + 1)) G3.mh (gi_rng1 (n := (freeL cs sh l).length + 1) (gv_is (gv_addIn (K := K) (gv_lenA (K := K) (R := TT) (gv_var rfl p3.sq)) (gv_c rfl)) fun M v e => by rw [show v = _ from e]; simp) (by omega)) tg_1
      (fun M1' i σ' M' H' => ∃ y6 y7 y8, Gr M H M' H' ∧ Same M1' M' ∧ Same M3 M' ∧ (∀ m < i, ∀ p ∈ picks m (freeL cs sh l), seenL (cs ++ mustL cs sh l ++ p) sh l = false) ∧ σ' = [some v, some w, some (.str l), some v3, some v4, some (.ref b5), y6, y7, y8])
      (fun M5 H5 g5 => ⟨_, _, _, G3.trans g5, Same.refl _, g5.mm, fun m hm => absurd hm (Nat.not_lt_zero _), rfl⟩) (fun M5 i σ' M' H' ⟨_, _, _, g, s1, _⟩ => ⟨s1, g.mh⟩) ?_ ?_
    · rintro M5 i x σ' M' H' M6 H6 σ2 sM hx ⟨y6, y7, y8, g, s1, s2, hno, rfl⟩ g6 ⟨vi, ri, rfl⟩
      obtain ⟨hi, rfl⟩ : i < (freeL cs sh l).length + 1 ∧ x = i := by
        obtain ⟨h1, h2⟩ := List.getElem?_eq_some_iff.mp hx
        rw [List.length_range] at h1
        rw [List.getElem_range] at h2
        exact ⟨h1, h2.symm⟩
      obtain rfl : vi = .int (x : Nat) := ri
      have G6 := g.trans g6
      have s36 : Same M3 M6 := s2.trans g6.mm
      have hb6 : H6 b5 = some (.lst vs5) := G6.mh _ _ (s36 _ _ hb5)
      have l5 := pd_len pd5
      refine ⟨.ref b5, rfl, .int (x : Nat), rfl, picks x vs5, ⟨x, by omega, b5, vs5, rfl, hb6, by omega, by omega, rfl⟩,
        fun ry σ3 H3' => ∃ y7' y8' M3' A B, Gr M H M3' H3' ∧ Same M6 M3' ∧ picks x (freeL cs sh l) = A ++ B ∧ (∀ p ∈ A, seenL (cs ++ mustL cs sh l ++ p) sh l = false) ∧ Paired (Pd TT M3) B ry ∧ σ3 = [some v, some w, some (.str l), some v3, some v4, some (.ref b5), some (.int (x : Nat)), y7', y8'],
        ⟨_, _, M6, [], picks x (freeL cs sh l), G6, Same.refl _, rfl, fun p hp => absurd hp (by simp), pd_picks x pd5, rfl⟩, ?_, ?_⟩
      · rintro σ3 H3' ⟨y7', y8', M3', A, B, g7, s7, eA, hA, hB, rfl⟩ H' eH
        cases hB
        rw [List.append_nil] at eA
        refine ⟨M3', _, _, _, g7.trans (.idle g7.mh eH), s1.trans (g6.mm.trans s7), s36.trans s7, fun m hm p hp => ?_, rfl⟩
        by_cases e : m = x
        · subst e; rw [eA] at hp; exact hA p hp
        · exact hno m (by omega) p hp
      · rintro y r σ3 H3' ⟨y7', y8', M3', A, B, g7, s7, eA, hA, hB, rfl⟩ H' b eH nb tb
        obtain ⟨d, B', rfl, hd, hB'⟩ : ∃ d B', B = d :: B' ∧ Pd TT M3 d y ∧ Paired (Pd TT M3) B' r := by
          cases hB with | cons h1 h2 => exact ⟨_, _, rfl, h1, h2⟩
        have Gb := g7.trans (.idle g7.mh eH)
        have nM : M3' b = none := Gr.noneM g7 nb
        have G8 : Gr M H (upd M3' b (.lst y)) H' := Gb.freeze (g7.hh.free nb) nM tb
        have s38 : Same M3 (upd M3' b (.lst y)) := (s36.trans s7).trans (same_new nM)
        have rb : LiR TT d (upd M3' b (.lst y)) (.ref b) := ⟨b, y, rfl, upd_same, hd.mono s38⟩
        have dsub : ∀ o ∈ d, o ∈ sh := fun o ho => (List.mem_filter.mp (show o ∈ freeL cs sh l from picks_sub x _ d (by rw [eA]; simp) o ho)).1
        have dlen : d.length ≤ 100 := by rw [picks_len x _ d (by rw [eA]; simp)]; omega
        have Ld : ∀ c ∈ cs ++ mustL cs sh l ++ d, Lits ns c := fun c hc => (List.mem_append.mp hc).elim (Lk c) fun z => Ls c (dsub c z)
        have up : Same M (upd M3' b (.lst y)) := G3.mm.trans s38
        have p28 : TuR TT (cs ++ mustL cs sh l) (upd M3' b (.lst y)) v4 := Mon.mono (g3.mm.trans s38) p2
        have p18 : LiR TT (mustL cs sh l) (upd M3' b (.lst y)) v3 := Mon.mono ((g2.mm.trans g3.mm).trans s38) p1
        refine s_if (b := seenL (cs ++ mustL cs sh l ++ d) sh l) G8.mh (gt_is (gt_B (gv_all (K := K) (gl_m1 (S := Bl) (R := TT) (xs := sh) (gi_sq (K := K) (gv_var rfl (Mon.mono up r2))) (szK (by omega)) (fun o => seen1 (cs ++ mustL cs sh l ++ d) l o) fun o ho M1 u1 sm ru =>
          gv_call3 (R1 := SqR K (SqR K Tx)) (R2 := TT) (R3 := Tx) (x := cs ++ mustL cs sh l ++ d) (y := o) (z := l) (gv_is (gv_addT (R := TT) (gv_var rfl (Mon.mono sm p28)) (gv_tupU (gv_var rfl (Mon.mono sm rb))) (szM (by rw [List.length_append]; omega))) fun _ _ h => h.sqq) (gv_var rfl ru) (gv_var rfl rfl)
            ⟨few_chw nm n14 Ld (by rw [List.length_append, List.length_append]; omega), short_lits nm (Ls o ho), ns, nm, Ld, Ls o ho⟩))) (by rw [seenL_eq, List.all_map]; rfl)) (fun hb H9 hh => ?_) fun hb H9 hh => ?_
        · have e : fewestL cs sh l = sh.filter fun o => decide (o ∈ mustL cs sh l) || decide (o ∈ d) := by
            unfold fewestL
            rw [find_first (m := x) (n := (freeL cs sh l).length) (A := A) (B := B') (d := d) (by omega) (fun m hm p hp => hno m hm p hp) eA hA hb]
          refine s_retL (P := fun M ws => Pd TT M (sh.filter fun o => decide (o ∈ mustL cs sh l) || decide (o ∈ d)) ws) (G8.mh.trans hh) (gl_isL (gl_c1 (S := TT) (R := TT) (xs := sh) (gi_sq (K := K) (gv_var rfl (Mon.mono up r2))) (szK (by omega)) (fun o => decide (o ∈ mustL cs sh l) || decide (o ∈ d)) id
            (fun o ho M1 u1 sm ru => gt_or (gt_is (gt_test (gv_inD (K := K) (R := TT) (neg := false) py_TT inj_TT (gv_var rfl ru) (gv_var rfl (Mon.mono sm p18).sq) (by simp [PyData.depth, depthS]))) (by simp)) fun _ => gt_is (gt_test (gv_inD (K := K) (R := TT) (neg := false) py_TT inj_TT (gv_var rfl ru) (gv_var rfl (Mon.mono sm rb).sq) (by simp [PyData.depth, depthS]))) (by simp)) fun o _ _ M1 u1 sm ru => gv_var rfl ru)
            fun M vs h => by rw [List.map_id] at h; exact h) fun p ws M9 H10 g9 n9 m9 t9 e9 => q p ws M9 H10 ((G8.trans (.idle G8.mh hh)).trans g9) (G8.hh.free (hh.free n9)) m9 t9 ?_
          show Pd TT M9 (fewestL cs sh l) ws
          rw [e]; exact e9
        · exact ⟨hh, _, _, upd M3' b (.lst y), A ++ [d], B', G8.trans (.idle G8.mh hh), s7.trans (same_new nM), by rw [eA, List.append_assoc]; rfl, fun p hp => (List.mem_append.mp hp).elim (hA p) fun z => by rw [List.mem_singleton.mp z]; exact hb, hB', rfl⟩
    · rintro M5 σ' M' H' sM ⟨y6, y7, y8, g, s1, s2, hno, rfl⟩
      have e : fewestL cs sh l = sh := by
        unfold fewestL
        rw [find_no fun m hm => hno m (by rw [List.length_range]; exact hm)]
      refine s_retL g.mh (gl_lstOf (K := K) (R1 := TT) (gv_var rfl (Mon.mono (G3.mm.trans s2) r2))) fun p ws M7 H7 g7 n7 m7 t7 e7 => q p ws M7 H7 (g.trans g7) (g.hh.free n7) m7 t7 ?_
      show Pd TT M7 (fewestL cs sh l) ws
      rw [e]; exact e7
end
end My

set_option Elab.async false
set_option linter.all false
set_option maxRecDepth 100000
set_option maxHeartbeats 2000000
namespace My
open PySem PySem.Spec PyProof.Rows L2 L3
/-! the fewest list: it sees, and no fewer consequences do -/
section
variable {ns : List Str} {cs cs' P Q sh q : List (List Str)} {o r : List Str} {l : Str}
theorem finds_mono (sub : ∀ c ∈ cs, c ∈ cs') (h : Finds cs r) : Finds cs' r := by
  have dm : ∀ {hs : List Str} {x : Str}, Der cs hs x → Der cs' hs x := fun d => by
    induction d with
    | base h => exact .base h
    | step hc hl _ ih => exact .step (sub _ hc) hl ih
  have dd : ∀ {hs : List Str}, Dead cs hs → Dead cs' hs := fun ⟨c, hc, h⟩ => ⟨c, sub c hc, fun m hm => dm (h m hm)⟩
  exact ⟨fun e => dd (h.1 e), fun x hx => (h.2 x hx).imp dd dm⟩
theorem finds_wide {c : List Str} (hc : c ∈ cs) (sub : ∀ x ∈ c, x ∈ r) : Finds cs r := by
  refine ⟨fun e => ⟨c, hc, fun m hm => by have := sub m hm; rw [e] at this; cases this⟩, fun x hx => ?_⟩
  by_cases h : x ∈ c
  · exact .inr (.step hc h fun m hm ne => .base (mem_den.mpr ⟨m, sub m hm, ne, rfl⟩))
  · exact .inl ⟨c, hc, fun m hm => .base (mem_den.mpr ⟨m, sub m hm, fun e => h (e ▸ hm), rfl⟩)⟩
theorem seen_finds (nm : NmL ns) (Lc : ∀ c ∈ cs, Lits ns c) (Lo : Lits ns o) (h : ∀ r ∈ P, Finds cs r) (e : seen1 P l o = true) : seen1 cs l o = true := by
  unfold seen1 at e ⊢
  by_cases hl : l = ("dead" : Str)
  · rw [if_pos hl] at e ⊢
    exact deadB_iff.mpr (finds_dead ⟨nm, Lc, lits_opp nm Lo⟩ h (deadB_iff.mp e))
  · rw [if_neg hl] at e ⊢
    obtain ⟨h1, h2⟩ := findsB_iff.mp e
    refine findsB_iff.mpr ⟨fun z => finds_dead ⟨nm, Lc, ⟨List.nodup_nil, fun x hx => by cases hx⟩⟩ h (h1 z), fun x hx => ?_⟩
    rcases h2 x hx with z | z
    · exact .inl (finds_dead ⟨nm, Lc, lits_den nm Lo x⟩ h z)
    · exact finds_der h z
theorem seenL_finds (nm : NmL ns) (Lc : ∀ c ∈ cs, Lits ns c) (Lo : ∀ o ∈ sh, Lits ns o) (h : ∀ r ∈ P, Finds cs r) (e : seenL P sh l = true) : seenL cs sh l = true := by
  rw [seenL_eq, List.all_eq_true] at e ⊢
  exact fun o ho => seen_finds nm Lc (Lo o ho) h (e o ho)
theorem seen_own (h : o ∈ cs) : seen1 cs l o = true := by
  unfold seen1
  split
  · exact deadB_iff.mpr ⟨o, h, fun m hm => .base (List.mem_map.mpr ⟨m, hm, rfl⟩)⟩
  · exact findsB_iff.mpr (finds_own h)
theorem few_mem {p : List (List Str)} (hp : ∃ m, p ∈ picks m (freeL cs sh l)) : ∀ x ∈ mustL cs sh l ++ p, x ∈ sh.filter fun o => decide (o ∈ mustL cs sh l) || decide (o ∈ p) := fun x hx => by
  obtain ⟨m, hp⟩ := hp
  refine List.mem_filter.mpr ⟨?_, ?_⟩
  · rcases List.mem_append.mp hx with z | z
    · exact (List.mem_filter.mp z).1
    · exact (List.mem_filter.mp (show x ∈ freeL cs sh l from picks_sub m _ p hp x z)).1
  · rcases List.mem_append.mp hx with z | z
    · simp [z]
    · simp [z]
theorem few_sub : ∀ x ∈ fewestL cs sh l, x ∈ sh := fun x hx => by
  unfold fewestL at hx
  split at hx
  · exact (List.mem_filter.mp hx).1
  · exact hx
theorem few_sub2 : (fewestL cs sh l).Sublist sh := by
  unfold fewestL
  split
  · exact List.filter_sublist
  · exact List.Sublist.refl _
theorem few_sees (nm : NmL ns) (Lc : ∀ c ∈ cs, Lits ns c) (Lo : ∀ o ∈ sh, Lits ns o) : seenL (cs ++ fewestL cs sh l) sh l = true := by
  have LF : ∀ c ∈ cs ++ fewestL cs sh l, Lits ns c := fun c hc => (List.mem_append.mp hc).elim (Lc c) fun z => Lo c (few_sub c z)
  cases e : ((List.range ((freeL cs sh l).length + 1)).flatMap fun m => picks m (freeL cs sh l)).find? fun p => seenL (cs ++ mustL cs sh l ++ p) sh l with
  | none =>
    have eF : fewestL cs sh l = sh := by unfold fewestL; rw [e]
    rw [eF, seenL_eq, List.all_eq_true]
    exact fun o ho => seen_own (List.mem_append_right _ ho)
  | some p =>
    have eF : fewestL cs sh l = sh.filter fun o => decide (o ∈ mustL cs sh l) || decide (o ∈ p) := by unfold fewestL; rw [e]
    obtain ⟨m, _, hm⟩ := List.mem_flatMap.mp (List.mem_of_find?_eq_some e)
    have e2 : seenL (cs ++ mustL cs sh l ++ p) sh l = true := by have z := List.find?_some e; exact z
    refine seenL_finds nm LF Lo (fun r hr => finds_own ?_) e2
    rw [List.append_assoc] at hr
    rcases List.mem_append.mp hr with z | z
    · exact List.mem_append_left _ z
    · rw [eF]; exact List.mem_append_right _ (few_mem ⟨m, hm⟩ r z)
theorem sub_head {α : Type} {a : α} {p xs : List α} (h : (a :: p).Sublist xs) : ∃ i : Nat, xs[i]? = some a ∧ p.Sublist (xs.drop (i + 1)) := by
  generalize e : a :: p = ap at h
  induction h with
  | slnil => cases e
  | cons x _ ih => obtain ⟨i, h1, h2⟩ := ih e; exact ⟨i + 1, by simpa using h1, by simpa using h2⟩
  | cons_cons x h _ => cases e; exact ⟨0, rfl, by simpa using h⟩
theorem picks_own {α : Type} : ∀ {p xs : List α}, p.Sublist xs → p ∈ picks p.length xs
  | [], _, _ => List.mem_cons_self
  | a :: p, xs, h => by
    obtain ⟨i, h1, h2⟩ := sub_head h
    have l2 := h2.length_le
    rw [List.length_drop] at l2
    have hi : i < xs.length := (List.getElem?_eq_some_iff.mp h1).1
    refine List.mem_flatMap.mpr ⟨i, List.mem_range.mpr (by omega), List.mem_map.mpr ⟨p, picks_own h2, by rw [h1]; rfl⟩⟩
theorem find_le {α : Type} {g : Nat → List α} {f : α → Bool} {m n : Nat} {p : α} (hm : m ≤ n) (hp : p ∈ g m) (hf : f p = true) : ∃ p0 m0, ((List.range (n + 1)).flatMap g).find? f = some p0 ∧ m0 ≤ m ∧ p0 ∈ g m0 := by
  have er : List.range (n + 1) = List.range (m + 1) ++ (List.range (n - m)).map fun x => (m + 1) + x := by
    have a1 : n + 1 = (m + 1) + (n - m) := by omega
    rw [a1, List.range_add]
  rw [er, List.flatMap_append, List.find?_append]
  cases e : ((List.range (m + 1)).flatMap g).find? f with
  | none =>
    have := List.find?_eq_none.mp e p (List.mem_flatMap.mpr ⟨m, List.mem_range.mpr (Nat.lt_succ_self m), hp⟩)
    exact absurd hf this
  | some p0 =>
    obtain ⟨m0, h1, h2⟩ := List.mem_flatMap.mp (List.mem_of_find?_eq_some e)
    exact ⟨p0, m0, rfl, by have := List.mem_range.mp h1; omega, h2⟩
theorem few_min (nm : NmL ns) (Lc : ∀ c ∈ cs, Lits ns c) (Lo : ∀ o ∈ sh, Lits ns o) (nd : sh.Nodup) (hq : ∀ x ∈ q, x ∈ sh) (e : seenL (cs ++ q) sh l = true) : (fewestL cs sh l).length ≤ q.length := by
  have mq : ∀ o ∈ mustL cs sh l, o ∈ q := fun o ho => by
    refine Classical.byContradiction fun no => ?_
    obtain ⟨hs, hn⟩ := List.mem_filter.mp ho
    rw [seenL_eq, List.all_eq_true] at e
    have Ll : ∀ c ∈ cs ++ lessL sh o, Lits ns c := fun c hc => (List.mem_append.mp hc).elim (Lc c) fun z => Lo c (List.mem_filter.mp z).1
    have := seen_finds nm Ll (Lo o hs) (P := cs ++ q) (fun r hr => finds_own ?_) (e o hs)
    · rw [this] at hn; cases hn
    · rcases List.mem_append.mp hr with z | z
      · exact List.mem_append_left _ z
      · exact List.mem_append_right _ (List.mem_filter.mpr ⟨hq r z, by simp only [decide_eq_true_eq]; exact fun e => no (e ▸ z)⟩)
  have psub : ((freeL cs sh l).filter fun o => decide (o ∈ q)).Sublist (freeL cs sh l) := List.filter_sublist
  have Lk : ∀ c ∈ cs ++ mustL cs sh l, Lits ns c := fun c hc => (List.mem_append.mp hc).elim (Lc c) fun z => Lo c (List.mem_filter.mp z).1
  have Lp : ∀ c ∈ cs ++ mustL cs sh l ++ (freeL cs sh l).filter fun o => decide (o ∈ q), Lits ns c := fun c hc => (List.mem_append.mp hc).elim (Lk c) fun z => Lo c (List.mem_filter.mp (List.mem_filter.mp z).1).1
  have sp : seenL (cs ++ mustL cs sh l ++ (freeL cs sh l).filter fun o => decide (o ∈ q)) sh l = true := by
    refine seenL_finds nm Lp Lo (P := cs ++ q) (fun r hr => ?_) e
    rcases List.mem_append.mp hr with z | z
    · exact finds_own (List.mem_append_left _ (List.mem_append_left _ z))
    · by_cases h1 : r ∈ mustL cs sh l
      · exact finds_own (List.mem_append_left _ (List.mem_append_right _ h1))
      · by_cases h2 : findsB (cs ++ mustL cs sh l) r = true
        · exact finds_mono (fun c hc => List.mem_append_left _ hc) (findsB_iff.mp h2)
        · refine finds_own (List.mem_append_right _ (List.mem_filter.mpr ⟨List.mem_filter.mpr ⟨hq r z, ?_⟩, by simp [z]⟩))
          simp [h1, h2]
  obtain ⟨p0, m0, h0, hm0, hp0⟩ := find_le (g := fun m => picks m (freeL cs sh l)) (f := fun p => seenL (cs ++ mustL cs sh l ++ p) sh l) (n := (freeL cs sh l).length) psub.length_le (picks_own psub) sp
  have eF : fewestL cs sh l = sh.filter fun o => decide (o ∈ mustL cs sh l) || decide (o ∈ p0) := by unfold fewestL; rw [h0]
  have l0 := picks_len m0 _ p0 hp0
  have ndm : (mustL cs sh l).Nodup := nd.sublist List.filter_sublist
  have ndf : (freeL cs sh l).Nodup := nd.sublist List.filter_sublist
  have h1 : (fewestL cs sh l).length ≤ (mustL cs sh l ++ p0).length := by
    rw [eF]
    refine nodup_le2 (nd.sublist List.filter_sublist) fun x hx => ?_
    have := (List.mem_filter.mp hx).2
    rw [Bool.or_eq_true, decide_eq_true_eq, decide_eq_true_eq] at this
    exact List.mem_append.mpr this
  have h2 : (mustL cs sh l ++ (freeL cs sh l).filter fun o => decide (o ∈ q)).length ≤ q.length := by
    refine nodup_le2 (List.nodup_append.mpr ⟨ndm, ndf.sublist psub, fun a ha b hb e => ?_⟩) fun x hx => ?_
    · subst e
      have := (List.mem_filter.mp (List.mem_filter.mp hb).1).2
      simp [ha] at this
    · rcases List.mem_append.mp hx with z | z
      · exact mq x z
      · have := (List.mem_filter.mp z).2; simpa using this
  rw [List.length_append] at h1 h2
  omega
end
end My

set_option Elab.async false
set_option linter.all false
set_option maxRecDepth 100000
set_option maxHeartbeats 8000000
namespace My
open PySem PySem.Spec PyProof.Rows L2 L3
/-! a code with more clauses; fewest of a code -/
structure CG (c : CodeD) : Prop where
  nm : NmL c.names
  l : ∀ x ∈ c.clauses, Lits c.names x
  n : c.names.length ≤ 100
  k : c.clauses.length ≤ 1000
  nf : Nf c
theorem CG.made {c : CodeD} (g : CG c) : mkCode c.signs c.helpers c.clauses = c := g.nf.made
theorem code_ok {ss hs : List Str} {cs : List (List Str)} (nm : NmL (ss ++ hs)) (n : (ss ++ hs).length ≤ 100) (l : ∀ x ∈ cs, Lits (ss ++ hs) x) (k : cs.length ≤ 1000) : CodeOk ss hs cs ∧ CG (mkCode ss hs cs) := by
  have hl : (ss ++ hs).length = ss.length + hs.length := List.length_append
  obtain ⟨n1, n2, n3⟩ := List.nodup_append.mp nm.nd
  refine ⟨⟨⟨n1, fun x hx => ⟨nm.nm x (List.mem_append_left _ hx), fun h => by cases h⟩, by omega⟩, ⟨n2, fun x hx => ⟨nm.nm x (List.mem_append_right _ hx), fun h => n3 x h x hx rfl⟩, by omega⟩, by omega, fun x hx => clOk_lits nm (l x hx), by omega⟩, nm, fun x hx => ?_, n, ?_, ⟨fun x hx => ?_, once_nodup _⟩⟩
  · obtain ⟨d, hd, rfl⟩ := List.mem_map.mp (mem_once.mp (show x ∈ once (cs.map fun d => asc d (ss ++ hs)) from hx))
    exact (l d hd).asc nm
  · exact Nat.le_trans (once_len2 _) (by rw [List.length_map]; exact k)
  · obtain ⟨d, hd, rfl⟩ := List.mem_map.mp (mem_once.mp (show x ∈ once (cs.map fun d => asc d (ss ++ hs)) from hx))
    exact asc_asc _ _
def moreD (c : CodeD) (ds : List (List Str)) : CodeD := mkCode c.signs c.helpers (c.clauses ++ ds)
section
variable {P : Program} {w : World} {K : PySem.W.Frag} {mg : Str → Option Value} {base : Heap}
def sp_Code_moreQ (K : PySem.W.Frag) (C : Addr) : Sp := sp2 (CodeR C) (SqR K (SqR K Tx)) (fun c ds => CG c ∧ c.clauses.length + ds.length ≤ 1000 ∧ ∀ d ∈ ds, Lits c.names d) fun c ds => CodeR C (moreD c ds)
theorem ok_Code_moreQ {f C : Addr} {fd : FuncData} (F : Fun K "more" "Code.more" s_Code_more f fd) (T : Gc mg) (TC : CodeT K mg C) (c_checked_clauses : Cal P w K mg base 4 "checked_clauses" ["clauses", "names"] (sp_checked_clauses K)) (k_Code : Mak P w K mg base 5 "Code" C ["self", "signs", "clauses", "helpers"] (sp_Code_init K C)) : FnOk P w K mg base CX0 7 f fd ["self", "clauses"] (sp_Code_moreQ K C) := by
  refine F.ok sc_Code_more (fun vs H Q E h => ?_) (fun cdv A outer s H vs Q E hr h => ?_)
  · obtain ⟨x, y, M, v, w, rfl, _⟩ := h
    rfl
  · obtain ⟨c, ds, M, v, w, rfl, mh, r1, r2, ⟨X, hk, hl⟩, q⟩ := h
    have hu := hr.units
    refine ⟨_, (pss_one (ps_ret (pe_mk k_Code (hr.mono (by decide)) (pa_cons (pe_fld (pv 0) rfl) (pa_cons (pe_op op_addA (pe_callTy call_lstA (by rfl) T.list boot_list (pa_cons (pe_fld (pv 0) rfl) pa_nil)) (pe_f c_checked_clauses (hr.mono (by decide)) (pa_cons (pv 1) (pa_cons (pe_fld (pv 0) rfl) pa_nil)))) (pa_cons (pe_fld (pv 0) rfl) pa_nil)))))), ?_⟩
    obtain ⟨ok, _⟩ := code_ok (ss := c.signs) (hs := c.helpers) (cs := c.clauses ++ ds.map fun d => asc d c.names) X.nm X.n (fun x hx => by
      rcases List.mem_append.mp hx with hx | hx
      · exact X.l x hx
      · obtain ⟨d, hd, rfl⟩ := List.mem_map.mp hx
        exact (hl d hd).asc X.nm) (by rw [List.length_append, List.length_map]; omega)
    have e : mkCode c.signs c.helpers (c.clauses ++ ds.map fun d => asc d c.names) = moreD c ds := by
      have e1 : ((c.clauses ++ ds.map fun d => asc d c.names).map fun d => asc d (c.signs ++ c.helpers)) = (c.clauses ++ ds).map fun d => asc d (c.signs ++ c.helpers) := by
        rw [List.map_append, List.map_append, List.map_map]
        congr 1
        exact List.map_congr_left fun d _ => asc_asc d c.names
      show CodeD.mk _ _ (once _) = CodeD.mk _ _ (once _)
      rw [e1]
    exact s_ret mh (gv_is (gv_mkCode (K := K) (C := C) (gv_is (gv_sign TC (gv_var rfl r1)) fun _ _ h => h.sq) (gv_is (gl_addL (K := K) (R := TT) (xs := c.clauses) (ys := ds.map fun d => asc d c.names) (gl_lstOf (K := K) (R1 := TT) (gv_is (gv_clause TC (gv_var rfl r1)) fun _ _ h => h.sq)).li (gl_call2 (R1 := SqR K (SqR K Tx)) (R2 := SqR K Tx) (pre := fun cs ns => Shorts ns ∧ cs.length ≤ 1000000 ∧ ∀ c ∈ cs, ClOk ns c) (R := fun cs ns M ws => Pd TT M (cs.map fun c => asc c ns) ws) (x := ds) (y := c.names) (gv_var rfl r2) (gv_is (gv_names TC (gv_var rfl r1)) fun _ _ h => h.sq) ⟨nm_shorts X.nm, by omega, fun d hd => clOk_lits X.nm (hl d hd)⟩).li (szM (by rw [List.length_map]; omega))).li fun _ _ h => liTT_sqq h) (gv_is (gv_helper TC (gv_var rfl r1)) fun _ _ h => h.sq) ok) fun M v h => by rw [e] at h; exact h) q
abbrev s_fewest : Stmt := topS 51
theorem sc_fewest : FnScope ["code", "level"] ["code", "level"] (defScope s_fewest) := ⟨rfl, rfl, rfl, by decide +kernel, rfl, by decide +kernel, by decide +kernel⟩
structure FewC (c : CodeD) (l : Str) : Prop where
  x : LvX c l
  na : l ≠ ("all" : Str)
  f : FewPre c.clauses (shortestL (lvNames c l) (lvSet c l)) l
noncomputable def fewC (c : CodeD) (l : Str) : List (List Str) := fewestL c.clauses (shortestL (lvNames c l) (lvSet c l)) l
def sp_fewest (K : PySem.W.Frag) (C : Addr) : Sp := sl2 (CodeR C) Tx FewC fun c l M ws => Pd TT M (fewC c l) ws
theorem ok_fewest {f C CR : Addr} {fd : FuncData} {dvs : List V} (F : FunD K "fewest" "fewest" (defArgs s_fewest) (defBody s_fewest) (defScope s_fewest) dvs [] f fd) (T : Gf K mg) (TC : CodeT K mg C) (c_level_rule : Cal P w K mg base 21 "level_rule" ["code", "level"] (sp_level_rule K C CR)) (m_shortest : Met P w K mg base 3 CR "shortest" ["self"] (sp_Rule_shortest K CR))
    (c_fewest_of : Cal P w K mg base 210 "fewest_of" ["clauses", "shortest", "level"] (sp_fewest_of K)) : FnOk P w K mg base CX0 211 f fd ["code", "level"] (sp_fewest K C) := by
  refine funD_ok F sc_fewest (fun vs H Q E h => ?_) (fun cdv A outer s H vs Q E hr h => ?_)
  · obtain ⟨x, y, M, v, w, rfl, _⟩ := h
    rfl
  · obtain ⟨c, l, M, v, w, rfl, mh, r1, r2, X, q⟩ := h
    have hu := hr.units
    cases (show w = _ from r2)
    refine ⟨_, (pss_cons (ps_if (pt_cmpR (op_eqP hu) (pv 1) pe_str (nomark _)) (pss_one ps_never) pss_nil)
      (pss_one (ps_ret (pe_f c_fewest_of (hr.mono (by decide)) (pa_cons (pe_fld (pv 0) rfl) (pa_cons (pe_m0 m_shortest (hr.mono (by decide)) (pe_f c_level_rule (hr.mono (by decide)) (pa_cons (pv 0) (pa_cons (pv 1) pa_nil)))) (pa_cons (pv 1) pa_nil))))))), ?_⟩
    refine q_if (b := decide (l = ("all" : Str))) mh (gt_is (gt_test (gv_eqT (K := K) (neg := false) py_str inj_str (gv_var rfl rfl) (gv_c rfl) (by simp [PyData.depth]))) (by simp)) (fun hb H1 hh1 => ?_) (fun hb H1 hh1 => ?_)
    · exact absurd (of_decide_eq_true hb) X.na
    · have g1 := Gr.idle mh hh1
      refine s_retL g1.mh (gl_call3 (R1 := TuR TT) (R2 := SqR K TT) (R3 := Tx) (x := c.clauses) (y := shortestL (lvNames c l) (lvSet c l)) (z := l) (gv_clause TC (gv_var rfl r1)) (gv_is (GvL.li (gl_isL (gl_met1 (R1 := RuleR CR) (pre := RuleW) (x := mkRule (lvNames c l) (lvSet c l)) (insR_rule (by decide +kernel) (by decide +kernel)) (gv_call2 (R1 := CodeR C) (R2 := Tx) (x := c) (y := l) (gv_var rfl r1) (gv_var rfl rfl) X.x) X.x.rx.w) fun M v h => by rw [X.x.rx.set] at h; exact h)) fun _ _ h => h.sq) (gv_var rfl rfl) X.f)
        fun p ws M2 H2 g2 n2 m2 t2 e2 => q p ws M2 H2 (g1.trans g2) (g1.hh.free n2) m2 t2 e2
end
end My

set_option Elab.async false
set_option linter.all false
set_option maxRecDepth 100000
set_option maxHeartbeats 2000000
namespace My
open PySem PySem.Spec PyProof.Rows L2 L3
/-! a code with consequences of its rule more -/
/-- a clause of signs that each allowed setting meets -/
structure ConsOk (c : CodeD) (d : List Str) : Prop where
  l : Lits c.signs d
  m : ∀ s ∈ lvSet c fo, ∃ x ∈ d, x ∈ s
section
variable {c : CodeD} {ds : List (List Str)} {l : Str} {d : List Str}
theorem lits_sg {ns ms ys : List Str} (h : Lits ns ys) (s : ∀ n ∈ ns, n ∈ ms) : Lits ms ys := ⟨h.nd, fun y hy => let ⟨n, hn, e⟩ := h.of y hy; ⟨n, s n hn, e⟩⟩
theorem ConsOk.w (h : ConsOk c d) : Lits c.names d := lits_sg h.l fun n hn => List.mem_append_left _ hn
theorem more_mem {x : List Str} : x ∈ (moreD c ds).clauses ↔ ∃ d ∈ c.clauses ++ ds, x = asc d c.names := by
  show x ∈ once ((c.clauses ++ ds).map fun d => asc d c.names) ↔ _
  rw [mem_once, List.mem_map]
  exact ⟨fun ⟨d, h, e⟩ => ⟨d, h, e.symm⟩, fun ⟨d, h, e⟩ => ⟨d, h, e.symm⟩⟩
theorem more_x (X : LawX c) (hk : c.clauses.length + ds.length ≤ 1000) (hd : ∀ d ∈ ds, Lits c.names d) : LawX (moreD c ds) := by
  refine ⟨X.nm, X.n6, fun x hx => ?_, ?_⟩
  · obtain ⟨d, h, rfl⟩ := more_mem.mp hx
    exact ((List.mem_append.mp h).elim (X.l d) (hd d)).asc X.nm
  · refine Nat.le_trans (once_len2 _) ?_
    rw [List.length_map, List.length_append]; exact hk
theorem fits_asc (X : LawX c) (hd : ∀ d ∈ ds, Lits c.names d) {s : List Str} : Fits (moreD c ds).clauses s ↔ Fits (c.clauses ++ ds) s := by
  have key : ∀ d ∈ c.clauses ++ ds, ∀ x, x ∈ asc d c.names ↔ x ∈ d := fun d h => asc_same ((List.mem_append.mp h).elim (X.l d) (hd d))
  constructor
  · intro h d hm
    obtain ⟨x, hx, hs⟩ := h _ (more_mem.mpr ⟨d, hm, rfl⟩)
    exact ⟨x, (key d hm x).mp hx, hs⟩
  · intro h x hx
    obtain ⟨d, hm, rfl⟩ := more_mem.mp hx
    obtain ⟨y, hy, hs⟩ := h d hm
    exact ⟨y, (key d hm y).mpr hy, hs⟩
theorem lv_two (h : l = ("dead" : Str) ∨ l = ("forced" : Str)) (c : CodeD) : lvNames c l = c.signs ∧ lvSet c l = lvSet c fo := by
  rcases h with rfl | rfl
  · exact ⟨lv_dead c, set_dead c⟩
  · exact ⟨lv_fo c, rfl⟩
theorem more_set (X : LawX c) (hd : ∀ d ∈ ds, ConsOk c d) : lvSet (moreD c ds) fo = lvSet c fo := by
  have hl : ∀ d ∈ ds, Lits c.names d := fun d h => (hd d h).w
  unfold lvSet
  rw [lv_fo, lv_fo]
  refine List.filter_congr fun s hs => ?_
  rw [Bool.eq_iff_iff, satB_iff, satB_iff]
  constructor
  · rintro ⟨t, p, sub, f⟩
    exact ⟨t, p, sub, fun d h => (fits_asc X hl).mp f d (List.mem_append_left _ h)⟩
  · rintro ⟨t, p, sub, f⟩
    refine ⟨t, p, sub, (fits_asc X hl).mpr fun d h => ?_⟩
    rcases List.mem_append.mp h with h | h
    · exact f d h
    · have : s ∈ lvSet c fo := by
        unfold lvSet
        rw [lv_fo, List.mem_filter, satB_iff]
        exact ⟨hs, t, p, sub, f⟩
      obtain ⟨x, hx, hxs⟩ := (hd d h).m s this
      exact ⟨x, hx, sub x hxs⟩
theorem seen_more (X : LawX c) (hd : ∀ d ∈ ds, Lits c.names d) {sh : List (List Str)} (Lo : ∀ o ∈ sh, Lits c.names o) : seenL (moreD c ds).clauses sh l = seenL (c.clauses ++ ds) sh l := by
  have key : ∀ d ∈ c.clauses ++ ds, Lits c.names d := fun d h => (List.mem_append.mp h).elim (X.l d) (hd d)
  have km : ∀ x ∈ (moreD c ds).clauses, Lits c.names x := fun x hx => by
    obtain ⟨d, h, rfl⟩ := more_mem.mp hx
    exact (key d h).asc X.nm
  rw [Bool.eq_iff_iff]
  constructor
  · refine seenL_finds X.nm key Lo fun r hr => ?_
    obtain ⟨d, h, rfl⟩ := more_mem.mp hr
    exact finds_wide h fun x hx => (asc_same (key d h) x).mpr hx
  · refine seenL_finds X.nm km Lo fun r hr => ?_
    exact finds_wide (more_mem.mpr ⟨r, hr, rfl⟩) fun x hx => (asc_same (key r hr) x).mp hx
theorem short_lit (X : LawX c) : ∀ o ∈ shortestL c.signs (lvSet c fo), Lits c.signs o := fun o ho => by
  have RX : RuleX c.signs (lvSet c fo) := by have := X.x.rx fo; rw [lv_fo] at this; exact this
  exact (short_cons RX ho).2.1
theorem short_ok' (X : LawX c) : ∀ o ∈ shortestL c.signs (lvSet c fo), ConsOk c o := fun o ho => by
  have RX : RuleX c.signs (lvSet c fo) := by have := X.x.rx fo; rw [lv_fo] at this; exact this
  exact ⟨(short_cons RX ho).2.1, (short_cons RX ho).1⟩
theorem cons_wide (X : LawX c) {o : List Str} (ho : o ∈ shortestL c.signs (lvSet c fo)) (L : Lits c.signs d) (sub : ∀ x ∈ o, x ∈ d) : ConsOk c d := ⟨L, fun s hs => by
  obtain ⟨x, hx, h⟩ := (short_ok' X o ho).m s hs
  exact ⟨x, sub x hx, h⟩⟩
/-- it sees just if the law's own look says so -/
theorem sees_more (X : LawX c) (hk : c.clauses.length + ds.length ≤ 1000) (hd : ∀ d ∈ ds, ConsOk c d) (hl : l = ("dead" : Str) ∨ l = ("forced" : Str)) : (blinds (moreD c ds) l).isEmpty = seenL (c.clauses ++ ds) (shortestL c.signs (lvSet c fo)) l := by
  have hw : ∀ d ∈ ds, Lits c.names d := fun d h => (hd d h).w
  have XM := more_x X hk hw
  have e1 := lv_two hl (moreD c ds)
  have RX : RuleX (lvNames (moreD c ds) l) (lvSet (moreD c ds) l) := XM.x.rx l
  have sg : ∀ n ∈ c.signs, n ∈ c.names := fun n hn => List.mem_append_left _ hn
  have nmS : NmL c.signs := by have := RX.nm; rw [e1.1] at this; exact this
  have e2 : (blinds (moreD c ds) l).isEmpty = seenL (moreD c ds).clauses (shortestL (lvNames (moreD c ds) l) (lvSet (moreD c ds) l)) l := seen_iff RX (ms := c.names) fun h hh => ⟨X.nm, XM.l, by
    rw [e1.1] at hh
    exact lits_sg (halves_lits nmS h hh) sg⟩
  rw [e2, e1.1, e1.2, more_set X hd]
  show seenL (moreD c ds).clauses (shortestL c.signs (lvSet c fo)) l = _
  exact seen_more X hw fun o ho => lits_sg (short_lit X o ho) sg
/-- narrower consequences do as well -/
theorem seen_narrow (X : LawX c) {some narrow : List (List Str)} (hs : ∀ d ∈ some, Lits c.names d) (hn : ∀ d ∈ narrow, Lits c.names d) (sub : ∀ d ∈ some, ∃ o ∈ narrow, ∀ x ∈ o, x ∈ d) (e : seenL (c.clauses ++ some) (shortestL c.signs (lvSet c fo)) l = true) :
    seenL (c.clauses ++ narrow) (shortestL c.signs (lvSet c fo)) l = true := by
  refine seenL_finds X.nm (fun d h => (List.mem_append.mp h).elim (X.l d) (hn d)) (fun o ho => lits_sg (short_lit X o ho) fun n hn => List.mem_append_left _ hn) (fun r hr => ?_) e
  rcases List.mem_append.mp hr with h | h
  · exact finds_own (List.mem_append_left _ h)
  · obtain ⟨o, ho, z⟩ := sub r h
    exact finds_wide (List.mem_append_right _ ho) z
theorem fewC_eq (hl : l = ("dead" : Str) ∨ l = ("forced" : Str)) : fewC c l = fewestL c.clauses (shortestL c.signs (lvSet c fo)) l := by
  unfold fewC
  rw [(lv_two hl c).1, (lv_two hl c).2]
theorem fewC_sees (X : LawX c) (hl : l = ("dead" : Str) ∨ l = ("forced" : Str)) : seenL (c.clauses ++ fewC c l) (shortestL c.signs (lvSet c fo)) l = true := by
  rw [fewC_eq hl]
  exact few_sees X.nm X.l fun o ho => lits_sg (short_lit X o ho) fun n hn => List.mem_append_left _ hn
theorem fewC_min (X : LawX c) (hl : l = ("dead" : Str) ∨ l = ("forced" : Str)) {q : List (List Str)} (hq : ∀ x ∈ q, x ∈ shortestL c.signs (lvSet c fo)) (e : seenL (c.clauses ++ q) (shortestL c.signs (lvSet c fo)) l = true) : (fewC c l).length ≤ q.length := by
  rw [fewC_eq hl]
  exact few_min X.nm X.l (fun o ho => lits_sg (short_lit X o ho) fun n hn => List.mem_append_left _ hn) (shortest_nodup _ _) hq e
end
end My

set_option Elab.async false
set_option linter.all false
set_option maxRecDepth 100000
set_option maxHeartbeats 8000000
namespace My
open PySem PySem.Spec PyProof.Rows L2 L3
open L3.Strm
/-- whether a value is None -/
def NonB (b : Bool) : Pr := fun _ v => decide (v = .non) = b
instance {b : Bool} : Mono (NonB b) := ⟨fun _ h => h⟩
theorem gv_nonB {σ : Sl} {M : Hp} {te : TE} {b : Bool} (h : Gv te σ M (NonB b)) : Gv (tIsN te) σ M (Bl b) := gv_isN h fun _ _ h => h
section
variable {P : Program} {w : World} {K : PySem.W.Frag} {mg : Str → Option Value} {base : Heap}
abbrev s__law_seen : Stmt := topS 86
theorem sc__law_seen : FnScope ["_law_clauses", "_law_shortest_here", "_law_level", "_law_clause_here", "_law_one"] ["_law_clauses", "_law_shortest_here", "_law_level"] (defScope s__law_seen) := ⟨rfl, rfl, rfl, by decide +kernel, rfl, by decide +kernel, by decide +kernel⟩
structure SeenPre (cs os : List (List Str)) : Prop where
  w : ChW cs
  n : os.length ≤ 1000000
  x : ∃ ns, ∀ o ∈ os, shortT o ∧ Ctx ns cs o
def sp__law_seen (K : PySem.W.Frag) : Sp := sp3 (SqR K (SqR K Tx)) (SqR K TT) Tx (fun cs os _ => SeenPre cs os) fun cs os l => Bl (seenL cs os l)
theorem ok__law_seen {f : Addr} {fd : FuncData} (F : Fun K "_law_seen" "_law_seen" s__law_seen f fd) (T : Gc mg) (c__law_chase : Cal P w K mg base 2 "_law_chase" ["_law_clauses", "_law_half_here"] (sp__law_chase K)) (c__law_neg : Cal P w K mg base 1 "_law_neg" ["_law_one"] (sp__law_neg K)) (c__law_finds : Cal P w K mg base 4 "_law_finds" ["_law_clauses", "_law_clause_here"] (sp__law_finds K)) :
    FnOk P w K mg base CX0 5 f fd ["_law_clauses", "_law_shortest_here", "_law_level"] (sp__law_seen K) := by
  refine F.ok sc__law_seen (fun vs H Q E h => ?_) (fun cdv A outer s H vs Q E hr h => ?_)
  · obtain ⟨x, y, z, M, v, w, u, rfl, _⟩ := h
    rfl
  · obtain ⟨cs, os, l, M, v, w, u, rfl, mh, r1, r2, r3, ⟨hw, ho, ns, X⟩, q⟩ := h
    have hu := hr.units
    cases (show u = _ from r3)
    refine ⟨_, (pss_cons (ps_if (pt_cmpR (op_eqP hu) (pv 2) pe_str (nomark _)) (pss_one (ps_ret (pe_callB (cr_all rfl) (by rfl) T.all boot_all (pa_cons (pe_lc (own := [("_law_clause_here", 3)]) (g := (gName 3)) (tt := tYes) (te := (tIsN (tCall (sp__law_chase K) [] E0 (tCons (tVar 0) (tCons (tLc (iSq K (tVar 3)) (gName 4) tYes (tCall (sp__law_neg K) [] E0 (tCons (tVar 4) tNil)) [4]) tNil))))) (by rfl) sc__law_seen.nd (pi_sq (pv 1)) (blkOk_by (by rfl)) (fun _ _ _ _ _ => (pg_name (i := 3) sc__law_seen.nd rfl (by first | exact .inl rfl | exact .inr rfl))) (fun _ _ _ _ _ => pts_nil) (fun _ _ _ _ _ => (pe_cmp (pc_isN (pe_f c__law_chase (hr.mono (by decide)) (pa_cons (pv 0) (pa_cons (pe_lc (own := [("_law_one", 4)]) (g := (gName 4)) (tt := tYes) (te := (tCall (sp__law_neg K) [] E0 (tCons (tVar 4) tNil))) (by rfl) sc__law_seen.nd (pi_sq (pv 3)) (blkOk_by (by rfl)) (fun _ _ _ _ _ => (pg_name (i := 4) sc__law_seen.nd rfl (by first | exact .inl rfl | exact .inr rfl))) (fun _ _ _ _ _ => pts_nil) (fun _ _ _ _ _ => (pe_f c__law_neg (hr.mono (by decide)) (pa_cons (pv 4) pa_nil)))) pa_nil))))))) pa_nil)))) pss_nil)
      (pss_one (ps_ret (pe_callB (cr_all rfl) (by rfl) T.all boot_all (pa_cons (pe_lc (own := [("_law_clause_here", 3)]) (g := (gName 3)) (tt := tYes) (te := (tCall (sp__law_finds K) [] E0 (tCons (tVar 0) (tCons (tVar 3) tNil)))) (by rfl) sc__law_seen.nd (pi_sq (pv 1)) (blkOk_by (by rfl)) (fun _ _ _ _ _ => (pg_name (i := 3) sc__law_seen.nd rfl (by first | exact .inl rfl | exact .inr rfl))) (fun _ _ _ _ _ => pts_nil) (fun _ _ _ _ _ => (pe_f c__law_finds (hr.mono (by decide)) (pa_cons (pv 0) (pa_cons (pv 3) pa_nil))))) pa_nil))))), ?_⟩
    refine q_if0 (b := decide (l = ("dead" : Str))) mh (gt_is (gt_test (gv_eqT (K := K) (neg := false) py_str inj_str (gv_var rfl rfl) (gv_c rfl) (by simp [PyData.depth]))) (by simp)) (fun hb H2 hh => ?_) fun hb H2 hh => ?_
    · have e := of_decide_eq_true hb
      refine s_ret (mh.trans hh) (gv_is (gv_all (K := K) (gl_m1 (S := Bl) (R := TT) (xs := os) (gi_sq (K := K) (gv_var rfl r2)) (szK ho) (fun o => deadB cs (o.map opp)) fun o hm M1 u1 sm ru => gv_nonB (gv_is (gv_call2 (R1 := SqR K (SqR K Tx)) (R2 := SqR K Tx) (pre := ChOk) (R := fun cs hs M v => ∃ r, LChase cs (once hs) r ∧ OpR' (LiR Tx) r M v) (x := cs) (y := o.map opp) (gv_var rfl (Mon.mono sm r1))
        (gv_is (gl_m1 (S := Tx) (R := Tx) (xs := o) (gi_sq (K := K) (gv_var rfl ru.sq)) (szK (X o hm).1.1) opp fun x hx M2 u2 sm2 ru2 => gv_call1 (R1 := Tx) (pre := fun x => x.length ≤ 1000) (R := fun x => Tx (opp x)) (gv_var rfl ru2) ((X o hm).1.2 x hx)).li fun _ _ h => h.sq) ⟨hw.1, hw.2.1, hw.2.2, by rw [List.length_map]; exact (X o hm).1.1⟩) fun M2 v2 ⟨r, hch, h2⟩ => ?_))) fun M' v' h => ?_) fun z M' H' g r => q z M' H' ((Gr.idle mh hh).trans g) r
      · have CX := (X o hm).2
        have XD : Ctx ns cs (o.map opp) := ⟨CX.nm, CX.c, lits_opp CX.nm CX.h⟩
        rw [once_self (lits_nodup XD.h)] at hch
        have he := lchase_ok XD hch (.init XD)
        show decide (v2 = .non) = deadB cs (o.map opp)
        rw [opL_non' h2]
        cases r with
        | none => exact (deadB_iff.mpr he).symm
        | some so => exact (deadB_no he.1).symm
      · show Bl (seenL cs os l) M' v'
        rw [show v' = _ from h, List.all_map]
        unfold seenL
        rw [if_pos e]
        rfl
    · have e := of_decide_eq_false hb
      refine s_ret (mh.trans hh) (gv_is (gv_all (K := K) (gl_m1 (S := Bl) (R := TT) (xs := os) (gi_sq (K := K) (gv_var rfl r2)) (szK ho) (findsB cs) fun o hm M1 u1 sm ru => gv_call2 (R1 := SqR K (SqR K Tx)) (R2 := SqR K Tx) (x := cs) (y := o) (gv_var rfl (Mon.mono sm r1)) (gv_var rfl ru.sq) ⟨hw, (X o hm).1, ns, (X o hm).2⟩)) fun M' v' h => ?_) fun z M' H' g r => q z M' H' ((Gr.idle mh hh).trans g) r
      show Bl (seenL cs os l) M' v'
      rw [show v' = _ from h, List.all_map]
      unfold seenL
      rw [if_neg e]
      rfl
end
end My

set_option Elab.async false
set_option linter.all false
set_option maxRecDepth 100000
set_option maxHeartbeats 8000000
namespace My
open PySem PySem.Spec PyProof.Rows L2 L3
open L3.Strm
theorem gls_src {α : Type} {R : Rl α} {S : Strm} {σ : Sl} {M : Hp} {wi : TI} {g : TG} {tt : L2.TT} {te : TE} {vs : List Nat} {c : Nat} {G : List α → Prop} {P : List α → Hp → List V → Prop} (hsrc : GvIS S c wi σ M G R) (h : ∀ (w2 : TI) xs M1, Same M M1 → G xs → GvI w2 σ M1 xs R → GvL (tLc w2 g tt te vs) σ M1 (P xs)) :
    GvLS S c (tLc wi g tt te vs) σ M fun M ws => ∃ xs, G xs ∧ P xs M ws := fun H k mh a Q q =>
  hsrc H k mh a _ fun J xs M1 H1 g1 a1 gx gw => by
    refine h (fun _ H Q => Q J H) xs M1 g1.mm gx (fun H' mh' Q' q' => q' J M1 H' (.refl mh') gw) H1 (g1.mh.trans cut_same) Q ?_
    intro p ws M2 H2 g2 h0 m0 hp pd
    exact q p ws M2 H2 (g1.trans (lift g1.mh a1 g2)) (a1.same g2.hh) (g1.hh.free (a1.cutn h0)) m0 (by rw [cut_on (a1.fresh h0)]; exact hp) ⟨xs, gx, pd⟩
theorem gls_addE {K : PySem.W.Frag} {α : Type} {R : Rl α} [Mon R] {S : Strm} {σ : Sl} {M : Hp} {t1 t2 : TE} {c1 c2 : Nat} {g1 g2 : List α → Prop} (h1 : GvS S c1 t1 σ M (Ex (LiR R) g1)) (h2 : GvS S c2 t2 σ M (Ex (LiR R) g2)) (hz : ∀ xs ys, g1 xs → g2 ys → xs.length + ys.length ≤ sizeLine) :
    GvLS S (c1 + c2) (tOp (rAddA K) t1 t2) σ M fun M ws => ∃ xs ys, g1 xs ∧ g2 ys ∧ Pd R M (xs ++ ys) ws := fun H k mh a Q q =>
  h1 H (k + c2) mh (a.le (by omega)) _ fun v M1 H1 e1 a1 ⟨xs, gx, p1⟩ => h2.le e1.mm H1 k e1.mh a1 _ fun w M2 H2 e2 a2 ⟨ys, gy, p2⟩ => by
    have p1 : LiR R xs M2 v := Mon.mono e2.mm p1
    refine gl_addL (K := K) (t1 := tC v) (t2 := tC w) (σ := σ) (gv_c p1) (gv_c p2) (hz xs ys gx gy) H2 (e2.mh.trans cut_same) _ fun p vs M3 H3 e3 h0 m0 hw pd => ?_
    have e3' := lift e2.mh a2 e3
    have c0 : S.cut H2 p = none := a2.cutn h0
    exact q p vs M3 H3 ((e1.trans e2).trans e3') (a2.same e3.hh) ((e1.trans e2).hh.free c0) m0 (by rw [cut_on (a2.fresh h0)]; exact hw) ⟨xs, ys, gx, gy, pd⟩
theorem lits_cat {ns o ys hs : List Str} (nm : NmL ns) (Lo : Lits ns o) (Lh : Lits ns hs) : Lits ns (o ++ hs.filter fun x => decide (x ∉ o) && decide (opp x ∉ o)) := by
  have Ly := Lh.sub (List.filter_sublist (p := fun x => decide (x ∉ o) && decide (opp x ∉ o)))
  refine ⟨?_, fun y hy => (List.mem_append.mp hy).elim (Lo.of y) (Ly.of y)⟩
  rw [List.map_append]
  refine List.nodup_append.mpr ⟨Lo.nd, Ly.nd, fun a ha b hb e => ?_⟩
  obtain ⟨x, hx, rfl⟩ := List.mem_map.mp ha
  obtain ⟨y, hy, rfl⟩ := List.mem_map.mp hb
  obtain ⟨_, h2⟩ := List.mem_filter.mp hy
  rw [Bool.and_eq_true, decide_eq_true_eq, decide_eq_true_eq] at h2
  obtain ⟨_, e1, n1⟩ := Lo.name nm hx
  obtain ⟨_, e2, n2⟩ := Ly.name nm hy
  rw [← e] at e2
  rcases e1 with e1 | e1 <;> rcases e2 with e2 | e2
  · exact h2.1 (by rw [e2, ← e1]; exact hx)
  · exact h2.2 (by rw [e2, opp_neg n1, ← e1]; exact hx)
  · exact h2.2 (by rw [e2, opp_nm n1, ← e1]; exact hx)
  · exact h2.1 (by rw [e2, ← e1]; exact hx)
section
variable {α β : Type} {S : Strm} {σ : Sl} {M : Hp} {t1 t2 : TE} {R1 : Rl α} {R2 : Rl β} {E : XK} {i : Nat}
def spS2 (R1 : Rl α) (R2 : Rl β) (pre : α → β → Prop) (c : α → β → Nat) (R : α → β → Pr) : Sp := fun vs H Q _ => ∃ (S : Strm) (x : α) (y : β) (M : Hp) (v w : V) (k : Nat), vs = [.ref S.a, v, w] ∧ Same M (S.cut H) ∧ S.At (k + c x y) H ∧ R1 x M v ∧ R2 y M w ∧ pre x y ∧ ∀ u M' H', Gr M (S.cut H) M' (S.cut H') → S.At k H' → R x y M' u → Q u H'
theorem gs_call2 [Mon R1] [Mon R2] {pre : α → β → Prop} {cs : α → β → Nat} {R : α → β → Pr} {x : α} {y : β} (hi : σ[i]? = some (some (.ref S.a))) (h1 : Gv t1 σ M (R1 x)) (h2 : Gv t2 σ M (R2 y)) (hp : pre x y) : GvS S (cs x y) (tCall (spS2 R1 R2 pre cs R) [] E (tCons (tVar i) (tCons t1 (tCons t2 tNil)))) σ M (R x y) := fun H k mh a Q q =>
  ⟨_, hi, h1 H (mh.trans cut_same) _ fun v M1 H1 g1 p1 => h2.le g1.mm H1 g1.mh _ fun w M2 H2 g2 p2 => ⟨S, x, y, M2, v, w, k, rfl, (lift mh a (g1.trans g2)).mh, a.same (g1.trans g2).hh, Mon.mono g2.mm p1, p2, hp, fun u M' H' g a' r => q u M' H' ((lift mh a (g1.trans g2)).trans g) a' r⟩⟩
end
section
variable {P : Program} {w : World} {K : PySem.W.Frag} {mg : Str → Option Value} {base : Heap}
def sp_pickG (K : PySem.W.Frag) {α : Type} (R : Rl α) : Sp := spS1 (SqR K R) (fun xs => 0 < xs.length ∧ xs.length ≤ 1000000) (fun _ => 1) fun xs => Ex R fun x => x ∈ xs
theorem ok_pickG {α : Type} {R : Rl α} [Mon R] {f : Addr} {fd : FuncData} (F : Fun K "_law_pick" "_law_pick" s__law_pick f fd) (T : Gc mg) (c__law_draw : Cal P w K mg base 1 "_law_draw" ["_law_stream", "_law_many"] (sp__law_draw K)) : FnOk P w K mg base CX0 2 f fd ["_law_stream", "_law_things"] (sp_pickG K R) := by
  refine F.ok sc__law_pick (fun vs H Q E h => ?_) (fun cdv A outer s H vs Q E hr h => ?_)
  · obtain ⟨S, x, M, v, k, rfl, _⟩ := h
    rfl
  · obtain ⟨S, xs, M, v, k, rfl, mh, at_, r1, ⟨h1, h2⟩, q⟩ := h
    have hu := hr.units
    refine ⟨_, (pss_one (ps_ret (pe_ix ix_X (pv 1) (pe_f c__law_draw (hr.mono (by decide)) (pa_cons (pv 0) (pa_cons (pe_callB call_lenA (by rfl) T.len boot_len (pa_cons (pv 1) pa_nil)) pa_nil))) (fun _ _ => rfl)))), ?_⟩
    refine z_ret (S := S) (c := 0 + 1) mh at_ (gs_op (P := SqR K R xs) (P1 := Ex It' fun i => 0 ≤ i ∧ i < (xs.length : Int)) (gv_var rfl r1).s (gs_draw (K := K) rfl (gv_lenA (K := K) (R := R) (gv_var rfl r1)) (by omega) (by omega)) fun M' u w pu ⟨i, hi, pw⟩ => ?_) q
    obtain ⟨x, hx, ha⟩ := atI_in hi.1 hi.2
    exact fun H mh Q q => rv_ix pu pw ha H mh Q fun v M' H' g r => q v M' H' g ⟨x, hx, r⟩
abbrev s__law_drawn_consequence : Stmt := topS 87
theorem sc__law_drawn_consequence : FnScope ["_law_stream", "_law_names_here", "_law_shortest_here", "_law_one", "_law_more", "_law_part"] ["_law_stream", "_law_names_here", "_law_shortest_here"] (defScope s__law_drawn_consequence) := ⟨rfl, rfl, rfl, by decide +kernel, rfl, by decide +kernel, by decide +kernel⟩
/-- a clause that holds one of these -/
def WideOf (ns : List Str) (sh : List (List Str)) (d : List Str) : Prop := Lits ns d ∧ ∃ o ∈ sh, ∀ x ∈ o, x ∈ d
structure DrawPre (ns : List Str) (sh : List (List Str)) : Prop where
  nm : NmL ns
  n6 : ns.length ≤ 6
  p : 0 < sh.length
  k : sh.length ≤ 1000
  l : ∀ o ∈ sh, Lits ns o
def sp__law_drawn_consequence (K : PySem.W.Frag) : Sp := spS2 (SqR K Tx) (SqR K TT) DrawPre (fun _ _ => 20) fun ns sh => Ex TT (WideOf ns sh)
theorem ok__law_drawn_consequence {f : Addr} {fd : FuncData} (F : Fun K "_law_drawn_consequence" "_law_drawn_consequence" s__law_drawn_consequence f fd) (T : Gc mg) (c__law_pick : Cal P w K mg base 2 "_law_pick" ["_law_stream", "_law_things"] (sp_pickG K TT)) (c__law_half : Cal P w K mg base 3 "_law_half" ["_law_stream", "_law_names_here"] (sp__law_half K))
    (c__law_neg : Cal P w K mg base 1 "_law_neg" ["_law_one"] (sp__law_neg K)) (c__law_draw : Cal P w K mg base 1 "_law_draw" ["_law_stream", "_law_many"] (sp__law_draw K)) (c__law_up : Cal P w K mg base 1 "_law_up" ["_law_some", "_law_names_here"] (sp__law_up K)) : FnOk P w K mg base CX0 4 f fd ["_law_stream", "_law_names_here", "_law_shortest_here"] (sp__law_drawn_consequence K) := by
  refine F.ok sc__law_drawn_consequence (fun vs H Q E h => ?_) (fun cdv A outer s H vs Q E hr h => ?_)
  · obtain ⟨S, x, y, M, v, w, k, rfl, _⟩ := h
    rfl
  · obtain ⟨S, ns, sh, M, v, w, k, rfl, mh, at_, r1, r2, X, q⟩ := h
    have at_ : S.At (k + 20) H := at_
    have hu := hr.units
    refine ⟨_, (pss_cons (ps_set (i := 3) sc__law_drawn_consequence.nd rfl (by first | exact .inl rfl | exact .inr rfl) (pe_f c__law_pick (hr.mono (by decide)) (pa_cons (pv 0) (pa_cons (pv 2) pa_nil))))
      (pss_cons (ps_setLc (i := 4) (own := [("_law_part", 5)]) (g := (gName 5)) (tt := (tAnd (tTest (tOp (rInA K true) (tVar 5) (tVar 3))) (tTest (tOp (rInA K true) (tCall (sp__law_neg K) [] E0 (tCons (tVar 5) tNil)) (tVar 3))))) (te := (tVar 5)) (by rfl) sc__law_drawn_consequence.nd rfl rfl (sw_true rfl rfl rfl (by decide +kernel)) (pi_sq (pe_f c__law_half (hr.mono (by decide)) (pa_cons (pv 0) (pa_cons (pv 1) pa_nil)))) (blkOk_by (by rfl)) (fun _ _ _ _ _ => (pg_name (i := 5) sc__law_drawn_consequence.nd rfl (by first | exact .inl rfl | exact .inr rfl))) (fun _ _ _ _ _ => (pts_one (PW.pt (pw_and (pt_cmpR (op_niA hu) (pv 5) (pv 3) (by rfl)) (pw_and1 (pt_cmpR (op_niA hu) (pe_f c__law_neg (hr.mono (by decide)) (pa_cons (pv 5) pa_nil)) (pv 3) (by rfl))))))) (fun _ _ _ _ _ => (pv 5)))
      (pss_one (ps_ret (pe_f c__law_up (hr.mono (by decide)) (pa_cons (pe_op op_addA (pe_callTy call_lstA (by rfl) T.list boot_list (pa_cons (pv 3) pa_nil)) (pe_slice sl_X (pv 4) po_none (po_some (pe_f c__law_draw (hr.mono (by decide)) (pa_cons (pv 0) (pa_cons pe_int pa_nil)))))) (pa_cons (pv 1) pa_nil))))))), ?_⟩
    have n6 := X.n6
    refine z_asg (S := S) (k := k + 19) (c := 1) (P := Ex TT fun o => o ∈ sh) mh (at_.le (by omega)) (gs_call1 (S := S) (R1 := SqR K TT) (pre := fun xs => 0 < xs.length ∧ xs.length ≤ 1000000) (cs := fun _ => 1) (R := fun xs => Ex TT fun x => x ∈ xs) (x := sh) rfl (gv_var rfl r2) ⟨X.p, by have := X.k; omega⟩) fun v3 M1 H1 g1 a1 ⟨o, ho, r3⟩ => ?_
    have Lo := X.l o ho
    have sho := short_lits X.nm Lo
    refine z_asg (S := S) (k := k + 7) (c := 2 * ns.length) (P := Ex (LiR Tx) fun ys => Lits ns (o ++ ys) ∧ ys.length ≤ 1000) g1.mh (a1.le (by omega)) ((gls_src (R := Tx) (S := S) (G := fun hs : List Str => Lits ns hs) (P := fun hs M ws => Pd Tx M (hs.filter fun x => decide (x ∉ o) && decide (opp x ∉ o)) ws)
      (gis_sq ((gls_call1 (S := S) (R1 := SqR K Tx) (pre := NmL) (cs := fun ns => 2 * ns.length) (R := fun ns M ws => ∃ ys : List Str, Lits ns ys ∧ ys.length ≤ ns.length ∧ Pd Tx M ys ws) (x := ns) rfl (gv_var rfl (Mon.mono g1.mm r1)) X.nm).gv fun M' vs p ⟨ys, h1, _, h3⟩ m => ⟨ys, h1, (show LiR Tx ys _ _ from ⟨p, vs, rfl, upd_same, h3.mono (same_new m)⟩).sq⟩))
      fun w2 hs M2 sm2 hL hsrc => ?_).gv fun M' vs p ⟨hs, hL, hp⟩ m => ?_) fun v4 M2 H2 g2 a2 ⟨ys, ⟨Ly, ly⟩, r4⟩ => ?_
    · exact gl_isL (gl_c1 (S := Tx) (R := Tx) (xs := hs) hsrc (szK (by have := lits_len hL X.nm; omega)) (fun x => decide (x ∉ o) && decide (opp x ∉ o)) id (fun x hx M3 u3 sm3 ru => gt_and (gt_is (gt_test (gv_inA (K := K) (gv_var rfl ru) (gv_var rfl (.inl (Mon.mono (sm2.trans sm3) r3).sq)))) (by simp))
        fun _ => gt_is (gt_test (gv_inA (K := K) (neg := true) (x := opp x) (gv_call1 (R1 := Tx) (pre := fun x => x.length ≤ 1000) (R := fun x => Tx (opp x)) (gv_var rfl ru) (Nat.le_trans (lits_short hL X.nm x hx) (by decide))) (gv_var rfl (.inl (Mon.mono (sm2.trans sm3) r3).sq)))) (by simp)) fun x _ _ M3 u3 sm3 ru => gv_var rfl ru)
        fun M vs h => by rw [List.map_id] at h; exact h
    · refine ⟨_, ⟨lits_cat (ys := []) X.nm Lo hL, ?_⟩, p, vs, rfl, upd_same, hp.mono (same_new m)⟩
      have := lits_len hL X.nm
      exact Nat.le_trans (List.length_filter_le _ _) (by omega)
    have G2 := g1.trans g2
    have r32 := Mon.mono g2.mm r3
    have lo := lits_len Lo X.nm
    refine z_ret (S := S) (k := k) (c := 0 + (0 + 1)) G2.mh (a2.le (by omega)) ((gs_sp2 (R1 := CtR K) (R2 := SqR K Tx) (pre := fun _ ns => Shorts ns) (Rr := fun ls ns => TT (asc ls ns)) (y := ns) (good := fun ls => ∃ zs, ls = o ++ zs ∧ zs.Sublist ys) ((gls_addE (K := K) (R := Tx) (g1 := (· = o)) (g2 := fun zs => zs.Sublist ys)
      ((gl_lstOf (K := K) (R1 := Tx) (gv_var rfl r32.sq)).li.s.is fun M v h => ⟨o, rfl, h⟩) ((gls_cut (K := K) (R := Tx) (good := (· = ys)) ((gv_var rfl r4).s.is fun M v h => ⟨ys, rfl, h⟩) ((gs_draw (K := K) (n := 3) rfl (gv_c rfl) (by decide) (by decide)).is fun M v ⟨z, _, r⟩ => ⟨z, trivial, r⟩)).gv fun M' vs p ⟨xs, i, e, hp⟩ m => ⟨cutL ys none (some i), by subst e; exact cut_sub _ _ _, p, vs, rfl, upd_same, by subst e; exact hp.mono (same_new m)⟩)
      (fun xs zs e h => by subst e; have := h.length_le; exact szM (by omega))).gv fun M' vs p ⟨xs, zs, e, h, hp⟩ m => ⟨o ++ zs, ⟨zs, rfl, h⟩, .inl (show LiR Tx (o ++ zs) _ _ from ⟨p, vs, rfl, upd_same, by subst e; exact hp.mono (same_new m)⟩).sq⟩) (gv_var rfl (Mon.mono G2.mm r1)) fun ls _ => nm_shorts X.nm).is (P' := Ex L3.TT (WideOf ns sh)) fun M v ⟨ls, ⟨zs, e, h⟩, hv⟩ => ?_) fun u M' H' g a r => q u M' H' (G2.trans g) a r
    subst e
    have L := Ly.sub (h.append_left o)
    exact ⟨asc (o ++ zs) ns, ⟨L.asc X.nm, o, ho, fun x hx => (asc_same L x).mpr (List.mem_append_left _ hx)⟩, hv⟩
end
end My

set_option Elab.async false
set_option linter.all false
set_option maxRecDepth 100000
set_option maxHeartbeats 8000000
namespace My
open PySem PySem.Spec PyProof.Rows L2 L3
open L3.Strm
/-! no list with fewer clauses makes the code see -/
/-- the first of these that lies in a clause -/
def narrowOf (sh : List (List Str)) (d : List Str) : List Str := ((sh.filter fun o => liesIn o d)[0]?).getD []
theorem narrow_of {sh : List (List Str)} {d : List Str} (h : ∃ o ∈ sh, ∀ x ∈ o, x ∈ d) : atI (sh.filter fun o => liesIn o d) 0 = some (narrowOf sh d) ∧ narrowOf sh d ∈ sh ∧ ∀ x ∈ narrowOf sh d, x ∈ d := by
  obtain ⟨o, ho, h⟩ := h
  have hm : o ∈ sh.filter fun o => liesIn o d := List.mem_filter.mpr ⟨ho, liesIn_iff.mpr h⟩
  unfold narrowOf
  cases e : sh.filter fun o => liesIn o d with
  | nil => rw [e] at hm; cases hm
  | cons a r =>
    have ha : a ∈ sh.filter fun o => liesIn o d := by rw [e]; exact List.mem_cons_self ..
    obtain ⟨h1, h2⟩ := List.mem_filter.mp ha
    exact ⟨by simp [atI, ixN], h1, liesIn_iff.mp h2⟩
theorem sh81 {ns : List Str} {ss : List (List Str)} (h : ns.length ≤ 4) : (shortestL ns ss).length ≤ 81 := Nat.le_trans (short_len _ _) (Nat.le_trans (halves_few ns) (Nat.le_trans (Nat.pow_le_pow_right (by decide) h) (by decide)))
theorem lv_is {l : Str} (hl : l = ("dead" : Str) ∨ l = ("forced" : Str)) : IsLv l ∧ l ≠ ("all" : Str) := by
  rcases hl with rfl | rfl
  · exact ⟨.inl rfl, by decide +kernel⟩
  · exact ⟨.inr (.inl rfl), by decide +kernel⟩
theorem few_pre {c : CodeD} {l : Str} (X : LawX c) (hk : c.clauses.length ≤ 1000) (hs : c.signs.length ≤ 4) (hl : l = ("dead" : Str) ∨ l = ("forced" : Str)) : FewC c l := by
  refine ⟨X.x.at (lv_is hl).1, (lv_is hl).2, ?_⟩
  rw [(lv_two hl c).1, (lv_two hl c).2]
  have h81 := sh81 (ss := lvSet c fo) hs
  exact ⟨⟨c.names, X.nm, X.l, fun o ho => lits_sg (short_lit X o ho) fun n hn => List.mem_append_left _ hn, Nat.le_trans X.n6 (by decide)⟩, by omega, by omega, Nat.le_trans (List.length_filter_le _ _) (by omega)⟩
theorem fewC_mem {c : CodeD} {l : Str} (hl : l = ("dead" : Str) ∨ l = ("forced" : Str)) : ∀ d ∈ fewC c l, d ∈ shortestL c.signs (lvSet c fo) := fun d hd => by
  rw [fewC_eq hl] at hd
  exact few_sub d hd
theorem fewC_len {c : CodeD} {l : Str} (hl : l = ("dead" : Str) ∨ l = ("forced" : Str)) : (fewC c l).length ≤ (shortestL c.signs (lvSet c fo)).length := by
  rw [fewC_eq hl]
  exact few_sub2.length_le
theorem paired_all {α β : Type} {p : β → Prop} {xs : List α} {ys : List β} (h : Paired (fun (_ : α) y => p y) xs ys) : ys.length = xs.length ∧ ∀ y ∈ ys, p y := by
  induction h with
  | nil => exact ⟨rfl, fun _ h => nomatch h⟩
  | cons a _ ih => exact ⟨by rw [List.length_cons, List.length_cons, ih.1], fun y hy => (List.mem_cons.mp hy).elim (fun e => e ▸ a) (ih.2 y)⟩
section
variable {K : PySem.W.Frag} {C CR : Addr} {σ : Sl} {M : Hp} {to te tl : TE} {c : CodeD} {ds : List (List Str)} {l : Str} {S : Strm} {i : Nat}
theorem gv_more (X : LawX c) (NF : Nf c) (hk : c.clauses.length + ds.length ≤ 1000) (hd : ∀ d ∈ ds, ConsOk c d) (h : Gv to σ M (CodeR C c)) (h2 : Gv te σ M (LiR TT ds)) : Gv (tMeth C "more" (sp_Code_moreQ K C) [] E0 to (tCons te tNil)) σ M (CodeR C (moreD c ds)) :=
  gv_met2 (R1 := CodeR C) (R2 := SqR K (SqR K Tx)) (pre := fun c ds => CG c ∧ c.clauses.length + ds.length ≤ 1000 ∧ ∀ d ∈ ds, Lits c.names d) (R := fun c ds => CodeR C (moreD c ds)) (x := c) (y := ds) (insR_code (by decide +kernel) (by decide +kernel) (by decide +kernel) (by decide +kernel)) h (gv_is h2 fun _ _ h => liTT_sqq h)
    ⟨⟨X.nm, X.l, Nat.le_trans X.n6 (by decide), X.k, NF⟩, hk, fun d h => (hd d h).w⟩
theorem gv_seesM (X : LawX c) (hk : c.clauses.length + ds.length ≤ 1000) (hd : ∀ d ∈ ds, ConsOk c d) (hl : l = ("dead" : Str) ∨ l = ("forced" : Str)) (h : Gv te σ M (CodeR C (moreD c ds))) (h2 : Gv tl σ M (Tx l)) : Gv (tCall (sp_sees K C) [] E0 (tCons te (tCons tl tNil))) σ M (Bl (seenL (c.clauses ++ ds) (shortestL c.signs (lvSet c fo)) l)) :=
  gv_is (gv_call2 (R1 := CodeR C) (R2 := Tx) (pre := LvX) (R := fun c l => Bl (blinds c l).isEmpty) (x := moreD c ds) (y := l) h h2 ((more_x X hk fun d h => (hd d h).w).x.at (lv_is hl).1)) fun M v e => by
    rw [← sees_more X hk hd hl]; exact e
theorem gv_setM (X : LawX c) (hk : c.clauses.length + ds.length ≤ 1000) (hd : ∀ d ∈ ds, ConsOk c d) (h : Gv te σ M (CodeR C (moreD c ds))) : Gv (tMeth CR "settings" (sp_Rule_settings K CR) [] E0 (tMeth C "rule" (sp_Code_rule K C CR) [] E0 te tNil) tNil) σ M (LiR TT (lvSet c fo)) := by
  have XM := (more_x X hk fun d h => (hd d h).w).x
  have eA : (fulls (moreD c ds).signs).filter (satB (moreD c ds).names (moreD c ds).clauses) = lvSet (moreD c ds) fo := by unfold lvSet; rw [lv_fo]
  have RX : RuleX (moreD c ds).signs ((fulls (moreD c ds).signs).filter (satB (moreD c ds).names (moreD c ds).clauses)) := by have := XM.rx fo; rw [lv_fo] at this; rw [eA]; exact this
  refine gv_is (gv_met1 (R1 := RuleR CR) (pre := RuleW) (R := fun r => LiR TT r.settings) (x := mkRule (moreD c ds).signs ((fulls (moreD c ds).signs).filter (satB (moreD c ds).names (moreD c ds).clauses))) (insR_rule (by decide +kernel) (by decide +kernel))
    (gv_met1 (R1 := CodeR C) (pre := CodeZ) (R := fun c => RuleR CR (mkRule c.signs ((fulls c.signs).filter (satB c.names c.clauses)))) (x := moreD c ds) (insR_code (by decide +kernel) (by decide +kernel) (by decide +kernel) (by decide +kernel)) h XM.z) RX.w) fun M v h => ?_
  rw [RX.set, eA, more_set X hd] at h
  exact h
theorem gs_some (hi : σ[i]? = some (some (.ref S.a))) {m h : Nat} (hp : 0 < m ∧ m + h ≤ 6) : GvS S 1200 (tCall (sp__law_some_code K) [] E0 (tCons (tVar i) (tCons (tC (.int (m : Nat))) (tCons (tC (.int (h : Nat))) tNil)))) σ M (Ex LawR fun c => (LawX c ∧ Nf c) ∧ c.names.length ≤ m + h ∧ c.signs.length ≤ m ∧ c.clauses.length ≤ 740) := fun H k mh a Q q =>
  ⟨_, hi, S, m, h, M, k, rfl, mh, a, hp, fun c v M' H' g a X r => q v M' H' g a ⟨c, X, r⟩⟩
end
section
variable {P : Program} {w : World} {K : PySem.W.Frag} {mg : Str → Option Value} {base : Heap}
abbrev s_law : Stmt := topS 88
theorem sc_law : FnScope ["_law_script", "_law_stream", "_law_turn", "_law_found", "_law_better", "_law_part", "_law_c", "_law_level", "_law_signs", "_law_allowed_here", "_law_shortest_here", "_law_code_here", "_law_some", "_law_seen_here", "_law_narrow", "_law_k", "_law_wide", "_law_one"] ["_law_script"] (defScope s_law) := ⟨rfl, rfl, rfl, by decide +kernel, rfl, by decide +kernel, by decide +kernel⟩
def sp_law (K : PySem.W.Frag) : Sp := fun vs H Q _ => ∃ (ns : List Int) (M : Hp) (v : V), vs = [v] ∧ Same M H ∧ SqR K It' ns M v ∧ ∀ H', Q (.bl true) H'
theorem ok_law {f C CR : Addr} {fd : FuncData} (F : Fun K "law" "law" s_law f fd) (T : Gc mg)
    (c__law_some_code : Cal P w K mg base 6 "_law_some_code" ["_law_stream", "_law_most", "_law_helpers"] (sp__law_some_code K)) (c__law_pick : Cal P w K mg base 2 "_law_pick" ["_law_stream", "_law_things"] (sp__law_pick K)) (c__law_rule_of : Cal P w K mg base 4 "_law_rule_of" ["_law_c", "_law_level"] (sp__law_rule_of K))
    (c__law_shortest : Cal P w K mg base 3 "_law_shortest" ["_law_names_here", "_law_settings"] (sp__law_shortest K)) (c__law_made : Cal P w K mg base 7 "_law_made" ["_law_c"] (sp__law_made2 K C)) (c_fewest : Cal P w K mg base 211 "fewest" ["code", "level"] (sp_fewest K C)) (m_more : Met P w K mg base 7 C "more" ["self", "clauses"] (sp_Code_moreQ K C))
    (c_sees : Cal P w K mg base 23 "sees" ["code", "level"] (sp_sees K C)) (m_rule : Met P w K mg base 20 C "rule" ["self"] (sp_Code_rule K C CR)) (m_settings : Met P w K mg base 2 CR "settings" ["self"] (sp_Rule_settings K CR)) (c__law_draw : Cal P w K mg base 1 "_law_draw" ["_law_stream", "_law_many"] (sp__law_draw K))
    (c__law_drawn_consequence : Cal P w K mg base 4 "_law_drawn_consequence" ["_law_stream", "_law_names_here", "_law_shortest_here"] (sp__law_drawn_consequence K)) (c__law_same : CalG P w K mg base 1 "_law_same" ["_law_found", "_law_due"] (sp__law_same K)) (c__law_seen : Cal P w K mg base 5 "_law_seen" ["_law_clauses", "_law_shortest_here", "_law_level"] (sp__law_seen K))
    (c__law_within : Cal P w K mg base 1 "_law_within" ["_law_part", "_law_clause_here"] (sp__law_within K)) : FnG P w K mg base CX0 212 f fd ["_law_script"] (sp_law K) := by
  refine fun_okG F sc_law (fun vs H Q E h => ?_) (fun cdv A outer s H vs Q E hgu hr h => ?_)
  · obtain ⟨ns, M, v, rfl, _⟩ := h
    rfl
  · obtain ⟨cells, M, v, rfl, mh, r1, q⟩ := h
    have hu := hr.units
    have hgu : (A.deeper (envOfC "law" (defScope s_law) s.heap.objs.size f cdv)).guards = some [] := hgu
    refine ⟨_, (pss_cons (ps_set (i := 1) sc_law.nd rfl (by first | exact .inl rfl | exact .inr rfl) (pe_lst (pa_cons (pe_callTy call_lstA (by rfl) T.list boot_list (pa_cons (pv 0) pa_nil)) (pa_cons pe_int (pa_cons pe_int (pa_cons pe_int pa_nil))))))
      (pss_cons (ps_for PassesOwn.never (by rfl) (pi_range1 (by rfl) T.range (pa_cons pe_int pa_nil)) (pg_name (i := 2) sc_law.nd rfl (by first | exact .inl rfl | exact .inr rfl)) (pss_cons (ps_par (i := 6) (j := 7) (by rfl) sc_law.nd rfl rfl (by decide) rfl rfl (pa_cons (pe_f c__law_some_code (hr.mono (by decide)) (pa_cons (pv 1) (pa_cons pe_int (pa_cons pe_int pa_nil)))) (pa_cons (pe_f c__law_pick (hr.mono (by decide)) (pa_cons (pv 1) (pa_cons (pe_lst (pa_cons pe_str (pa_cons pe_str pa_nil))) pa_nil))) pa_nil)) (by rfl))
      (pss_cons (ps_asg (pe_f c__law_rule_of (hr.mono (by decide)) (pa_cons (pv 6) (pa_cons (pv 7) pa_nil))) (pg_tup (by rfl) (pgs_cons (pg_name (i := 8) sc_law.nd rfl (by first | exact .inl rfl | exact .inr rfl)) (pgs_cons (pg_name (i := 9) sc_law.nd rfl (by first | exact .inl rfl | exact .inr rfl)) pgs_nil))))
      (pss_cons (ps_asg (pe_tup (pa_cons (pe_f c__law_shortest (hr.mono (by decide)) (pa_cons (pv 8) (pa_cons (pv 9) pa_nil))) (pa_cons (pe_f c__law_made (hr.mono (by decide)) (pa_cons (pv 6) pa_nil)) pa_nil))) (pg_tup (by rfl) (pgs_cons (pg_name (i := 10) sc_law.nd rfl (by first | exact .inl rfl | exact .inr rfl)) (pgs_cons (pg_name (i := 11) sc_law.nd rfl (by first | exact .inl rfl | exact .inr rfl)) pgs_nil))))
      (pss_cons (ps_set (i := 3) sc_law.nd rfl (by first | exact .inl rfl | exact .inr rfl) (pe_f c_fewest (hr.mono (by decide)) (pa_cons (pv 11) (pa_cons (pv 7) pa_nil))))
      (pss_cons (ps_set (i := 4) sc_law.nd rfl (by first | exact .inl rfl | exact .inr rfl) (pe_m m_more (hr.mono (by decide)) (pv 11) (pa_cons (pv 3) pa_nil)))
      (pss_cons (ps_if (PW.pt (pw_or (pt_not (pt_val (pe_f c_sees (hr.mono (by decide)) (pa_cons (pv 4) (pa_cons (pv 7) pa_nil))))) (pw_or1 (pt_cmpR (op_neP hu) (pe_m0 m_settings (hr.mono (by decide)) (pe_m0 m_rule (hr.mono (by decide)) (pv 4))) (pv 9) (nomark _))))) (pss_one (ps_ret pe_bl)) pss_nil)
      (pss_one (ps_for PassesOwn.never (by rfl) (pi_range1 (by rfl) T.range (pa_cons (pe_op op_mul pe_int (pe_callTy call_int1 (by rfl) T.int boot_int (pa_cons (pe_cmpR (op_neP hu) (pv 10) (pe_lst pa_nil) (nomark _)) pa_nil))) pa_nil)) (pg_name (i := 5) sc_law.nd rfl (by first | exact .inl rfl | exact .inr rfl)) (pss_cons (ps_setLc (i := 12) (own := [("_law_k", 15)]) (g := (gName 15)) (tt := tYes) (te := (tCall (sp__law_drawn_consequence K) [] E0 (tCons (tVar 1) (tCons (tVar 8) (tCons (tVar 10) tNil))))) (by rfl) sc_law.nd rfl rfl (sw_true rfl rfl rfl (by decide +kernel)) (pi_range1 (by rfl) T.range (pa_cons (pe_f c__law_draw (hr.mono (by decide)) (pa_cons (pv 1) (pa_cons (pe_op op_addA (pe_callB call_lenA (by rfl) T.len boot_len (pa_cons (pv 3) pa_nil)) pe_int) pa_nil))) pa_nil)) (blkOk_by (by rfl)) (fun _ _ _ _ _ => (pg_name (i := 15) sc_law.nd rfl (by first | exact .inl rfl | exact .inr rfl))) (fun _ _ _ _ _ => pts_nil) (fun _ _ _ _ _ => (pe_f c__law_drawn_consequence (hr.mono (by decide)) (pa_cons (pv 1) (pa_cons (pv 8) (pa_cons (pv 10) pa_nil))))))
      (pss_cons (ps_set (i := 13) sc_law.nd rfl (by first | exact .inl rfl | exact .inr rfl) (pe_f c_sees (hr.mono (by decide)) (pa_cons (pe_m m_more (hr.mono (by decide)) (pv 11) (pa_cons (pv 12) pa_nil)) (pa_cons (pv 7) pa_nil))))
      (pss_cons (ps_if (pt_not (pt_val (pe_fG c__law_same hgu (hr.mono (by decide)) (pa_cons (pv 13) (pa_cons (pe_f c__law_seen (hr.mono (by decide)) (pa_cons (pe_op op_addA (pe_dget (Nat.lt_of_le_of_lt (Nat.add_le_add_left (by decide) _) hu) (pv 6) pe_str (fun _ _ => rfl)) (pv 12)) (pa_cons (pv 10) (pa_cons (pv 7) pa_nil)))) pa_nil))))) (pss_one (ps_ret pe_bl)) pss_nil)
      (pss_cons (ps_if (PW.pt (pw_and (pt_val (pv 13)) (pw_and1 (pt_cmpR op_lt (pe_callB call_lenA (by rfl) T.len boot_len (pa_cons (pv 12) pa_nil)) (pe_callB call_lenA (by rfl) T.len boot_len (pa_cons (pv 3) pa_nil)) (nomark _))))) (pss_one (ps_ret pe_bl)) pss_nil)
      (pss_cons (ps_setLc (i := 14) (own := [("_law_wide", 16)]) (g := (gName 16)) (tt := tYes) (te := (tOp (rIxX K) (tLc (iSq K (tVar 10)) (gName 17) (tB (tCall (sp__law_within K) [] E0 (tCons (tVar 17) (tCons (tVar 16) tNil)))) (tVar 17) [17]) (tC (.int 0)))) (by rfl) sc_law.nd rfl rfl (sw_true rfl rfl rfl (by decide +kernel)) (pi_sq (pv 12)) (blkOk_by (by rfl)) (fun _ _ _ _ _ => (pg_name (i := 16) sc_law.nd rfl (by first | exact .inl rfl | exact .inr rfl))) (fun _ _ _ _ _ => pts_nil) (fun _ _ _ _ _ => (pe_ix ix_X (pe_lc (own := [("_law_one", 17)]) (g := (gName 17)) (tt := (tB (tCall (sp__law_within K) [] E0 (tCons (tVar 17) (tCons (tVar 16) tNil))))) (te := (tVar 17)) (by rfl) sc_law.nd (pi_sq (pv 10)) (blkOk_by (by rfl)) (fun _ _ _ _ _ => (pg_name (i := 17) sc_law.nd rfl (by first | exact .inl rfl | exact .inr rfl))) (fun _ _ _ _ _ => (pts_one (pt_val (pe_f c__law_within (hr.mono (by decide)) (pa_cons (pv 17) (pa_cons (pv 16) pa_nil)))))) (fun _ _ _ _ _ => (pv 17))) pe_int (fun _ _ => rfl))))
      (pss_one (ps_if (PW.pt (pw_and (pt_val (pv 13)) (pw_and1 (pt_not (pt_val (pe_f c_sees (hr.mono (by decide)) (pa_cons (pe_m m_more (hr.mono (by decide)) (pv 11) (pa_cons (pv 14) pa_nil)) (pa_cons (pv 7) pa_nil)))))))) (pss_one (ps_ret pe_bl)) pss_nil))))))))))))))))
      (pss_one (ps_ret pe_bl)))), ?_⟩
    -- the stream
    refine q_asgS (lst_in (a_L mh (gl_lstOf (K := K) (R1 := It') (gv_var rfl r1)) fun b vs M1 H1 g1 hb0 hbm hbw hpd => ⟨by show 4 ≤ sizeLine; decide, fun a na => ?_⟩))
    obtain ⟨S, rfl, rfl⟩ : ∃ S : Strm, S.a = a ∧ S.b = b := ⟨⟨a, b⟩, rfl, rfl⟩
    have hne : S.a ≠ S.b := fun e => by rw [e] at na; rw [hbw] at na; cases na
    have evs := pd_itv hpd
    have a0 : S.At 10000000 (upd H1 S.a (.lst [.ref S.b, .int 0, .int 0, .int 0])) := ⟨hne, cells, 0, 0, 0, upd_same, by rw [upd_ne (Ne.symm hne), hbw, evs], by decide, by decide, by decide, by decide, by decide⟩
    have m0 : Same M (S.cut (upd H1 S.a (.lst [.ref S.b, .int 0, .int 0, .int 0]))) := fun x o e => by
      have h1 := g1.hh _ _ (mh x o e)
      have n1 : x ≠ S.a := ne_of_none h1 na
      have n2 : x ≠ S.b := ne_of_none (mh x o e) hb0
      rw [cut_on (fun z => z.elim n1 n2), upd_ne n1]
      exact h1
    revert a0 m0
    generalize upd H1 S.a (.lst [.ref S.b, .int 0, .int 0, .int 0]) = H2
    intro a0 m0
    -- three turns
    refine z_for (S := S) (k := 90000) (c := 0) (G := (· = List.range 3)) (R := fun i : Nat => It' (i : Nat)) m0 (a0.le (by decide)) (gi_rng1 (n := 3) (gv_c rfl) (by decide)).s tg_1
      (fun _ M1' i σ' M' H' => ∃ y2 y3 y4 y5 y6 y7 y8 y9 y10 y11 y12 y13 y14, Same M1' M' ∧ Same M' (S.cut H') ∧ S.At ((3 - i) * 30000) H' ∧ σ' = [some v, some (.ref S.a), y2, y3, y4, y5, y6, y7, y8, y9, y10, y11, y12, y13, y14, none, none, none])
      (fun xs M3 H3 _ g3 a3 => ⟨_, _, _, _, _, _, _, _, _, _, _, _, _, Same.refl _, g3.mh, a3, rfl⟩)
      (fun xs M3 i σ' M' H' ⟨_, _, _, _, _, _, _, _, _, _, _, _, _, s1, s2, a, _⟩ => ⟨s1, s2, a.le (Nat.zero_le _)⟩) ?_ ?_
    rotate_left
    · rintro xs M3 σ' M' H' rfl sM ⟨y2, y3, y4, y5, y6, y7, y8, y9, y10, y11, y12, y13, y14, s1, s2, a, rfl⟩
      exact q _
    rintro xs M3 i x σ' M' H' M4 H4 σ2 rfl sM hx ⟨y2, y3, y4, y5, y6, y7, y8, y9, y10, y11, y12, y13, y14, s1, s2, a, rfl⟩ g4 ⟨v4, r4, rfl⟩
    have hi : i < 3 := by have := (List.getElem?_eq_some_iff.mp hx).1; rwa [List.length_range] at this
    have g4' := lift s2 a g4
    have a4 := a.same g4.hh
    have e4 : (3 - i) * 30000 = (3 - (i + 1)) * 30000 + 30000 := by omega
    rw [e4] at a4
    obtain ⟨kb, ekb⟩ : ∃ kb, kb = (3 - (i + 1)) * 30000 := ⟨_, rfl⟩
    rw [← ekb] at a4
    -- the code, the level
    refine q_par2 (z_V (S := S) (k := kb + 28001) (c := 1200) g4'.mh (a4.le (by omega)) (gs_some (K := K) (m := 4) (h := 2) rfl ⟨by decide, by decide⟩) fun vc M5 H5 g5 a5 ⟨c, ⟨⟨X, NF⟩, hn, hs, hk⟩, rc⟩ =>
      z_V (S := S) (k := kb + 28000) (c := 1) (P := Ex Tx fun x => x ∈ (["dead", "forced"] : List Str)) g5.mh (a5.le (by omega)) (gs_call1 (S := S) (R1 := SqR K Tx) (pre := fun xs => 0 < xs.length ∧ xs.length ≤ 1000000) (cs := fun _ => 1) (R := fun xs => Ex Tx fun x => x ∈ xs) (x := ["dead", "forced"]) rfl (gv_is (gl_twoL (R := Tx) (x := "dead") (y := "forced") (gv_c rfl) (gv_c rfl)).li fun _ _ h => h.sq) ⟨by decide, by decide⟩)
      fun vl M6 H6 g6 a6 ⟨l, hl, rl⟩ => a_nil ⟨_, _, rfl, ?_⟩)
    cases (show vl = _ from rl)
    have hl : l = ("dead" : Str) ∨ l = ("forced" : Str) := by simpa using hl
    have s4 : c.signs.length ≤ 4 := hs
    have kc : c.clauses.length ≤ 740 := hk
    have nmS : NmL c.signs := X.x.sg.1
    have h81 := sh81 (ss := lvSet c fo) s4
    have fl := fewC_len (c := c) (l := l) hl
    have RS : RuleX c.signs (lvSet c fo) := by have := X.x.rx fo; rw [lv_fo] at this; exact this
    have rc6 : LawR c M6 vc := Mon.mono g6.mm rc
    have G6 := (g4'.trans g5).trans g6
    -- the rule
    refine q_asgG ((gv_call2 (R1 := LawR) (R2 := Tx) (pre := fun c _ => CodeX c) (R := fun c l => PrR K (LiR Tx) (LiR TT) (lvNames c l, lvSet c l)) (x := c) (y := l) (gv_var rfl rc6) (gv_var rfl rfl) X.x) H6 (g6.mh.trans cut_same) _ fun vr M7 H7 g7 pr => tg_2 (K := K) (R := LiR Tx) (S := LiR TT) (lvNames c l, lvSet c l) M7 vr H7 _ _ pr g7.mh fun σ7 ⟨v8, v9, r8, r9, e7⟩ => ?_)
    subst e7
    have r8 : LiR Tx c.signs M7 v8 := by have h : LiR Tx (lvNames c l) M7 v8 := r8; rw [(lv_two hl c).1] at h; exact h
    have r9 : LiR TT (lvSet c fo) M7 v9 := by have h : LiR TT (lvSet c l) M7 v9 := r9; rw [(lv_two hl c).2] at h; exact h
    have L7 := lift g6.mh a6 g7
    have a7 := a6.same g7.hh
    -- the shortest, the code
    refine q_asg2 (a_V (P := LiR TT (shortestL c.signs (lvSet c fo))) g7.mh (gv_call2 (R1 := LstR K Tx) (R2 := SqR K TT) (pre := fun ns ss => (ns.length ≤ 6 ∧ NmL ns) ∧ ss.length ≤ 1000000) (R := fun ns ss => LiR TT (shortestL ns ss)) (x := c.signs) (y := lvSet c fo) (gv_var rfl r8.lst) (gv_var rfl r9.sq) ⟨⟨by omega, nmS⟩, Nat.le_trans RS.len (by decide)⟩)
      fun v10 M8 H8 g8 r10 => a_V (P := CodeR C c) g8.mh (gv_is (gv_call1 (R1 := LawR) (pre := LawX) (R := fun c => CodeR C (madeOf c)) (x := c) (gv_var rfl (Mon.mono (g7.mm.trans g8.mm) rc6)) X) fun M v h => by have h : CodeR C (madeOf c) M v := h; rw [NF.made] at h; exact h) fun v11 M9 H9 g9 r11 => a_nil (fin2 fun t nt => ?_))
    have gT : Gr M7 H7 M9 (upd H9 t (.tup [v10, v11])) := (g8.trans g9).trans (.own g9.mh nt)
    revert gT
    generalize upd H9 t (.tup [v10, v11]) = H10
    intro gT
    have L9 := lift L7.mh a7 gT
    have a9 := a7.same gT.hh
    have rc9 : LawR c M9 vc := Mon.mono (g7.mm.trans gT.mm) rc6
    have r89 : LiR Tx c.signs M9 v8 := Mon.mono gT.mm r8
    have r99 : LiR TT (lvSet c fo) M9 v9 := Mon.mono gT.mm r9
    have r109 : LiR TT (shortestL c.signs (lvSet c fo)) M9 v10 := Mon.mono g9.mm r10
    -- the fewest
    refine z_asg (S := S) (k := kb + 28000) (c := 0) (P := LiR TT (fewC c l)) L9.mh a9 (Gv.s (GvL.li (gl_call2 (E := E0) (R1 := CodeR C) (R2 := Tx) (pre := FewC) (R := fun c l M ws => Pd TT M (fewC c l) ws) (x := c) (y := l) (gv_var rfl r11) (gv_var rfl rfl) (few_pre X X.k s4 hl)))) fun vf M11 H11 g11 a11 rf => ?_
    have okF : ∀ d ∈ fewC c l, ConsOk c d := fun d hd => short_ok' X d (fewC_mem hl d hd)
    have kF : c.clauses.length + (fewC c l).length ≤ 1000 := by omega
    have r1111 : CodeR C c M11 v11 := Mon.mono g11.mm r11
    -- the better one
    refine z_asg (S := S) (k := kb + 28000) (c := 0) (P := CodeR C (moreD c (fewC c l))) g11.mh a11 (Gv.s (gv_more (K := K) X NF kF okF (gv_var rfl r1111) (gv_var rfl rf))) fun vb M12 H12 g12 a12 rb => ?_
    have g1112 := g11.trans g12
    refine z_if (S := S) (k := kb + 28000) (c := 0) (B := (· = false)) g12.mh a12 (GvT.s (gt_or (b := false) (c := false) (gt_is (gt_not (gt_B (gv_seesM (K := K) X kF okF hl (gv_var rfl rb) (gv_var rfl rfl)))) (by rw [fewC_sees X hl]; rfl))
      fun _ => gt_is (gt_test (gv_eqT (K := K) (R := LiR TT) (neg := true) py_LTT inj_LTT (gv_setM (K := K) (CR := CR) X kF okF (gv_var rfl rb)) (gv_var rfl (Mon.mono g1112.mm r99)) (depth_LTT _))) (by simp))) (fun h => nomatch h) fun _ M13 H13 g13 a13 => ?_
    have g1113 := g1112.trans g13
    have rc13 : LawR c M13 vc := Mon.mono g1113.mm rc9
    have r813 : LiR Tx c.signs M13 v8 := Mon.mono g1113.mm r89
    have r1013 : LiR TT (shortestL c.signs (lvSet c fo)) M13 v10 := Mon.mono g1113.mm r109
    have r1113 : CodeR C c M13 v11 := Mon.mono g1113.mm r11
    have rf13 : LiR TT (fewC c l) M13 vf := Mon.mono (g12.trans g13).mm rf
    have base13 : Same M3 M13 := s1.trans (G6.mm.trans (g7.mm.trans (gT.mm.trans g1113.mm)))
    have hmul : (12 : Int) * (if (xor true (decide (shortestL c.signs (lvSet c fo) = []))) = true then 1 else 0) = ((if shortestL c.signs (lvSet c fo) = [] then 0 else 12 : Nat) : Int) := by by_cases h : shortestL c.signs (lvSet c fo) = [] <;> simp [h]
    -- the parts
    refine z_forE (S := S) (k := kb + 12 * 2000) (c := 0) (G := (· = List.range (if shortestL c.signs (lvSet c fo) = [] then 0 else 12))) (R := fun i : Nat => It' (i : Nat)) g13.mh (a13.le (by omega))
      (gi_rng1 (n := if shortestL c.signs (lvSet c fo) = [] then 0 else 12) (gv_is (gv_mul (gv_c rfl) (gv_int1b (gv_eqT (K := K) (R := LiR TT) (neg := true) py_LTT inj_LTT (gv_var rfl r1013) gv_nilL (depth_LTT _))) (.inl ⟨by decide, by decide⟩)) fun M v h => by
        rw [show v = _ from h]; show V.int _ = V.int _; rw [hmul]) (by split <;> decide)).s tg_1
      (fun _ M1' j σ' M' H' => ∃ y5 y12 y13 y14, Same M1' M' ∧ Same M13 M' ∧ Same M' (S.cut H') ∧ S.At (kb + (12 - j) * 2000) H' ∧ σ' = [some v, some (.ref S.a), some v4, some vf, some vb, y5, some vc, some (.str l), some v8, some v9, some v10, some v11, y12, y13, y14, none, none, none])
      (fun xs M14 H14 _ g14 a14 => ⟨_, _, _, _, Same.refl _, g14.mm, g14.mh, a14.le (by omega), rfl⟩)
      (fun xs M14 j σ' M' H' ⟨_, _, _, _, t1, _, t3, a, _⟩ => ⟨t1, t3, a.le (Nat.zero_le _)⟩) ?_ ?_
    rotate_left
    · rintro xs M14 σ' M' H' rfl sM14 ⟨y5, y12', y13', y14', t1, t2, t3, a, rfl⟩
      exact ⟨M', _, _, _, _, _, _, _, _, _, _, _, _, _, base13.trans t2, t3, by rw [← ekb]; exact a.le (by omega), rfl⟩
    rintro xs M14 j x' σ' M' H' M15 H15 σ3 rfl sM14 hxj ⟨y5, y12', y13', y14', t1, t2, t3, a, rfl⟩ g15 ⟨vj, rj, rfl⟩
    obtain ⟨hj, hne0⟩ : j < 12 ∧ shortestL c.signs (lvSet c fo) ≠ [] := by
      have := (List.getElem?_eq_some_iff.mp hxj).1
      rw [List.length_range] at this
      by_cases h : shortestL c.signs (lvSet c fo) = []
      · rw [if_pos h] at this; omega
      · rw [if_neg h] at this; exact ⟨this, h⟩
    have L15 := lift t3 a g15
    have a15 := a.same g15.hh
    have e15 : (12 - j) * 2000 = (12 - (j + 1)) * 2000 + 2000 := by omega
    rw [e15] at a15
    obtain ⟨kj, ekj⟩ : ∃ kj, kj = (12 - (j + 1)) * 2000 := ⟨_, rfl⟩
    rw [← ekj] at a15
    have s15 : Same M13 M15 := t2.trans g15.mm
    have DP : DrawPre c.signs (shortestL c.signs (lvSet c fo)) := ⟨nmS, by omega, List.length_pos_iff.mpr hne0, by omega, short_lit X⟩
    -- some
    refine z_asg (S := S) (k := kb + kj) (c := 1 + 83 * 20) (P := Ex (LiR TT) fun ds => ds.length ≤ 83 ∧ ∀ d ∈ ds, WideOf c.signs (shortestL c.signs (lvSet c fo)) d) L15.mh (a15.le (by omega))
      ((gls_m1 (n := 83) (c1 := 1) (c2 := 20) (T := TT) (R := fun i : Nat => It' (i : Nat)) (G := fun xs => ∃ n, n ≤ 83 ∧ xs = List.range n) (good := fun _ y => WideOf c.signs (shortestL c.signs (lvSet c fo)) y)
        (gis_rng1 (good := fun n => n ≤ 83) ((gs_draw (K := K) (n := ((fewC c l).length : Int) + 2) rfl (gv_addIn (K := K) (gv_lenA (K := K) (R := TT) (gv_var rfl (Mon.mono s15 rf13).sq)) (gv_c rfl)) (by omega) (by omega)).is fun M v ⟨z, hz, r⟩ => ⟨z.toNat, by omega, by rw [show v = _ from r]; congr 1; omega⟩) fun n hn => by omega)
        (fun xs ⟨n, hn, e⟩ => by rw [e, List.length_range]; exact hn) (by decide)
        fun xs _ x _ M' v' sm _ => gs_call2 (S := S) (R1 := SqR K Tx) (R2 := SqR K TT) (pre := DrawPre) (cs := fun _ _ => 20) (R := fun ns sh => Ex TT (WideOf ns sh)) (x := c.signs) (y := shortestL c.signs (lvSet c fo)) rfl (gv_var rfl (Mon.mono (s15.trans sm) r813).sq) (gv_var rfl (Mon.mono (s15.trans sm) r1013).sq) DP).gv
        fun M' vs p ⟨xs, cs, ⟨n, hn, e⟩, hp, hpd⟩ m => by
          obtain ⟨e1, e2⟩ := paired_all hp
          rw [e, List.length_range] at e1
          exact ⟨cs, ⟨by omega, e2⟩, p, vs, rfl, upd_same, hpd.mono (same_new m)⟩) fun v12 M16 H16 g16 a16 ⟨ds, ⟨dl, dw⟩, r12⟩ => ?_
    have s16 : Same M13 M16 := s15.trans g16.mm
    have okD : ∀ d ∈ ds, ConsOk c d := fun d hd => let ⟨L, o, ho, sub⟩ := dw d hd; cons_wide X ho L sub
    have kD : c.clauses.length + ds.length ≤ 1000 := by omega
    -- seen
    refine z_asg (S := S) (k := kb + kj) (c := 0) (P := Bl (seenL (c.clauses ++ ds) (shortestL c.signs (lvSet c fo)) l)) g16.mh a16 (Gv.s (gv_seesM (K := K) X kD okD hl (gv_more (K := K) X NF kD okD (gv_var rfl (Mon.mono s16 r1113)) (gv_var rfl r12)) (gv_var rfl rfl))) fun v13 M17 H17 g17 a17 r13 => ?_
    cases (show v13 = _ from r13)
    have s17 : Same M13 M17 := s16.trans g17.mm
    have r1217 : LiR TT ds M17 v12 := Mon.mono g17.mm r12
    have Lw : ∀ d ∈ c.clauses ++ ds, Lits c.names d := fun d hd => (List.mem_append.mp hd).elim (X.l d) fun h => (okD d h).w
    have Lo : ∀ o ∈ shortestL c.signs (lvSet c fo), Lits c.names o := fun o ho => lits_sg (short_lit X o ho) fun n hn => List.mem_append_left _ hn
    have SP : SeenPre (c.clauses ++ ds) (shortestL c.signs (lvSet c fo)) := ⟨few_chw X.nm (Nat.le_trans X.n6 (by decide)) Lw (by rw [List.length_append]; omega), by omega, c.names, fun o ho => ⟨short_lits X.nm (Lo o ho), X.nm, Lw, Lo o ho⟩⟩
    refine z_if (S := S) (k := kb + kj) (c := 0) (B := (· = false)) g17.mh a17 (GvT.s (gt_is (gt_not (gt_B (gv_call2 (R1 := Dd K) (R2 := Dd K) (x := .bool (seenL (c.clauses ++ ds) (shortestL c.signs (lvSet c fo)) l)) (y := .bool (seenL (c.clauses ++ ds) (shortestL c.signs (lvSet c fo)) l)) (gv_var rfl (py_bl _ _ _ rfl))
      (gv_is (gv_call3 (R1 := SqR K (SqR K Tx)) (R2 := SqR K TT) (R3 := Tx) (pre := fun cs os _ => SeenPre cs os) (R := fun cs os l => Bl (seenL cs os l)) (x := c.clauses ++ ds) (y := shortestL c.signs (lvSet c fo)) (z := l) (gv_is (gl_addL (K := K) (R := TT) (gv_cC (gv_var rfl (Mon.mono s17 rc13))) (gv_var rfl r1217) (szM (by omega))).li fun _ _ h => liTT_sqq h) (gv_var rfl (Mon.mono s17 r1013).sq) (gv_var rfl rfl) SP) fun M v h => py_bl _ _ _ h) ⟨fit_bool _, fit_bool _⟩))) (by simp))) (fun h => nomatch h) fun _ M18 H18 g18 a18 => ?_
    have s18 : Same M13 M18 := s17.trans g18.mm
    have r1218 : LiR TT ds M18 v12 := Mon.mono g18.mm r1217
    -- narrower ones
    have nar : ∀ d ∈ ds, atI ((shortestL c.signs (lvSet c fo)).filter fun o => liesIn o d) 0 = some (narrowOf (shortestL c.signs (lvSet c fo)) d) ∧ narrowOf (shortestL c.signs (lvSet c fo)) d ∈ shortestL c.signs (lvSet c fo) ∧ ∀ x ∈ narrowOf (shortestL c.signs (lvSet c fo)) d, x ∈ d := fun d hd => narrow_of (dw d hd).2
    have memN : ∀ x ∈ ds.map (narrowOf (shortestL c.signs (lvSet c fo))), x ∈ shortestL c.signs (lvSet c fo) := fun x hx => by
      obtain ⟨d, hd, rfl⟩ := List.mem_map.mp hx
      exact (nar d hd).2.1
    have okN : ∀ x ∈ ds.map (narrowOf (shortestL c.signs (lvSet c fo))), ConsOk c x := fun x hx => short_ok' X x (memN x hx)
    have kN : c.clauses.length + (ds.map (narrowOf (shortestL c.signs (lvSet c fo)))).length ≤ 1000 := by rw [List.length_map]; exact kD
    have seeN : seenL (c.clauses ++ ds) (shortestL c.signs (lvSet c fo)) l = true → seenL (c.clauses ++ ds.map (narrowOf (shortestL c.signs (lvSet c fo)))) (shortestL c.signs (lvSet c fo)) l = true := fun h => seen_narrow X (fun d hd => (okD d hd).w) (fun d hd => (okN d hd).w) (fun d hd => ⟨_, List.mem_map.mpr ⟨d, hd, rfl⟩, (nar d hd).2.2⟩) h
    refine z_if (S := S) (k := kb + kj) (c := 0) (B := (· = false)) g18.mh a18 (GvT.s (gt_is (gt_and (b := seenL (c.clauses ++ ds) (shortestL c.signs (lvSet c fo)) l) (c := decide ((ds.length : Int) < (fewC c l).length)) (gt_B (gv_var rfl rfl)) fun _ => gt_test (gv_gt (g := fun i j => .bl (decide (i < j))) (i := (ds.length : Int)) (j := ((fewC c l).length : Int)) (gv_lenA (K := K) (R := TT) (gv_var rfl r1218.sq)) (gv_lenA (K := K) (R := TT) (gv_var rfl (Mon.mono s18 rf13).sq)))) (by
        cases eS : seenL (c.clauses ++ ds) (shortestL c.signs (lvSet c fo)) l with
        | false => rfl
        | true =>
          have := fewC_min X hl memN (seeN eS)
          rw [List.length_map] at this
          rw [Bool.true_and, decide_eq_false_iff_not]
          omega))) (fun h => nomatch h) fun _ M19 H19 g19 a19 => ?_
    have s19 : Same M13 M19 := s18.trans g19.mm
    have r1219 : LiR TT ds M19 v12 := Mon.mono g19.mm r1218
    refine z_asg (S := S) (k := kb + kj) (c := 0) (P := LiR TT (ds.map (narrowOf (shortestL c.signs (lvSet c fo))))) g19.mh a19 (Gv.s (GvL.li (gl_m1 (S := TT) (R := TT) (xs := ds) (gi_sq (K := K) (gv_var rfl r1219.sq)) (szK (by omega)) (narrowOf (shortestL c.signs (lvSet c fo)))
      fun d hd M1 u1 sm1 ru1 => gv_ix (K := K) (R := TT) (i := 0) (gv_is (gl_c1 (S := TT) (R := TT) (xs := shortestL c.signs (lvSet c fo)) (gi_sq (K := K) (gv_var rfl (Mon.mono (s19.trans sm1) r1013).sq)) (szK (by omega)) (fun o => liesIn o d) id
        (fun o ho M2 u2 sm2 ru2 => gt_B (gv_call2 (R1 := SqR K Tx) (R2 := CtR K) (pre := fun p _ => p.length ≤ 1000000) (R := fun p c => Bl (liesIn p c)) (x := o) (y := d) (gv_var rfl (TT.sq ru2)) (gv_var rfl (.inl (TT.sq (Mon.mono sm2 ru1)))) (Nat.le_trans (short_lits X.nm (Lo o ho)).1 (by decide)))) fun o _ _ M2 u2 sm2 ru2 => gv_var rfl ru2).li fun M v h => by rw [List.map_id] at h; exact h.sq) (gv_c rfl) (nar d hd).1))) fun v14 M20 H20 g20 a20 r14 => ?_
    have s20 : Same M13 M20 := s19.trans g20.mm
    refine z_ifE (S := S) (k := kb + kj) (c := 0) (B := (· = false)) g20.mh a20 (GvT.s (gt_is (gt_and (b := seenL (c.clauses ++ ds) (shortestL c.signs (lvSet c fo)) l) (c := !seenL (c.clauses ++ ds.map (narrowOf (shortestL c.signs (lvSet c fo)))) (shortestL c.signs (lvSet c fo)) l) (gt_B (gv_var rfl rfl)) fun _ => gt_not (gt_B (gv_seesM (K := K) X kN okN hl (gv_more (K := K) X NF kN okN (gv_var rfl (Mon.mono s20 r1113)) (gv_var rfl r14)) (gv_var rfl rfl)))) (by
        cases eS : seenL (c.clauses ++ ds) (shortestL c.signs (lvSet c fo)) l with
        | false => rfl
        | true => rw [seeN eS]; rfl))) (fun h => nomatch h) fun _ M21 H21 g21 a21 => ?_
    exact ⟨M21, _, _, _, _, t1.trans (g15.mm.trans (g16.mm.trans (g17.mm.trans (g18.mm.trans (g19.mm.trans (g20.mm.trans g21.mm)))))), s20.trans g21.mm, g21.mh, by rw [← ekj]; exact a21, rfl⟩
end
end My

set_option Elab.async false
set_option linter.all false
set_option maxRecDepth 100000
set_option maxHeartbeats 4000000
namespace My
open PySem PySem.Spec PyProof.Rows L2 L3
/-- a def of the text behind the top -/
structure At1 (K : PySem.W.Frag) (x : Str) (st : Stmt) (f : Addr) : Prop where
  ns : PySem.W.nsIn K mainGlobals x = some (some (.ref f))
  fn : ∃ fd, Fun K x x st f fd
/-- one that has a text for its default -/
structure AtD (K : PySem.W.Frag) (x : Str) (st : Stmt) (z : Str) (f : Addr) : Prop where
  ns : PySem.W.nsIn K mainGlobals x = some (some (.ref f))
  fn : ∃ fd, FunD K x x (defArgs st) (defBody st) (defScope st) [.str z] [] f fd
/-- a method of a class of the text -/
structure AtM (K : PySem.W.Frag) (C : Addr) (m q : Str) (st : Stmt) (f : Addr) : Prop where
  me : Meth K C m f
  fn : ∃ fd, Fun K m q st f fd
/-- a method with the default () -/
structure AtE (K : PySem.W.Frag) (C : Addr) (m q : Str) (st : Stmt) (e : Addr) (f : Addr) : Prop where
  me : Meth K C m f
  fn : ∃ fd, FunD K m q (defArgs st) (defBody st) (defScope st) [.ref e] [] f fd
/-- a class of the text -/
structure AtC (K : PySem.W.Frag) (x : Str) (C : Addr) : Prop where
  ns : PySem.W.nsIn K mainGlobals x = some (some (.ref C))
  cl : Cls K C
  mks : PySem.W.makesIn K C = true
  kc : PySem.W.keepIn K (.ref C) = true
theorem all_mk {l : PySem.W.OpenLaw} {w : World} {K : PySem.W.Frag} {h : Heap} {mg : Str → Option Value} {fa C CR f0 f1 f2 f3 f4 f5 f6 f7 f8 f9 f10 f11 f12 f13 f14 f15 f16 f17 f18 f19 f20 f21 f22 f23 f24 f25 f26 f27 f28 f29 f30 f31 f32 f33 f34 f35 f36 f37 f38 f39 f40 f41 f42 f43 f44 f45 f46 f47 f48 f49 f50 f51 f52 f53 f54 f55 f56 f57 f58 f59 f60 f61 f62 f63 f64 g0 g1 g2 g3 g4 g5 g6 g7 e0 LV : Addr} {lt : Tok} {lm : Tok} (X : K.In h) (G : h.Ns mainGlobals mg) (hfa : mg "law" = some (.ref fa))
    (clCode : AtC K "Code" C)
    (clRule : AtC K "Rule" CR)
    (d0 : At1 K "name_of" s_name_of f0)
    (d1 : At1 K "opposite" s_opposite f1)
    (d2 : At1 K "is_list" s_is_list f2)
    (d3 : At1 K "is_literal" s_is_literal f3)
    (d4 : At1 K "first_wrong" s_first_wrong f4)
    (d5 : At1 K "ascending" s_ascending f5)
    (d6 : At1 K "is_name" s_is_name f6)
    (d7 : At1 K "checked_names" s_checked_names f7)
    (d8 : At1 K "checked_clauses" s_checked_clauses f8)
    (d9 : At1 K "open_ones" s_open_ones f9)
    (d10 : At1 K "chase" s_chase f10)
    (d11 : At1 K "full_settings" s_full_settings f11)
    (d12 : At1 K "half_settings" s_half_settings f12)
    (d13 : At1 K "checked_settings" s_checked_settings f13)
    (d14 : At1 K "forced_literals" s_forced_literals f14)
    (d15 : At1 K "lies_in" s_lies_in f15)
    (d16 : At1 K "is_consequence" s_is_consequence f16)
    (d17 : At1 K "filled" s_filled f17)
    (d18 : At1 K "level_names" s_level_names f18)
    (d19 : At1 K "level_rule" s_level_rule f19)
    (d20 : At1 K "blind_at" s_blind_at f20)
    (d21 : AtD K "blind" s_blind "forced" f21)
    (d22 : AtD K "sees" s_sees "forced" f22)
    (d23 : At1 K "opposites" s_opposites f23)
    (d24 : At1 K "denied_but" s_denied_but f24)
    (d25 : At1 K "draws" s_draws f25)
    (d26 : At1 K "is_dead" s_is_dead f26)
    (d27 : At1 K "finds" s_finds f27)
    (d28 : At1 K "without" s_without f28)
    (d29 : At1 K "is_seen" s_is_seen f29)
    (d30 : At1 K "picks_of" s_picks_of f30)
    (d31 : At1 K "fewest_of" s_fewest_of f31)
    (d32 : AtD K "fewest" s_fewest "forced" f32)
    (d33 : At1 K "_law_draw" s__law_draw f33)
    (d34 : At1 K "_law_pick" s__law_pick f34)
    (d35 : At1 K "_law_mixed" s__law_mixed f35)
    (d36 : At1 K "_law_fresh" s__law_fresh f36)
    (d37 : At1 K "_law_names" s__law_names f37)
    (d38 : At1 K "_law_neg" s__law_neg f38)
    (d39 : At1 K "_law_bare" s__law_bare f39)
    (d40 : At1 K "_law_up" s__law_up f40)
    (d41 : At1 K "_law_fulls" s__law_fulls f41)
    (d42 : At1 K "_law_halves" s__law_halves f42)
    (d43 : At1 K "_law_meets" s__law_meets f43)
    (d44 : At1 K "_law_within" s__law_within f44)
    (d45 : At1 K "_law_shortest" s__law_shortest f45)
    (d46 : At1 K "_law_chase" s__law_chase f46)
    (d47 : At1 K "_law_half" s__law_half f47)
    (d48 : At1 K "_law_sided" s__law_sided f48)
    (d49 : At1 K "_law_clause" s__law_clause f49)
    (d50 : At1 K "_law_once" s__law_once f50)
    (d51 : At1 K "_law_code" s__law_code f51)
    (d52 : At1 K "_law_made" s__law_made f52)
    (d53 : At1 K "_law_drawn_rule" s__law_drawn_rule f53)
    (d54 : At1 K "_law_parted" s__law_parted f54)
    (d55 : At1 K "_law_some_code" s__law_some_code f55)
    (d56 : At1 K "_law_fits" s__law_fits f56)
    (d57 : At1 K "_law_allowed" s__law_allowed f57)
    (d58 : At1 K "_law_rule_of" s__law_rule_of f58)
    (d59 : At1 K "_law_led_to" s__law_led_to f59)
    (d60 : At1 K "_law_finds" s__law_finds f60)
    (d61 : At1 K "_law_seen" s__law_seen f61)
    (d62 : At1 K "_law_same" s__law_same f62)
    (d63 : At1 K "_law_drawn_consequence" s__law_drawn_consequence f63)
    (d64 : At1 K "law" s_law f64)
    (e1 : AtE K C "__init__" "Code.__init__" s_Code_init e0 g0)
    (e2 : AtM K C "fill" "Code.fill" s_Code_fill g1)
    (e3 : AtM K C "rule" "Code.rule" s_Code_rule g2)
    (e4 : AtM K C "total" "Code.total" s_Code_total g3)
    (e5 : AtM K C "more" "Code.more" s_Code_more g4)
    (e6 : AtM K CR "__init__" "Rule.__init__" s_Rule_init g5)
    (e7 : AtM K CR "settings" "Rule.settings" s_Rule_settings g6)
    (e8 : AtM K CR "shortest" "Rule.shortest" s_Rule_shortest g7)
    (qCode0 : PySem.W.findIn K (.ref C) "sign_row" = some none)
    (qCode1 : PySem.W.findIn K (.ref C) "helper_row" = some none)
    (qCode2 : PySem.W.findIn K (.ref C) "names" = some none)
    (qCode3 : PySem.W.findIn K (.ref C) "clause_row" = some none)
    (qRule0 : PySem.W.findIn K (.ref CR) "names" = some none)
    (qRule1 : PySem.W.findIn K (.ref CR) "allowed" = some none)
    (gL : PySem.W.nsIn K mainGlobals "LETTERS" = some (some (.str g_LETTERS lt)))
    (gM : PySem.W.nsIn K mainGlobals "MOST_SIGNS" = some (some (.int 6 lm)))
    (gV : PySem.W.nsIn K mainGlobals "LEVELS" = some (some (.ref LV)))
    (lV : ∀ H, SqT K H LV [.str "dead", .str "forced", .str "all"])
    (z_len : PySem.W.nsIn K mainGlobals "len" = some none)
    (z_tuple : PySem.W.nsIn K mainGlobals "tuple" = some none)
    (z_list : PySem.W.nsIn K mainGlobals "list" = some none)
    (z_str : PySem.W.nsIn K mainGlobals "str" = some none)
    (z_int : PySem.W.nsIn K mainGlobals "int" = some none)
    (z_all : PySem.W.nsIn K mainGlobals "all" = some none)
    (z_any : PySem.W.nsIn K mainGlobals "any" = some none)
    (z_isinstance : PySem.W.nsIn K mainGlobals "isinstance" = some none)
    (z_enumerate : PySem.W.nsIn K mainGlobals "enumerate" = some none)
    (z_range : PySem.W.nsIn K mainGlobals "range" = some none)
    (z_repr : PySem.W.nsIn K mainGlobals "repr" = some none)
    (z_bool : PySem.W.nsIn K mainGlobals "bool" = some none)
    (z_dict : PySem.W.nsIn K mainGlobals "dict" = some none)
    : ∃ fd : FuncData, (∀ (s : Shared) (v : Value), BindsTo s fd ⟨[v], []⟩ [("_law_script", v)]) ∧ ∀ base : Heap, K.In base → base.Ns mainGlobals mg → FnG l.prog w K mg base CX0 212 fa fd ["_law_script"] (sp_law K) := by
  have T0 : Gf K mg := { len := PySem.W.mg_none_of X G z_len, tuple := PySem.W.mg_none_of X G z_tuple, list := PySem.W.mg_none_of X G z_list, str := PySem.W.mg_none_of X G z_str, int := PySem.W.mg_none_of X G z_int, all := PySem.W.mg_none_of X G z_all, any := PySem.W.mg_none_of X G z_any, isinstance := PySem.W.mg_none_of X G z_isinstance, enumerate := PySem.W.mg_none_of X G z_enumerate, range := PySem.W.mg_none_of X G z_range, repr := PySem.W.mg_none_of X G z_repr, bool := PySem.W.mg_none_of X G z_bool, dict := PySem.W.mg_none_of X G z_dict, g_LETTERS := ⟨_, PySem.W.mg_of X G gL⟩, g_MOST_SIGNS := ⟨_, PySem.W.mg_of X G gM⟩, g_LEVELS := ⟨LV, PySem.W.mg_of X G gV, lV⟩ }
  have TC : CodeT K mg C := ⟨clCode.cl, qCode0, qCode1, qCode2, qCode3⟩
  have TR : RuleT K mg CR := ⟨clRule.cl, qRule0, qRule1⟩
  obtain ⟨n0, fd0, F0⟩ := d0
  have b0 := F0.binds (ps := ["literal"]) fun _ _ _ _ _ _ us hl => match us, hl with | [_], _ => rfl
  obtain ⟨n1, fd1, F1⟩ := d1
  have b1 := F1.binds (ps := ["literal"]) fun _ _ _ _ _ _ us hl => match us, hl with | [_], _ => rfl
  obtain ⟨n2, fd2, F2⟩ := d2
  have b2 := F2.binds (ps := ["thing"]) fun _ _ _ _ _ _ us hl => match us, hl with | [_], _ => rfl
  obtain ⟨n3, fd3, F3⟩ := d3
  have b3 := F3.binds (ps := ["thing", "names"]) fun _ _ _ _ _ _ us hl => match us, hl with | [_, _], _ => rfl
  obtain ⟨n4, fd4, F4⟩ := d4
  have b4 := F4.binds (ps := ["things", "names"]) fun _ _ _ _ _ _ us hl => match us, hl with | [_, _], _ => rfl
  obtain ⟨n5, fd5, F5⟩ := d5
  have b5 := F5.binds (ps := ["literals", "names"]) fun _ _ _ _ _ _ us hl => match us, hl with | [_, _], _ => rfl
  obtain ⟨n6, fd6, F6⟩ := d6
  have b6 := F6.binds (ps := ["thing"]) fun _ _ _ _ _ _ us hl => match us, hl with | [_], _ => rfl
  obtain ⟨n7, fd7, F7⟩ := d7
  have b7 := F7.binds (ps := ["things", "known"]) fun _ _ _ _ _ _ us hl => match us, hl with | [_, _], _ => rfl
  obtain ⟨n8, fd8, F8⟩ := d8
  have b8 := F8.binds (ps := ["clauses", "names"]) fun _ _ _ _ _ _ us hl => match us, hl with | [_, _], _ => rfl
  obtain ⟨n9, fd9, F9⟩ := d9
  have b9 := F9.binds (ps := ["clause", "so"]) fun _ _ _ _ _ _ us hl => match us, hl with | [_, _], _ => rfl
  obtain ⟨n10, fd10, F10⟩ := d10
  have b10 := F10.binds (ps := ["clauses", "setting"]) fun _ _ _ _ _ _ us hl => match us, hl with | [_, _], _ => rfl
  obtain ⟨n11, fd11, F11⟩ := d11
  have b11 := F11.binds (ps := ["names"]) fun _ _ _ _ _ _ us hl => match us, hl with | [_], _ => rfl
  obtain ⟨n12, fd12, F12⟩ := d12
  have b12 := F12.binds (ps := ["names"]) fun _ _ _ _ _ _ us hl => match us, hl with | [_], _ => rfl
  obtain ⟨n13, fd13, F13⟩ := d13
  have b13 := F13.binds (ps := ["settings", "names"]) fun _ _ _ _ _ _ us hl => match us, hl with | [_, _], _ => rfl
  obtain ⟨n14, fd14, F14⟩ := d14
  have b14 := F14.binds (ps := ["settings", "setting"]) fun _ _ _ _ _ _ us hl => match us, hl with | [_, _], _ => rfl
  obtain ⟨n15, fd15, F15⟩ := d15
  have b15 := F15.binds (ps := ["part", "clause"]) fun _ _ _ _ _ _ us hl => match us, hl with | [_, _], _ => rfl
  obtain ⟨n16, fd16, F16⟩ := d16
  have b16 := F16.binds (ps := ["clause", "settings"]) fun _ _ _ _ _ _ us hl => match us, hl with | [_, _], _ => rfl
  obtain ⟨n17, fd17, F17⟩ := d17
  have b17 := F17.binds (ps := ["clauses", "names", "setting"]) fun _ _ _ _ _ _ us hl => match us, hl with | [_, _, _], _ => rfl
  obtain ⟨n18, fd18, F18⟩ := d18
  have b18 := F18.binds (ps := ["code", "level"]) fun _ _ _ _ _ _ us hl => match us, hl with | [_, _], _ => rfl
  obtain ⟨n19, fd19, F19⟩ := d19
  have b19 := F19.binds (ps := ["code", "level"]) fun _ _ _ _ _ _ us hl => match us, hl with | [_, _], _ => rfl
  obtain ⟨n20, fd20, F20⟩ := d20
  have b20 := F20.binds (ps := ["code", "settings", "setting", "level"]) fun _ _ _ _ _ _ us hl => match us, hl with | [_, _, _, _], _ => rfl
  obtain ⟨n21, fd21, F21⟩ := d21
  obtain ⟨ds21, hv21, b21⟩ := F21.binds1 (ps := ["code", "level"]) 2 1 (by simp) rfl fun _ _ _ _ _ _ _ us its hl hi => match us, its, hl, hi with | [_, _], [_], _, _ => ⟨_, rfl, rfl⟩
  cases hv21
  obtain ⟨dt21, hw21, bb21⟩ := F21.binds1 (ps := ["code", "level"]) 1 0 (by simp) rfl fun _ _ _ _ _ _ _ us its hl hi => match us, its, hl, hi with | [_], [_], _, _ => ⟨_, rfl, rfl⟩
  obtain ⟨n22, fd22, F22⟩ := d22
  obtain ⟨ds22, hv22, b22⟩ := F22.binds1 (ps := ["code", "level"]) 2 1 (by simp) rfl fun _ _ _ _ _ _ _ us its hl hi => match us, its, hl, hi with | [_, _], [_], _, _ => ⟨_, rfl, rfl⟩
  cases hv22
  obtain ⟨dt22, hw22, bb22⟩ := F22.binds1 (ps := ["code", "level"]) 1 0 (by simp) rfl fun _ _ _ _ _ _ _ us its hl hi => match us, its, hl, hi with | [_], [_], _, _ => ⟨_, rfl, rfl⟩
  obtain ⟨n23, fd23, F23⟩ := d23
  have b23 := F23.binds (ps := ["literals"]) fun _ _ _ _ _ _ us hl => match us, hl with | [_], _ => rfl
  obtain ⟨n24, fd24, F24⟩ := d24
  have b24 := F24.binds (ps := ["clause", "literal"]) fun _ _ _ _ _ _ us hl => match us, hl with | [_, _], _ => rfl
  obtain ⟨n25, fd25, F25⟩ := d25
  have b25 := F25.binds (ps := ["clauses", "setting", "literal"]) fun _ _ _ _ _ _ us hl => match us, hl with | [_, _, _], _ => rfl
  obtain ⟨n26, fd26, F26⟩ := d26
  have b26 := F26.binds (ps := ["clauses", "setting"]) fun _ _ _ _ _ _ us hl => match us, hl with | [_, _], _ => rfl
  obtain ⟨n27, fd27, F27⟩ := d27
  have b27 := F27.binds (ps := ["clauses", "clause"]) fun _ _ _ _ _ _ us hl => match us, hl with | [_, _], _ => rfl
  obtain ⟨n28, fd28, F28⟩ := d28
  have b28 := F28.binds (ps := ["clauses", "clause"]) fun _ _ _ _ _ _ us hl => match us, hl with | [_, _], _ => rfl
  obtain ⟨n29, fd29, F29⟩ := d29
  have b29 := F29.binds (ps := ["clauses", "clause", "level"]) fun _ _ _ _ _ _ us hl => match us, hl with | [_, _, _], _ => rfl
  obtain ⟨n30, fd30, F30⟩ := d30
  have b30 := F30.binds (ps := ["things", "many"]) fun _ _ _ _ _ _ us hl => match us, hl with | [_, _], _ => rfl
  obtain ⟨n31, fd31, F31⟩ := d31
  have b31 := F31.binds (ps := ["clauses", "shortest", "level"]) fun _ _ _ _ _ _ us hl => match us, hl with | [_, _, _], _ => rfl
  obtain ⟨n32, fd32, F32⟩ := d32
  obtain ⟨ds32, hv32, b32⟩ := F32.binds1 (ps := ["code", "level"]) 2 1 (by simp) rfl fun _ _ _ _ _ _ _ us its hl hi => match us, its, hl, hi with | [_, _], [_], _, _ => ⟨_, rfl, rfl⟩
  cases hv32
  obtain ⟨dt32, hw32, bb32⟩ := F32.binds1 (ps := ["code", "level"]) 1 0 (by simp) rfl fun _ _ _ _ _ _ _ us its hl hi => match us, its, hl, hi with | [_], [_], _, _ => ⟨_, rfl, rfl⟩
  obtain ⟨n33, fd33, F33⟩ := d33
  have b33 := F33.binds (ps := ["_law_stream", "_law_many"]) fun _ _ _ _ _ _ us hl => match us, hl with | [_, _], _ => rfl
  obtain ⟨n34, fd34, F34⟩ := d34
  have b34 := F34.binds (ps := ["_law_stream", "_law_things"]) fun _ _ _ _ _ _ us hl => match us, hl with | [_, _], _ => rfl
  obtain ⟨n35, fd35, F35⟩ := d35
  have b35 := F35.binds (ps := ["_law_stream", "_law_things"]) fun _ _ _ _ _ _ us hl => match us, hl with | [_, _], _ => rfl
  obtain ⟨n36, fd36, F36⟩ := d36
  have b36 := F36.binds (ps := ["_law_stream", "_law_taken"]) fun _ _ _ _ _ _ us hl => match us, hl with | [_, _], _ => rfl
  obtain ⟨n37, fd37, F37⟩ := d37
  have b37 := F37.binds (ps := ["_law_stream", "_law_many"]) fun _ _ _ _ _ _ us hl => match us, hl with | [_, _], _ => rfl
  obtain ⟨n38, fd38, F38⟩ := d38
  have b38 := F38.binds (ps := ["_law_one"]) fun _ _ _ _ _ _ us hl => match us, hl with | [_], _ => rfl
  obtain ⟨n39, fd39, F39⟩ := d39
  have b39 := F39.binds (ps := ["_law_one"]) fun _ _ _ _ _ _ us hl => match us, hl with | [_], _ => rfl
  obtain ⟨n40, fd40, F40⟩ := d40
  have b40 := F40.binds (ps := ["_law_some", "_law_names_here"]) fun _ _ _ _ _ _ us hl => match us, hl with | [_, _], _ => rfl
  obtain ⟨n41, fd41, F41⟩ := d41
  have b41 := F41.binds (ps := ["_law_names_here"]) fun _ _ _ _ _ _ us hl => match us, hl with | [_], _ => rfl
  obtain ⟨n42, fd42, F42⟩ := d42
  have b42 := F42.binds (ps := ["_law_names_here"]) fun _ _ _ _ _ _ us hl => match us, hl with | [_], _ => rfl
  obtain ⟨n43, fd43, F43⟩ := d43
  have b43 := F43.binds (ps := ["_law_clause_here", "_law_some"]) fun _ _ _ _ _ _ us hl => match us, hl with | [_, _], _ => rfl
  obtain ⟨n44, fd44, F44⟩ := d44
  have b44 := F44.binds (ps := ["_law_part", "_law_clause_here"]) fun _ _ _ _ _ _ us hl => match us, hl with | [_, _], _ => rfl
  obtain ⟨n45, fd45, F45⟩ := d45
  have b45 := F45.binds (ps := ["_law_names_here", "_law_settings"]) fun _ _ _ _ _ _ us hl => match us, hl with | [_, _], _ => rfl
  obtain ⟨n46, fd46, F46⟩ := d46
  have b46 := F46.binds (ps := ["_law_clauses", "_law_half_here"]) fun _ _ _ _ _ _ us hl => match us, hl with | [_, _], _ => rfl
  obtain ⟨n47, fd47, F47⟩ := d47
  have b47 := F47.binds (ps := ["_law_stream", "_law_names_here"]) fun _ _ _ _ _ _ us hl => match us, hl with | [_, _], _ => rfl
  obtain ⟨n48, fd48, F48⟩ := d48
  have b48 := F48.binds (ps := ["_law_stream", "_law_names_here"]) fun _ _ _ _ _ _ us hl => match us, hl with | [_, _], _ => rfl
  obtain ⟨n49, fd49, F49⟩ := d49
  have b49 := F49.binds (ps := ["_law_stream", "_law_names_here", "_law_most"]) fun _ _ _ _ _ _ us hl => match us, hl with | [_, _, _], _ => rfl
  obtain ⟨n50, fd50, F50⟩ := d50
  have b50 := F50.binds (ps := ["_law_clauses", "_law_names_here"]) fun _ _ _ _ _ _ us hl => match us, hl with | [_, _], _ => rfl
  obtain ⟨n51, fd51, F51⟩ := d51
  have b51 := F51.binds (ps := ["_law_stream", "_law_signs", "_law_helpers", "_law_many"]) fun _ _ _ _ _ _ us hl => match us, hl with | [_, _, _, _], _ => rfl
  obtain ⟨n52, fd52, F52⟩ := d52
  have b52 := F52.binds (ps := ["_law_c"]) fun _ _ _ _ _ _ us hl => match us, hl with | [_], _ => rfl
  obtain ⟨n53, fd53, F53⟩ := d53
  have b53 := F53.binds (ps := ["_law_stream", "_law_most"]) fun _ _ _ _ _ _ us hl => match us, hl with | [_, _], _ => rfl
  obtain ⟨n54, fd54, F54⟩ := d54
  have b54 := F54.binds (ps := ["_law_stream", "_law_c"]) fun _ _ _ _ _ _ us hl => match us, hl with | [_, _], _ => rfl
  obtain ⟨n55, fd55, F55⟩ := d55
  have b55 := F55.binds (ps := ["_law_stream", "_law_most", "_law_helpers"]) fun _ _ _ _ _ _ us hl => match us, hl with | [_, _, _], _ => rfl
  obtain ⟨n56, fd56, F56⟩ := d56
  have b56 := F56.binds (ps := ["_law_clauses", "_law_some"]) fun _ _ _ _ _ _ us hl => match us, hl with | [_, _], _ => rfl
  obtain ⟨n57, fd57, F57⟩ := d57
  have b57 := F57.binds (ps := ["_law_signs", "_law_clauses", "_law_helpers"]) fun _ _ _ _ _ _ us hl => match us, hl with | [_, _, _], _ => rfl
  obtain ⟨n58, fd58, F58⟩ := d58
  have b58 := F58.binds (ps := ["_law_c", "_law_level"]) fun _ _ _ _ _ _ us hl => match us, hl with | [_, _], _ => rfl
  obtain ⟨n59, fd59, F59⟩ := d59
  have b59 := F59.binds (ps := ["_law_clauses", "_law_clause_here", "_law_literal"]) fun _ _ _ _ _ _ us hl => match us, hl with | [_, _, _], _ => rfl
  obtain ⟨n60, fd60, F60⟩ := d60
  have b60 := F60.binds (ps := ["_law_clauses", "_law_clause_here"]) fun _ _ _ _ _ _ us hl => match us, hl with | [_, _], _ => rfl
  obtain ⟨n61, fd61, F61⟩ := d61
  have b61 := F61.binds (ps := ["_law_clauses", "_law_shortest_here", "_law_level"]) fun _ _ _ _ _ _ us hl => match us, hl with | [_, _, _], _ => rfl
  obtain ⟨n62, fd62, F62⟩ := d62
  have b62 := F62.binds (ps := ["_law_found", "_law_due"]) fun _ _ _ _ _ _ us hl => match us, hl with | [_, _], _ => rfl
  obtain ⟨n63, fd63, F63⟩ := d63
  have b63 := F63.binds (ps := ["_law_stream", "_law_names_here", "_law_shortest_here"]) fun _ _ _ _ _ _ us hl => match us, hl with | [_, _, _], _ => rfl
  obtain ⟨n64, fd64, F64⟩ := d64
  have b64 := F64.binds (ps := ["_law_script"]) fun _ _ _ _ _ _ us hl => match us, hl with | [_], _ => rfl
  obtain ⟨me0, gd0, E0⟩ := e1
  obtain ⟨es0, ev0, u0⟩ := E0.binds1 (ps := ["self", "signs", "clauses", "helpers"]) 4 1 (by simp) rfl fun _ _ _ _ _ _ _ us its hl hi => match us, its, hl, hi with | [_, _, _, _], [_], _, _ => ⟨_, rfl, rfl⟩
  cases ev0
  obtain ⟨me1, gd1, E1⟩ := e2
  have u1 := E1.binds (ps := ["self", "setting"]) fun _ _ _ _ _ _ us hl => match us, hl with | [_, _], _ => rfl
  obtain ⟨me2, gd2, E2⟩ := e3
  have u2 := E2.binds (ps := ["self"]) fun _ _ _ _ _ _ us hl => match us, hl with | [_], _ => rfl
  obtain ⟨me3, gd3, E3⟩ := e4
  have u3 := E3.binds (ps := ["self"]) fun _ _ _ _ _ _ us hl => match us, hl with | [_], _ => rfl
  obtain ⟨me4, gd4, E4⟩ := e5
  have u4 := E4.binds (ps := ["self", "clauses"]) fun _ _ _ _ _ _ us hl => match us, hl with | [_, _], _ => rfl
  obtain ⟨me5, gd5, E5⟩ := e6
  have u5 := E5.binds (ps := ["self", "signs", "settings"]) fun _ _ _ _ _ _ us hl => match us, hl with | [_, _, _], _ => rfl
  obtain ⟨me6, gd6, E6⟩ := e7
  have u6 := E6.binds (ps := ["self"]) fun _ _ _ _ _ _ us hl => match us, hl with | [_], _ => rfl
  obtain ⟨me7, gd7, E7⟩ := e8
  have u7 := E7.binds (ps := ["self"]) fun _ _ _ _ _ _ us hl => match us, hl with | [_], _ => rfl
  have e := hfa.symm.trans (PySem.W.mg_of X G n64)
  cases e
  refine ⟨fd64, fun s v => ?_, fun base _ _ => ?_⟩
  · obtain ⟨oc, od, kV, doc, pm, an, cdv, ct, osl, rfl, _⟩ := F64.ex
    exact .of_eq rfl
  have c_name_of : Cal l.prog w K mg base 1 "name_of" ["literal"] (sp_name_of K) := ⟨f0, fd0, ok_name_of F0, PySem.W.mg_of X G n0, F0.kp, b0⟩
  have c_opposite : Cal l.prog w K mg base 1 "opposite" ["literal"] (sp_opposite K) := ⟨f1, fd1, ok_opposite F1, PySem.W.mg_of X G n1, F1.kp, b1⟩
  have c_is_list : Cal l.prog w K mg base 1 "is_list" ["thing"] (sp_is_list K) := ⟨f2, fd2, ok_is_list F2 T0.toBi, PySem.W.mg_of X G n2, F2.kp, b2⟩
  have c_is_literal : Cal l.prog w K mg base 2 "is_literal" ["thing", "names"] (sp_is_literal K) := ⟨f3, fd3, ok_is_literal F3 T0.toBi c_name_of, PySem.W.mg_of X G n3, F3.kp, b3⟩
  have c_first_wrong : Cal l.prog w K mg base 3 "first_wrong" ["things", "names"] (sp_first_wrong K) := ⟨f4, fd4, ok_first_wrong F4 T0.toBi c_is_list c_name_of c_is_literal, PySem.W.mg_of X G n4, F4.kp, b4⟩
  have c_ascending : Cal l.prog w K mg base 1 "ascending" ["literals", "names"] (sp_ascending K) := ⟨f5, fd5, ok_ascending F5 T0.toBi, PySem.W.mg_of X G n5, F5.kp, b5⟩
  have c_is_name : Cal l.prog w K mg base 1 "is_name" ["thing"] (sp_is_name K) := ⟨f6, fd6, ok_is_name F6 T0.toGb, PySem.W.mg_of X G n6, F6.kp, b6⟩
  have c_checked_names : Cal l.prog w K mg base 2 "checked_names" ["things", "known"] (sp_checked_names K) := ⟨f7, fd7, ok_checked_names F7 T0.toGb c_is_name, PySem.W.mg_of X G n7, F7.kp, b7⟩
  have c_checked_clauses : Cal l.prog w K mg base 4 "checked_clauses" ["clauses", "names"] (sp_checked_clauses K) := ⟨f8, fd8, ok_checked_clauses F8 T0.toGb c_first_wrong c_ascending, PySem.W.mg_of X G n8, F8.kp, b8⟩
  have c_open_ones : Cal l.prog w K mg base 2 "open_ones" ["clause", "so"] (sp_open_ones K) := ⟨f9, fd9, ok_open_ones F9 c_opposite, PySem.W.mg_of X G n9, F9.kp, b9⟩
  have c_chase : Cal l.prog w K mg base 3 "chase" ["clauses", "setting"] (sp_chase K) := ⟨f10, fd10, ok_chase F10 T0.toGb c_open_ones, PySem.W.mg_of X G n10, F10.kp, b10⟩
  have c_full_settings : Cal l.prog w K mg base 1 "full_settings" ["names"] (sp_full_settings K) := ⟨f11, fd11, ok_full_settings F11 T0.toGc, PySem.W.mg_of X G n11, F11.kp, b11⟩
  have c_half_settings : Cal l.prog w K mg base 1 "half_settings" ["names"] (sp_half_settings K) := ⟨f12, fd12, ok_half_settings F12 T0.toGc, PySem.W.mg_of X G n12, F12.kp, b12⟩
  have c_checked_settings : Cal l.prog w K mg base 4 "checked_settings" ["settings", "names"] (sp_checked_settings K) := ⟨f13, fd13, ok_checked_settings F13 T0.toGc c_first_wrong c_ascending, PySem.W.mg_of X G n13, F13.kp, b13⟩
  have c_forced_literals : Cal l.prog w K mg base 1 "forced_literals" ["settings", "setting"] (sp_forced_literals K) := ⟨f14, fd14, ok_forced_literals F14 T0.toGc, PySem.W.mg_of X G n14, F14.kp, b14⟩
  have c_lies_in : Cal l.prog w K mg base 1 "lies_in" ["part", "clause"] (sp_lies_in K) := ⟨f15, fd15, ok_lies_in F15 T0.toGc, PySem.W.mg_of X G n15, F15.kp, b15⟩
  have c_is_consequence : Cal l.prog w K mg base 1 "is_consequence" ["clause", "settings"] (sp_is_consequence K) := ⟨f16, fd16, ok_is_consequence F16 T0.toGc, PySem.W.mg_of X G n16, F16.kp, b16⟩
  have c_filled0 : Cal l.prog w K mg base 3 "filled" ["clauses", "names", "setting"] (sp_filled K 0) := ⟨f17, fd17, ok_filled0, PySem.W.mg_of X G n17, F17.kp, b17⟩
  have c_filled1 : Cal l.prog w K mg base 4 "filled" ["clauses", "names", "setting"] (sp_filled K 1) := ⟨f17, fd17, ok_filled F17 T0.toGc c_chase c_ascending c_filled0, PySem.W.mg_of X G n17, F17.kp, b17⟩
  have c_filled2 : Cal l.prog w K mg base 5 "filled" ["clauses", "names", "setting"] (sp_filled K 2) := ⟨f17, fd17, ok_filled F17 T0.toGc c_chase c_ascending c_filled1, PySem.W.mg_of X G n17, F17.kp, b17⟩
  have c_filled3 : Cal l.prog w K mg base 6 "filled" ["clauses", "names", "setting"] (sp_filled K 3) := ⟨f17, fd17, ok_filled F17 T0.toGc c_chase c_ascending c_filled2, PySem.W.mg_of X G n17, F17.kp, b17⟩
  have c_filled4 : Cal l.prog w K mg base 7 "filled" ["clauses", "names", "setting"] (sp_filled K 4) := ⟨f17, fd17, ok_filled F17 T0.toGc c_chase c_ascending c_filled3, PySem.W.mg_of X G n17, F17.kp, b17⟩
  have c_filled5 : Cal l.prog w K mg base 8 "filled" ["clauses", "names", "setting"] (sp_filled K 5) := ⟨f17, fd17, ok_filled F17 T0.toGc c_chase c_ascending c_filled4, PySem.W.mg_of X G n17, F17.kp, b17⟩
  have c_filled6 : Cal l.prog w K mg base 9 "filled" ["clauses", "names", "setting"] (sp_filled K 6) := ⟨f17, fd17, ok_filled F17 T0.toGc c_chase c_ascending c_filled5, PySem.W.mg_of X G n17, F17.kp, b17⟩
  have c_filled7 : Cal l.prog w K mg base 10 "filled" ["clauses", "names", "setting"] (sp_filled K 7) := ⟨f17, fd17, ok_filled F17 T0.toGc c_chase c_ascending c_filled6, PySem.W.mg_of X G n17, F17.kp, b17⟩
  have c_filled8 : Cal l.prog w K mg base 11 "filled" ["clauses", "names", "setting"] (sp_filled K 8) := ⟨f17, fd17, ok_filled F17 T0.toGc c_chase c_ascending c_filled7, PySem.W.mg_of X G n17, F17.kp, b17⟩
  have c_filled9 : Cal l.prog w K mg base 12 "filled" ["clauses", "names", "setting"] (sp_filled K 9) := ⟨f17, fd17, ok_filled F17 T0.toGc c_chase c_ascending c_filled8, PySem.W.mg_of X G n17, F17.kp, b17⟩
  have c_filled10 : Cal l.prog w K mg base 13 "filled" ["clauses", "names", "setting"] (sp_filled K 10) := ⟨f17, fd17, ok_filled F17 T0.toGc c_chase c_ascending c_filled9, PySem.W.mg_of X G n17, F17.kp, b17⟩
  have c_filled11 : Cal l.prog w K mg base 14 "filled" ["clauses", "names", "setting"] (sp_filled K 11) := ⟨f17, fd17, ok_filled F17 T0.toGc c_chase c_ascending c_filled10, PySem.W.mg_of X G n17, F17.kp, b17⟩
  have c_filled12 : Cal l.prog w K mg base 15 "filled" ["clauses", "names", "setting"] (sp_filled K 12) := ⟨f17, fd17, ok_filled F17 T0.toGc c_chase c_ascending c_filled11, PySem.W.mg_of X G n17, F17.kp, b17⟩
  have c_filled13 : Cal l.prog w K mg base 16 "filled" ["clauses", "names", "setting"] (sp_filled K 13) := ⟨f17, fd17, ok_filled F17 T0.toGc c_chase c_ascending c_filled12, PySem.W.mg_of X G n17, F17.kp, b17⟩
  have c_filled14 : Cal l.prog w K mg base 17 "filled" ["clauses", "names", "setting"] (sp_filled K 14) := ⟨f17, fd17, ok_filled F17 T0.toGc c_chase c_ascending c_filled13, PySem.W.mg_of X G n17, F17.kp, b17⟩
  have c_filled15 : Cal l.prog w K mg base 18 "filled" ["clauses", "names", "setting"] (sp_filled K 15) := ⟨f17, fd17, ok_filled F17 T0.toGc c_chase c_ascending c_filled14, PySem.W.mg_of X G n17, F17.kp, b17⟩
  have k_Code : Mak l.prog w K mg base 5 "Code" C ["self", "signs", "clauses", "helpers"] (sp_Code_init K C) := ⟨g0, gd0, ⟨clCode.mks, me0.at_, me0.fn, clCode.kc⟩, ok_Code_init E0 T0.toGb TC c_checked_names c_checked_clauses, PySem.W.mg_of X G clCode.ns, u0⟩
  have k_Rule : Mak l.prog w K mg base 5 "Rule" CR ["self", "signs", "settings"] (sp_Rule_init K CR) := ⟨g5, gd5, ⟨clRule.mks, me5.at_, me5.fn, clRule.kc⟩, ok_Rule_init E5 T0.toGe TR c_checked_names c_checked_settings, PySem.W.mg_of X G clRule.ns, u5⟩
  have m_settings : Met l.prog w K mg base 2 CR "settings" ["self"] (sp_Rule_settings K CR) := ⟨g6, gd6, clRule.cl, me6, ok_Rule_settings E6 T0.toGe TR c_full_settings, u6⟩
  have m_shortest : Met l.prog w K mg base 3 CR "shortest" ["self"] (sp_Rule_shortest K CR) := ⟨g7, gd7, clRule.cl, me7, ok_Rule_shortest E7 T0.toGe TR c_half_settings c_lies_in c_is_consequence m_settings, u7⟩
  have m_fill : Met l.prog w K mg base 19 C "fill" ["self", "setting"] (sp_Code_fill K C) := ⟨g1, gd1, clCode.cl, me1, ok_Code_fill E1 TC c_filled15, u1⟩
  have m_rule : Met l.prog w K mg base 20 C "rule" ["self"] (sp_Code_rule K C CR) := ⟨g2, gd2, clCode.cl, me2, ok_Code_rule E2 T0 TC c_full_settings m_fill k_Rule, u2⟩
  have m_total : Met l.prog w K mg base 20 C "total" ["self"] (sp_Code_total K C CR) := ⟨g3, gd3, clCode.cl, me3, ok_Code_total E3 T0 TC c_full_settings m_fill k_Rule, u3⟩
  have m_more : Met l.prog w K mg base 7 C "more" ["self", "clauses"] (sp_Code_moreQ K C) := ⟨g4, gd4, clCode.cl, me4, ok_Code_moreQ E4 T0.toGc TC c_checked_clauses k_Code, u4⟩
  have c_level_names : Cal l.prog w K mg base 1 "level_names" ["code", "level"] (sp_level_names K C) := ⟨f18, fd18, ok_level_names F18 T0 TC, PySem.W.mg_of X G n18, F18.kp, b18⟩
  have c_level_rule : Cal l.prog w K mg base 21 "level_rule" ["code", "level"] (sp_level_rule K C CR) := ⟨f19, fd19, ok_level_rule F19 c_level_names m_total m_rule, PySem.W.mg_of X G n19, F19.kp, b19⟩
  have c_blind_at : Cal l.prog w K mg base 4 "blind_at" ["code", "settings", "setting", "level"] (sp_blind_at K C) := ⟨f20, fd20, ok_blind_at F20 T0 TC c_chase c_forced_literals, PySem.W.mg_of X G n20, F20.kp, b20⟩
  have c_blind : Cal l.prog w K mg base 22 "blind" ["code", "level"] (sp_blind K C CR) := ⟨f21, fd21, ok_blind F21 c_level_names c_level_rule m_settings c_half_settings c_blind_at, PySem.W.mg_of X G n21, F21.kp, b21⟩
  have c_sees : Cal l.prog w K mg base 23 "sees" ["code", "level"] (sp_sees K C) := ⟨f22, fd22, ok_sees F22 c_blind, PySem.W.mg_of X G n22, F22.kp, b22⟩
  have c_opposites : Cal l.prog w K mg base 2 "opposites" ["literals"] (sp_opposites K) := ⟨f23, fd23, ok_opposites F23 T0.toGc c_opposite, PySem.W.mg_of X G n23, F23.kp, b23⟩
  have c_denied_but : Cal l.prog w K mg base 3 "denied_but" ["clause", "literal"] (sp_denied_but K) := ⟨f24, fd24, ok_denied_but F24 c_opposites, PySem.W.mg_of X G n24, F24.kp, b24⟩
  have c_draws : Cal l.prog w K mg base 4 "draws" ["clauses", "setting", "literal"] (sp_draws K) := ⟨f25, fd25, ok_draws F25 c_chase, PySem.W.mg_of X G n25, F25.kp, b25⟩
  have c_is_dead : Cal l.prog w K mg base 4 "is_dead" ["clauses", "setting"] (sp_is_dead K) := ⟨f26, fd26, ok_is_dead F26 c_chase, PySem.W.mg_of X G n26, F26.kp, b26⟩
  have c_finds : Cal l.prog w K mg base 5 "finds" ["clauses", "clause"] (sp_finds K) := ⟨f27, fd27, ok_finds F27 T0.toGc c_is_dead c_draws c_denied_but, PySem.W.mg_of X G n27, F27.kp, b27⟩
  have c_without : Cal l.prog w K mg base 2 "without" ["clauses", "clause"] (sp_without K) := ⟨f28, fd28, ok_without F28 T0.toGc, PySem.W.mg_of X G n28, F28.kp, b28⟩
  have c_is_seen : Cal l.prog w K mg base 6 "is_seen" ["clauses", "clause", "level"] (sp_is_seen K) := ⟨f29, fd29, ok_is_seen F29 c_is_dead c_opposites c_finds, PySem.W.mg_of X G n29, F29.kp, b29⟩
  have n_picks_of : Gnr l.prog w K mg base 208 "picks_of" ["things", "many"] (spFew 100) := gpr_few F30 b30 T0.toGc (PySem.W.mg_of X G n30) (n := 100) (by decide)
  have c_fewest_of : Cal l.prog w K mg base 210 "fewest_of" ["clauses", "shortest", "level"] (sp_fewest_of K) := ⟨f31, fd31, ok_fewest_of F31 T0.toGc c_is_seen c_without c_finds n_picks_of, PySem.W.mg_of X G n31, F31.kp, b31⟩
  have c_fewest : Cal l.prog w K mg base 211 "fewest" ["code", "level"] (sp_fewest K C) := ⟨f32, fd32, ok_fewest F32 T0 TC c_level_rule m_shortest c_fewest_of, PySem.W.mg_of X G n32, F32.kp, b32⟩
  have c__law_draw : Cal l.prog w K mg base 1 "_law_draw" ["_law_stream", "_law_many"] (sp__law_draw K) := ⟨f33, fd33, ok__law_draw F33 T0.toGc, PySem.W.mg_of X G n33, F33.kp, b33⟩
  have c__law_pick : Cal l.prog w K mg base 2 "_law_pick" ["_law_stream", "_law_things"] (sp__law_pick K) := ⟨f34, fd34, ok__law_pick F34 T0.toGc c__law_draw, PySem.W.mg_of X G n34, F34.kp, b34⟩
  have cT__law_pick : Cal l.prog w K mg base 2 "_law_pick" ["_law_stream", "_law_things"] (sp_pickG K TT) := ⟨f34, fd34, ok_pickG F34 T0.toGc c__law_draw, PySem.W.mg_of X G n34, F34.kp, b34⟩
  have c__law_mixed : Cal l.prog w K mg base 2 "_law_mixed" ["_law_stream", "_law_things"] (sp__law_mixed K) := ⟨f35, fd35, ok__law_mixed F35 T0.toGc c__law_draw, PySem.W.mg_of X G n35, F35.kp, b35⟩
  have c__law_fresh : Cal l.prog w K mg base 3 "_law_fresh" ["_law_stream", "_law_taken"] (sp__law_fresh K) := ⟨f36, fd36, ok__law_fresh F36 T0.toGc c__law_draw c__law_pick, PySem.W.mg_of X G n36, F36.kp, b36⟩
  have c__law_names : Cal l.prog w K mg base 4 "_law_names" ["_law_stream", "_law_many"] (sp__law_names K) := ⟨f37, fd37, ok__law_names F37 T0.toGc c__law_fresh, PySem.W.mg_of X G n37, F37.kp, b37⟩
  have c__law_neg : Cal l.prog w K mg base 1 "_law_neg" ["_law_one"] (sp__law_neg K) := ⟨f38, fd38, ok__law_neg F38, PySem.W.mg_of X G n38, F38.kp, b38⟩
  have c__law_bare : Cal l.prog w K mg base 1 "_law_bare" ["_law_one"] (sp__law_bare K) := ⟨f39, fd39, ok__law_bare F39, PySem.W.mg_of X G n39, F39.kp, b39⟩
  have c__law_up : Cal l.prog w K mg base 1 "_law_up" ["_law_some", "_law_names_here"] (sp__law_up K) := ⟨f40, fd40, ok__law_up F40 T0.toBi, PySem.W.mg_of X G n40, F40.kp, b40⟩
  have c__law_fulls : Cal l.prog w K mg base 1 "_law_fulls" ["_law_names_here"] (sp__law_fulls K) := ⟨f41, fd41, ok__law_fulls F41 T0.toGc, PySem.W.mg_of X G n41, F41.kp, b41⟩
  have c__law_halves : Cal l.prog w K mg base 2 "_law_halves" ["_law_names_here"] (sp__law_halves K) := ⟨f42, fd42, ok__law_halves F42 T0.toGc c__law_bare, PySem.W.mg_of X G n42, F42.kp, b42⟩
  have c__law_meets : Cal l.prog w K mg base 1 "_law_meets" ["_law_clause_here", "_law_some"] (sp__law_meets K) := ⟨f43, fd43, ok__law_meets F43 T0.toGc, PySem.W.mg_of X G n43, F43.kp, b43⟩
  have c__law_within : Cal l.prog w K mg base 1 "_law_within" ["_law_part", "_law_clause_here"] (sp__law_within K) := ⟨f44, fd44, ok__law_within F44 T0.toGc, PySem.W.mg_of X G n44, F44.kp, b44⟩
  have c__law_shortest : Cal l.prog w K mg base 3 "_law_shortest" ["_law_names_here", "_law_settings"] (sp__law_shortest K) := ⟨f45, fd45, ok__law_shortest F45 T0.toGc c__law_halves c__law_within c__law_meets, PySem.W.mg_of X G n45, F45.kp, b45⟩
  have c__law_chase : Cal l.prog w K mg base 2 "_law_chase" ["_law_clauses", "_law_half_here"] (sp__law_chase K) := ⟨f46, fd46, ok__law_chase F46 T0.toGd c__law_neg, PySem.W.mg_of X G n46, F46.kp, b46⟩
  have c__law_half : Cal l.prog w K mg base 3 "_law_half" ["_law_stream", "_law_names_here"] (sp__law_half K) := ⟨f47, fd47, ok__law_half F47 T0.toGc c__law_draw c__law_mixed, PySem.W.mg_of X G n47, F47.kp, b47⟩
  have c__law_sided : Cal l.prog w K mg base 3 "_law_sided" ["_law_stream", "_law_names_here"] (sp__law_sided K) := ⟨f48, fd48, ok__law_sided F48 T0.toGc c__law_draw c__law_mixed, PySem.W.mg_of X G n48, F48.kp, b48⟩
  have c__law_clause : Cal l.prog w K mg base 4 "_law_clause" ["_law_stream", "_law_names_here", "_law_most"] (sp__law_clause K) := ⟨f49, fd49, ok__law_clause F49 T0.toGc c__law_draw c__law_sided, PySem.W.mg_of X G n49, F49.kp, b49⟩
  have c__law_once : Cal l.prog w K mg base 2 "_law_once" ["_law_clauses", "_law_names_here"] (sp__law_once K) := ⟨f50, fd50, ok__law_once F50 T0.toGc c__law_up, PySem.W.mg_of X G n50, F50.kp, b50⟩
  have c__law_code : Cal l.prog w K mg base 5 "_law_code" ["_law_stream", "_law_signs", "_law_helpers", "_law_many"] (sp__law_code K) := ⟨f51, fd51, ok__law_code F51 T0.toGc c__law_draw c__law_names c__law_clause c__law_once, PySem.W.mg_of X G n51, F51.kp, b51⟩
  have c__law_made : Cal l.prog w K mg base 7 "_law_made" ["_law_c"] (sp__law_made2 K C) := ⟨f52, fd52, ok__law_made2 F52 k_Code, PySem.W.mg_of X G n52, F52.kp, b52⟩
  have c__law_drawn_rule : Cal l.prog w K mg base 5 "_law_drawn_rule" ["_law_stream", "_law_most"] (sp__law_drawn_rule K) := ⟨f53, fd53, ok__law_drawn_rule F53 T0.toGc c__law_draw c__law_names c__law_fulls, PySem.W.mg_of X G n53, F53.kp, b53⟩
  have c__law_parted : Cal l.prog w K mg base 4 "_law_parted" ["_law_stream", "_law_c"] (sp__law_parted K) := ⟨f54, fd54, ok__law_parted F54 T0.toGc c__law_draw c__law_fresh c__law_mixed c__law_pick c__law_neg c__law_once, PySem.W.mg_of X G n54, F54.kp, b54⟩
  have c__law_some_code : Cal l.prog w K mg base 6 "_law_some_code" ["_law_stream", "_law_most", "_law_helpers"] (sp__law_some_code K) := ⟨f55, fd55, ok__law_some_code F55 T0.toGc c__law_draw c__law_code c__law_drawn_rule c__law_shortest c__law_fulls c__law_neg c__law_parted, PySem.W.mg_of X G n55, F55.kp, b55⟩
  have c__law_fits : Cal l.prog w K mg base 2 "_law_fits" ["_law_clauses", "_law_some"] (sp__law_fits K) := ⟨f56, fd56, ok__law_fits F56 T0.toGc c__law_meets, PySem.W.mg_of X G n56, F56.kp, b56⟩
  have c__law_allowed : Cal l.prog w K mg base 3 "_law_allowed" ["_law_signs", "_law_clauses", "_law_helpers"] (sp__law_allowed K) := ⟨f57, fd57, ok__law_allowed F57 T0.toGc c__law_fulls c__law_fits, PySem.W.mg_of X G n57, F57.kp, b57⟩
  have c__law_rule_of : Cal l.prog w K mg base 4 "_law_rule_of" ["_law_c", "_law_level"] (sp__law_rule_of K) := ⟨f58, fd58, ok__law_rule_of F58 T0.toGc c__law_fulls c__law_fits c__law_allowed, PySem.W.mg_of X G n58, F58.kp, b58⟩
  have c__law_led_to : Cal l.prog w K mg base 3 "_law_led_to" ["_law_clauses", "_law_clause_here", "_law_literal"] (sp__law_led_to K) := ⟨f59, fd59, ok__law_led_to F59 c__law_chase c__law_neg, PySem.W.mg_of X G n59, F59.kp, b59⟩
  have c__law_finds : Cal l.prog w K mg base 4 "_law_finds" ["_law_clauses", "_law_clause_here"] (sp__law_finds K) := ⟨f60, fd60, ok__law_finds F60 T0.toGc c__law_chase c__law_led_to, PySem.W.mg_of X G n60, F60.kp, b60⟩
  have c__law_seen : Cal l.prog w K mg base 5 "_law_seen" ["_law_clauses", "_law_shortest_here", "_law_level"] (sp__law_seen K) := ⟨f61, fd61, ok__law_seen F61 T0.toGc c__law_chase c__law_neg c__law_finds, PySem.W.mg_of X G n61, F61.kp, b61⟩
  have c__law_same : CalG l.prog w K mg base 1 "_law_same" ["_law_found", "_law_due"] (sp__law_same K) := ⟨f62, fd62, ok__law_same F62 T0.toGc, PySem.W.mg_of X G n62, F62.kp, b62⟩
  have c__law_drawn_consequence : Cal l.prog w K mg base 4 "_law_drawn_consequence" ["_law_stream", "_law_names_here", "_law_shortest_here"] (sp__law_drawn_consequence K) := ⟨f63, fd63, ok__law_drawn_consequence F63 T0.toGc cT__law_pick c__law_half c__law_neg c__law_draw c__law_up, PySem.W.mg_of X G n63, F63.kp, b63⟩
  exact ok_law F64 T0.toGc c__law_some_code c__law_pick c__law_rule_of c__law_shortest c__law_made c_fewest m_more c_sees m_rule m_settings c__law_draw c__law_drawn_consequence c__law_same c__law_seen c__law_within
end My

set_option Elab.async false
set_option linter.all false
set_option maxRecDepth 100000
set_option maxHeartbeats 0
namespace Hq
open PySem PySem.Spec PyProof.Rows L2 L3
section
variable {K : PySem.W.Frag}
theorem ns_of {x : Str} (c : (He.Fa.glo x).ok K = true) : PySem.W.nsIn K mainGlobals x = some (some (.ref (He.ga K x))) := He.eqO_ok c
theorem ns_none {x : Str} (c : (He.Fa.free x).ok K = true) : PySem.W.nsIn K mainGlobals x = some none := He.eqO_ok c
theorem ns_str {x z : Str} (c : (He.Fa.str x z).ok K = true) : ∃ t, PySem.W.nsIn K mainGlobals x = some (some (.str z t)) := by
  have c2 : (match PySem.W.nsIn K mainGlobals x with
    | some (some (.str y _)) => decide (y = z)
    | _ => false) = true := c
  cases e : PySem.W.nsIn K mainGlobals x with
  | none => rw [e] at c2; cases c2
  | some o =>
    rw [e] at c2
    cases o with
    | none => cases c2
    | some v =>
      cases v with
      | str y t =>
        have ej : y = z := of_decide_eq_true c2
        rw [ej]
        exact ⟨t, rfl⟩
      | _ => cases c2
theorem ns_int {x : Str} {i : Int} (c : (He.Fa.int x i).ok K = true) : ∃ t, PySem.W.nsIn K mainGlobals x = some (some (.int i t)) := by
  have c2 : (match PySem.W.nsIn K mainGlobals x with
    | some (some (.int j _)) => decide (j = i)
    | _ => false) = true := c
  cases e : PySem.W.nsIn K mainGlobals x with
  | none => rw [e] at c2; cases c2
  | some o =>
    rw [e] at c2
    cases o with
    | none => cases c2
    | some v =>
      cases v with
      | int j t =>
        have ej : j = i := of_decide_eq_true c2
        rw [ej]
        exact ⟨t, rfl⟩
      | _ => cases c2
theorem fun_of {x qn : Str} {st : Stmt} {f : Addr} (h : ∃ fd, FunD K x qn (defArgs st) (defBody st) (defScope st) [] [] f fd) : ∃ fd, Fun K x qn st f fd := by
  obtain ⟨fd, ⟨oc, od, dV, kV, doc, pm, an, cdv, ct, osl, e, l, c, d, _⟩, kp⟩ := h
  rcases d with ⟨_, rfl⟩ | ⟨h, _⟩
  · exact ⟨fd, ⟨oc, od, kV, doc, pm, an, cdv, ct, osl, e, l, c⟩, kp⟩
  · exact absurd rfl h
theorem at1_of {x : Str} {st : Stmt} (g : (He.Fa.glo x).ok K = true) (h : ∃ fd, FunD K x x (defArgs st) (defBody st) (defScope st) [] [] (He.ga K x) fd) : My.At1 K x st (He.ga K x) := ⟨ns_of g, fun_of h⟩
theorem atd_of {x z : Str} {st : Stmt} (g : (He.Fa.glo x).ok K = true) (h : ∃ fd, FunD K x x (defArgs st) (defBody st) (defScope st) [.str z] [] (He.ga K x) fd) : My.AtD K x st z (He.ga K x) := ⟨ns_of g, h⟩
theorem atm_of {x m qn : Str} {st : Stmt} (g : (He.Fa.meth x m).ok K = true) (h : ∃ fd, FunD K m qn (defArgs st) (defBody st) (defScope st) [] [] (He.ma K (He.ga K x) m) fd) : My.AtM K (He.ga K x) m qn st (He.ma K (He.ga K x) m) := ⟨He.meth_ok g, fun_of h⟩
theorem ate_of {x m qn : Str} {st : Stmt} {e : Addr} (g : (He.Fa.meth x m).ok K = true) (h : ∃ fd, FunD K m qn (defArgs st) (defBody st) (defScope st) [.ref e] [] (He.ma K (He.ga K x) m) fd) : My.AtE K (He.ga K x) m qn st e (He.ma K (He.ga K x) m) := ⟨He.meth_ok g, h⟩
theorem atc_of {x : Str} (g : (He.Fa.glo x).ok K = true) (c : (He.Fa.cls x).ok K = true) (m : (He.Fa.mkr x).ok K = true) : My.AtC K x (He.ga K x) := by
  obtain ⟨c1, m2⟩ := He.ba m
  obtain ⟨c2, m3⟩ := He.ba m2
  obtain ⟨c3, c4⟩ := He.ba m3
  exact ⟨ns_of g, He.cls_ok c, c1, c4⟩
/-- the default of Code -/
def e0 (K : PySem.W.Frag) : Addr := He.dflAt ("Code", some "__init__") 0 K
/-- a law's end over facts -/
theorem walk_GE {l : PySem.W.OpenLaw} {n k : Nat} {q : Program} {loose : List Str} {XP : (Str → Option Value) → Heap → Prop} {YP : World → Heap → Prop} {d : DefRec} {sp : PySem.W.Frag → Sp} {x : Str} (hn : l.most = some n) (hn2 : n ≤ sizeLine) (hdf : d.params.defaults = [])
    (hr : Room k callerA) (F : ∀ (w : World) (mg : Str → Option Value) (fa : Addr) (h : Heap), YP w h → h.Ns mainGlobals mg → mg d.name = some (.ref fa) → ∃ (K : PySem.W.Frag) (fd : FuncData), K.In h ∧
      (∀ (s : Shared) (u : Value), BindsTo s fd ⟨[u], []⟩ [(x, u)]) ∧ ∀ base : Heap, K.In base → base.Ns mainGlobals mg → FnG l.prog w K mg base CX0 k fa fd [x] (sp K))
    (hsp : ∀ (K : PySem.W.Frag) (H : Hp) (a : Addr) (ns : List Int), ns.length ≤ n → (∀ z ∈ ns, Builtin.Int.intBits z ≤ 1048576) → SqL K H a (ns.map V.int) → sp K [.ref a] H (fun v _ => v = .bl true) fun _ _ _ => False) : PySem.W.WalkO q loose XP YP l.row.toRowW d [] (fun f vs => PySem.call f vs) := by
  apply Att.attach_callB hn hdf
  intro w s0 s mg mb fa o pm cd doc a vs ns G Y ho hd hcd hmg hobj hints hlen hbits hgens
  have ⟨K, fd, KX, bind, hF⟩ := F w mg fa _ Y G.T.g hmg
  have rv := vals_ints hints
  have hz : (ns.map V.int).length ≤ sizeLine := by rw [List.length_map]; exact Nat.le_trans hlen hn2
  have KB := scrH_in (K := K) (a := a) (vs := vs) (xs := ns.map V.int) KX
  have NS := fun b m (z : s.heap.Ns b m) => scrH_ns (K := K) (xs := ns.map V.int) hobj z
  have hok := scrH_ok (P := l.prog) (w := w) (K := K) hobj rv hz
  have ⟨mc, l1, l2⟩ := G.T.nolimit
  have env : Env0 l.prog w K mg (hidT s.heap (scrH K a vs (ns.map V.int))) callerA [] s (scrH K a vs (ns.map V.int)) :=
    ⟨rfl, ⟨KB, NS _ _ G.T.g, ⟨mb, NS _ _ G.T.b, G.T.builtins⟩, ⟨mc, NS _ _ l1, l2⟩⟩, fun b o e => of_hidT e, Nat.le_of_eq (hidT_size _ _), trivial, nofun, hok, .of_eq hgens⟩
  refine codeAny_mono ((hF _ KB (NS _ _ G.T.g)).run callerA [] s _ ⟨[.ref a], []⟩ [.ref a] [.ref a] _ _ rfl hr env (bind _ _) (.cons rfl .nil) (hsp _ _ a ns hlen hbits (scrH_sq KX hobj rv hz))) ?_
  intro r s1 h
  match r, h with
  | .ok (.ret u), h =>
    have ⟨v, H1, os, bare, un, hok1, ru, ev⟩ := h
    have e1 : v = .bl true := ev
    subst e1
    cases (show u = Value.bool true from ru)
    refine ⟨rfl, .of_keep fun b ob e => ?_, os, bare⟩
    cases z : scrH K a vs (ns.map V.int) b with
    | none => exact un.keep b ob e z nofun nofun
    | some y =>
      have hy := scrH_some z
      rw [hy.2.2] at z
      have now := (hok1 b _ (un.frzs b _ _ z)).1
      rw [hy.1, hobj] at e
      cases e
      exact now
end
/-! ### facts -/
def ns0 : List PySem.Str := ["_wall", "__name__", "OpenError", "BadNames", "TooMany", "BadSetting", "NoSign", "BadClause", "Clash", "BadLevel", "LETTERS", "is_list", "is_name", "checked_names", "name_of", "opposite", "opposites", "is_literal", "first_wrong", "ascending"]
def ns1 : List PySem.Str := ["full_settings", "half_settings", "MOST_SIGNS", "Rule", "checked_settings", "forced_literals", "lies_in", "is_consequence", "open_ones", "chase", "draws", "filled", "checked_clauses", "Code", "are_same", "denied_but", "finds", "is_dead", "LEVELS", "level_names"]
def ns2 : List PySem.Str := ["level_rule", "blind_at", "blind", "sees", "fewest", "fewest_of", "without", "is_seen", "picks_of", "_law_draw", "_law_pick", "_law_mixed", "_law_same", "_law_fresh", "_law_names", "_law_neg", "_law_bare", "_law_up", "_law_fulls", "_law_halves"]
def ns3 : List PySem.Str := ["_law_meets", "_law_fits", "_law_allowed", "_law_within", "_law_shortest", "_law_chase", "_law_half", "_law_sided", "_law_clause", "_law_code", "_law_once", "_law_made", "_law_drawn_rule", "_law_parted", "_law_some_code", "_law_rule_of", "_law_led_to", "_law_finds", "_law_seen", "_law_drawn_consequence"]
def ns : List PySem.Str := ns0 ++ ns1 ++ ns2 ++ ns3
def fa0 : List He.Fa := [.glo "Code", .cls "Code", .mkr "Code", .glo "Rule", .cls "Rule", .mkr "Rule", .glo "name_of", .glo "opposite", .glo "is_list", .glo "is_literal", .glo "first_wrong", .glo "ascending", .glo "is_name", .glo "checked_names", .glo "checked_clauses", .glo "open_ones", .glo "chase", .glo "full_settings", .glo "half_settings", .glo "checked_settings"]
def fa1 : List He.Fa := [.glo "forced_literals", .glo "lies_in", .glo "is_consequence", .glo "filled", .glo "level_names", .glo "level_rule", .glo "blind_at", .glo "blind", .glo "sees", .glo "opposites", .glo "denied_but", .glo "draws", .glo "is_dead", .glo "finds", .glo "without", .glo "is_seen", .glo "picks_of", .glo "fewest_of", .glo "fewest", .glo "_law_draw"]
def fa2 : List He.Fa := [.glo "_law_pick", .glo "_law_mixed", .glo "_law_fresh", .glo "_law_names", .glo "_law_neg", .glo "_law_bare", .glo "_law_up", .glo "_law_fulls", .glo "_law_halves", .glo "_law_meets", .glo "_law_within", .glo "_law_shortest", .glo "_law_chase", .glo "_law_half", .glo "_law_sided", .glo "_law_clause", .glo "_law_once", .glo "_law_code", .glo "_law_made", .glo "_law_drawn_rule"]
def fa3 : List He.Fa := [.glo "_law_parted", .glo "_law_some_code", .glo "_law_fits", .glo "_law_allowed", .glo "_law_rule_of", .glo "_law_led_to", .glo "_law_finds", .glo "_law_seen", .glo "_law_same", .glo "_law_drawn_consequence", .glo "law", .meth "Code" "__init__", .meth "Code" "fill", .meth "Code" "rule", .meth "Code" "total", .meth "Code" "more", .meth "Rule" "__init__", .meth "Rule" "settings", .meth "Rule" "shortest", .noat "Code" "sign_row"]
def fa4 : List He.Fa := [.noat "Code" "helper_row", .noat "Code" "names", .noat "Code" "clause_row", .noat "Rule" "names", .noat "Rule" "allowed", .glo "LEVELS", .free "len", .free "tuple", .free "list", .free "str", .free "int", .free "all", .free "any", .free "isinstance", .free "enumerate", .free "range", .free "repr", .free "bool", .free "dict", .str "LETTERS" My.g_LETTERS]
def fa5 : List He.Fa := [.int "MOST_SIGNS" 6]
def fa : List He.Fa := fa0 ++ fa1 ++ fa2 ++ fa3 ++ fa4 ++ fa5
def fn0 : List He.DefD := [⟨("name_of", none), "name_of", "name_of", L2.defArgs My.s_name_of, L2.defBody My.s_name_of, L2.defScope My.s_name_of, [], []⟩, ⟨("opposite", none), "opposite", "opposite", L2.defArgs My.s_opposite, L2.defBody My.s_opposite, L2.defScope My.s_opposite, [], []⟩, ⟨("is_list", none), "is_list", "is_list", L2.defArgs My.s_is_list, L2.defBody My.s_is_list, L2.defScope My.s_is_list, [], []⟩, ⟨("is_literal", none), "is_literal", "is_literal", L2.defArgs My.s_is_literal, L2.defBody My.s_is_literal, L2.defScope My.s_is_literal, [], []⟩, ⟨("first_wrong", none), "first_wrong", "first_wrong", L2.defArgs My.s_first_wrong, L2.defBody My.s_first_wrong, L2.defScope My.s_first_wrong, [], []⟩, ⟨("ascending", none), "ascending", "ascending", L2.defArgs My.s_ascending, L2.defBody My.s_ascending, L2.defScope My.s_ascending, [], []⟩, ⟨("is_name", none), "is_name", "is_name", L2.defArgs My.s_is_name, L2.defBody My.s_is_name, L2.defScope My.s_is_name, [], []⟩, ⟨("checked_names", none), "checked_names", "checked_names", L2.defArgs My.s_checked_names, L2.defBody My.s_checked_names, L2.defScope My.s_checked_names, [], []⟩, ⟨("checked_clauses", none), "checked_clauses", "checked_clauses", L2.defArgs My.s_checked_clauses, L2.defBody My.s_checked_clauses, L2.defScope My.s_checked_clauses, [], []⟩, ⟨("open_ones", none), "open_ones", "open_ones", L2.defArgs My.s_open_ones, L2.defBody My.s_open_ones, L2.defScope My.s_open_ones, [], []⟩]
def fn1 : List He.DefD := [⟨("chase", none), "chase", "chase", L2.defArgs My.s_chase, L2.defBody My.s_chase, L2.defScope My.s_chase, [], []⟩, ⟨("full_settings", none), "full_settings", "full_settings", L2.defArgs My.s_full_settings, L2.defBody My.s_full_settings, L2.defScope My.s_full_settings, [], []⟩, ⟨("half_settings", none), "half_settings", "half_settings", L2.defArgs My.s_half_settings, L2.defBody My.s_half_settings, L2.defScope My.s_half_settings, [], []⟩, ⟨("checked_settings", none), "checked_settings", "checked_settings", L2.defArgs My.s_checked_settings, L2.defBody My.s_checked_settings, L2.defScope My.s_checked_settings, [], []⟩, ⟨("forced_literals", none), "forced_literals", "forced_literals", L2.defArgs My.s_forced_literals, L2.defBody My.s_forced_literals, L2.defScope My.s_forced_literals, [], []⟩, ⟨("lies_in", none), "lies_in", "lies_in", L2.defArgs My.s_lies_in, L2.defBody My.s_lies_in, L2.defScope My.s_lies_in, [], []⟩, ⟨("is_consequence", none), "is_consequence", "is_consequence", L2.defArgs My.s_is_consequence, L2.defBody My.s_is_consequence, L2.defScope My.s_is_consequence, [], []⟩, ⟨("filled", none), "filled", "filled", L2.defArgs My.s_filled, L2.defBody My.s_filled, L2.defScope My.s_filled, [], []⟩, ⟨("level_names", none), "level_names", "level_names", L2.defArgs My.s_level_names, L2.defBody My.s_level_names, L2.defScope My.s_level_names, [], []⟩, ⟨("level_rule", none), "level_rule", "level_rule", L2.defArgs My.s_level_rule, L2.defBody My.s_level_rule, L2.defScope My.s_level_rule, [], []⟩]
def fn2 : List He.DefD := [⟨("blind_at", none), "blind_at", "blind_at", L2.defArgs My.s_blind_at, L2.defBody My.s_blind_at, L2.defScope My.s_blind_at, [], []⟩, ⟨("blind", none), "blind", "blind", L2.defArgs My.s_blind, L2.defBody My.s_blind, L2.defScope My.s_blind, [.str "forced"], []⟩, ⟨("sees", none), "sees", "sees", L2.defArgs My.s_sees, L2.defBody My.s_sees, L2.defScope My.s_sees, [.str "forced"], []⟩, ⟨("opposites", none), "opposites", "opposites", L2.defArgs My.s_opposites, L2.defBody My.s_opposites, L2.defScope My.s_opposites, [], []⟩, ⟨("denied_but", none), "denied_but", "denied_but", L2.defArgs My.s_denied_but, L2.defBody My.s_denied_but, L2.defScope My.s_denied_but, [], []⟩, ⟨("draws", none), "draws", "draws", L2.defArgs My.s_draws, L2.defBody My.s_draws, L2.defScope My.s_draws, [], []⟩, ⟨("is_dead", none), "is_dead", "is_dead", L2.defArgs My.s_is_dead, L2.defBody My.s_is_dead, L2.defScope My.s_is_dead, [], []⟩, ⟨("finds", none), "finds", "finds", L2.defArgs My.s_finds, L2.defBody My.s_finds, L2.defScope My.s_finds, [], []⟩, ⟨("without", none), "without", "without", L2.defArgs My.s_without, L2.defBody My.s_without, L2.defScope My.s_without, [], []⟩, ⟨("is_seen", none), "is_seen", "is_seen", L2.defArgs My.s_is_seen, L2.defBody My.s_is_seen, L2.defScope My.s_is_seen, [], []⟩]
def fn3 : List He.DefD := [⟨("picks_of", none), "picks_of", "picks_of", L2.defArgs My.s_picks_of, L2.defBody My.s_picks_of, L2.defScope My.s_picks_of, [], []⟩, ⟨("fewest_of", none), "fewest_of", "fewest_of", L2.defArgs My.s_fewest_of, L2.defBody My.s_fewest_of, L2.defScope My.s_fewest_of, [], []⟩, ⟨("fewest", none), "fewest", "fewest", L2.defArgs My.s_fewest, L2.defBody My.s_fewest, L2.defScope My.s_fewest, [.str "forced"], []⟩, ⟨("_law_draw", none), "_law_draw", "_law_draw", L2.defArgs My.s__law_draw, L2.defBody My.s__law_draw, L2.defScope My.s__law_draw, [], []⟩, ⟨("_law_pick", none), "_law_pick", "_law_pick", L2.defArgs My.s__law_pick, L2.defBody My.s__law_pick, L2.defScope My.s__law_pick, [], []⟩, ⟨("_law_mixed", none), "_law_mixed", "_law_mixed", L2.defArgs My.s__law_mixed, L2.defBody My.s__law_mixed, L2.defScope My.s__law_mixed, [], []⟩, ⟨("_law_fresh", none), "_law_fresh", "_law_fresh", L2.defArgs My.s__law_fresh, L2.defBody My.s__law_fresh, L2.defScope My.s__law_fresh, [], []⟩, ⟨("_law_names", none), "_law_names", "_law_names", L2.defArgs My.s__law_names, L2.defBody My.s__law_names, L2.defScope My.s__law_names, [], []⟩, ⟨("_law_neg", none), "_law_neg", "_law_neg", L2.defArgs My.s__law_neg, L2.defBody My.s__law_neg, L2.defScope My.s__law_neg, [], []⟩, ⟨("_law_bare", none), "_law_bare", "_law_bare", L2.defArgs My.s__law_bare, L2.defBody My.s__law_bare, L2.defScope My.s__law_bare, [], []⟩]
def fn4 : List He.DefD := [⟨("_law_up", none), "_law_up", "_law_up", L2.defArgs My.s__law_up, L2.defBody My.s__law_up, L2.defScope My.s__law_up, [], []⟩, ⟨("_law_fulls", none), "_law_fulls", "_law_fulls", L2.defArgs My.s__law_fulls, L2.defBody My.s__law_fulls, L2.defScope My.s__law_fulls, [], []⟩, ⟨("_law_halves", none), "_law_halves", "_law_halves", L2.defArgs My.s__law_halves, L2.defBody My.s__law_halves, L2.defScope My.s__law_halves, [], []⟩, ⟨("_law_meets", none), "_law_meets", "_law_meets", L2.defArgs My.s__law_meets, L2.defBody My.s__law_meets, L2.defScope My.s__law_meets, [], []⟩, ⟨("_law_within", none), "_law_within", "_law_within", L2.defArgs My.s__law_within, L2.defBody My.s__law_within, L2.defScope My.s__law_within, [], []⟩, ⟨("_law_shortest", none), "_law_shortest", "_law_shortest", L2.defArgs My.s__law_shortest, L2.defBody My.s__law_shortest, L2.defScope My.s__law_shortest, [], []⟩, ⟨("_law_chase", none), "_law_chase", "_law_chase", L2.defArgs My.s__law_chase, L2.defBody My.s__law_chase, L2.defScope My.s__law_chase, [], []⟩, ⟨("_law_half", none), "_law_half", "_law_half", L2.defArgs My.s__law_half, L2.defBody My.s__law_half, L2.defScope My.s__law_half, [], []⟩, ⟨("_law_sided", none), "_law_sided", "_law_sided", L2.defArgs My.s__law_sided, L2.defBody My.s__law_sided, L2.defScope My.s__law_sided, [], []⟩, ⟨("_law_clause", none), "_law_clause", "_law_clause", L2.defArgs My.s__law_clause, L2.defBody My.s__law_clause, L2.defScope My.s__law_clause, [], []⟩]
def fn5 : List He.DefD := [⟨("_law_once", none), "_law_once", "_law_once", L2.defArgs My.s__law_once, L2.defBody My.s__law_once, L2.defScope My.s__law_once, [], []⟩, ⟨("_law_code", none), "_law_code", "_law_code", L2.defArgs My.s__law_code, L2.defBody My.s__law_code, L2.defScope My.s__law_code, [], []⟩, ⟨("_law_made", none), "_law_made", "_law_made", L2.defArgs My.s__law_made, L2.defBody My.s__law_made, L2.defScope My.s__law_made, [], []⟩, ⟨("_law_drawn_rule", none), "_law_drawn_rule", "_law_drawn_rule", L2.defArgs My.s__law_drawn_rule, L2.defBody My.s__law_drawn_rule, L2.defScope My.s__law_drawn_rule, [], []⟩, ⟨("_law_parted", none), "_law_parted", "_law_parted", L2.defArgs My.s__law_parted, L2.defBody My.s__law_parted, L2.defScope My.s__law_parted, [], []⟩, ⟨("_law_some_code", none), "_law_some_code", "_law_some_code", L2.defArgs My.s__law_some_code, L2.defBody My.s__law_some_code, L2.defScope My.s__law_some_code, [], []⟩, ⟨("_law_fits", none), "_law_fits", "_law_fits", L2.defArgs My.s__law_fits, L2.defBody My.s__law_fits, L2.defScope My.s__law_fits, [], []⟩, ⟨("_law_allowed", none), "_law_allowed", "_law_allowed", L2.defArgs My.s__law_allowed, L2.defBody My.s__law_allowed, L2.defScope My.s__law_allowed, [], []⟩, ⟨("_law_rule_of", none), "_law_rule_of", "_law_rule_of", L2.defArgs My.s__law_rule_of, L2.defBody My.s__law_rule_of, L2.defScope My.s__law_rule_of, [], []⟩, ⟨("_law_led_to", none), "_law_led_to", "_law_led_to", L2.defArgs My.s__law_led_to, L2.defBody My.s__law_led_to, L2.defScope My.s__law_led_to, [], []⟩]
def fn6 : List He.DefD := [⟨("_law_finds", none), "_law_finds", "_law_finds", L2.defArgs My.s__law_finds, L2.defBody My.s__law_finds, L2.defScope My.s__law_finds, [], []⟩, ⟨("_law_seen", none), "_law_seen", "_law_seen", L2.defArgs My.s__law_seen, L2.defBody My.s__law_seen, L2.defScope My.s__law_seen, [], []⟩, ⟨("_law_same", none), "_law_same", "_law_same", L2.defArgs My.s__law_same, L2.defBody My.s__law_same, L2.defScope My.s__law_same, [], []⟩, ⟨("_law_drawn_consequence", none), "_law_drawn_consequence", "_law_drawn_consequence", L2.defArgs My.s__law_drawn_consequence, L2.defBody My.s__law_drawn_consequence, L2.defScope My.s__law_drawn_consequence, [], []⟩, ⟨("law", none), "law", "law", L2.defArgs My.s_law, L2.defBody My.s_law, L2.defScope My.s_law, [], []⟩, ⟨("Code", some "__init__"), "__init__", "Code.__init__", L2.defArgs My.s_Code_init, L2.defBody My.s_Code_init, L2.defScope My.s_Code_init, [.adr Hq.e0], []⟩, ⟨("Code", some "fill"), "fill", "Code.fill", L2.defArgs My.s_Code_fill, L2.defBody My.s_Code_fill, L2.defScope My.s_Code_fill, [], []⟩, ⟨("Code", some "rule"), "rule", "Code.rule", L2.defArgs My.s_Code_rule, L2.defBody My.s_Code_rule, L2.defScope My.s_Code_rule, [], []⟩, ⟨("Code", some "total"), "total", "Code.total", L2.defArgs My.s_Code_total, L2.defBody My.s_Code_total, L2.defScope My.s_Code_total, [], []⟩, ⟨("Code", some "more"), "more", "Code.more", L2.defArgs My.s_Code_more, L2.defBody My.s_Code_more, L2.defScope My.s_Code_more, [], []⟩]
def fn7 : List He.DefD := [⟨("Rule", some "__init__"), "__init__", "Rule.__init__", L2.defArgs My.s_Rule_init, L2.defBody My.s_Rule_init, L2.defScope My.s_Rule_init, [], []⟩, ⟨("Rule", some "settings"), "settings", "Rule.settings", L2.defArgs My.s_Rule_settings, L2.defBody My.s_Rule_settings, L2.defScope My.s_Rule_settings, [], []⟩, ⟨("Rule", some "shortest"), "shortest", "Rule.shortest", L2.defArgs My.s_Rule_shortest, L2.defBody My.s_Rule_shortest, L2.defScope My.s_Rule_shortest, [], []⟩]
def fn : List He.DefD := fn0 ++ fn1 ++ fn2 ++ fn3 ++ fn4 ++ fn5 ++ fn6 ++ fn7
abbrev R : PySem.W.OpenRow := PySem.W.OpenLaw.row PySem.Challenge.rw_lastopen_k50_whole_no_fewer_clauses
def fx (K : PySem.W.Frag) : Bool := (He.tupB K "LEVELS" [.str "dead", .str "forced", .str "all"]) && (true)
/-- what an object names, once each -/
def refs (o : Obj) : List Addr := match o.data with
  | .seq its _ => its.toList.flatMap He.refV
  | .dict es _ => es.toList.flatMap fun e => He.refV e.val
  | .func fd => He.refV fd.code ++ He.refV fd.defaults
  | .cls cd => [cd.ns]
  | _ => []
def lay (g : Addr → Option Obj) : Nat → List Addr → List Addr
  | 0, l => l
  | n + 1, l => l ++ lay g n (l.flatMap fun a => match g a with
    | some o => refs o
    | none => [])
def obK (K : PySem.W.Frag) : Bool × He.AlD := (fx K, He.obsD fa fn K)
def obX (g : Addr → Option Obj) : Bool × He.AlD := obK (He.frG g (lay g 5 [mainGlobals]))
def hk : PySem.W.Hook where
  α := Bool × He.AlD
  obs := fun s => obX s.heap.get?
  val := fun _ => (true, He.valD fn)
  says := fun _ h => ∃ K : PySem.W.Frag, K.In h ∧ He.SaysD fa fn K ∧ fx K = true
  of := fun _ _ e => ⟨_, He.frG_in, congrArg Prod.snd e, congrArg Prod.fst e⟩
  keeps := fun _ _ _ ⟨K, hK, c⟩ k => ⟨K, PySem.W.Frag.In.keeps hK k, c⟩
def ob (s : PySem.W.SharedT) : Bool × He.AlD := obX (HandSHeadRun.getT s)
theorem ob_eq (s : PySem.W.SharedT) : ob s = hk.obs s.abs := by
  have e : HandSHeadRun.getT s = s.abs.heap.get? := funext (HandSHeadRun.getT_eq s)
  unfold ob
  rw [e] <;> rfl
theorem run (w : World) : HandSHeadRun.RunEq R (PySem.W.view R.prog [88]) hk ob 40000 ns w := by
  intro os
  kernel_rfl
theorem facts {l : PySem.W.OpenLaw} {w : World} {K : PySem.W.Frag} {h : Heap} {mg : Str → Option Value} {f : Addr} (X : K.In h) (G : h.Ns mainGlobals mg) (hfa : mg ("law" : Str) = some (.ref f)) (c : He.SaysD fa fn K) (cx : fx K = true) :
    ∃ fd : FuncData, (∀ (s : Shared) (v : Value), BindsTo s fd ⟨[v], []⟩ [("_law_script", v)]) ∧ ∀ base : Heap, K.In base → base.Ns mainGlobals mg → FnG (l).prog w K mg base CX0 212 f fd ["_law_script"] (My.sp_law K) := by
  obtain ⟨x0, cx⟩ := He.ba cx
  obtain ⟨lt, lL⟩ := Hq.ns_str (c.fact 99)
  obtain ⟨lm, lM⟩ := Hq.ns_int (c.fact 100)
  exact My.all_mk (l := l) X G hfa (Hq.atc_of (c.fact 0) (c.fact 1) (c.fact 2)) (Hq.atc_of (c.fact 3) (c.fact 4) (c.fact 5)) (Hq.at1_of (c.fact 6) (c.def_ 0)) (Hq.at1_of (c.fact 7) (c.def_ 1)) (Hq.at1_of (c.fact 8) (c.def_ 2)) (Hq.at1_of (c.fact 9) (c.def_ 3)) (Hq.at1_of (c.fact 10) (c.def_ 4)) (Hq.at1_of (c.fact 11) (c.def_ 5)) (Hq.at1_of (c.fact 12) (c.def_ 6)) (Hq.at1_of (c.fact 13) (c.def_ 7)) (Hq.at1_of (c.fact 14) (c.def_ 8)) (Hq.at1_of (c.fact 15) (c.def_ 9)) (Hq.at1_of (c.fact 16) (c.def_ 10)) (Hq.at1_of (c.fact 17) (c.def_ 11)) (Hq.at1_of (c.fact 18) (c.def_ 12)) (Hq.at1_of (c.fact 19) (c.def_ 13)) (Hq.at1_of (c.fact 20) (c.def_ 14)) (Hq.at1_of (c.fact 21) (c.def_ 15)) (Hq.at1_of (c.fact 22) (c.def_ 16)) (Hq.at1_of (c.fact 23) (c.def_ 17)) (Hq.at1_of (c.fact 24) (c.def_ 18)) (Hq.at1_of (c.fact 25) (c.def_ 19)) (Hq.at1_of (c.fact 26) (c.def_ 20)) (Hq.atd_of (c.fact 27) (c.def_ 21)) (Hq.atd_of (c.fact 28) (c.def_ 22)) (Hq.at1_of (c.fact 29) (c.def_ 23)) (Hq.at1_of (c.fact 30) (c.def_ 24)) (Hq.at1_of (c.fact 31) (c.def_ 25)) (Hq.at1_of (c.fact 32) (c.def_ 26)) (Hq.at1_of (c.fact 33) (c.def_ 27)) (Hq.at1_of (c.fact 34) (c.def_ 28)) (Hq.at1_of (c.fact 35) (c.def_ 29)) (Hq.at1_of (c.fact 36) (c.def_ 30)) (Hq.at1_of (c.fact 37) (c.def_ 31)) (Hq.atd_of (c.fact 38) (c.def_ 32)) (Hq.at1_of (c.fact 39) (c.def_ 33)) (Hq.at1_of (c.fact 40) (c.def_ 34)) (Hq.at1_of (c.fact 41) (c.def_ 35)) (Hq.at1_of (c.fact 42) (c.def_ 36)) (Hq.at1_of (c.fact 43) (c.def_ 37)) (Hq.at1_of (c.fact 44) (c.def_ 38)) (Hq.at1_of (c.fact 45) (c.def_ 39)) (Hq.at1_of (c.fact 46) (c.def_ 40)) (Hq.at1_of (c.fact 47) (c.def_ 41)) (Hq.at1_of (c.fact 48) (c.def_ 42)) (Hq.at1_of (c.fact 49) (c.def_ 43)) (Hq.at1_of (c.fact 50) (c.def_ 44)) (Hq.at1_of (c.fact 51) (c.def_ 45)) (Hq.at1_of (c.fact 52) (c.def_ 46)) (Hq.at1_of (c.fact 53) (c.def_ 47)) (Hq.at1_of (c.fact 54) (c.def_ 48)) (Hq.at1_of (c.fact 55) (c.def_ 49)) (Hq.at1_of (c.fact 56) (c.def_ 50)) (Hq.at1_of (c.fact 57) (c.def_ 51)) (Hq.at1_of (c.fact 58) (c.def_ 52)) (Hq.at1_of (c.fact 59) (c.def_ 53)) (Hq.at1_of (c.fact 60) (c.def_ 54)) (Hq.at1_of (c.fact 61) (c.def_ 55)) (Hq.at1_of (c.fact 62) (c.def_ 56)) (Hq.at1_of (c.fact 63) (c.def_ 57)) (Hq.at1_of (c.fact 64) (c.def_ 58)) (Hq.at1_of (c.fact 65) (c.def_ 59)) (Hq.at1_of (c.fact 66) (c.def_ 60)) (Hq.at1_of (c.fact 67) (c.def_ 61)) (Hq.at1_of (c.fact 68) (c.def_ 62)) (Hq.at1_of (c.fact 69) (c.def_ 63)) (Hq.at1_of (c.fact 70) (c.def_ 64)) (Hq.ate_of (c.fact 71) (c.def_ 65)) (Hq.atm_of (c.fact 72) (c.def_ 66)) (Hq.atm_of (c.fact 73) (c.def_ 67)) (Hq.atm_of (c.fact 74) (c.def_ 68)) (Hq.atm_of (c.fact 75) (c.def_ 69)) (Hq.atm_of (c.fact 76) (c.def_ 70)) (Hq.atm_of (c.fact 77) (c.def_ 71)) (Hq.atm_of (c.fact 78) (c.def_ 72)) (He.noat_ok (c.fact 79)) (He.noat_ok (c.fact 80)) (He.noat_ok (c.fact 81)) (He.noat_ok (c.fact 82)) (He.noat_ok (c.fact 83)) (He.noat_ok (c.fact 84)) lL lM (Hq.ns_of (c.fact 85)) (fun H => He.tupB_ok x0 H) (Hq.ns_none (c.fact 86)) (Hq.ns_none (c.fact 87)) (Hq.ns_none (c.fact 88)) (Hq.ns_none (c.fact 89)) (Hq.ns_none (c.fact 90)) (Hq.ns_none (c.fact 91)) (Hq.ns_none (c.fact 92)) (Hq.ns_none (c.fact 93)) (Hq.ns_none (c.fact 94)) (Hq.ns_none (c.fact 95)) (Hq.ns_none (c.fact 96)) (Hq.ns_none (c.fact 97)) (Hq.ns_none (c.fact 98))
end Hq
open PySem PySem.W PySem.Calls PyProof.Rows
theorem PySem.Challenge.cw_lastopen_k50_whole_no_fewer_clauses_holds : PySem.Challenge.rw_lastopen_k50_whole_no_fewer_clauses.Holds := by
  w_on; o_law
  refine HandSHeadRun.head_any (r := OpenLaw.row PySem.Challenge.rw_lastopen_k50_whole_no_fewer_clauses) (q := view (OpenLaw.row PySem.Challenge.rw_lastopen_k50_whole_no_fewer_clauses).prog [88]) (H := Hq.hk) (ob := Hq.ob) (M := 40000) (loose := Hq.ns) (d := HandSHeadRun.topDef (OpenLaw.row PySem.Challenge.rw_lastopen_k50_whole_no_fewer_clauses).prog 88) (kwd := []) Hq.ob_eq
    (by kernel_rfl) (fun s => by kernel_rfl) Hq.run (by kernel_rfl) (by kernel_rfl) (by kernel_rfl) (by rfl) (by first | assumption | decide +kernel) (by decide +kernel) ⟨rfl, rfl, rfl, rfl, rfl, by decide +kernel⟩ ?hw ?hc
  case hw => w_witness2
  case hc =>
    refine Hq.walk_GE (n := 63) (k := 212) (x := "_law_script") (sp := My.sp_law) (l := PySem.Challenge.rw_lastopen_k50_whole_no_fewer_clauses) rfl (by decide) (by kernel_rfl) ⟨rfl, by decide, by decide⟩ ?F ?S
    case S => exact fun K H a ns hl hb hs => ⟨ns, H, .ref a, rfl, L2.Same.refl H, .inl ⟨a, _, rfl, hs, L3.pd_of_it ns⟩, fun _ => rfl⟩
    case F =>
      intro w mg fa h Y G hmg0
      obtain ⟨K, KX, c, cx⟩ := Y
      have hmg : mg ("law" : PySem.Str) = some (.ref fa) := by
        have e : (HandSHeadRun.topDef (OpenLaw.row PySem.Challenge.rw_lastopen_k50_whole_no_fewer_clauses).prog 88).name = ("law" : PySem.Str) := by kernel_rfl
        rw [← e]
        exact hmg0
      obtain ⟨fd, hb, hF⟩ := Hq.facts (l := PySem.Challenge.rw_lastopen_k50_whole_no_fewer_clauses) (w := w) KX G hmg c cx
      exact ⟨K, fd, KX, hb, hF⟩

