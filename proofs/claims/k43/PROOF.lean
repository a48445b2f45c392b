import PyProof.Rows.All
import Wide.All
import OpenK.AllK
import Wide.FinOn
import HandS.ForMost
import HandS.RaiseMore
import HandS.Property
import HandS.IterVal
import HandS.Conv
import HandS.Style
import HandS.IsInst
import HandS.SetFor
import HandS.Deep
import HandS.Zip0
import PyProof.ReprLen
import HandS.Ends
import PySem.Challenge.RW_nowherezero_k43_light_covers
set_option Elab.async false
set_option linter.all false
set_option maxRecDepth 100000
set_option maxHeartbeats 4000000
/-! Nz0: rules that the hand layer lacks: repr of data, own __len__, own __iter__, enumerate of an own iterable, xs[i] op= e. -/
namespace Nz
open PySem PySem.Spec PyProof.Rows L2

/-! ### repr of data -/
mutual
theorem dp_noDict {K : PySem.W.Frag} {H : Hp} : ∀ (d : PyData) (v : V), Dp K H v d → d.hasDict = false
  | .none, _, _ => by simp only [PyData.hasDict]
  | .bool _, _, _ => by simp only [PyData.hasDict]
  | .int _, _, _ => by simp only [PyData.hasDict]
  | .str _, _, _ => by simp only [PyData.hasDict]
  | .list ds, _, h => by
    cases h with
    | lst _ ha => simp only [PyData.hasDict]; exact dpAll_noDict ds _ ha
  | .tuple ds, _, h => by
    cases h with
    | tup _ ha => simp only [PyData.hasDict]; exact dpAll_noDict ds _ ha
  | .dict _, _, h => by cases h
theorem dpAll_noDict {K : PySem.W.Frag} {H : Hp} : ∀ (ds : List PyData) (vs : List V), DpAll K H vs ds → PyData.hasDictAll ds = false
  | [], _, _ => by simp only [PyData.hasDictAll]
  | d :: ds, _, h => by
    cases h with
    | cons h1 h2 => simp only [PyData.hasDictAll, dp_noDict d _ h1, dpAll_noDict ds _ h2, Bool.or_self]
end
def rRepr (K : PySem.W.Frag) : List V → Hp → VK → Prop := fun xs H Q => ∃ v d, xs = [v] ∧ Dp K H v d ∧ d.showable = true ∧ d.shown.length ≤ sizeLine ∧ d.depth ≤ 60 ∧ Q (.str d.shown) H
section
variable {X : Cx}
theorem call_reprD (hg : X.A.guards = some []) (hu : X.A.units + 64 < cLine) : CallR X (.builtin "repr") (rRepr X.K) := by
  intro pins s σ H xs us Q I r h
  obtain ⟨v, d, rfl, hd, hs, hl, hdp, q⟩ := h
  obtain ⟨u, rfl, ru⟩ := vals1 r
  obtain ⟨as, rd⟩ := Dp.reads I d v u hd ru
  have hnd := dp_noDict d v hd
  cases v with
  | ref a =>
    cases ru
    refine repr_of_reads' rd hs (fun hx => by rw [hnd] at hx; cases hx) hg (by omega) (fun _ _ e => e) (fun h' u tk hk => ?_) hl
    exact ⟨.str d.shown, H, I.kept hk, ⟨_, rfl⟩, q⟩
  | bl b =>
    cases ru
    cases hd
    simp only [PyData.shown] at q
    exact PySem.P.repr_of_bool ⟨.str _, H, I.tok _, ⟨_, rfl⟩, q⟩
  | non =>
    cases ru
    cases hd
    simp only [PyData.shown] at q
    exact PySem.P.repr_of_none ⟨.str _, H, I.tok _, ⟨_, rfl⟩, q⟩
  | int i =>
    obtain ⟨t, rfl⟩ := ru
    cases hd
    simp only [PyData.showable, decide_eq_true_eq] at hs
    simp only [PyData.shown] at q
    exact PySem.P.repr_of_int hs ⟨.str _, H, I.tok _, ⟨_, rfl⟩, q⟩
  | str x =>
    obtain ⟨t, rfl⟩ := ru
    cases hd
    simp only [PyData.shown] at q hl
    exact PySem.P.repr_of_str ⟨.str _, H, I.tok _, ⟨_, rfl⟩, q⟩ hl
  | byt b => cases hd
  | flt b => cases hd
  | ty n => cases hd
end

/-! ### a def's promise under a condition on what runs around, and knowing the heap's size at the call -/
structure FnX (gd : Around → Prop) (P : Program) (w : World) (K : PySem.W.Frag) (mg : Str → Option Value) (base : Heap) (CX : CXT) (k : Nat) (f : Addr) (fd : FuncData) (ps : List Str) (sp : Nat → Sp) : Prop where
  ln : ∀ n vs H Q E, sp n vs H Q E → vs.length = ps.length
  go : ∀ (A : Around) (fr : List Env) (s : Shared) (H : Hp) (args : Args) (us : List Value) (vs : List V) (Q : VK) (E : XK), gd A → Room k A → Env0 P w K mg base A fr s H → BindsTo s fd args (ps.zip us) → Vals vs us →
    sp s.heap.objs.size vs H Q E → codeAny (model P w) A (.call (.ref f) args) (CR CX fr P w H s Q E) s
/-- no container's repr is running (which repr wants to know) -/
abbrev NoRepr : Around → Prop := fun A => A.guards = some []
abbrev FnG (P : Program) (w : World) (K : PySem.W.Frag) (mg : Str → Option Value) (base : Heap) (CX : CXT) (k : Nat) (f : Addr) (fd : FuncData) (ps : List Str) (sp : Sp) : Prop := FnX NoRepr P w K mg base CX k f fd ps fun _ => sp

theorem FnX.of {gd : Around → Prop} {P : Program} {w : World} {K : PySem.W.Frag} {mg : Str → Option Value} {base : Heap} {CX : CXT} {k : Nat} {f : Addr} {fd : FuncData} {ps : List Str} {sp : Sp}
    (F : FnOk P w K mg base CX k f fd ps sp) : FnX gd P w K mg base CX k f fd ps fun _ => sp :=
  ⟨fun _ => F.len, fun A fr s H args us vs Q E _ => F.run A fr s H args us vs Q E⟩

/-- what a body's end is to its call -/
theorem body_end {CX : CXT} {P : Program} {w : World} {K : PySem.W.Frag} {mg : Str → Option Value} {base : Heap} {N : List Str} {qual : Str} {scope : Scope} {f : Addr} {cd : Value} {A : Around} {fr : List Env} {s s' : Shared} {H : Hp} {Q : VK} {E : XK} {fl : Flow}
    (h : SP (cxOf CX P w K mg base N qual scope f cd A fr s H E) [] { nx := fun _ H' => Q .non H', rt := Q } fl s') :
    (match fl with
    | .ret u => CE fr P w H s Q u s'
    | .next => CE fr P w H s Q .none s'
    | _ => False) := by
  cases fl with
  | brk => obtain ⟨_, _, _, q⟩ := h; exact q
  | cont => obtain ⟨_, _, _, q⟩ := h; exact q
  | next => obtain ⟨_, H1, J, q⟩ := h; exact ⟨.non, H1, J.os, J.bare, J.base, J.hok, rfl, q⟩
  | ret u => obtain ⟨v, _, H1, J, rv, q⟩ := h; exact ⟨v, H1, J.os, J.bare, J.base, J.hok, rv, q⟩

theorem fnX_of {gd : Around → Prop} {CX : CXT} {P : Program} {w : World} {K : PySem.W.Frag} {mg : Str → Option Value} {base : Heap} {k : Nat} {x qual : Str} {st : Stmt} {f : Addr} {fd : FuncData} {N ps : List Str} {sp : Nat → Sp} (F : Fun K x qual st f fd) (S : FnScope N ps (defScope st))
    (ln : ∀ n vs H Q E, sp n vs H Q E → vs.length = ps.length)
    (body : ∀ (cdv : Value) (A : Around) (fr : List Env) (s : Shared) (H : Hp) (vs : List V) (Q : VK) (E : XK), gd A → Room k (A.deeper (envOfC qual (defScope st) s.heap.objs.size f cdv)) → sp s.heap.objs.size vs H Q E →
      ∃ t, PSs (cxOf CX P w K mg base N qual (defScope st) f cdv A fr s H E) (defBody st) t ∧ t { nx := fun _ H' => Q .non H', rt := Q } (start N vs) H) :
    FnX gd P w K mg base CX (k + 1) f fd ps sp := by
  obtain ⟨oc, od, kV, doc, pm, an, cdv, ct, osl, rfl, lk, hcd⟩ := F.ex
  refine ⟨ln, fun A fr s H args us vs Q E hg hr e0 hb r hsp => ?_⟩
  have len := ln _ _ _ _ _ hsp
  have kin : K.In s.heap := e0.mod.kin.keeps fun b o z => (e0.bs b o z).1
  have nol : s.heap.NoLimit := e0.mod.nolimit.keeps fun b o z => (e0.bs b o z).1
  have kinds : ∀ y ∈ ps.zip us, (defScope st).names.lookup y.1 = some .local ∨ ((defScope st).names.lookup y.1 = some .cell ∧ ((cellsFrom (s.heap.objs.size + 1) (defScope st).names []).lookup y.1).isSome = true) := by
    rintro ⟨n, v⟩ hy
    exact (S.par n (List.of_mem_zip hy).1).elim .inl fun q => .inr ⟨q, PySem.W.cellsFrom_some _ _ _ (.inl q)⟩
  refine codeAny_call_function hr.depth (kin _ _ lk) rfl S.co S.gen rfl (PySem.W.codeRec_of kin hcd) (hb _ _ _ _ (wpAny_newFunctionEnv_cells S.kind kinds fun env he s1 c1 => ?_))
  cases he
  refine ⟨nol.keeps c1.toInCall.keep, codeAny_func ?_⟩
  obtain ⟨t, ht, hq⟩ := body cdv A fr s H vs Q E hg (hr.deeper _) hsp
  refine wpAny_mono (ht.run [] s1 (start N vs) H _ (inv_start S hr.hd e0 len r c1) hq) (fun fl s' hs => ?_) fun _ _ z => z
  have q := body_end hs
  cases fl with
  | brk => exact q.elim
  | cont => exact q.elim
  | next => exact q
  | ret u => exact q

section
variable {X : Cx} {CX : CXT} {k : Nat} {f : Addr} {fd : FuncData} {ps : List Str} {sp : Sp} {dvs : List V} {ds : List Value} {E : XK} {x : Str} {p pos : Pos} {e : Expr} {es : List Expr} {t : TA}
theorem pe_callG (F : FnG X.prog X.w X.K X.mg X.base CX k f fd ps sp) (hgd : X.A.guards = some []) (hr : Room k X.A) (hg : Gl X x) (hm : X.mg x = some (.ref f)) (hk : PySem.W.keepIn X.K (.ref f) = true) (hb : Binds X.K fd ps ds) (hd : Vals dvs ds) (hx : Passes CX X E)
    (ha : PA X (e :: es) t) (hdb : (x == ("__debug__" : Str)) = false := by decide) (hst : starEach (e :: es) X.env = (false, eval e X.env) :: starEach es X.env := by rfl) (hpl : (backTo pos (starEach es X.env)).any (·.1) = false := by rfl) :
    PE X (.Call (.Name x p) (e :: es) [] pos) (tCall sp dvs E t) := by
  refine ⟨fun pins s σ H Q I h => wpAny_Call_Name_kw (ld_glob I hg hm ?_ hdb)⟩
  refine PySem.W.callWith_K (h₀ := X.base) I.ok.mod.kin hk (thn (ha.run pos pins s σ H _ I h) fun us s1 ⟨vs, H1, I1, r, q⟩ => ⟨I1.kIn, ?_⟩) hst hpl
  have rr : Vals (vs ++ dvs) (us ++ ds) := r.append hd
  have hl : (us ++ ds).length = ps.length := rr.length.symm.trans (F.ln 0 _ _ _ _ q)
  refine wpAny_call (codeAny_mono (F.go X.A X.stack s1 H1 ⟨us, []⟩ _ _ Q E hgd hr I1.env0 (hb s1 us I1.kIn hl) rr q) fun r s' hq => ?_)
  cases r with
  | error er => exact hx pins σ H1 s1 er s' I1 hq
  | ok fl =>
    cases fl with
    | ret u => exact I1.after hq
    | next => exact hq.elim
    | brk => exact hq.elim
    | cont => exact hq.elim
end

/-! ### an own class's __len__ and __iter__ -/
/-- the class has the special name as the def at f -/
structure Spc (K : PySem.W.Frag) (C : Addr) (m : Str) (f : Addr) : Prop where
  at_ : PySem.W.findIn K (.ref C) m = some (some (.ref f))
  fn : PySem.W.isFn K (.ref f) = true
def spLen (C : Addr) : Sp := fun vs H Q _ => ∃ a dx fs l zs, vs = [.ref a] ∧ H a = some (.ins C dx fs) ∧ fs.lookup ("_pairs" : Str) = some (.ref l) ∧ H l = some (.lst zs) ∧ Q (.int zs.length) H
section
variable {X : Cx} {CX : CXT} {k : Nat} {C f : Addr} {fd : FuncData} {ps : List Str} {sp : Sp} {E : XK}
/-- what a special def hands back when a built-in calls it -/
theorem run_spc {pins : List (Addr × Obj)} {σ : L2.St} {H : Hp} {s : Shared} {Q : VK} {a : Addr} {E' : Value → Shared → Prop} (F : FnOk X.prog X.w X.K X.mg X.base CX k f fd ps sp) (hb : Binds X.K fd ps []) (hr : Room (k + 1) X.A) (hx : Passes CX X.nox E)
    (I : Inv X pins σ H s) (h : sp [.ref a] H Q E) : wpAny (model X.prog X.w) X.A.in1 (call (.ref f) [.ref a]) (EP X pins σ Q) E' s := by
  have hl : ([Value.ref a] ++ []).length = ps.length := (F.len _ _ _ _ h)
  refine wpAny_call (codeAny_mono (F.run X.A.in1 X.stack s H ⟨[.ref a], []⟩ [.ref a] [.ref a] Q E hr.in1 I.env0.in1 (hb s [.ref a] I.kIn hl) (.cons rfl .nil) h) fun r s' hq => ?_)
  cases r with
  | error er => exact (hx pins σ H s er s' (I.wish _) hq).elim
  | ok fl =>
    cases fl with
    | ret u => exact I.after hq
    | next => exact hq.elim
    | brk => exact hq.elim
    | cont => exact hq.elim
/-- the same where the promise knows the heap's size -/
theorem run_spcA {pins : List (Addr × Obj)} {σ : L2.St} {H : Hp} {s : Shared} {Q : VK} {a : Addr} {E' : Value → Shared → Prop} {sp : Nat → Sp} {A1 : Around} (F : FnX (fun _ => True) X.prog X.w X.K X.mg X.base CX k f fd ps sp) (hb : Binds X.K fd ps []) (hr : Room k A1) (hfr : A1.frames = X.A.frames) (hx : Passes CX X.nox E)
    (I : Inv X pins σ H s) (h : sp s.heap.objs.size [.ref a] H Q E) : wpAny (model X.prog X.w) A1 (call (.ref f) [.ref a]) (EP X pins σ Q) E' s := by
  have hl : ([Value.ref a] ++ []).length = ps.length := (F.ln _ _ _ _ _ h)
  have e0 : Env0 X.prog X.w X.K X.mg X.base A1 X.stack s H := ⟨hfr.trans I.env0.frames, I.env0.mod, I.env0.bs, I.env0.bsz, I.env0.funs, I.env0.frf, I.env0.hok, I.env0.bare⟩
  refine wpAny_call (codeAny_mono (F.go A1 X.stack s H ⟨[.ref a], []⟩ [.ref a] [.ref a] Q E trivial hr e0 (hb s [.ref a] I.kIn hl) (.cons rfl .nil) h) fun r s' hq => ?_)
  cases r with
  | error er => exact (hx pins σ H s er s' (I.wish _) hq).elim
  | ok fl =>
    cases fl with
    | next => exact hq.elim
    | brk => exact hq.elim
    | cont => exact hq.elim
    | ret u => exact I.after hq
def rLenO (C : Addr) (sp : Sp) (E : XK) : List V → Hp → VK → Prop := fun xs H Q => ∃ a dx fs, xs = [.ref a] ∧ H a = some (.ins C dx fs) ∧ sp [.ref a] H (fun v H' => ∃ n : Int, v = .int n ∧ 0 ≤ n ∧ n < 2 ^ 63 ∧ Q v H') E
theorem call_lenO (c : Spc X.K C "__len__" f) (F : FnOk X.prog X.w X.K X.mg X.base CX k f fd ps sp) (hb : Binds X.K fd ps []) (hr : Room (k + 1) X.A) (hx : Passes CX X.nox E) : CallR X (.builtin "len") (rLenO C sp E) := by
  intro pins s σ H xs us Q I r h
  obtain ⟨a, dx, fs, rfl, ea, h⟩ := h
  obtain ⟨u, rfl, ru⟩ := vals1 r
  cases ru
  obtain ⟨mA, J, _⟩ := ins_get I.hok ea
  obtain ⟨od, J, _⟩ := J.look
  obtain ⟨m, hF⟩ := I.fr
  refine PySem.W.len_K hF I.ok.mod.kin J c.at_ c.fn (wpAny_mono (run_spc F hb hr hx I h) (fun v s' hv => ?_) fun _ _ z => z)
  obtain ⟨x, H', I', rx, n, rfl, h0, h1, q⟩ := hv
  obtain ⟨t, rfl⟩ := rx
  exact ⟨⟨h0, h1⟩, ⟨.int n, H', I'.tok _, ⟨_, rfl⟩, q⟩⟩
/-- the promise of __iter__: a new iterator of the list at l -/
def spIt (K : PySem.W.Frag) (C : Addr) : Nat → Sp := fun n vs H Q _ => ∃ a dx fs l zs, vs = [.ref a] ∧ H a = some (.ins C dx fs) ∧ fs.lookup ("_pairs" : Str) = some (.ref l) ∧ SqL K H l zs ∧ ∀ it, H it = none → n ≤ it → Q (.ref it) (upd H it (ItO l it 0))
/-- iter(g), g an instance: the list's iterator stands in the state -/
theorem own_iter {pins : List (Addr × Obj)} {σ : L2.St} {H : Hp} {s : Shared} {a dx : Addr} {fs : List (Str × V)} {l : Addr} {zs : List V} {A1 : Around} {E' : Value → Shared → Prop} {Q : Value → Shared → Prop} (c : Spc X.K C "__iter__" f) (F : FnX (fun _ => True) X.prog X.w X.K X.mg X.base CX k f fd ps (spIt X.K C)) (hb : Binds X.K fd ps []) (hr : Room k A1) (hfr : A1.frames = X.A.frames) (hx : Passes CX X.nox E)
    (I : Inv X pins σ H s) (ea : H a = some (.ins C dx fs)) (el : fs.lookup ("_pairs" : Str) = some (.ref l)) (hl : SqL X.K H l zs)
    (q : ∀ it s', Inv X pins σ H s' → s'.heap.get? it = some (GNX.itObj l 0) → FpOk X pins H it → Q (.ref it) s') : wpAny (model X.prog X.w) A1 (pyIter (.ref a)) Q E' s := by
  obtain ⟨mA, J, _⟩ := ins_get I.hok ea
  obtain ⟨od, J, _⟩ := J.look
  obtain ⟨m, hF⟩ := I.fr
  have run := run_spcA (Q := fun v H' => ∃ it, v = .ref it ∧ H it = none ∧ s.heap.objs.size ≤ it ∧ H' = upd H it (ItO l it 0)) (E' := E') (a := a) F hb hr hfr hx I ⟨a, dx, fs, l, zs, rfl, ea, el, hl, fun it hn hz => ⟨it, rfl, hn, hz, rfl⟩⟩
  refine PySem.W.owit_iter hF I.ok.mod.kin J c.at_ c.fn (wpAny_mono run (fun u s' hu => ?_) fun _ _ z => z)
  obtain ⟨v, H', I', rv, it, rfl, hn, hz, rfl⟩ := hu
  cases rv
  have at1 : (upd H it (ItO l it 0)) it = some (ItO l it 0) := upd_same
  have eo := itO_get I' at1
  have hsz : X.s_0.heap.objs.size ≤ it := Nat.le_trans I.sz hz
  have at2 := at1
  unfold ItO at at2
  have I2 := ItX.inv_drop I' at2
  have f2 := ItX.inv_fp I' at1 hsz
  rw [ItX.dropH_upd hn] at I2 f2
  have hT : s'.TypeIs (.ref it) "list_iterator" := ⟨_, eo, rfl⟩
  unfold PySem.W.OwitIt
  refine wpAny_specialOf (name := Str.ofString "__next__") hT slot_listiter_next.lookup ?_
  exact q it s' I2 eo f2
def iOwn (K : PySem.W.Frag) (C : Addr) (tl : TE) : TI := fun σ H R => tl σ H fun x H1 => ∃ a dx fs l zs, x = .ref a ∧ H1 a = some (.ins C dx fs) ∧ fs.lookup ("_pairs" : Str) = some (.ref l) ∧ SqL K H1 l zs ∧ R (Itl K l) H1
theorem pi_own {tg e : Expr} {te : TE} (he : PE X e te) (c : Spc X.K C "__iter__" f) (F : FnX (fun _ => True) X.prog X.w X.K X.mg X.base CX k f fd ps (spIt X.K C)) (hb : Binds X.K fd ps []) (hr : Room k X.A) (hx : Passes CX X.nox E) : PI X tg e (iOwn X.K C te) := by
  refine ⟨fun pins s σ H R I h => ?_⟩
  refine thn (he.run pins s σ H _ I h) fun v s1 ⟨x, H1, I1, r1, a, dx, fs, l, zs, e1, ea, el, hl, q⟩ => ?_
  subst e1
  cases r1
  refine own_iter c F hb hr rfl hx I1 ea el hl fun it s2 I2 eo f2 => ?_
  have st : s2.heap.IsListIter it l 0 := ⟨_, eo, rfl, rfl⟩
  refine ⟨it, [it], _, _, H1, rfl, I2, turn_list l it, st, fun b hb => ?_, q⟩
  have e : b = it := by simpa using hb
  rw [e]
  exact f2
/-! ### enumerate(g), g such an instance -/
def enumObj (it : Value) : Obj := { cls := .type "enumerate", data := .fields #[.none, .bool false, it, rawInt 0, .none, .none] }
theorem meets_enum_own {prog : Program} {w : World} (g : Addr) :
    MeetsIn prog w (Builtin.«enumerate.__new__» ⟨[.type "enumerate", .ref g], []⟩) (fun A R s => wpAny (model prog w) A.in1 (pyIter (.ref g)) (fun v s1 => R (.ok (.ret (.ref s1.heap.objs.size))) { s1 with heap := s1.heap.push (enumObj v) }) (fun e s' => R (.error e) s') s) := by
  intro A R s h
  obtain ⟨hp, gn, d, tk, os⟩ := s
  have hsub := sub_enumerate
  have hI : ∀ {Q : Value → Shared → Prop}, (∀ v s1, R (.ok (.ret (.ref s1.heap.objs.size))) { s1 with heap := s1.heap.push (enumObj v) } → Q v s1) →
      wpAny (model prog w) A.in1 (pyIter (.ref g)) Q (fun e s' => R (.error e) s') ⟨hp, gn, d, tk, os⟩ := fun k => wpAny_mono h k fun _ _ z => z
  wp_walk using hI
  refine wpAny_stack_any fun st => wpAny_pure ?_
  split
  · rename_i c _ _ _ _ _
    cases (c == Value.type "enumerate")
    · wp_walk using hI
      rintro v ⟨hp1, gn1, d1, tk1, os1⟩ q
      wp_walk
      exact q
    · wp_walk using hI
      rintro v ⟨hp1, gn1, d1, tk1, os1⟩ q
      wp_walk
      exact q
  · wp_walk using hI
    rintro v ⟨hp1, gn1, d1, tk1, os1⟩ q
    wp_walk
    exact q
/-- the list at l as enumerated, its iterator from g's own __iter__ -/
def iEnumO (K : PySem.W.Frag) (C : Addr) (ta : TA) : TI := fun σ H R => ta σ H fun vs H1 => ∃ a dx fs l zs, vs = [.ref a] ∧ H1 a = some (.ins C dx fs) ∧ fs.lookup ("_pairs" : Str) = some (.ref l) ∧ SqL K H1 l zs ∧ R (Ite K l) H1
theorem pi_enumO {e : Expr} {ta : TA} {p pos tpos : Pos} {elts : List Expr} {kk : Nat} (c : Spc X.K C "__iter__" f) (F : FnX (fun _ => True) X.prog X.w X.K X.mg X.base CX k f fd ps (spIt X.K C)) (hb : Binds X.K fd ps []) (hr : Room (k + 2) X.A) (hx : Passes CX X.nox E)
    (hg : Gl X "enumerate") (hm : X.mg "enumerate" = none) (ha : PA X [e] ta) (hs : starEach [e] X.env = [(false, eval e X.env)] := by rfl) :
    PI X (.Tuple elts kk tpos) (.Call (.Name "enumerate" p) [e] [] pos) (iEnumO X.K C ta) := by
  refine ⟨fun pins s σ H R I h => ?_⟩
  refine Call_ (ld_blt I hg hm boot_enumerate (PyProof.Rows.callWith_type1 (thn (ha.run pos pins s σ H _ I h) fun us s1 ⟨vs, H1, I1, r1, a, dx, fs, l, zs, e1, ea, el, hl, q⟩ => ?_) hs rfl))
  subst e1
  cases r1 with
  | cons r rr =>
    cases rr
    cases r
    refine callType_newIn PySem.F.called_enumerate (by decide) (PySem.F.typeCall_enumerate_1 _) (PySem.F.newCall_enumerate_1 _) (fun obj => PySem.F.args_object_init_2 obj _) PySem.F.entry_enumerate_new (meets_enum_own a) ?_
    have r2 : Room k X.A.in1.in1 := Room.in1 (Room.in1 hr)
    refine own_iter (A1 := X.A.in1.in1) c F hb r2 rfl hx I1 ea el hl fun it s2 I2 eo f2 => ?_
    have he : IsEnum (s2.heap.push (enumObj (.ref it))) s2.heap.objs.size it 0 .none := Heap.get?_push_size _ rfl
    have kp : ∀ b o, s2.heap.get? b = some o → (s2.heap.push (enumObj (.ref it))).get? b = some o := fun b o e => Heap.get?_push_of_some _ e
    have hit : (s2.heap.push (enumObj (.ref it))).IsListIter it l 0 := ⟨_, kp _ _ eo, rfl, rfl⟩
    have ne : s2.heap.objs.size ≠ it := fun z => absurd (Heap.lt_size eo) (by rw [← z]; exact Nat.lt_irrefl _)
    refine ⟨⟨_, he, rfl⟩, wpAny_pyIter_enum he ?_⟩
    have I3 : Inv X pins σ H1 { s2 with heap := s2.heap.push (enumObj (.ref it)) } := I2.kept (t' := s2.toks) kp
    refine ⟨s2.heap.objs.size, [s2.heap.objs.size, it], _, _, H1, rfl, I3, turn_enum l _ it, ⟨⟨.none, he⟩, hit, ne⟩, fun b hb => ?_, q⟩
    have e' : b = s2.heap.objs.size ∨ b = it := by simpa using hb
    rcases e' with z | z
    · rw [z]; exact I2.fpOk (Nat.le_refl _) (I2.hok.fresh (Nat.le_refl _))
    · rw [z]; exact f2
end

/-! ### xs[i] op= e on a list -/
section
variable {X : Cx}
def rGetL (K : PySem.W.Frag) : V → V → Hp → VK → Prop := fun x y H Q => ∃ p xs, ∃ j : Nat, ∃ v, x = .ref p ∧ y = .int (j : Int) ∧ SqL K H p xs ∧ xs[j]? = some v ∧ Q v H
theorem get_listG : PGet X (rGetL X.K) := by
  intro pins s σ H x y v u Q I rx ry h
  obtain ⟨p, xs, j, z, rfl, rfl, hq, he, q⟩ := h
  cases rx
  obtain ⟨t, rfl⟩ := ry
  obtain ⟨its, r, pl, hz⟩ := I.list hq
  obtain ⟨w, ew, rw'⟩ := r.get he
  have hl := r.length
  have hn := line63
  have hj : j < xs.length := (List.getElem?_eq_some_iff.mp he).1
  exact wpAny_getItem_list pl.isList (by omega) (by omega) (by simpa using ew) ⟨z, H, I, rw', q⟩
end
end Nz

/-! NzL: a small logic over the hand layer's readings: a base heap B that only grows, owned lists L, draws' states T. -/
namespace Nz
open PySem PySem.Spec PyProof.Rows L2
abbrev Fg := PySem.W.Frag
theorem Same.up1 {H : Hp} {p : Addr} {o : HO} (h : H p = none) : Same H (upd H p o) := fun b u e => by
  rw [upd_ne (ne_of_none e h)]
  exact e
theorem Same.tup {K : Fg} {H H' : Hp} {a : Addr} {xs : List V} (e : Same H H') (h : SqT K H a xs) : SqT K H' a xs := by
  rcases h with (h | ⟨o, h⟩) | h
  · exact .inl (.inl (e _ _ h))
  · exact .inl (.inr ⟨o, e _ _ h⟩)
  · exact .inr h
/-! ### data of Lean's own as Python's -/
class Py (α : Type) where
  rep : Fg → Hp → V → α → Prop
  up : ∀ {K : Fg} {B B' : Hp} {v : V} {x : α}, Same B B' → rep K B v x → rep K B' v x
open Py (rep)
instance : Py Int := ⟨fun _ _ v i => v = .int i, fun _ h => h⟩
instance : Py Nat := ⟨fun _ _ v n => v = .int (n : Int), fun _ h => h⟩
instance : Py Bool := ⟨fun _ _ v b => v = .bl b, fun _ h => h⟩
theorem Paired.imp {α β : Type} {F G : α → β → Prop} (f : ∀ a b, F a b → G a b) : ∀ {l : List α} {m : List β}, Paired F l m → Paired G l m
  | _, _, .nil => .nil
  | _, _, .cons r t => .cons (f _ _ r) (Paired.imp f t)
theorem Paired.at {α β : Type} {F : α → β → Prop} : ∀ {l : List α} {m : List β} {i : Nat} {y : β}, Paired F l m → m[i]? = some y → ∃ x, l[i]? = some x ∧ F x y
  | _, _, _, _, .nil, e => by simp at e
  | _, _, 0, _, .cons r _, e => by simp at e; subst e; exact ⟨_, rfl, r⟩
  | _, _, i + 1, y, .cons _ t, e => by
    obtain ⟨x, h1, h2⟩ := Paired.at (i := i) (y := y) t (by simpa using e)
    exact ⟨x, by simpa using h1, h2⟩
theorem Paired.at' {α β : Type} {F : α → β → Prop} : ∀ {l : List α} {m : List β} {i : Nat} {x : α}, Paired F l m → l[i]? = some x → ∃ y, m[i]? = some y ∧ F x y
  | _, _, _, _, .nil, e => by simp at e
  | _, _, 0, _, .cons r _, e => by simp at e; subst e; exact ⟨_, rfl, r⟩
  | _, _, i + 1, y, .cons _ t, e => by
    obtain ⟨x, h1, h2⟩ := Paired.at' (i := i) (x := y) t (by simpa using e)
    exact ⟨x, by simpa using h1, h2⟩
theorem Paired.app {α β : Type} {F : α → β → Prop} : ∀ {l l' : List α} {m m' : List β}, Paired F l m → Paired F l' m' → Paired F (l ++ l') (m ++ m')
  | _, _, _, _, .nil, h => h
  | _, _, _, _, .cons r t, h => .cons r (Paired.app t h)
theorem Paired.put {α β : Type} {F : α → β → Prop} {x : α} {y : β} (r : F x y) : ∀ {l : List α} {m : List β} (i : Nat), Paired F l m → Paired F (l.set i x) (m.set i y)
  | _, _, _, .nil => .nil
  | _, _, 0, .cons _ t => .cons r t
  | _, _, i + 1, .cons q t => .cons q (Paired.put r i t)
theorem Paired.mapR {α β : Type} {F : α → β → Prop} {g : β → α} (h : ∀ y, F (g y) y) : ∀ m : List β, Paired F (m.map g) m
  | [] => .nil
  | y :: m => .cons (h y) (Paired.mapR h m)
theorem Paired.rev {α β : Type} {F : α → β → Prop} {l : List α} {m : List β} (h : Paired F l m) : Paired F l.reverse m.reverse := by
  induction h with
  | nil => exact .nil
  | cons r _ ih => rw [List.reverse_cons, List.reverse_cons]; exact Paired.app ih (.cons r .nil)
theorem Paired.take {α β : Type} {F : α → β → Prop} : ∀ {l : List α} {m : List β} (n : Nat), Paired F l m → Paired F (l.take n) (m.take n)
  | _, _, 0, _ => by simp; exact .nil
  | _, _, n + 1, .nil => by simp; exact .nil
  | _, _, n + 1, .cons r t => by simp only [List.take_succ_cons]; exact .cons r (Paired.take n t)
theorem Paired.drop {α β : Type} {F : α → β → Prop} : ∀ {l : List α} {m : List β} (n : Nat), Paired F l m → Paired F (l.drop n) (m.drop n)
  | _, _, 0, h => by simpa using h
  | _, _, n + 1, .nil => by simp; exact .nil
  | _, _, n + 1, .cons r t => by simp only [List.drop_succ_cons]; exact Paired.drop n t
instance {α : Type} [Py α] : Py (List α) :=
  ⟨fun K B v xs => ∃ a vs, v = .ref a ∧ B a = some (.lst vs) ∧ Paired (rep K B) vs xs,
   fun e ⟨a, vs, h1, h2, h3⟩ => ⟨a, vs, h1, e _ _ h2, Paired.imp (fun _ _ r => Py.up e r) h3⟩⟩
instance {α β : Type} [Py α] [Py β] : Py (α × β) :=
  ⟨fun K B v x => ∃ a v1 v2, v = .ref a ∧ SqT K B a [v1, v2] ∧ rep K B v1 x.1 ∧ rep K B v2 x.2,
   fun e ⟨a, v1, v2, h1, h2, h3, h4⟩ => ⟨a, v1, v2, h1, Same.tup e h2, Py.up e h3, Py.up e h4⟩⟩
instance {α : Type} [Py α] : Py (Option α) :=
  ⟨fun K B v x => match x with | none => v = .non | some y => rep K B v y,
   fun {K B B' v x} e h => by cases x with | none => exact h | some y => exact Py.up (α := α) e h⟩

/-! ### worlds -/
structure Ct where
  K : Fg
  T : List Addr
  S : List Addr
  B0 : Hp
  H0 : Hp
abbrev Lc := List (Addr × HO)
/-- the state of the law's draws stands at s -/
def StAt (K : Fg) (s : Addr) (B H : Hp) : Prop := B s = none ∧ ∃ (a : Addr) (ns : List Int) (pl : Int), H s = some (.lst [.ref a, .int pl]) ∧ SqL K B a (ns.map V.int) ∧ ns ≠ [] ∧ ns.length ≤ 10000
structure Wd (c : Ct) (L : Lc) (B H : Hp) : Prop where
  le : Same B H
  b0 : Same c.B0 B
  fr : ∀ a o, a ∉ c.T → a ∉ c.S → c.H0 a = some o → H a = some o
  nw : ∀ a o, B a = some o → c.B0 a = some o ∨ c.H0 a = none
  st : ∀ s ∈ c.T, StAt c.K s B H
  ts : ∀ s ∈ c.T, s ∉ c.S
  sk : ∀ s ∈ c.S, H s ≠ none
  own : ∀ q ∈ L, B q.1 = none ∧ H q.1 = some q.2 ∧ q.1 ∉ c.T ∧ (c.H0 q.1 = none ∨ q.1 ∈ c.S)
  nd : (L.map Prod.fst).Nodup
section
variable {c : Ct} {L L' : Lc} {B B' B1 B2 H H' H1 H2 : Hp} {p : Addr} {o o' : HO}
theorem Wd.refl {K : Fg} (h : Same B H) : Wd ⟨K, [], [], B, H⟩ [] B H :=
  ⟨h, Same.refl _, fun _ _ _ _ e => e, fun _ _ e => .inl e, by simp, by simp, by simp, by simp, by simp⟩
theorem Wd.fresh (w : Wd c L B H) (h : H p = none) : c.H0 p = none ∧ B p = none ∧ p ∉ c.T ∧ p ∉ c.S := by
  have hT : p ∉ c.T := fun z => by
    obtain ⟨_, _, _, _, e, _⟩ := w.st p z
    rw [h] at e; cases e
  have hS : p ∉ c.S := fun z => w.sk p z h
  refine ⟨?_, w.le.free h, hT, hS⟩
  cases e : c.H0 p with
  | none => rfl
  | some u => rw [w.fr p u hT hS e] at h; cases h
theorem StAt.keep {K : Fg} {s : Addr} (h : StAt K s B H) (e : Same B B') (hs : H' s = H s) (hn : B' s = none) : StAt K s B' H' := by
  obtain ⟨_, a, ns, pl, h1, h2, h3⟩ := h
  exact ⟨hn, a, ns, pl, by rw [hs]; exact h1, e.seq h2, h3⟩
/-- a new object, of the base from then on -/
theorem Wd.new (w : Wd c L B H) (h : H p = none) : Wd c L (upd B p o) (upd H p o) := by
  obtain ⟨h0, hB, hT, hS⟩ := w.fresh h
  have ne : ∀ {a}, H a ≠ none → a ≠ p := fun q z => q (z ▸ h)
  refine ⟨fun b u e => ?_, w.b0.trans (Same.up1 hB), fun a u h1 h2 h3 => ?_, fun a u e => ?_, fun s hs => ?_, w.ts, fun s hs => ?_, fun q hq => ?_, w.nd⟩
  · by_cases z : b = p
    · subst z; rw [upd_same] at e ⊢; exact e
    · rw [upd_ne z] at e ⊢; exact w.le _ _ e
  · have q := w.fr a u h1 h2 h3
    rw [upd_ne (ne_of_none q h)]; exact q
  · by_cases z : a = p
    · subst z; exact .inr h0
    · rw [upd_ne z] at e; exact w.nw a u e
  · have z : s ≠ p := fun z => hT (z ▸ hs)
    exact (w.st s hs).keep (Same.up1 hB) (upd_ne z) (by rw [upd_ne z]; exact (w.st s hs).1)
  · have z : s ≠ p := fun z => hS (z ▸ hs)
    rw [upd_ne z]; exact w.sk s hs
  · obtain ⟨q1, q2, q3⟩ := w.own q hq
    have z : q.1 ≠ p := ne_of_none q2 h
    rw [upd_ne z, upd_ne z]
    exact ⟨q1, q2, q3⟩
/-- a new object, owned -/
theorem Wd.mine (w : Wd c L B H) (h : H p = none) : Wd c ((p, o) :: L) B (upd H p o) := by
  obtain ⟨h0, hB, hT, hS⟩ := w.fresh h
  refine ⟨fun b u e => ?_, w.b0, fun a u h1 h2 h3 => ?_, w.nw, fun s hs => ?_, w.ts, fun s hs => ?_, fun q hq => ?_, ?_⟩
  · rw [upd_ne (ne_of_none e hB)]; exact w.le _ _ e
  · have q := w.fr a u h1 h2 h3
    rw [upd_ne (ne_of_none q h)]; exact q
  · have z : s ≠ p := fun z => hT (z ▸ hs)
    exact (w.st s hs).keep (Same.refl _) (upd_ne z) (w.st s hs).1
  · have z : s ≠ p := fun z => hS (z ▸ hs)
    rw [upd_ne z]; exact w.sk s hs
  · rcases List.mem_cons.mp hq with rfl | hq
    · exact ⟨hB, upd_same, hT, .inl h0⟩
    · obtain ⟨q1, q2, q3⟩ := w.own q hq
      rw [upd_ne (ne_of_none q2 h)]
      exact ⟨q1, q2, q3⟩
  · rw [List.map_cons, List.nodup_cons]
    refine ⟨fun z => ?_, w.nd⟩
    obtain ⟨q, hq, e⟩ := List.mem_map.mp z
    have q2 := (w.own q hq).2.1
    rw [e, h] at q2; cases q2
/-- fewer owned -/
theorem Wd.sub (w : Wd c L B H) (h : ∀ q ∈ L', q ∈ L) (hn : (L'.map Prod.fst).Nodup) : Wd c L' B H :=
  ⟨w.le, w.b0, w.fr, w.nw, w.st, w.ts, w.sk, fun q hq => w.own q (h q hq), hn⟩
theorem Wd.nil (w : Wd c L B H) : Wd c [] B H := w.sub (by simp) (by simp)
theorem Wd.tail {q : Addr × HO} (w : Wd c (q :: L) B H) : Wd c L B H := w.sub (fun x hx => List.mem_cons_of_mem _ hx) (List.nodup_cons.mp w.nd).2
theorem Wd.swap {q r : Addr × HO} (w : Wd c (q :: r :: L) B H) : Wd c (r :: q :: L) B H := w.sub (fun x hx => by
    rcases List.mem_cons.mp hx with h | h
    · subst h; exact List.mem_cons_of_mem _ List.mem_cons_self
    · rcases List.mem_cons.mp h with h | h
      · subst h; exact List.mem_cons_self
      · exact List.mem_cons_of_mem _ (List.mem_cons_of_mem _ h)) (by
    have h := w.nd
    simp only [List.map_cons, List.nodup_cons, List.mem_cons, not_or] at h ⊢
    exact ⟨⟨fun e => h.1.1 e.symm, h.2.1⟩, h.1.2, h.2.2⟩)
theorem Wd.head (w : Wd c ((p, o) :: L) B H) : B p = none ∧ H p = some o := ⟨(w.own _ List.mem_cons_self).1, (w.own _ List.mem_cons_self).2.1⟩
/-- an owned object changes -/
theorem Wd.put (w : Wd c ((p, o) :: L) B H) (o' : HO) : Wd c ((p, o') :: L) B (upd H p o') := by
  obtain ⟨hB, hH, hT, h0⟩ := w.own _ List.mem_cons_self
  have hp : p ∉ L.map Prod.fst := (List.nodup_cons.mp w.nd).1
  refine ⟨fun b u e => ?_, w.b0, fun a u h1 h2 h3 => ?_, w.nw, fun s hs => ?_, w.ts, fun s hs => ?_, fun q hq => ?_, w.nd⟩
  · rw [upd_ne (ne_of_none e hB)]; exact w.le _ _ e
  · have z : a ≠ p := fun z => by
      subst z
      rcases h0 with h0 | h0
      · have h0' : c.H0 a = none := h0
        rw [h0'] at h3; cases h3
      · exact h2 h0
    rw [upd_ne z]; exact w.fr a u h1 h2 h3
  · have z : s ≠ p := fun z => hT (z ▸ hs)
    exact (w.st s hs).keep (Same.refl _) (upd_ne z) (w.st s hs).1
  · by_cases z : s = p
    · subst z; rw [upd_same]; simp
    · rw [upd_ne z]; exact w.sk s hs
  · rcases List.mem_cons.mp hq with rfl | hq
    · exact ⟨hB, upd_same, hT, h0⟩
    · have z : q.1 ≠ p := fun z => hp (z ▸ List.mem_map_of_mem hq)
      obtain ⟨q1, q2, q3⟩ := w.own q (List.mem_cons_of_mem _ hq)
      rw [upd_ne z]
      exact ⟨q1, q2, q3⟩
/-- an owned object of the def's own becomes part of the base -/
theorem Wd.freeze (w : Wd c ((p, o) :: L) B H) (hS : p ∉ c.S) : Wd c L (upd B p o) H := by
  obtain ⟨hB, hH, hT, h0⟩ := w.own _ List.mem_cons_self
  have h0' : c.H0 p = none := h0.elim id fun z => (hS z).elim
  have hp : p ∉ L.map Prod.fst := (List.nodup_cons.mp w.nd).1
  refine ⟨fun b u e => ?_, w.b0.trans (Same.up1 hB), w.fr, fun a u e => ?_, fun s hs => ?_, w.ts, w.sk, fun q hq => ?_, (List.nodup_cons.mp w.nd).2⟩
  · by_cases z : b = p
    · subst z; rw [upd_same] at e; cases e; exact hH
    · rw [upd_ne z] at e; exact w.le _ _ e
  · by_cases z : a = p
    · subst z; exact .inr h0'
    · rw [upd_ne z] at e; exact w.nw a u e
  · have z : s ≠ p := fun z => hT (z ▸ hs)
    exact (w.st s hs).keep (Same.up1 hB) rfl (by rw [upd_ne z]; exact (w.st s hs).1)
  · have z : q.1 ≠ p := fun z => hp (z ▸ List.mem_map_of_mem hq)
    obtain ⟨q1, q2, q3⟩ := w.own q (List.mem_cons_of_mem _ hq)
    rw [upd_ne z]
    exact ⟨q1, q2, q3⟩
/-- what a step that changes no owned object does -/
def Stp (c : Ct) (B H B' H' : Hp) : Prop := Same B B' ∧ ∀ L, Wd c L B H → Wd c L B' H'
theorem Stp.refl : Stp c B H B H := ⟨Same.refl _, fun _ w => w⟩
theorem Stp.trans (a : Stp c B H B1 H1) (b : Stp c B1 H1 B2 H2) : Stp c B H B2 H2 := ⟨a.1.trans b.1, fun L w => b.2 L (a.2 L w)⟩
theorem Stp.new (w : Wd c L B H) (h : H p = none) : Stp c B H (upd B p o) (upd H p o) := ⟨Same.up1 (w.fresh h).2.1, fun _ w' => w'.new h⟩
/-- behind a call of a def that may change the states T' (of ours) and nothing else -/
theorem Wd.call {T' : List Addr} (w : Wd c L B H) (hT : ∀ s ∈ T', s ∈ c.T) (u : Wd ⟨c.K, T', [], B, H⟩ [] B' H') : Wd c L B' H' := by
  have old : ∀ a, H a ≠ none → B a = none → B' a = none := fun a h hb => by
    cases e : B' a with
    | none => rfl
    | some v =>
      rcases u.nw a v e with z | z
      · have z' : B a = some v := z
        rw [hb] at z'; cases z'
      · exact (h z).elim
  refine ⟨u.le, w.b0.trans u.b0, fun a v h1 h2 h3 => u.fr a v (fun z => h1 (hT a z)) (by simp) (w.fr a v h1 h2 h3), fun a v e => ?_, fun s hs => ?_, w.ts, fun s hs => ?_, fun q hq => ?_, w.nd⟩
  · rcases u.nw a v e with z | z
    · exact w.nw a v z
    · exact .inr (w.fresh z).1
  · by_cases z : s ∈ T'
    · exact u.st s z
    · have q := w.st s hs
      obtain ⟨q0, a, ns, pl, q1, q2⟩ := id q
      have q3 := u.fr s _ z (by simp) q1
      exact q.keep u.b0 (q3.trans q1.symm) (old s (by rw [q1]; simp) q0)
  · intro z
    cases e : H s with
    | none => exact w.sk s hs e
    | some v =>
      have q := u.fr s v (fun z => w.ts s (hT s z) hs) (by simp) e
      rw [z] at q; cases q
  · obtain ⟨q1, q2, q3, q4⟩ := w.own q hq
    exact ⟨old _ (by rw [q2]; simp) q1, u.fr _ _ (fun z => q3 (hT _ z)) (by simp) q2, q3, q4⟩
theorem Stp.call {T' : List Addr} (hT : ∀ s ∈ T', s ∈ c.T) (u : Wd ⟨c.K, T', [], B, H⟩ [] B' H') : Stp c B H B' H' := ⟨u.b0, fun _ w => w.call hT u⟩
/-- entering a callee -/
theorem Wd.enter {T' : List Addr} (w : Wd c L B H) (hT : ∀ s ∈ T', s ∈ c.T) : Wd ⟨c.K, T', [], B, H⟩ [] B H :=
  ⟨w.le, Same.refl _, fun _ _ _ _ e => e, fun _ _ e => .inl e, fun s hs => w.st s (hT s hs), by simp, by simp, by simp, by simp⟩
end
end Nz

/-! NzE: what expressions evaluate to, over the worlds of NzL. -/
namespace Nz
open Py (rep)
open PySem PySem.Spec PyProof.Rows L2
def EvR (c : Ct) (L : Lc) (te : TE) (σ : L2.St) (B : Hp) (R : V → Hp → Prop) : Prop :=
  ∀ B1 H, Same B B1 → Wd c L B1 H → ∀ Q : VK, (∀ v B2 H2, Stp c B1 H B2 H2 → R v B2 → Q v H2) → te σ H Q
abbrev EvV (c : Ct) (L : Lc) (te : TE) (σ : L2.St) (B : Hp) (v : V) : Prop := EvR c L te σ B fun w _ => w = v
abbrev EvP {α : Type} [Py α] (c : Ct) (L : Lc) (te : TE) (σ : L2.St) (B : Hp) (x : α) : Prop := EvR c L te σ B fun w B' => rep c.K B' w x
/-- a new list, nobody's yet -/
def EvN (c : Ct) (L : Lc) (te : TE) (σ : L2.St) (B : Hp) (O : HO → Hp → Prop) : Prop :=
  ∀ B1 H, Same B B1 → Wd c L B1 H → ∀ Q : VK, (∀ p B2 H2 o, Same B1 B2 → p ∉ c.S → (∀ L', Wd c L' B1 H → Wd c ((p, o) :: L') B2 H2) → O o B2 → Q (.ref p) H2) → te σ H Q
abbrev LstOf {α : Type} [Py α] (K : Fg) (xs : List α) : HO → Hp → Prop := fun o B => ∃ vs, o = .lst vs ∧ Paired (rep K B) vs xs
abbrev EvL {α : Type} [Py α] (c : Ct) (L : Lc) (te : TE) (σ : L2.St) (B : Hp) (xs : List α) : Prop := EvN c L te σ B (LstOf c.K xs)
def EvT (c : Ct) (L : Lc) (tt : TT) (σ : L2.St) (B : Hp) (R : Bool → Prop) : Prop :=
  ∀ B1 H, Same B B1 → Wd c L B1 H → ∀ Q : Bool → Hp → Prop, (∀ b B2 H2, Stp c B1 H B2 H2 → R b → Q b H2) → tt σ H Q
abbrev EvB (c : Ct) (L : Lc) (tt : TT) (σ : L2.St) (B : Hp) (b : Bool) : Prop := EvT c L tt σ B fun x => x = b
def EvA (c : Ct) (L : Lc) (ta : TA) (σ : L2.St) (B : Hp) (R : List V → Hp → Prop) : Prop :=
  ∀ B1 H, Same B B1 → Wd c L B1 H → ∀ Q : List V → Hp → Prop, (∀ vs B2 H2, Stp c B1 H B2 H2 → R vs B2 → Q vs H2) → ta σ H Q
def EvO (c : Ct) (L : Lc) (to : TO) (σ : L2.St) (B : Hp) (i : Option Int) : Prop :=
  ∀ B1 H, Same B B1 → Wd c L B1 H → ∀ Q : Option Int → Hp → Prop, (∀ B2 H2, Stp c B1 H B2 H2 → Q i H2) → to σ H Q
section
variable {c : Ct} {L : Lc} {σ : L2.St} {B : Hp} {ta tb te : TE} {x y z v : V} {r : R2} {R Ra : V → Hp → Prop} {α β : Type} [Py α] [Py β]
theorem EvR.imp (h : EvR c L te σ B Ra) (f : ∀ v B', Same B B' → Ra v B' → R v B') : EvR c L te σ B R := fun B1 H e w Q q => h B1 H e w Q fun v B2 H2 s rv => q v B2 H2 s (f v B2 (e.trans s.1) rv)
theorem EvR.up {B' : Hp} (e : Same B B') (h : EvR c L te σ B R) : EvR c L te σ B' R := fun B1 H e1 => h B1 H (e.trans e1)
theorem EvR.weak {L' : Lc} (h : EvR c L te σ B R) (hs : ∀ q ∈ L, q ∈ L') (hn : (L.map Prod.fst).Nodup) : EvR c L' te σ B R := fun B1 H e w => h B1 H e (w.sub hs hn)
theorem EvR.push {q : Addr × HO} (h : EvR c L te σ B R) : EvR c (q :: L) te σ B R := fun B1 H e w => h B1 H e w.tail
theorem EvT.push {tt : TT} {Rb : Bool → Prop} {q : Addr × HO} (h : EvT c L tt σ B Rb) : EvT c (q :: L) tt σ B Rb := fun B1 H e w => h B1 H e w.tail
theorem EvR.of0 (h : EvR c [] te σ B R) : EvR c L te σ B R := fun B1 H e w => h B1 H e w.nil
theorem EvT.of0 {tt : TT} {Rb : Bool → Prop} (h : EvT c [] tt σ B Rb) : EvT c L tt σ B Rb := fun B1 H e w => h B1 H e w.nil
theorem EvT.imp {tt : TT} {Rb Rc : Bool → Prop} (h : EvT c L tt σ B Rb) (f : ∀ b, Rb b → Rc b) : EvT c L tt σ B Rc := fun B1 H e w Q q => h B1 H e w Q fun v B2 H2 s rv => q v B2 H2 s (f v rv)
/-! ### names, constants -/
theorem ev_var {i : Nat} {x : α} (h : σ[i]? = some (some v)) (r : rep c.K B v x) : EvP c L (tVar i) σ B x := fun B1 H e w Q q => ⟨v, h, q v B1 H .refl (Py.up e r)⟩
theorem ev_v {i : Nat} (h : σ[i]? = some (some v)) : EvV c L (tVar i) σ B v := fun B1 H e w Q q => ⟨v, h, q v B1 H .refl rfl⟩
theorem ev_varR {i : Nat} (h : σ[i]? = some (some v)) (r : ∀ B', Same B B' → R v B') : EvR c L (tVar i) σ B R := fun B1 H e w Q q => ⟨v, h, q v B1 H .refl (r B1 e)⟩
theorem ev_c : EvV c L (tC v) σ B v := fun B1 H e w Q q => q v B1 H .refl rfl
/-! ### operators -/
theorem ev_opR {Rb : V → V → Hp → Prop} (ha : EvR c L ta σ B Ra) (hb : ∀ x B1, Same B B1 → Ra x B1 → EvR c L tb σ B1 (Rb x))
    (hr : ∀ x y B1 B2 H, Same B B1 → Same B1 B2 → Ra x B1 → Rb x y B2 → Wd c L B2 H → ∀ Q : VK, (∀ v B3 H3, Stp c B2 H B3 H3 → R v B3 → Q v H3) → r x y H Q) : EvR c L (tOp r ta tb) σ B R := fun B1 H e w Q q =>
  ha B1 H e w _ fun x B2 H2 s2 rx => hb x B2 (e.trans s2.1) rx B2 H2 (Same.refl _) (s2.2 _ w) _ fun y B3 H3 s3 ry =>
    hr x y B2 B3 H3 (e.trans s2.1) s3.1 rx ry ((s2.trans s3).2 _ w) Q fun v B4 H4 s4 rv => q v B4 H4 ((s2.trans s3).trans s4) rv
theorem ev_op (ha : EvV c L ta σ B x) (hb : EvV c L tb σ B y) (hr : ∀ H (Q : VK), Q z H → r x y H Q) : EvV c L (tOp r ta tb) σ B z :=
  ev_opR ha (fun _ _ e _ => hb.up e) fun x' y' B1 B2 H _ _ ex ey _ Q q => by
    subst ex ey
    exact hr H Q (q _ B2 H .refl rfl)
theorem ev_I0 {g : Int → Int → V} {i j : Int} (ha : EvV c L ta σ B (.int i)) (hb : EvV c L tb σ B (.int j)) : EvV c L (tOp (rI0 g) ta tb) σ B (g i j) := ev_op ha hb fun H Q q => ⟨i, j, rfl, rfl, q⟩
theorem ev_I {C : Int → Int → Prop} {g : Int → Int → V} {i j : Int} (ha : EvV c L ta σ B (.int i)) (hb : EvV c L tb σ B (.int j)) (hC : C i j) : EvV c L (tOp (rI C g) ta tb) σ B (g i j) := ev_op ha hb fun H Q q => ⟨i, j, rfl, rfl, hC, q⟩
theorem ev_eq (ha : EvV c L ta σ B x) (hb : EvV c L tb σ B y) (hs : scal x y = true := by rfl) : EvV c L (tOp rEq ta tb) σ B (.bl (decide (x = y))) := ev_op ha hb fun H Q q => ⟨hs, q⟩
theorem ev_ne (ha : EvV c L ta σ B x) (hb : EvV c L tb σ B y) (hs : scal x y = true := by rfl) : EvV c L (tOp rNe ta tb) σ B (.bl (!decide (x = y))) := ev_op ha hb fun H Q q => ⟨hs, q⟩
theorem ev_un {ru : V → Hp → VK → Prop} (ha : EvV c L ta σ B x) (hr : ∀ H (Q : VK), Q z H → ru x H Q) : EvV c L (tUn ru ta) σ B z := fun B1 H e w Q q =>
  ha B1 H e w _ fun x' B2 H2 s2 ex => by
    subst ex
    exact hr H2 Q (q _ B2 H2 s2 rfl)
theorem ev_is {w : V} (h : EvV c L te σ B v) (e : v = w) : EvV c L te σ B w := e ▸ h
theorem ev_isP {x y : α} (h : EvP c L te σ B x) (e : x = y) : EvP c L te σ B y := e ▸ h
/-! ### tests -/
variable {t u : TT} {Rb Rc : Bool → Prop} {b b' : Bool}
theorem et_testR (h : EvR c L te σ B fun v _ => ∃ b, v = .bl b ∧ Rb b) : EvT c L (tTest te) σ B Rb := fun B1 H e w Q q => h B1 H e w _ fun v B2 H2 s ⟨b, e, rb⟩ => ⟨b, e, q b B2 H2 s rb⟩
theorem et_test (h : EvV c L te σ B (.bl b)) : EvB c L (tTest te) σ B b := fun B1 H e w Q q => h B1 H e w _ fun v B2 H2 s e => ⟨b, e, q b B2 H2 s rfl⟩
theorem et_B (h : EvV c L te σ B (.bl b)) : EvB c L (tB te) σ B b := fun B1 H e w Q q => h B1 H e w _ fun v B2 H2 s e => ⟨b, e, q b B2 H2 s rfl⟩
theorem et_BR (h : EvR c L te σ B fun v _ => ∃ b, v = .bl b ∧ Rb b) : EvT c L (tB te) σ B Rb := fun B1 H e w Q q => h B1 H e w _ fun v B2 H2 s ⟨b, e, rb⟩ => ⟨b, e, q b B2 H2 s rb⟩
theorem et_andR (h1 : EvT c L t σ B Rb) (h2 : Rb true → EvT c L u σ B Rc) (h3 : Rb false → Rc false) : EvT c L (tAnd t u) σ B Rc := fun B1 H e w Q q =>
  h1 B1 H e w _ fun a B2 H2 s2 ra => by
    cases a with
    | true =>
      refine iteT ?_
      exact h2 ra B2 H2 (e.trans s2.1) (s2.2 _ w) Q fun b B3 H3 s3 rb => q b B3 H3 (s2.trans s3) rb
    | false =>
      refine iteF ?_
      exact q false B2 H2 s2 (h3 ra)
theorem et_orR (h1 : EvT c L t σ B Rb) (h2 : Rb false → EvT c L u σ B Rc) (h3 : Rb true → Rc true) : EvT c L (tOr t u) σ B Rc := fun B1 H e w Q q =>
  h1 B1 H e w _ fun a B2 H2 s2 ra => by
    cases a with
    | false =>
      refine iteF ?_
      exact h2 ra B2 H2 (e.trans s2.1) (s2.2 _ w) Q fun b B3 H3 s3 rb => q b B3 H3 (s2.trans s3) rb
    | true =>
      refine iteT ?_
      exact q true B2 H2 s2 (h3 ra)
theorem et_and (h1 : EvB c L t σ B b) (h2 : b = true → EvB c L u σ B b') : EvB c L (tAnd t u) σ B (b && b') := et_andR h1 (fun e => (h2 e.symm).imp fun x hx => by subst hx; rw [← e]; rfl) fun e => by rw [← e]; rfl
theorem et_or (h1 : EvB c L t σ B b) (h2 : b = false → EvB c L u σ B b') : EvB c L (tOr t u) σ B (b || b') := et_orR h1 (fun e => (h2 e.symm).imp fun x hx => by subst hx; rw [← e]; rfl) fun e => by rw [← e]; rfl
theorem et_notR (h1 : EvT c L t σ B fun b => Rb (!b)) : EvT c L (tNot t) σ B Rb := fun B1 H e w Q q => h1 B1 H e w _ fun a B2 H2 s2 ra => q _ B2 H2 s2 ra
theorem et_not (h1 : EvB c L t σ B b) : EvB c L (tNot t) σ B (!b) := et_notR (h1.imp fun x hx => by rw [hx])
theorem et_is (h : EvB c L t σ B b) (e : b = b') : EvB c L t σ B b' := e ▸ h
theorem et_yes : EvB c L tYes σ B true := fun B1 H e w Q q => q true B1 H .refl rfl
/-- a value chosen by a test -/
theorem ev_if (ht : EvT c L t σ B Rb) (h1 : Rb true → EvR c L ta σ B R) (h2 : Rb false → EvR c L tb σ B R) : EvR c L (tIf t ta tb) σ B R := fun B1 H e w Q q =>
  ht B1 H e w _ fun a B2 H2 s2 ra => by
    cases a with
    | true =>
      refine iteT ?_
      exact h1 ra B2 H2 (e.trans s2.1) (s2.2 _ w) Q fun v B3 H3 s3 rv => q v B3 H3 (s2.trans s3) rv
    | false =>
      refine iteF ?_
      exact h2 ra B2 H2 (e.trans s2.1) (s2.2 _ w) Q fun v B3 H3 s3 rv => q v B3 H3 (s2.trans s3) rv
/-- and, or, not as values (of bools) -/
theorem ev_andV (h1 : EvV c L ta σ B (.bl b)) (h2 : b = true → EvV c L tb σ B (.bl b')) : EvV c L (tAndV ta tb) σ B (.bl (b && b')) := fun B1 H e w Q q =>
  h1 B1 H e w _ fun x B2 H2 s2 ex => ⟨b, ex, by
    cases b with
    | true =>
      refine iteT ?_
      exact h2 rfl B2 H2 (e.trans s2.1) (s2.2 _ w) Q fun v B3 H3 s3 rv => q v B3 H3 (s2.trans s3) rv
    | false =>
      refine iteF ?_
      exact q _ B2 H2 s2 rfl⟩
theorem ev_orV (h1 : EvV c L ta σ B (.bl b)) (h2 : b = false → EvV c L tb σ B (.bl b')) : EvV c L (tOrV ta tb) σ B (.bl (b || b')) := fun B1 H e w Q q =>
  h1 B1 H e w _ fun x B2 H2 s2 ex => ⟨b, ex, by
    cases b with
    | false =>
      refine iteF ?_
      exact h2 rfl B2 H2 (e.trans s2.1) (s2.2 _ w) Q fun v B3 H3 s3 rv => q v B3 H3 (s2.trans s3) rv
    | true =>
      refine iteT ?_
      exact q _ B2 H2 s2 rfl⟩
theorem ev_notV (h1 : EvV c L ta σ B (.bl b)) : EvV c L (tNotV ta) σ B (.bl (!b)) := fun B1 H e w Q q => h1 B1 H e w _ fun x B2 H2 s2 ex => ⟨b, ex, q _ B2 H2 s2 rfl⟩
/-- a chain of two comparisons of ints -/
theorem ev_chain {g g' : Int → Int → Bool} {tc : TE} {i j k : Int} (h1 : EvV c L ta σ B (.int i)) (h2 : EvV c L tb σ B (.int j)) (h3 : EvV c L tc σ B (.int k)) :
    EvV c L (tChain (rI0 fun i j => .bl (g i j)) (rI0 fun i j => .bl (g' i j)) ta tb tc) σ B (.bl (g i j && g' j k)) := fun B1 H e w Q q =>
  h1 B1 H e w _ fun x B2 H2 s2 ex => h2 B2 H2 (e.trans s2.1) (s2.2 _ w) _ fun y B3 H3 s3 ey => ⟨i, j, ex, ey, g i j, rfl, by
    cases hg : g i j with
    | true =>
      refine iteT ?_
      exact h3 B3 H3 ((e.trans s2.1).trans s3.1) ((s2.trans s3).2 _ w) _ fun z B4 H4 s4 ez => ⟨j, k, ey, ez, q _ B4 H4 ((s2.trans s3).trans s4) (by simp [hg])⟩
    | false =>
      refine iteF ?_
      exact q _ B3 H3 (s2.trans s3) (by simp [hg])⟩
/-! ### argument lists -/
variable {ta' : TA} {RA : List V → Hp → Prop}
theorem ea_nil (h : ∀ B', Same B B' → RA [] B') : EvA c L tNil σ B RA := fun B1 H e w Q q => q [] B1 H .refl (h B1 e)
theorem ea_cons (h1 : EvR c L ta σ B R) (h2 : ∀ x B1, Same B B1 → R x B1 → EvA c L ta' σ B1 fun xs B2 => RA (x :: xs) B2) : EvA c L (tCons ta ta') σ B RA := fun B1 H e w Q q =>
  h1 B1 H e w _ fun x B2 H2 s2 rx => h2 x B2 (e.trans s2.1) rx B2 H2 (Same.refl _) (s2.2 _ w) _ fun xs B3 H3 s3 rs => q _ B3 H3 (s2.trans s3) rs
theorem EvA.imp {RA' : List V → Hp → Prop} (h : EvA c L ta' σ B RA) (f : ∀ v B', Same B B' → RA v B' → RA' v B') : EvA c L ta' σ B RA' := fun B1 H e w Q q => h B1 H e w Q fun v B2 H2 s rv => q v B2 H2 s (f v B2 (e.trans s.1) rv)
theorem ea1 (h : EvR c L ta σ B R) : EvA c L (tCons ta tNil) σ B (fun vs B' => ∃ x, vs = [x] ∧ R x B') := fun B1 H e w Q q => h B1 H e w _ fun x B2 H2 s2 rx => q _ B2 H2 s2 ⟨x, rfl, rx⟩
/-- a call of a built-in by values, that changes nothing -/
theorem ev_cb1 {rc : List V → Hp → VK → Prop} (h : EvR c L ta σ B Ra) (hr : ∀ x B1 H, Same B B1 → Ra x B1 → Wd c L B1 H → ∀ Q : VK, (∀ v B3 H3, Stp c B1 H B3 H3 → R v B3 → Q v H3) → rc [x] H Q) : EvR c L (tCB rc (tCons ta tNil)) σ B R := fun B1 H e w Q q =>
  h B1 H e w _ fun x B2 H2 s2 rx => hr x B2 H2 (e.trans s2.1) rx (s2.2 _ w) Q fun v B3 H3 s3 rv => q v B3 H3 (s2.trans s3) rv
/-! ### new lists -/
theorem ev_of {xs : List α} (h : EvL c L te σ B xs) : EvP c L te σ B xs := fun B1 H e w Q q => h B1 H e w Q fun p B2 H2 o s hS k ⟨vs, eo, hp⟩ => by
  subst eo
  refine q (.ref p) (upd B2 p (.lst vs)) H2 ⟨s.trans (Same.up1 ((k _ w).head).1), fun L' w' => (k L' w').freeze hS⟩ ⟨p, vs, rfl, upd_same, Paired.imp (fun _ _ r => Py.up (Same.up1 ((k _ w).head).1) r) hp⟩
theorem ev_ofR {xs : List α} (h : EvL c L te σ B xs) : EvR c L te σ B (fun w B' => rep c.K B' w xs) := ev_of h
theorem EvN.up {O : HO → Hp → Prop} {B' : Hp} (e : Same B B') (h : EvN c L te σ B O) : EvN c L te σ B' O := fun B1 H e1 => h B1 H (e.trans e1)
theorem EvN.of0 {O : HO → Hp → Prop} (h : EvN c [] te σ B O) : EvN c L te σ B O := fun B1 H e w => h B1 H e w.nil
theorem EvN.imp {O O' : HO → Hp → Prop} (h : EvN c L te σ B O) (f : ∀ o B', Same B B' → O o B' → O' o B') : EvN c L te σ B O' := fun B1 H e w Q q => h B1 H e w Q fun p B2 H2 o s hS k ho => q p B2 H2 o s hS k (f o B2 (e.trans s) ho)
/-- a written list -/
theorem el_lst {O : HO → Hp → Prop} (h : EvA c L ta' σ B fun vs B' => vs.length ≤ sizeLine ∧ O (.lst vs) B') : EvN c L (tLst ta') σ B O := fun B1 H e w Q q =>
  h B1 H e w _ fun vs B2 H2 s2 ⟨hl, ho⟩ => ⟨hl, fun p hp => q p B2 _ (.lst vs) s2.1 ((s2.2 _ w).fresh hp).2.2.2 (fun L' w' => (s2.2 L' w').mine hp) ho⟩
theorem el_nil : EvL c L (tLst tNil) σ B ([] : List α) := el_lst (ea_nil fun _ _ => ⟨Nat.zero_le _, [], rfl, .nil⟩)
theorem ev_tup (h : EvA c L ta' σ B fun vs B' => vs.length ≤ sizeLine ∧ ∀ p, B' p = none → R (.ref p) (upd B' p (.tup vs))) : EvR c L (tTup ta') σ B R := fun B1 H e w Q q =>
  h B1 H e w _ fun vs B2 H2 s2 ⟨hl, ho⟩ => ⟨hl, fun p hp => q (.ref p) _ _ (s2.trans (Stp.new (s2.2 _ w) hp)) (ho p ((s2.2 _ w).fresh hp).2.1)⟩
theorem ev_pair {x : α} {y : β} (h1 : EvP c L ta σ B x) (h2 : EvP c L tb σ B y) : EvP c L (tTup (tCons ta (tCons tb tNil))) σ B (x, y) :=
  ev_tup (ea_cons h1 fun v1 B1 e1 r1 => ea_cons (h2.up e1) fun v2 B2 e2 r2 => ea_nil fun B3 e3 => ⟨by show 2 ≤ sizeLine; decide, fun p hp =>
    ⟨p, v1, v2, rfl, .inl (.inl upd_same), Py.up ((e2.trans e3).trans (Same.up1 hp)) r1, Py.up (e3.trans (Same.up1 hp)) r2⟩⟩)
/-! ### lists read -/
theorem getD_at {xs : List α} {i : Nat} {x : α} (h : xs[i]? = some x) : i < xs.length := (List.getElem?_eq_some_iff.mp h).1
theorem ev_ix {xs : List α} {x : α} {i : Int} (ha : EvP c L ta σ B xs) (hb : EvV c L tb σ B (.int i)) (h0 : 0 ≤ i) (hx : xs[i.toNat]? = some x) : EvP c L (tOp (rIxL c.K) ta tb) σ B x :=
  ev_opR ha (fun _ _ e _ => hb.up e) fun x' y' B1 B2 H e1 e2 rx ey w Q q => by
    subst ey
    obtain ⟨a, vs, rfl, hB, hp⟩ := rx
    obtain ⟨v, hv, rv⟩ := Paired.at hp hx
    refine ⟨a, vs, i, v, rfl, rfl, .inl (.inl (w.le _ _ (e2 _ _ hB))), ?_, q v B2 H .refl (Py.up e2 rv)⟩
    have e3 : ((i.toNat : Nat) : Int) = i := Int.toNat_of_nonneg h0
    rw [← e3]
    exact atI_nat hv
theorem ev_ixN {xs : List α} {x : α} {i : Nat} (ha : EvP c L ta σ B xs) (hb : EvP c L tb σ B i) (hx : xs[i]? = some x) : EvP c L (tOp (rIxL c.K) ta tb) σ B x := ev_ix ha hb (by omega) (by simpa using hx)
theorem ev_ixT1 {x : α} {y : β} (ha : EvP c L ta σ B (x, y)) (hb : EvV c L tb σ B (.int 0)) : EvP c L (tOp (rIxT c.K) ta tb) σ B x :=
  ev_opR ha (fun _ _ e _ => hb.up e) fun x' y' B1 B2 H e1 e2 rx ey w Q q => by
    subst ey
    obtain ⟨a, v1, v2, rfl, hB, h1, h2⟩ := rx
    exact ⟨a, _, 0, v1, rfl, rfl, Same.tup (e2.trans w.le) hB, rfl, q v1 B2 H .refl (Py.up e2 h1)⟩
theorem ev_ixT2 {x : α} {y : β} (ha : EvP c L ta σ B (x, y)) (hb : EvV c L tb σ B (.int 1)) : EvP c L (tOp (rIxT c.K) ta tb) σ B y :=
  ev_opR ha (fun _ _ e _ => hb.up e) fun x' y' B1 B2 H e1 e2 rx ey w Q q => by
    subst ey
    obtain ⟨a, v1, v2, rfl, hB, h1, h2⟩ := rx
    exact ⟨a, _, 1, v2, rfl, rfl, Same.tup (e2.trans w.le) hB, rfl, q v2 B2 H .refl (Py.up e2 h2)⟩
/-- len(xs) -/
def rLenQ (K : Fg) : List V → Hp → VK → Prop := fun xs H Q => ∃ p ys, xs = [.ref p] ∧ (SqL K H p ys ∨ SqT K H p ys) ∧ Q (.int ys.length) H
theorem Paired.len {α β : Type} {F : α → β → Prop} {l : List α} {m : List β} (h : Paired F l m) : l.length = m.length := PySem.Paired.length h
theorem ev_len {xs : List α} (ha : EvP c L ta σ B xs) : EvV c L (tCB (rLenQ c.K) (tCons ta tNil)) σ B (.int xs.length) :=
  ev_cb1 ha fun x B1 H e rx w Q q => by
    obtain ⟨a, vs, rfl, hB, hp⟩ := rx
    exact ⟨a, vs, rfl, .inl (.inl (.inl (w.le _ _ hB))), q _ B1 H .refl (by rw [Paired.len hp])⟩
/-- an owned list read -/
theorem ev_ixO {p : Addr} {vs : List V} {i : Int} {v : V} (hL : (p, .lst vs) ∈ L) (ha : EvV c L ta σ B (.ref p)) (hb : EvV c L tb σ B (.int i)) (h0 : 0 ≤ i) (hv : vs[i.toNat]? = some v) : EvV c L (tOp (rIxL c.K) ta tb) σ B v :=
  ev_opR ha (fun _ _ e _ => hb.up e) fun x' y' B1 B2 H e1 e2 ex ey w Q q => by
    subst ex ey
    refine ⟨p, vs, i, v, rfl, rfl, .inl (.inl (w.own _ hL).2.1), ?_, q v B2 H .refl rfl⟩
    have e3 : ((i.toNat : Nat) : Int) = i := Int.toNat_of_nonneg h0
    rw [← e3]
    exact atI_nat hv
theorem ev_lenO {p : Addr} {vs : List V} (hL : (p, .lst vs) ∈ L) (ha : EvV c L ta σ B (.ref p)) : EvV c L (tCB (rLenQ c.K) (tCons ta tNil)) σ B (.int vs.length) :=
  ev_cb1 ha fun x B1 H e ex w Q q => by
    subst ex
    exact ⟨p, vs, rfl, .inl (.inl (.inl (w.own _ hL).2.1)), q _ B1 H .refl rfl⟩
/-! ### calls of defs -/
def Sp1 (K : Fg) {ι : Type} (T : ι → List Addr) (pre : ι → Hp → List V → Prop) (post : ι → V → Hp → Prop) : Sp := fun vs H Q _ =>
  ∃ (i : ι) (B : Hp), Wd ⟨K, T i, [], B, H⟩ [] B H ∧ pre i B vs ∧ ∀ v B' H', Wd ⟨K, T i, [], B, H⟩ [] B' H' → post i v B' → Q v H'
theorem ev_call {ι : Type} {T : ι → List Addr} {pre : ι → Hp → List V → Prop} {post : ι → V → Hp → Prop} {E : XK} (i : ι) (ha : EvA c L ta' σ B fun vs B' => pre i B' vs) (hT : ∀ s ∈ T i, s ∈ c.T) :
    EvR c L (tCall (Sp1 c.K T pre post) [] E ta') σ B (post i) := fun B1 H e w Q q =>
  ha B1 H e w _ fun vs B2 H2 s2 hp => by
    refine ⟨i, B2, (s2.2 _ w).enter hT, by rw [List.append_nil]; exact hp, fun v B3 H3 u hv => q v B3 H3 (s2.trans (Stp.call hT u)) hv⟩
end
end Nz

/-! NzI: what loops and comprehensions walk; comprehensions. -/
namespace Nz
open Py (rep)
open PySem PySem.Spec PyProof.Rows L2
/-- n turns; the k-th yields a v with Y k v -/
structure Walks (c : Ct) (L : Lc) (J : It) (n : Nat) (B : Hp) (Y : Nat → V → Hp → Prop) : Prop where
  go : ∀ k B' H L', Same B B' → Wd c L' B' H → (∀ q ∈ L, q ∈ L') → k < n → J.go k H
  stop : ∀ B' H L', Same B B' → Wd c L' B' H → (∀ q ∈ L, q ∈ L') → J.stop n H
  yld : ∀ k v B' H H' L', Same B B' → Wd c L' B' H → (∀ q ∈ L, q ∈ L') → k < n → J.yld k H v H' → ∃ B'', Stp c B' H B'' H' ∧ Y k v B''
def EvI (c : Ct) (L : Lc) (wi : TI) (σ : L2.St) (B : Hp) (n : Nat) (Y : Nat → V → Hp → Prop) : Prop :=
  ∀ B1 H, Same B B1 → Wd c L B1 H → ∀ R : It → Hp → Prop, (∀ J B2 H2, Stp c B1 H B2 H2 → Walks c [] J n B2 Y → R J H2) → wi σ H R
section
variable {c : Ct} {L : Lc} {σ : L2.St} {B : Hp} {ta tb te tl : TE} {α β : Type} [Py α] [Py β] {n : Nat} {Y : Nat → V → Hp → Prop}
theorem EvI.up {B' : Hp} {wi : TI} (e : Same B B') (h : EvI c L wi σ B n Y) : EvI c L wi σ B' n Y := fun B1 H e1 => h B1 H (e.trans e1)
abbrev YOf {α : Type} [Py α] (K : Fg) (xs : List α) : Nat → V → Hp → Prop := fun k v B => ∃ x, xs[k]? = some x ∧ rep K B v x
/-- a list of the base -/
theorem ei_list {xs : List α} (h : EvP c L tl σ B xs) : EvI c L (iList c.K tl) σ B xs.length (YOf c.K xs) := fun B1 H e w R q =>
  h B1 H e w _ fun v B2 H2 s2 ⟨a, vs, ev, hB, hp⟩ => by
    subst ev
    have w2 := s2.2 _ w
    refine ⟨a, rfl, ⟨vs, .inl (.inl (w2.le _ _ hB))⟩, q _ B2 H2 s2 ⟨?_, ?_, ?_⟩⟩
    · intro k B' H' L' e1 w1 _ hk
      have hk2 : k < vs.length := by rw [Paired.len hp]; exact hk
      exact ⟨vs, vs[k], .inl (.inl (w1.le _ _ (e1 _ _ hB))), by simp [hk2]⟩
    · intro B' H' L' e1 w1 _
      exact ⟨vs, .inl (.inl (w1.le _ _ (e1 _ _ hB))), by rw [Paired.len hp]; exact Nat.le_refl _⟩
    · intro k v B' H' H'' L' e1 w1 _ hk y
      obtain ⟨e2, y⟩ := y
      have hv := y vs (.inl (.inl (w1.le _ _ (e1 _ _ hB))))
      obtain ⟨x, hx, r⟩ := Paired.at' hp hv
      rw [e2]
      exact ⟨B', .refl, x, hx, Py.up e1 r⟩
/-- a range -/
theorem ei_range1 {k : Int} (h : EvV c L te σ B (.int k)) (h1 : k < 2 ^ 62) (h2 : -(2 ^ 62) ≤ k) : EvI c L (iRng1 (tCons te tNil)) σ B k.toNat (fun i v _ => v = .int (i : Int)) := fun B1 H e w R q =>
  h B1 H e w _ fun v B2 H2 s2 ev => by
    subst ev
    refine ⟨k, rfl, h2, h1, q _ B2 H2 s2 ⟨fun k' _ _ _ _ _ _ hk => hk, fun _ _ _ _ _ _ => Nat.le_refl _, ?_⟩⟩
    rintro i v B' H' H'' L' e1 w1 _ hk ⟨rfl, rfl⟩
    exact ⟨B', .refl, by simp⟩
theorem ei_rangeN {k : Nat} (h : EvP c L te σ B k) (h1 : k < 2 ^ 62 := by omega) : EvI c L (iRng1 (tCons te tNil)) σ B k (fun i v _ => v = .int (i : Int)) := by
  have q := ei_range1 (k := (k : Int)) h (by omega) (by omega)
  simpa using q
theorem ei_range2 {i j : Nat} (h : EvP c L ta σ B i) (h' : EvP c L tb σ B j) (h1 : i < 2 ^ 62 := by omega) (h2 : j < 2 ^ 62 := by omega) : EvI c L (iRng2 (tCons ta (tCons tb tNil))) σ B (j - i) (fun k v _ => v = .int ((i + k : Nat) : Int)) := fun B1 H e w R q =>
  h B1 H e w _ fun v B2 H2 s2 ev => h' B2 H2 (e.trans s2.1) (s2.2 _ w) _ fun v' B3 H3 s3 ev' => by
    have ev1 : v = .int (i : Int) := ev
    have ev2 : v' = .int (j : Int) := ev'
    subst ev1 ev2
    have e4 : ((j : Int) - (i : Int)).toNat = j - i := by omega
    refine ⟨(i : Int), (j : Int), rfl, ⟨by omega, by omega, by omega, by omega⟩, ?_⟩
    rw [e4]
    refine q _ B3 H3 (s2.trans s3) ⟨fun k' _ _ _ _ _ _ hk => hk, fun _ _ _ _ _ _ => Nat.le_refl _, ?_⟩
    rintro k v B' H' H'' L' e1 w1 _ hk ⟨rfl, rfl⟩
    exact ⟨B', .refl, by congr 1⟩
/-- enumerate(xs): pairs -/
theorem walks_enum {xs : List α} {a : Addr} {vs : List V} (hB : B a = some (.lst vs)) (hp : Paired (rep c.K B) vs xs) : Walks c [] (Ite c.K a) xs.length B (fun k v B' => ∃ x, xs[k]? = some x ∧ rep c.K B' v ((k : Nat), x)) where
  go := fun k B' H' L' e1 w1 _ hk => by
    have hk2 : k < vs.length := by rw [Paired.len hp]; exact hk
    exact ⟨vs, vs[k], .inl (.inl (w1.le _ _ (e1 _ _ hB))), by simp [hk2]⟩
  stop := fun B' H' L' e1 w1 _ => ⟨vs, .inl (.inl (w1.le _ _ (e1 _ _ hB))), by rw [Paired.len hp]; exact Nat.le_refl _⟩
  yld := by
    rintro k v B' H' H'' L' e1 w1 _ hk ⟨T, x0, rfl, nT, rfl, y⟩
    have hv := y vs (.inl (.inl (w1.le _ _ (e1 _ _ hB))))
    obtain ⟨x, hx, r⟩ := Paired.at' hp hv
    have nB := (w1.fresh nT).2.1
    exact ⟨_, Stp.new w1 nT, x, hx, T, _, _, rfl, .inl (.inl upd_same), rfl, Py.up (e1.trans (Same.up1 nB)) r⟩
theorem ei_enum {xs : List α} (h : EvP c L tl σ B xs) : EvI c L (iEnum c.K (tCons tl tNil)) σ B xs.length (fun k v B' => ∃ x, xs[k]? = some x ∧ rep c.K B' v ((k : Nat), x)) := fun B1 H e w R q =>
  h B1 H e w _ fun v B2 H2 s2 ⟨a, vs, ev, hB, hp⟩ => by
    subst ev
    exact ⟨a, vs, rfl, .inl (.inl ((s2.2 _ w).le _ _ hB)), q _ B2 H2 s2 (walks_enum hB hp)⟩
/-- zip(xs, ys): pairs -/
theorem ei_zip {xs : List α} {ys : List β} (h : EvP c L ta σ B xs) (h' : EvP c L tb σ B ys) : EvI c L (iZip c.K (tCons ta (tCons tb tNil))) σ B (min xs.length ys.length) (fun k v B' => ∃ x y, xs[k]? = some x ∧ ys[k]? = some y ∧ rep c.K B' v (x, y)) := fun B1 H e w R q =>
  h B1 H e w _ fun v B2 H2 s2 ⟨a, vs, ev, hB, hp⟩ => h' B2 H2 (e.trans s2.1) (s2.2 _ w) _ fun v' B3 H3 s3 ⟨b, us, ev', hB', hp'⟩ => by
    subst ev ev'
    have w3 := (s2.trans s3).2 _ w
    have hB3 := s3.1 _ _ hB
    have hp3 := Paired.imp (fun _ _ r => Py.up s3.1 r) hp
    have l1 := Paired.len hp
    have l2 := Paired.len hp'
    refine ⟨a, b, vs, us, rfl, .inl (.inl (w3.le _ _ hB3)), .inl (.inl (w3.le _ _ hB')), q _ B3 H3 (s2.trans s3) ⟨?_, ?_, ?_⟩⟩
    · intro k B' H' L' e1 w1 _ hk
      have k1 : k < vs.length := by omega
      have k2 : k < us.length := by omega
      exact ⟨vs, us, vs[k], us[k], .inl (.inl (w1.le _ _ (e1 _ _ hB3))), .inl (.inl (w1.le _ _ (e1 _ _ hB'))), by simp [k1], by simp [k2]⟩
    · intro B' H' L' e1 w1 _
      exact ⟨vs, us, .inl (.inl (w1.le _ _ (e1 _ _ hB3))), .inl (.inl (w1.le _ _ (e1 _ _ hB'))), by omega⟩
    · rintro k v B' H' H'' L' e1 w1 _ hk ⟨T, x0, y0, rfl, nT, rfl, f1, f2⟩
      have hv := f1 vs (.inl (.inl (w1.le _ _ (e1 _ _ hB3))))
      have hv' := f2 us (.inl (.inl (w1.le _ _ (e1 _ _ hB'))))
      obtain ⟨x, hx, r⟩ := Paired.at' hp3 hv
      obtain ⟨y, hy, r'⟩ := Paired.at' hp' hv'
      have nB := (w1.fresh nT).2.1
      exact ⟨_, Stp.new w1 nT, x, y, hx, hy, T, _, _, rfl, .inl (.inl upd_same), Py.up (e1.trans (Same.up1 nB)) r, Py.up (e1.trans (Same.up1 nB)) r'⟩

/-! ### targets -/
/-- the target g takes v: which slots come -/
def TgOk (c : Ct) (g : TG) (v : V) (σ : L2.St) (B : Hp) (P : L2.St → Prop) : Prop := ∀ L B1 H, Same B B1 → Wd c L B1 H → ∀ Q : L2.St → Hp → Prop, (∀ σ', P σ' → Q σ' H) → g v σ H Q
theorem tg_name {i : Nat} {v : V} : TgOk c (gName i) v σ B (fun σ' => σ' = σ.set i (some v)) := fun L B1 H e w Q q => q _ rfl
abbrev g2 (K : Fg) (g h : TG) : TG := gTup K 2 (gCons g (gCons h gNil))
theorem tg_pair {x : α} {y : β} {g h : TG} {v : V} {P : L2.St → Prop} (r : rep c.K B v (x, y)) (k : ∀ v1 v2, rep c.K B v1 x → rep c.K B v2 y → ∃ P1 : L2.St → Prop, TgOk c g v1 σ B P1 ∧ ∀ σ1, P1 σ1 → TgOk c h v2 σ1 B P) : TgOk c (g2 c.K g h) v σ B P := fun L B1 H e w Q q => by
  obtain ⟨a, v1, v2, rfl, hT, r1, r2⟩ := r
  obtain ⟨P1, h1, h2⟩ := k v1 v2 r1 r2
  exact ⟨a, [v1, v2], rfl, Same.tup (e.trans w.le) hT, rfl, v1, [v2], rfl, h1 L B1 H e w _ fun σ1 p1 => ⟨v2, [], rfl, h2 σ1 p1 L B1 H e w _ fun σ2 p2 => ⟨rfl, q σ2 p2⟩⟩⟩
theorem tg_names {x : α} {y : β} {i j : Nat} {v : V} (r : rep c.K B v (x, y)) : TgOk c (g2 c.K (gName i) (gName j)) v σ B (fun σ' => ∃ v1 v2, rep c.K B v1 x ∧ rep c.K B v2 y ∧ σ' = (σ.set i (some v1)).set j (some v2)) :=
  tg_pair r fun v1 v2 r1 r2 => ⟨_, tg_name, fun σ1 e => by subst e; exact fun L B1 H e w Q q => q _ ⟨v1, v2, r1, r2, rfl⟩⟩

/-! ### comprehensions -/
theorem wipe_at {σ : L2.St} {vs : List Nat} {j : Nat} : (wipe σ vs)[j]? = if j ∈ vs then (if j < σ.length then some none else none) else σ[j]? := by
  induction vs with
  | nil => simp [wipe]
  | cons a vs ih =>
    unfold wipe
    by_cases h : a = j
    · subst h
      simp only [List.mem_cons, true_or, if_true]
      by_cases hl : a < σ.length
      · rw [if_pos hl]
        have : a < (wipe σ vs).length := by rw [wipe_length]; exact hl
        simp [this]
      · rw [if_neg hl]
        have : ¬ a < (wipe σ vs).length := by rw [wipe_length]; exact hl
        exact List.getElem?_eq_none (by rw [List.length_set]; omega)
    · rw [List.getElem?_set_ne h, ih]
      have : (j ∈ a :: vs) ↔ j ∈ vs := by
        rw [List.mem_cons]
        exact ⟨fun z => z.elim (fun e => (h e.symm).elim) id, .inr⟩
      simp only [this]
theorem wipe_set {σ : L2.St} {vs : List Nat} {i : Nat} {v : Option V} (h : i ∈ vs) : wipe ((wipe σ vs).set i v) vs = wipe σ vs := by
  apply List.ext_getElem?
  intro j
  rw [wipe_at, wipe_at, List.length_set, wipe_length]
  by_cases hj : j ∈ vs
  · rw [if_pos hj, if_pos hj]
  · rw [if_neg hj, if_neg hj]
    rw [List.getElem?_set_ne (fun e : i = j => hj (e ▸ h)), wipe_at, if_neg hj]
theorem wipe_wipe {σ : L2.St} {vs : List Nat} : wipe (wipe σ vs) vs = wipe σ vs := by
  apply List.ext_getElem?
  intro j
  rw [wipe_at, wipe_length]
  by_cases hj : j ∈ vs
  · rw [if_pos hj, wipe_at, if_pos hj]
  · rw [if_neg hj]
theorem wipe_set' {σ τ : L2.St} {vs : List Nat} {i : Nat} {v : Option V} (h : i ∈ vs) (e : wipe τ vs = wipe σ vs) : wipe (τ.set i v) vs = wipe σ vs := by
  rw [← e]
  apply List.ext_getElem?
  intro j
  rw [wipe_at, wipe_at, List.length_set]
  by_cases hj : j ∈ vs
  · rw [if_pos hj, if_pos hj]
  · rw [if_neg hj, if_neg hj, List.getElem?_set_ne (fun z : i = j => hj (z ▸ h))]
/-- the general comprehension: M k ys: what the new list holds behind k turns -/
theorem el_lc {wi : TI} {g : TG} {tt : TT} {vs : List Nat} {O : HO → Hp → Prop} (M : Nat → List V → Hp → Prop) (hi : EvI c L wi σ B n Y) (hn : n < sizeLine)
    (h0 : ∀ B', Same B B' → M 0 [] B') (hlen : ∀ k ys B', M k ys B' → ys.length ≤ k)
    (turn : ∀ k v ys B', k < n → Same B B' → Y k v B' → (∃ B0, Same B0 B' ∧ Same B B0 ∧ M k ys B0) → ∃ P : L2.St → Prop, TgOk c g v (wipe σ vs) B' P ∧ ∀ σ', P σ' → wipe σ' vs = wipe σ vs ∧
      ∃ Rb : Bool → Prop, EvT c L tt σ' B' Rb ∧ (Rb true → EvR c L te σ' B' fun y B'' => M (k + 1) (ys ++ [y]) B'') ∧ (Rb false → ∀ B'', Same B' B'' → M (k + 1) ys B''))
    (done : ∀ ys B', Same B B' → M n ys B' → O (.lst ys) B') : EvN c L (tLc wi g tt te vs) σ B O := fun B1 H e w Q q => by
  refine hi B1 H e w _ fun J B2 H2 s2 W D hD => ?_
  have w2 := s2.2 _ w
  refine ⟨fun i m H3 => ∃ B3 ys, m = n - i ∧ i ≤ n ∧ Same B2 B3 ∧ (∀ L', Wd c L' B2 H2 → Wd c ((D, .lst ys) :: L') B3 H3) ∧ M i ys B3, ⟨n, B2, [], by simp, Nat.zero_le _, Same.refl _, fun L' w' => w'.mine hD, h0 B2 (e.trans s2.1)⟩, ?_⟩
  rintro i m H3 ⟨B3, ys, rfl, hi3, e3, k3, m3⟩
  have w3 := k3 _ w2
  have dS : D ∉ c.S := (w2.fresh hD).2.2.2
  by_cases hlt : i < n
  · refine .inr ⟨W.go i B3 H3 _ e3 w3 (by simp) hlt, fun H' => ∃ B' ys', Same B2 B' ∧ (∀ L', Wd c L' B2 H2 → Wd c ((D, .lst ys') :: L') B' H') ∧ M (i + 1) ys' B', fun H' ⟨B', ys', a1, a2, a3⟩ => ⟨n - (i + 1), by omega, B', ys', rfl, hlt, a1, a2, a3⟩, fun x H' y => ?_⟩
    obtain ⟨B4, s4, y4⟩ := W.yld i x B3 H3 H' _ e3 w3 (by simp) hlt y
    obtain ⟨P, hg, hb⟩ := turn i x ys B4 hlt (((e.trans s2.1).trans e3).trans s4.1) y4 ⟨B3, s4.1, (e.trans s2.1).trans e3, m3⟩
    have w4 := s4.2 _ w3
    refine hg _ B4 H' (Same.refl _) w4 _ fun σ' p => ?_
    obtain ⟨hw, Rb, ht, h1, h2⟩ := hb σ' p
    refine ⟨hw, ht B4 H' (Same.refl _) w4.tail _ fun b B5 H5 s5 rb => ?_⟩
    have k5 : ∀ L', Wd c L' B2 H2 → Wd c ((D, .lst ys) :: L') B5 H5 := fun L' w' => s5.2 _ (s4.2 _ (k3 L' w'))
    cases b with
    | false =>
      refine iteF ?_
      exact ⟨B5, ys, e3.trans (s4.1.trans s5.1), k5, h2 rb B5 s5.1⟩
    | true =>
      refine iteT ?_
      refine h1 rb B5 H5 s5.1 (k5 _ w2).tail _ fun v B6 H6 s6 m6 => ?_
      have k6 : ∀ L', Wd c L' B2 H2 → Wd c ((D, .lst ys) :: L') B6 H6 := fun L' w' => s6.2 _ (k5 L' w')
      exact ⟨ys, (k6 _ w2).head.2, Nat.lt_of_le_of_lt (Nat.le_trans (hlen _ _ _ m3) (Nat.le_of_lt hlt)) hn, B6, ys ++ [v], e3.trans (s4.1.trans (s5.1.trans s6.1)), fun L' w' => (k6 L' w').put _, m6⟩
  · have en : i = n := by omega
    subst en
    exact .inl ⟨W.stop B3 H3 _ e3 w3 (by simp), q D B3 H3 (.lst ys) (s2.1.trans e3) dS (fun L' w' => k3 L' (s2.2 L' w')) (done ys B3 ((e.trans s2.1).trans e3) m3)⟩
/-- [f for ..] without a test: f k the k-th item -/
theorem el_map {wi : TI} {g : TG} {vs : List Nat} (f : Nat → β) (hi : EvI c L wi σ B n Y) (hn : n < sizeLine)
    (turn : ∀ k v B', k < n → Same B B' → Y k v B' → ∃ P : L2.St → Prop, TgOk c g v (wipe σ vs) B' P ∧ ∀ σ', P σ' → wipe σ' vs = wipe σ vs ∧ EvP c L te σ' B' (f k)) :
    EvL c L (tLc wi g tYes te vs) σ B ((List.range n).map f) :=
  el_lc (fun k ys B' => Paired (rep c.K B') ys ((List.range k).map f)) hi hn (fun _ _ => .nil) (fun k ys B' h => by have := Paired.len h; simp at this; omega)
    (fun k v ys B' hk e y ⟨B0, e0, _, m⟩ => by
      obtain ⟨P, h1, h2⟩ := turn k v B' hk e y
      refine ⟨P, h1, fun σ' p => ⟨(h2 σ' p).1, fun b => b = true, et_yes, fun _ => (h2 σ' p).2.imp fun y B'' e2 r => ?_, fun z => by cases z⟩⟩
      rw [List.range_succ, List.map_append]
      exact Paired.app (Paired.imp (fun _ _ r => Py.up (e0.trans e2) r) m) (.cons r .nil))
    fun ys B' _ m => ⟨ys, rfl, m⟩
/-- with a test -/
theorem el_filter {wi : TI} {g : TG} {tt : TT} {vs : List Nat} (p : Nat → Bool) (f : Nat → β) (hi : EvI c L wi σ B n Y) (hn : n < sizeLine)
    (turn : ∀ k v B', k < n → Same B B' → Y k v B' → ∃ P : L2.St → Prop, TgOk c g v (wipe σ vs) B' P ∧ ∀ σ', P σ' → wipe σ' vs = wipe σ vs ∧ EvB c L tt σ' B' (p k) ∧ (p k = true → EvP c L te σ' B' (f k))) :
    EvL c L (tLc wi g tt te vs) σ B (((List.range n).filter p).map f) :=
  el_lc (fun k ys B' => Paired (rep c.K B') ys (((List.range k).filter p).map f)) hi hn (fun _ _ => .nil) (fun k ys B' h => by have := Paired.len h; have h2 := List.length_filter_le p (List.range k); simp at this h2; omega)
    (fun k v ys B' hk e y ⟨B0, e0, _, m⟩ => by
      obtain ⟨P, h1, h2⟩ := turn k v B' hk e y
      refine ⟨P, h1, fun σ' pp => ⟨(h2 σ' pp).1, fun b => b = p k, (h2 σ' pp).2.1, fun hp => ((h2 σ' pp).2.2 hp.symm).imp fun y B'' e2 r => ?_, fun hp B'' e2 => ?_⟩⟩
      · rw [List.range_succ, List.filter_append, List.map_append]
        have : [k].filter p = [k] := by simp [← hp]
        rw [this]
        exact Paired.app (Paired.imp (fun _ _ r => Py.up (e0.trans e2) r) m) (.cons r .nil)
      · rw [List.range_succ, List.filter_append, List.map_append]
        have : [k].filter p = [] := by simp [← hp]
        rw [this, List.map_nil, List.append_nil]
        exact Paired.imp (fun _ _ r => Py.up (e0.trans e2) r) m)
    fun ys B' _ m => ⟨ys, rfl, m⟩
/-- items that are not reckoned: each has R k -/
theorem el_some {wi : TI} {g : TG} {vs : List Nat} (R : Nat → β → Prop) (hi : EvI c L wi σ B n Y) (hn : n < sizeLine)
    (turn : ∀ k v B', k < n → Same B B' → Y k v B' → ∃ P : L2.St → Prop, TgOk c g v (wipe σ vs) B' P ∧ ∀ σ', P σ' → wipe σ' vs = wipe σ vs ∧ EvR c L te σ' B' fun y B'' => ∃ z, R k z ∧ rep c.K B'' y z) :
    EvN c L (tLc wi g tYes te vs) σ B (fun o B' => ∃ zs : List β, zs.length = n ∧ (∀ k z, zs[k]? = some z → R k z) ∧ LstOf c.K zs o B') :=
  el_lc (fun k ys B' => ∃ zs : List β, zs.length = k ∧ (∀ j z, zs[j]? = some z → R j z) ∧ Paired (rep c.K B') ys zs) hi hn (fun _ _ => ⟨[], rfl, by simp, .nil⟩) (fun k ys B' ⟨zs, h1, _, h⟩ => by have := Paired.len h; omega)
    (fun k v ys B' hk e y ⟨B0, e0, _, zs, z1, z2, m⟩ => by
      obtain ⟨P, h1, h2⟩ := turn k v B' hk e y
      refine ⟨P, h1, fun σ' p => ⟨(h2 σ' p).1, fun b => b = true, et_yes, fun _ => (h2 σ' p).2.imp fun y B'' e2 ⟨z, hz, r⟩ => ⟨zs ++ [z], by simp [z1], fun j w hj => ?_, Paired.app (Paired.imp (fun _ _ r => Py.up (e0.trans e2) r) m) (.cons r .nil)⟩, fun z => by cases z⟩⟩
      rw [List.getElem?_append] at hj
      split at hj
      · exact z2 j w hj
      · have hl : j = k := by
          have := getD_at hj
          simp at this
          omega
        subst hl
        rw [z1] at hj
        simp at hj
        exact hj ▸ hz)
    fun ys B' _ ⟨zs, a, b, m⟩ => ⟨zs, a, b, ys, rfl, m⟩
end
end Nz

/-! NzS: statements, loops, defs. -/
namespace Nz
open Py (rep)
open PySem PySem.Spec PyProof.Rows L2
/-- what is wanted behind a statement: slots, base, owned lists -/
structure Post where
  nx : L2.St → Hp → Lc → Prop := fun _ _ _ => False
  rt : V → Hp → Lc → Prop := fun _ _ _ => False
  bk : L2.St → Hp → Lc → Prop := fun _ _ _ => False
  ct : L2.St → Hp → Lc → Prop := fun _ _ _ => False
  al : V → Prop := fun _ => False
structure Meets' (c : Ct) (B0 : Hp) (P : Post) (D : Ends) : Prop where
  nx : ∀ σ B L H, Same B0 B → Wd c L B H → P.nx σ B L → D.nx σ H
  rt : ∀ v B L H, Same B0 B → Wd c L B H → P.rt v B L → D.rt v H
  bk : ∀ σ B L H, Same B0 B → Wd c L B H → P.bk σ B L → D.bk σ H
  ct : ∀ σ B L H, Same B0 B → Wd c L B H → P.ct σ B L → D.ct σ H
  al : ∀ v H, P.al v → D.rt v H
theorem Meets'.up {c : Ct} {B0 B1 : Hp} {P : Post} {D : Ends} (m : Meets' c B0 P D) (e : Same B0 B1) : Meets' c B1 P D :=
  ⟨fun σ B L H e1 => m.nx σ B L H (e.trans e1), fun σ B L H e1 => m.rt σ B L H (e.trans e1), fun σ B L H e1 => m.bk σ B L H (e.trans e1), fun σ B L H e1 => m.ct σ B L H (e.trans e1), m.al⟩
def SR (c : Ct) (L : Lc) (t : TS) (σ : L2.St) (B : Hp) (P : Post) : Prop := ∀ H, Wd c L B H → ∀ D, Meets' c B P D → t D σ H
section
variable {c : Ct} {L : Lc} {σ : L2.St} {B : Hp} {ta tb te : TE} {t u rest : TS} {P P' : Post} {R : V → Hp → Prop} {α β : Type} [Py α] [Py β] {i : Nat} {n : Nat} {Y : Nat → V → Hp → Prop}
theorem SR.imp (h : SR c L t σ B P) (h1 : ∀ σ' B' L', Same B B' → P.nx σ' B' L' → P'.nx σ' B' L') (h2 : ∀ v B' L', Same B B' → P.rt v B' L' → P'.rt v B' L') (h3 : ∀ σ' B' L', Same B B' → P.bk σ' B' L' → P'.bk σ' B' L') (h4 : ∀ σ' B' L', Same B B' → P.ct σ' B' L' → P'.ct σ' B' L') (h5 : ∀ v, P.al v → P'.al v := by intro _ p; exact p) : SR c L t σ B P' :=
  fun H w D m => h H w D ⟨fun a b l H e w p => m.nx a b l H e w (h1 _ _ _ e p), fun a b l H e w p => m.rt a b l H e w (h2 _ _ _ e p), fun a b l H e w p => m.bk a b l H e w (h3 _ _ _ e p), fun a b l H e w p => m.ct a b l H e w (h4 _ _ _ e p), fun v H p => m.al v H (h5 v p)⟩
theorem sr_seq (h : SR c L t σ B { P with nx := fun σ' B' L' => SR c L' u σ' B' P }) : SR c L (tSeq t u) σ B P := fun H w D m =>
  h H w _ ⟨fun σ' B' L' H' e w' p => p H' w' D (m.up e), m.rt, m.bk, m.ct, m.al⟩
theorem sr_cut (M : L2.St → Hp → Lc → Prop) (h : SR c L t σ B { P with nx := M }) (k : ∀ σ' B' L', Same B B' → M σ' B' L' → SR c L' u σ' B' P) : SR c L (tSeq t u) σ B P := sr_seq (h.imp k (fun _ _ _ _ p => p) (fun _ _ _ _ p => p) fun _ _ _ _ p => p)
theorem sr_next (h : P.nx σ B L) : SR c L tNext σ B P := fun H w D m => m.nx _ _ _ H (Same.refl _) w h
theorem sr_cont (h : P.ct σ B L) : SR c L tCont σ B P := fun H w D m => m.ct _ _ _ H (Same.refl _) w h
theorem sr_break (h : P.bk σ B L) : SR c L tBreak σ B P := fun H w D m => m.bk _ _ _ H (Same.refl _) w h
theorem sr_ret (h : EvR c L te σ B R) (k : ∀ v B', Same B B' → R v B' → P.rt v B' L) : SR c L (tRet te) σ B P := fun H w D m =>
  h B H (Same.refl _) w _ fun v B2 H2 s rv => m.rt _ _ _ H2 s.1 (s.2 _ w) (k v B2 s.1 rv)
theorem sr_retN (k : P.rt .non B L) : SR c L tRetN σ B P := fun H w D m => m.rt _ _ _ H (Same.refl _) w k
theorem sr_set1 (h : EvR c L te σ B R) (k : ∀ v B', Same B B' → R v B' → P.nx (σ.set i (some v)) B' L) : SR c L (tAsg te (gName i)) σ B P := fun H w D m =>
  h B H (Same.refl _) w _ fun v B2 H2 s rv => m.nx _ _ _ H2 s.1 (s.2 _ w) (k v B2 s.1 rv)
theorem sr_set (h : EvR c L te σ B R) (k : ∀ v B', Same B B' → R v B' → SR c L rest (σ.set i (some v)) B' P) : SR c L (tSeq (tAsg te (gName i)) rest) σ B P := sr_seq (sr_set1 h k)
/-- a value of no heap: the base stays -/
theorem sr_setV {v : V} (h : EvV c L te σ B v) (k : ∀ B', Same B B' → SR c L rest (σ.set i (some v)) B' P) : SR c L (tSeq (tAsg te (gName i)) rest) σ B P := sr_set h fun v' B' e ev => by subst ev; exact k B' e
/-- a new list of the def's own -/
theorem sr_setN1 {O : HO → Hp → Prop} (h : EvN c L te σ B O) (k : ∀ p o B', Same B B' → p ∉ c.S → O o B' → P.nx (σ.set i (some (.ref p))) B' ((p, o) :: L)) : SR c L (tAsg te (gName i)) σ B P := fun H w D m =>
  h B H (Same.refl _) w _ fun p B2 H2 o s hS q ho => m.nx _ _ _ H2 s (q _ w) (k p o B2 s hS ho)
theorem sr_setN {O : HO → Hp → Prop} (h : EvN c L te σ B O) (k : ∀ p o B', Same B B' → p ∉ c.S → O o B' → SR c ((p, o) :: L) rest (σ.set i (some (.ref p))) B' P) : SR c L (tSeq (tAsg te (gName i)) rest) σ B P := sr_seq (sr_setN1 h k)
theorem sr_drop1 (h : EvR c L te σ B R) (k : ∀ v B', Same B B' → R v B' → P.nx σ B' L) : SR c L (tDrop te) σ B P := fun H w D m =>
  h B H (Same.refl _) w _ fun v B2 H2 s rv => m.nx _ _ _ H2 s.1 (s.2 _ w) (k v B2 s.1 rv)
theorem sr_drop (h : EvR c L te σ B R) (k : ∀ v B', Same B B' → R v B' → SR c L rest σ B' P) : SR c L (tSeq (tDrop te) rest) σ B P := sr_seq (sr_drop1 h k)
theorem sr_if {tt : TT} {Rb : Bool → Prop} (ht : EvT c L tt σ B Rb) (h1 : Rb true → ∀ B', Same B B' → SR c L t σ B' P) (h2 : Rb false → ∀ B', Same B B' → SR c L u σ B' P) : SR c L (tIfS tt t u) σ B P := fun H w D m =>
  ht B H (Same.refl _) w _ fun b B2 H2 s rb => by
    cases b with
    | true => exact iteT (h1 rb B2 s.1 H2 (s.2 _ w) D (m.up s.1))
    | false => exact iteF (h2 rb B2 s.1 H2 (s.2 _ w) D (m.up s.1))
theorem sr_ifB {tt : TT} {b : Bool} (ht : EvB c L tt σ B b) (h1 : b = true → ∀ B', Same B B' → SR c L t σ B' P) (h2 : b = false → ∀ B', Same B B' → SR c L u σ B' P) : SR c L (tIfS tt t u) σ B P := sr_if ht (fun e => h1 e.symm) fun e => h2 e.symm
/-- the owned list ahead becomes part of the base -/
theorem sr_freeze {p : Addr} {o : HO} (hS : p ∉ c.S) (h : B p = none → SR c L t σ (upd B p o) P) : SR c ((p, o) :: L) t σ B P := fun H w D m => h w.head.1 H (w.freeze hS) D (m.up (Same.up1 w.head.1))
theorem rep_frozen {p : Addr} {vs : List V} {xs : List α} (hB : B p = none) (h : Paired (rep c.K B) vs xs) : rep c.K (upd B p (.lst vs)) (.ref p) xs := ⟨p, vs, rfl, upd_same, Paired.imp (fun _ _ r => Py.up (Same.up1 hB) r) h⟩
theorem sr_swap {q r : Addr × HO} (h : SR c (r :: q :: L) t σ B P) : SR c (q :: r :: L) t σ B P := fun H w => h H w.swap
theorem sr_forget {q : Addr × HO} (h : SR c L t σ B P) : SR c (q :: L) t σ B P := fun H w => h H w.tail
/-- xs.append(e), xs owned -/
def tApp (K : Fg) (to : TE) (te : TE) : TE := tBM K "list" rAppend to (tCons te tNil)
theorem sr_app1 {p : Addr} {vs : List V} (ho : EvV c ((p, .lst vs) :: L) ta σ B (.ref p)) (he : EvR c ((p, .lst vs) :: L) te σ B R) (hl : vs.length < sizeLine) (k : ∀ v B', Same B B' → R v B' → P.nx σ B' ((p, .lst (vs ++ [v])) :: L)) : SR c ((p, .lst vs) :: L) (tDrop (tBM c.K "list" rAppend ta (tCons te tNil))) σ B P := fun H w D m =>
  ho B H (Same.refl _) w _ fun x B2 H2 s2 ex => by
    subst ex
    have w2 := s2.2 _ w
    refine ⟨.inl ⟨rfl, _, .inl (.inl w2.head.2)⟩, he B2 H2 s2.1 w2 _ fun v B3 H3 s3 rv => ?_⟩
    have w3 := s3.2 _ w2
    exact ⟨p, vs, v, rfl, rfl, w3.head.2, hl, m.nx _ _ _ _ (s2.1.trans s3.1) (w3.put _) (k v B3 (s2.1.trans s3.1) rv)⟩
theorem sr_app {p : Addr} {vs : List V} (ho : EvV c ((p, .lst vs) :: L) ta σ B (.ref p)) (he : EvR c ((p, .lst vs) :: L) te σ B R) (hl : vs.length < sizeLine) (k : ∀ v B', Same B B' → R v B' → SR c ((p, .lst (vs ++ [v])) :: L) rest σ B' P) : SR c ((p, .lst vs) :: L) (tSeq (tDrop (tBM c.K "list" rAppend ta (tCons te tNil))) rest) σ B P := sr_seq (sr_app1 ho he hl k)
/-- xs[i] = e, xs owned -/
theorem sr_put1 {p : Addr} {vs : List V} {j : Nat} (he : EvR c ((p, .lst vs) :: L) te σ B R) (ho : EvV c ((p, .lst vs) :: L) ta σ B (.ref p)) (hi : EvV c ((p, .lst vs) :: L) tb σ B (.int (j : Int))) (hj : j < vs.length) (k : ∀ v B' B'', Same B B' → R v B' → Same B' B'' → P.nx σ B'' ((p, .lst (vs.set j v)) :: L)) :
    SR c ((p, .lst vs) :: L) (tAsg te (gSub ta tb rSetL)) σ B P := fun H w D m =>
  he B H (Same.refl _) w _ fun v B1 H1 s1 rv => ho B1 H1 s1.1 (s1.2 _ w) _ fun x B2 H2 s2 ex => hi B2 H2 (s1.1.trans s2.1) ((s1.trans s2).2 _ w) _ fun y B3 H3 s3 ey => by
    subst ex ey
    have w3 := ((s1.trans s2).trans s3).2 _ w
    refine ⟨p, vs, (j : Int), j, rfl, rfl, w3.head.2, ?_, m.nx _ _ _ _ (s1.1.trans (s2.1.trans s3.1)) (w3.put _) (k v B1 B3 s1.1 rv (s2.1.trans s3.1))⟩
    unfold ixN
    rw [if_pos (by omega), if_pos (by omega)]; simp
theorem sr_put {p : Addr} {vs : List V} {j : Nat} (he : EvR c ((p, .lst vs) :: L) te σ B R) (ho : EvV c ((p, .lst vs) :: L) ta σ B (.ref p)) (hi : EvV c ((p, .lst vs) :: L) tb σ B (.int (j : Int))) (hj : j < vs.length)
    (k : ∀ v B' B'', Same B B' → R v B' → Same B' B'' → SR c ((p, .lst (vs.set j v)) :: L) rest σ B'' P) : SR c ((p, .lst vs) :: L) (tSeq (tAsg te (gSub ta tb rSetL)) rest) σ B P := sr_seq (sr_put1 he ho hi hj k)
/-- xs[i] op= e, xs owned, of ints -/
theorem sr_augS1 {p : Addr} {vs : List V} {j : Nat} {f : Int → Int → Int} {x y : Int} (ho : EvV c ((p, .lst vs) :: L) ta σ B (.ref p)) (hi : EvV c ((p, .lst vs) :: L) tb σ B (.int (j : Int))) (hx : vs[j]? = some (.int x)) (he : EvV c ((p, .lst vs) :: L) te σ B (.int y))
    (k : ∀ B', Same B B' → P.nx σ B' ((p, .lst (vs.set j (.int (f x y)))) :: L)) : SR c ((p, .lst vs) :: L) (tAugS ta tb te (rGetL c.K) (ipI f) rSetL) σ B P := fun H w D m =>
  ho B H (Same.refl _) w _ fun o B1 H1 s1 eo => hi B1 H1 s1.1 (s1.2 _ w) _ fun i B2 H2 s2 ei => by
    subst eo ei
    have w2 := (s1.trans s2).2 _ w
    refine ⟨p, vs, j, _, rfl, rfl, .inl (.inl w2.head.2), hx, he B2 H2 (s1.1.trans s2.1) w2 _ fun y' B3 H3 s3 ey => ?_⟩
    subst ey
    have w3 := s3.2 _ w2
    have hj : j < vs.length := (List.getElem?_eq_some_iff.mp hx).1
    refine ⟨x, y, rfl, rfl, p, vs, (j : Int), j, rfl, rfl, w3.head.2, ?_, m.nx _ _ _ _ ((s1.1.trans s2.1).trans s3.1) (w3.put _) (k B3 ((s1.1.trans s2.1).trans s3.1))⟩
    unfold ixN
    rw [if_pos (by omega), if_pos (by omega)]; simp
theorem sr_augS {p : Addr} {vs : List V} {j : Nat} {f : Int → Int → Int} {x y : Int} (ho : EvV c ((p, .lst vs) :: L) ta σ B (.ref p)) (hi : EvV c ((p, .lst vs) :: L) tb σ B (.int (j : Int))) (hx : vs[j]? = some (.int x)) (he : EvV c ((p, .lst vs) :: L) te σ B (.int y))
    (k : ∀ B', Same B B' → SR c ((p, .lst (vs.set j (.int (f x y)))) :: L) rest σ B' P) : SR c ((p, .lst vs) :: L) (tSeq (tAugS ta tb te (rGetL c.K) (ipI f) rSetL) rest) σ B P := sr_seq (sr_augS1 ho hi hx he k)
/-- name op= e, ints -/
theorem sr_aug1 {f : Int → Int → Int} {x y : Int} (hx : σ[i]? = some (some (.int x))) (he : EvV c L te σ B (.int y)) (k : ∀ B', Same B B' → P.nx (σ.set i (some (.int (f x y)))) B' L) : SR c L (tAug i te (ipI f)) σ B P := fun H w D m =>
  ⟨_, hx, he B H (Same.refl _) w _ fun v B2 H2 s2 ev => by subst ev; exact ⟨x, y, rfl, rfl, m.nx _ _ _ H2 s2.1 (s2.2 _ w) (k B2 s2.1)⟩⟩
theorem sr_aug {f : Int → Int → Int} {x y : Int} (hx : σ[i]? = some (some (.int x))) (he : EvV c L te σ B (.int y)) (k : ∀ B', Same B B' → SR c L rest (σ.set i (some (.int (f x y)))) B' P) : SR c L (tSeq (tAug i te (ipI f)) rest) σ B P := sr_seq (sr_aug1 hx he k)
/-- a, b = e, e a pair -/
theorem sr_asgT {g : TG} {Pt : L2.St → V → Hp → L2.St → Prop} (h : EvR c L te σ B R) (hg : ∀ v B', Same B B' → R v B' → TgOk c g v σ B' (Pt σ v B')) (k : ∀ v B' σ', Same B B' → R v B' → Pt σ v B' σ' → P.nx σ' B' L) : SR c L (tAsg te g) σ B P := fun H w D m =>
  h B H (Same.refl _) w _ fun v B2 H2 s rv => hg v B2 s.1 rv L B2 H2 (Same.refl _) (s.2 _ w) _ fun σ' p => m.nx _ _ _ H2 s.1 (s.2 _ w) (k v B2 σ' s.1 rv p)
theorem sr_asg2 {x : α} {y : β} {i j : Nat} (h : EvP c L te σ B (x, y)) (k : ∀ v1 v2 B', Same B B' → rep c.K B' v1 x → rep c.K B' v2 y → SR c L rest ((σ.set i (some v1)).set j (some v2)) B' P) : SR c L (tSeq (tAsg te (g2 c.K (gName i) (gName j))) rest) σ B P :=
  sr_seq (sr_asgT (Pt := fun σ v B' σ' => ∃ v1 v2, rep c.K B' v1 x ∧ rep c.K B' v2 y ∧ σ' = (σ.set i (some v1)).set j (some v2)) h (fun v B' e r => tg_names r) fun v B' σ' e r ⟨v1, v2, r1, r2, e2⟩ => by subst e2; exact k v1 v2 B' e r1 r2)
/-- a, b = x, y -/
theorem sr_par {i j : Nat} {Rb : V → V → Hp → Prop} (h : EvA c L (tCons ta (tCons tb tNil)) σ B fun vs B' => ∃ v w, vs = [v, w] ∧ Rb v w B') (k : ∀ v w B', Same B B' → Rb v w B' → SR c L rest ((σ.set i (some v)).set j (some w)) B' P) : SR c L (tSeq (tPar i j (tCons ta (tCons tb tNil))) rest) σ B P :=
  sr_seq fun H w D m => h B H (Same.refl _) w _ fun vs B2 H2 s ⟨v, x, e, r⟩ => ⟨v, x, e, m.nx _ _ _ H2 s.1 (s.2 _ w) (k v x B2 s.1 r)⟩
/-- a loop: Inv by the turn -/
theorem sr_for1 {wi : TI} {g : TG} {tb : TS} (Inv : Nat → L2.St → Hp → Lc → Prop) (hi : EvI c L wi σ B n Y) (h0 : ∀ B', Same B B' → Inv 0 σ B' L)
    (turn : ∀ k v σ' B1 B' L', k < n → Same B B1 → Inv k σ' B1 L' → Same B1 B' → Y k v B' → ∃ Pt : L2.St → Prop, TgOk c g v σ' B' Pt ∧ ∀ σ2, Pt σ2 → SR c L' tb σ2 B' { nx := Inv (k + 1), ct := Inv (k + 1), bk := P.nx, rt := P.rt })
    (done : ∀ σ' B' L', Same B B' → Inv n σ' B' L' → P.nx σ' B' L') : SR c L (tFor wi g tb) σ B P := fun H w D m => by
  refine hi B H (Same.refl _) w _ fun J B2 H2 s2 W => ?_
  refine ⟨fun i k σ' H' => ∃ B' L', k = n - i ∧ i ≤ n ∧ Same B2 B' ∧ Wd c L' B' H' ∧ Inv i σ' B' L', ⟨n, B2, L, by simp, Nat.zero_le _, Same.refl _, s2.2 _ w, h0 B2 s2.1⟩, ?_⟩
  rintro i k σ' H' ⟨B', L', rfl, hin, e, w', inv⟩
  by_cases hlt : i < n
  · refine .inr ⟨W.go i B' H' L' e w' (by simp) hlt, fun σ3 H3 => ∃ B3 L3, Same B2 B3 ∧ Wd c L3 B3 H3 ∧ Inv (i + 1) σ3 B3 L3, fun σ3 H3 ⟨B3, L3, a1, a2, a3⟩ => ⟨n - (i + 1), by omega, B3, L3, rfl, hlt, a1, a2, a3⟩, fun x H3 y => ?_⟩
    obtain ⟨B4, s4, y4⟩ := W.yld i x B' H' H3 L' e w' (by simp) hlt y
    obtain ⟨Pt, hg, hb⟩ := turn i x σ' B' B4 L' hlt (s2.1.trans e) inv s4.1 y4
    have w4 := s4.2 _ w'
    refine hg L' B4 H3 (Same.refl _) w4 _ fun σ2 p2 => ?_
    have e4 : Same B2 B4 := e.trans s4.1
    exact hb σ2 p2 H3 w4 _ ⟨fun σ5 B5 L5 H5 e5 w5 p5 => ⟨B5, L5, e4.trans e5, w5, p5⟩, fun v B5 L5 H5 e5 w5 p5 => m.rt v B5 L5 H5 ((s2.1.trans e4).trans e5) w5 p5, fun σ5 B5 L5 H5 e5 w5 p5 => m.nx σ5 B5 L5 H5 ((s2.1.trans e4).trans e5) w5 p5, fun σ5 B5 L5 H5 e5 w5 p5 => ⟨B5, L5, e4.trans e5, w5, p5⟩, fun _ _ p => p.elim⟩
  · have en : i = n := by omega
    subst en
    exact .inl ⟨W.stop B' H' L' e w' (by simp), m.nx _ _ _ H' (s2.1.trans e) w' (done σ' B' L' (s2.1.trans e) inv)⟩
theorem sr_for {wi : TI} {g : TG} {tb : TS} (Inv : Nat → L2.St → Hp → Lc → Prop) (hi : EvI c L wi σ B n Y) (h0 : ∀ B', Same B B' → Inv 0 σ B' L)
    (turn : ∀ k v σ' B1 B' L', k < n → Same B B1 → Inv k σ' B1 L' → Same B1 B' → Y k v B' → ∃ Pt : L2.St → Prop, TgOk c g v σ' B' Pt ∧ ∀ σ2, Pt σ2 → SR c L' tb σ2 B' { nx := Inv (k + 1), ct := Inv (k + 1), bk := fun σ' B' L' => SR c L' rest σ' B' P, rt := P.rt })
    (done : ∀ σ' B' L', Same B B' → Inv n σ' B' L' → SR c L' rest σ' B' P) : SR c L (tSeq (tFor wi g tb) rest) σ B P := sr_seq (sr_for1 (P := { P with nx := fun σ' B' L' => SR c L' rest σ' B' P }) Inv hi h0 turn done)
/-- the commonest: for x in .., x one name -/
theorem sr_forN {wi : TI} {i : Nat} {tb : TS} (Inv : Nat → L2.St → Hp → Lc → Prop) (hi : EvI c L wi σ B n Y) (h0 : ∀ B', Same B B' → Inv 0 σ B' L)
    (turn : ∀ k v σ' B1 B' L', k < n → Same B B1 → Inv k σ' B1 L' → Same B1 B' → Y k v B' → SR c L' tb (σ'.set i (some v)) B' { nx := Inv (k + 1), ct := Inv (k + 1), bk := fun σ' B' L' => SR c L' rest σ' B' P, rt := P.rt })
    (done : ∀ σ' B' L', Same B B' → Inv n σ' B' L' → SR c L' rest σ' B' P) : SR c L (tSeq (tFor wi (gName i) tb) rest) σ B P :=
  sr_for Inv hi h0 (fun k v σ' B1 B' L' hk e inv e1 y => ⟨_, tg_name, fun σ2 e2 => by subst e2; exact turn k v σ' B1 B' L' hk e inv e1 y⟩) done
/-- a while: Inv by a measure -/
theorem sr_while1 {tt : TT} {tb : TS} (Inv : Nat → L2.St → Hp → Lc → Prop) (m0 : Nat) (h0 : Inv m0 σ B L)
    (turn : ∀ m σ' B' L', Same B B' → Inv m σ' B' L' → ∃ Rb : Bool → Prop, EvT c L' tt σ' B' Rb ∧
      (Rb true → ∀ B2, Same B' B2 → SR c L' tb σ' B2 { nx := fun σ3 B3 L3 => ∃ m', m' < m ∧ Inv m' σ3 B3 L3, ct := fun σ3 B3 L3 => ∃ m', m' < m ∧ Inv m' σ3 B3 L3, bk := P.nx, rt := P.rt }) ∧
      (Rb false → ∀ B2, Same B' B2 → P.nx σ' B2 L')) : SR c L (tWhile tt tb) σ B P := fun H w D m => by
  refine ⟨fun k σ' H' => ∃ B' L', Same B B' ∧ Wd c L' B' H' ∧ Inv k σ' B' L', ⟨m0, B, L, Same.refl _, w, h0⟩, ?_⟩
  rintro k σ' H' ⟨B', L', e, w', inv⟩
  obtain ⟨Rb, ht, h1, h2⟩ := turn k σ' B' L' e inv
  refine ht B' H' (Same.refl _) w' _ fun b B2 H2 s2 rb => ?_
  cases b with
  | false => exact m.nx _ _ _ H2 (e.trans s2.1) (s2.2 _ w') (h2 rb B2 s2.1)
  | true =>
    have e2 := e.trans s2.1
    refine ⟨fun σ3 H3 => ∃ m', m' < k ∧ ∃ B3 L3, Same B B3 ∧ Wd c L3 B3 H3 ∧ Inv m' σ3 B3 L3, fun σ3 H3 q => q, ?_⟩
    exact h1 rb B2 s2.1 H2 (s2.2 _ w') _ ⟨fun σ5 B5 L5 H5 e5 w5 ⟨m', hm, p5⟩ => ⟨m', hm, B5, L5, e2.trans e5, w5, p5⟩, fun v B5 L5 H5 e5 w5 p5 => m.rt v B5 L5 H5 (e2.trans e5) w5 p5, fun σ5 B5 L5 H5 e5 w5 p5 => m.nx σ5 B5 L5 H5 (e2.trans e5) w5 p5, fun σ5 B5 L5 H5 e5 w5 ⟨m', hm, p5⟩ => ⟨m', hm, B5, L5, e2.trans e5, w5, p5⟩, fun _ _ p => p.elim⟩
theorem sr_while {tt : TT} {tb : TS} (Inv : Nat → L2.St → Hp → Lc → Prop) (m0 : Nat) (h0 : Inv m0 σ B L)
    (turn : ∀ m σ' B' L', Same B B' → Inv m σ' B' L' → ∃ Rb : Bool → Prop, EvT c L' tt σ' B' Rb ∧
      (Rb true → ∀ B2, Same B' B2 → SR c L' tb σ' B2 { nx := fun σ3 B3 L3 => ∃ m', m' < m ∧ Inv m' σ3 B3 L3, ct := fun σ3 B3 L3 => ∃ m', m' < m ∧ Inv m' σ3 B3 L3, bk := fun σ' B' L' => SR c L' rest σ' B' P, rt := P.rt }) ∧
      (Rb false → ∀ B2, Same B' B2 → SR c L' rest σ' B2 P)) : SR c L (tSeq (tWhile tt tb) rest) σ B P := sr_seq (sr_while1 (P := { P with nx := fun σ' B' L' => SR c L' rest σ' B' P }) Inv m0 h0 turn)
/-- a body keeps a promise of the form Sp1 -/
theorem body1 {K : Fg} {ι : Type} {T : ι → List Addr} {pre : ι → Hp → List V → Prop} {post : ι → V → Hp → Prop} {N : List Str} {t : TS}
    (h : ∀ (i : ι) (B H : Hp) (vs : List V), pre i B vs → SR ⟨K, T i, [], B, H⟩ [] t (start N vs) B { nx := fun _ B' _ => post i .non B', rt := fun v B' _ => post i v B' })
    (vs : List V) (H : Hp) (Q : VK) (E : XK) (hs : Sp1 K T pre post vs H Q E) : t { nx := fun _ H' => Q .non H', rt := Q } (start N vs) H := by
  obtain ⟨i, B, w, hp, q⟩ := hs
  exact h i B H vs hp H w _ ⟨fun _ B' L' H' _ w' p => q .non B' H' w'.nil p, fun v B' L' H' _ w' p => q v B' H' w'.nil p, fun _ _ _ _ _ _ p => p, fun _ _ _ _ _ _ p => p, fun _ _ p => p.elim⟩
/-- an owned list [numbers, place] becomes a state -/
theorem sr_state {p a : Addr} {ns : List Int} {pl : Int} (hS : p ∉ c.S) (hn : SqL c.K B a (ns.map V.int)) (h0 : ns ≠ []) (h1 : ns.length ≤ 10000)
    (h : SR { c with T := p :: c.T } L t σ B P) : SR c ((p, .lst [.ref a, .int pl]) :: L) t σ B P := fun H w D m => by
  obtain ⟨hB, hH, hT, hh⟩ := w.own _ List.mem_cons_self
  have h0' : c.H0 p = none := hh.elim id fun z => (hS z).elim
  have nd := w.nd
  simp only [List.map_cons, List.nodup_cons] at nd
  have back : ∀ B' L' H', Wd { c with T := p :: c.T } L' B' H' → Wd c L' B' H' := fun B' L' H' u =>
    ⟨u.le, u.b0, fun a o h1 h2 h3 => u.fr a o (fun z => by
      rcases List.mem_cons.mp z with z | z
      · subst z; rw [h0'] at h3; cases h3
      · exact h1 z) h2 h3, u.nw, fun s hs => u.st s (List.mem_cons_of_mem _ hs), fun s hs => u.ts s (List.mem_cons_of_mem _ hs), u.sk, fun q hq => by
      obtain ⟨q1, q2, q3, q4⟩ := u.own q hq
      exact ⟨q1, q2, fun z => q3 (List.mem_cons_of_mem _ z), q4⟩, u.nd⟩
  refine h H ⟨w.le, w.b0, fun a o h1 h2 h3 => w.fr a o (fun z => h1 (List.mem_cons_of_mem _ z)) h2 h3, w.nw, fun s hs => ?_, fun s hs => ?_, w.sk, fun q hq => ?_, nd.2⟩ D ⟨fun σ' B' L' H' e u => m.nx σ' B' L' H' e (back _ _ _ u), fun σ' B' L' H' e u => m.rt σ' B' L' H' e (back _ _ _ u), fun σ' B' L' H' e u => m.bk σ' B' L' H' e (back _ _ _ u), fun σ' B' L' H' e u => m.ct σ' B' L' H' e (back _ _ _ u), m.al⟩
  · rcases List.mem_cons.mp hs with z | z
    · subst z
      exact ⟨hB, a, ns, pl, hH, hn, h0, h1⟩
    · exact w.st s z
  · rcases List.mem_cons.mp hs with z | z
    · subst z; exact hS
    · exact w.ts s z
  · obtain ⟨q1, q2, q3, q4⟩ := w.own q (List.mem_cons_of_mem _ hq)
    refine ⟨q1, q2, fun z => ?_, q4⟩
    rcases List.mem_cons.mp z with z | z
    · exact nd.1 (z ▸ List.mem_map_of_mem hq)
    · exact q3 z
/-- a list that the older base does not know grows; from there on the older base stands -/
theorem sr_thaw {Bx : Hp} {a0 : Addr} {vs : List V} (ho : EvR c L ta σ B fun v B' => v = .ref a0 ∧ B' a0 = some (.lst vs)) (he : EvR c L te σ B fun _ _ => True) (hx : Bx a0 = none) (eB : Same Bx B) (hl : vs.length < sizeLine)
    (h : ∀ H', Same Bx H' → ∀ D : Ends, (∀ v H, P.al v → D.rt v H) → rest D σ H') : SR c L (tSeq (tDrop (tBM c.K "list" rAppend ta (tCons te tNil))) rest) σ B P := fun H w D m => by
  refine ho B H (Same.refl _) w _ fun v B2 H2 s2 ⟨ev, hv⟩ => ?_
  subst ev
  have w2 := s2.2 _ w
  refine ⟨.inl ⟨rfl, _, .inl (.inl (w2.le _ _ hv))⟩, he B2 H2 s2.1 w2 _ fun v B3 H3 s3 _ => ?_⟩
  have w3 := s3.2 _ w2
  refine ⟨a0, vs, v, rfl, rfl, w3.le _ _ (s3.1 _ _ hv), hl, h _ (fun b u e => ?_) D m.al⟩
  have z : b ≠ a0 := fun z => by subst z; rw [hx] at e; cases e
  rw [upd_ne z]
  exact w3.le _ _ (s3.1 _ _ (s2.1 _ _ (eB _ _ e)))
end
end Nz

/-! NzR: short names of rules for the printed derivations. -/
namespace Nz
open Py (rep)
open PySem PySem.Spec PyProof.Rows L2
abbrev rAddI : R2 := rI0 fun i j => .int (i + j)
abbrev rSubI : R2 := rI0 fun i j => .int (i - j)
abbrev rMulI : R2 := rI CMul fun i j => .int (i * j)
abbrev rModI : R2 := rI (fun _ j => 0 < j) fun i j => .int (i % j)
abbrev rDivI : R2 := rI CDiv fun i j => .int (i / j)
abbrev rPowI : R2 := rI CPow fun i j => .int (i ^ j.toNat)
abbrev rLtI : R2 := rI0 fun i j => .bl (decide (i < j))
abbrev rLeI : R2 := rI0 fun i j => .bl (decide (i ≤ j))
abbrev rGtI : R2 := rI0 fun i j => .bl (decide (j < i))
abbrev rGeI : R2 := rI0 fun i j => .bl (decide (j ≤ i))
abbrev rNegI : V → Hp → VK → Prop := rU fun i => .int (-i)
abbrev rIsN : R2 := fun x y H Q => y = .non ∧ Q (.bl (decide (x = .non))) H
abbrev rNotN : R2 := fun x y H Q => y = .non ∧ Q (.bl (!decide (x = .non))) H
abbrev rAbs : List V → Hp → VK → Prop := fun xs H Q => ∃ i, xs = [.int i] ∧ Q (.int (if i < 0 then -i else i)) H
abbrev rInt : List V → Hp → VK → Prop := fun xs H Q => (∃ i, xs = [.int i] ∧ Q (.int i) H) ∨ ∃ k, xs = [.bl k] ∧ Q (.int (if k then 1 else 0)) H
abbrev rListOf (K : Fg) : List V → Hp → VK → Prop := fun xs H Q => ∃ p ys, xs = [.ref p] ∧ (SqL K H p ys ∨ SqT K H p ys) ∧ ∀ l, H l = none → Q (.ref l) (upd H l (.lst ys))
abbrev rTupleOf (K : Fg) : List V → Hp → VK → Prop := fun xs H Q => ∃ p ys, xs = [.ref p] ∧ ((SqL K H p ys ∧ ∀ l, H l = none → Q (.ref l) (upd H l (.tup ys))) ∨ (SqT K H p ys ∧ Q (.ref p) H))
abbrev tTru (K : Fg) (te : TE) : TT := fun σ H Q => te σ H fun x H' => ∃ k, TruV K x H' k ∧ Q k H'
/-- the built-ins that the text does not bind -/
structure Bt (mg : Str → Option Value) : Prop where
  len : mg "len" = none
  range : mg "range" = none
  enumerate : mg "enumerate" = none
  zip : mg "zip" = none
  abs : mg "abs" = none
  int : mg "int" = none
  list : mg "list" = none
  tuple : mg "tuple" = none
  bool : mg "bool" = none
  repr : mg "repr" = none
  isinstance : mg "isinstance" = none
  sum : mg "sum" = none
  sorted : mg "sorted" = none
  iter : mg "iter" = none
  min : mg "min" = none
  max : mg "max" = none
section
variable (P : Program) (w : World) (K : Fg) (mg : Str → Option Value) (base : Heap) (CX : CXT) (k : Nat)
/-- a def of the module -/
structure Df (x : Str) (ps : List Str) (sp : Sp) : Prop where
  ex : ∃ f fd, FnOk P w K mg base CX k f fd ps sp ∧ mg x = some (.ref f) ∧ PySem.W.keepIn K (.ref f) = true ∧ Binds K fd ps []
structure DfG (x : Str) (ps : List Str) (sp : Sp) : Prop where
  ex : ∃ f fd, FnG P w K mg base CX k f fd ps sp ∧ mg x = some (.ref f) ∧ PySem.W.keepIn K (.ref f) = true ∧ Binds K fd ps []
/-- a special def of the class at C -/
structure Ds (C : Addr) (m : Str) (sp : Sp) : Prop where
  ex : ∃ f fd ps, Spc K C m f ∧ FnOk P w K mg base CX k f fd ps sp ∧ Binds K fd ps []
structure Di (C : Addr) : Prop where
  ex : ∃ f fd ps, Spc K C "__iter__" f ∧ FnX (fun _ => True) P w K mg base CX k f fd ps (spIt K C) ∧ Binds K fd ps []
/-- a property -/
structure Dp' (C : Addr) (m : Str) (sp : Sp) : Prop where
  ex : ∃ p g fd ps, Cls K C ∧ PropOf K C m p g ∧ FnOk P w K mg base CX k g fd ps sp ∧ Binds K fd ps []
/-- a method -/
structure Dm (C : Addr) (m : Str) (ps : List Str) (sp : Sp) : Prop where
  ex : ∃ f fd, Cls K C ∧ Meth K C m f ∧ FnOk P w K mg base CX k f fd ps sp ∧ Binds K fd ps []
/-- a class that is made -/
structure Dc (C : Addr) (x : Str) (ps : List Str) (sp : Sp) : Prop where
  ex : ∃ f fd, Mk K C f ∧ FnOk P w K mg base CX k f fd ps sp ∧ mg x = some (.ref C) ∧ Binds K fd ps []
end
section
variable {X : Cx} {CX : CXT} {k : Nat} {sp : Sp} {E : XK} {x m : Str} {ps : List Str} {p pos apos tpos : Pos} {e o : Expr} {es elts : List Expr} {t : TA} {te ta to : TE} {C : Addr} {kk : Nat} {tg : Expr}
theorem pe_callD (D : Df X.prog X.w X.K X.mg X.base CX k x ps sp) (hr : Room k X.A) (hg : Gl X x) (hx : Passes CX X E) (ha : PA X (e :: es) t) (hdb : (x == ("__debug__" : Str)) = false := by decide) (he : starEach (e :: es) X.env = (false, eval e X.env) :: starEach es X.env := by rfl)
    (hpl : (backTo pos (starEach es X.env)).any (·.1) = false := by rfl) : PE X (.Call (.Name x p) (e :: es) [] pos) (tCall sp [] E t) := by
  obtain ⟨f, fd, F, hm, hk, hb⟩ := D.ex
  exact pe_call F hr hg hm hk hb .nil hx ha hdb he hpl
theorem pe_callGD (D : DfG X.prog X.w X.K X.mg X.base CX k x ps sp) (hgd : X.A.guards = some []) (hr : Room k X.A) (hg : Gl X x) (hx : Passes CX X E) (ha : PA X (e :: es) t) (hdb : (x == ("__debug__" : Str)) = false := by decide) (he : starEach (e :: es) X.env = (false, eval e X.env) :: starEach es X.env := by rfl)
    (hpl : (backTo pos (starEach es X.env)).any (·.1) = false := by rfl) : PE X (.Call (.Name x p) (e :: es) [] pos) (tCall sp [] E t) := by
  obtain ⟨f, fd, F, hm, hk, hb⟩ := D.ex
  exact pe_callG F hgd hr hg hm hk hb .nil hx ha hdb he hpl
theorem call_lenD (D : Ds X.prog X.w X.K X.mg X.base CX k C "__len__" sp) (hr : Room (k + 1) X.A) (hx : Passes CX X.nox E) : CallR X (.builtin "len") (rLenO C sp E) := by
  obtain ⟨f, fd, ps, c, F, hb⟩ := D.ex
  exact call_lenO c F hb hr hx
theorem pi_ownD (D : Di X.prog X.w X.K X.mg X.base CX k C) (he : PE X e te) (hr : Room k X.A) (hx : Passes CX X.nox E) : PI X tg e (iOwn X.K C te) := by
  obtain ⟨f, fd, ps, c, F, hb⟩ := D.ex
  exact pi_own he c F hb hr hx
theorem pi_enumD (D : Di X.prog X.w X.K X.mg X.base CX k C) (hr : Room (k + 2) X.A) (hx : Passes CX X.nox E) (hg : Gl X "enumerate") (hm : X.mg "enumerate" = none) (ha : PA X [e] t) (hs : starEach [e] X.env = [(false, eval e X.env)] := by rfl) :
    PI X (.Tuple elts kk tpos) (.Call (.Name "enumerate" p) [e] [] pos) (iEnumO X.K C t) := by
  obtain ⟨f, fd, ps, c, F, hb⟩ := D.ex
  exact pi_enumO c F hb hr hx hg hm ha hs
theorem pe_propD (D : Dp' X.prog X.w X.K X.mg X.base CX k C m sp) (he : PE X e te) (hr : Room (k + 1) X.A) (hx : Passes CX X.nox E) (hab : attributeBase e m X.env (eval e X.env) = eval e X.env) : PE X (.Attribute e m pos) (tProp C sp [] E te) := by
  obtain ⟨q, g, fd, ps, c, hp, F, hb⟩ := D.ex
  exact pe_prop he c hp F hr hb .nil hx hab
theorem pe_makeD (D : Dc X.prog X.w X.K X.mg X.base CX k C x ps sp) (hr : Room (k + 1) X.A) (hg : Gl X x) (hx : Passes CX X E) (ha : PA X (e :: es) t) (hdb : (x == ("__debug__" : Str)) = false := by decide) (he : starEach (e :: es) X.env = (false, eval e X.env) :: starEach es X.env := by rfl)
    (hpl : (backTo pos (starEach es X.env)).any (·.1) = false := by rfl) : PE X (.Call (.Name x p) (e :: es) [] pos) (tMake C sp [] E t) := by
  obtain ⟨f, fd, M, F, hm, hb⟩ := D.ex
  exact pe_make M F hr hg hm hb .nil hx ha hdb he hpl
theorem pe_methD {pl : Sem Bool} (D : Dm X.prog X.w X.K X.mg X.base CX k C m ps sp) (he : PE X o to) (hr : Room k X.A) (hx : Passes CX X E) (ha : PA X (e :: es) t)
    (hst : starEach (e :: es) X.env = (false, eval e X.env) :: starEach es X.env := by rfl) (hpl : (backTo pos (starEach es X.env)).any (·.1) = false := by rfl)
    (ht : eval (.Call (.Attribute o m apos) (e :: es) [] pos) X.env = (do let ov ← eval o X.env; standAt apos.atName; let (f, first) ← holding [ov] (getMethod ov m pl); callWith pos f first (backTo pos (starEach (e :: es) X.env)) (backToKw pos (keywordEach [] X.env))) := by rfl) :
    PE X (.Call (.Attribute o m apos) (e :: es) [] pos) (tMeth C m sp [] E to t) := by
  obtain ⟨f, fd, c, M, F, hb⟩ := D.ex
  exact pe_meth he c M F hr hb .nil hx ha hst hpl ht
theorem pe_listRange {t1 : TE} {p2 pos2 : Pos} (hg : Gl X "list") (hm : X.mg "list" = none) (hg2 : Gl X "range") (hm2 : X.mg "range" = none) (hc : X.calm = true) (ha : PE X e t1) (na : starEach [e] X.env = (false, eval e X.env) :: starEach [] X.env := by rfl)
    (na2 : starEach [.Call (.Name "range" p2) [e] [] pos2] X.env = (false, eval (.Call (.Name "range" p2) [e] [] pos2) X.env) :: starEach [] X.env := by rfl) :
    PE X (.Call (.Name "list" p) [.Call (.Name "range" p2) [e] [] pos2] [] pos) (tLstRg (tRg1 t1)) := pe_listRg hc hg hm (prg_1 hg2 hm2 ha na) na2
end
end Nz

/-! NzZ: zip of a tuple or list with a tuple or list; a for over a tuple or list. -/
namespace Nz
open Py (rep)
open PySem PySem.Spec PyProof.Rows L2
/-- b: a tuple's iterator; else a list's -/
def ItAt (b : Bool) (h : Heap) (it l : Addr) (k : Nat) : Prop := match b with
  | true => h.IsTupleIter it l k
  | false => h.IsListIter it l k
def SqAt (b : Bool) (h : Heap) (l : Addr) (xs : Array Value) : Prop := match b with
  | true => h.IsTuple l xs
  | false => h.IsList l xs
theorem ItAt.keep {b : Bool} {h h' : Heap} {it l : Addr} {k : Nat} (q : ItAt b h it l k) (e : ∀ o, h.get? it = some o → h'.get? it = some o) : ItAt b h' it l k := by
  cases b with
  | true => exact Heap.IsTupleIter.at q e
  | false => exact Heap.IsListIter.at q e
theorem SqAt.keep {b : Bool} {h h' : Heap} {l : Addr} {xs : Array Value} (q : SqAt b h l xs) (e : ∀ o, h.get? l = some o → h'.get? l = some o) : SqAt b h' l xs := by
  cases b with
  | true => obtain ⟨o, h1, h2⟩ := q; exact ⟨o, e o h1, h2⟩
  | false => obtain ⟨o, h1, h2⟩ := q; exact ⟨o, e o h1, h2⟩
theorem ItAt.obj {b : Bool} {h : Heap} {it l : Addr} {k : Nat} (q : ItAt b h it l k) : ∃ o, h.get? it = some o ∧ ∀ v, o.data ≠ .cell v := by
  cases b with
  | true => obtain ⟨o, h1, _, h2⟩ := q; exact ⟨o, h1, fun v e => by rw [h2] at e; cases e⟩
  | false => obtain ⟨o, h1, _, h2⟩ := q; exact ⟨o, h1, fun v e => by rw [h2] at e; cases e⟩
section
variable {prog : Program} {w : World} {A : Around} {E : Value → Shared → Prop} {s : Shared}
theorem nextB_item {b : Bool} {it l : Addr} {i : Nat} {items : Array Value} {x : Value} {Q : Value → Shared → Prop} (hit : ItAt b s.heap it l i) (hl : SqAt b s.heap l items) (hx : items[i]? = some x)
    (hQ : ∀ h', ItAt b h' it l (i + 1) → Heap.SameBut it s.heap h' → Q x { s with heap := h' }) : wpAny (model prog w) A (Builtin.SmallTypes.nextOf (.ref it)) Q E s := by
  cases b with
  | true => exact RZ.nextOf_tuple_item hit hl hx hQ
  | false => exact wpAny_nextOf_list_item hit hl hx hQ
theorem nextB_end {b : Bool} {it l : Addr} {i : Nat} {items : Array Value} {Q : Value → Shared → Prop} (hh : A.handled = none) (hit : ItAt b s.heap it l i) (hl : SqAt b s.heap l items) (hx : items[i]? = none)
    (hE : ∀ h' e, Heap.ExtBut it s.heap h' → (∃ o, h'.get? e = some o ∧ o.cls = .type "StopIteration") → E (.ref e) { s with heap := h' }) : wpAny (model prog w) A (Builtin.SmallTypes.nextOf (.ref it)) Q E s := by
  cases b with
  | true => exact RZ.nextOf_tuple_end hh hit hl hx hE
  | false => exact wpAny_nextOf_list_end hh hit hl hx hE
variable {b1 b2 : Bool} {z TI TO i1 i2 l1 l2 : Addr} {k1 k2 : Nat} {xs ys : Array Value} {a b : Value}
/-- what a turn of such a zip starts from -/
structure ZSt (b1 b2 : Bool) (h : Heap) (z TI TO i1 i2 l1 l2 : Addr) (k1 k2 : Nat) (a b : Value) : Prop where
  ap : ZipApart z TI TO i1 i2 l1 l2
  hz : IsZip h z TI TO .none
  ti : IsPair h TI (.ref i1) (.ref i2)
  to : IsPair h TO a b
  it1 : ItAt b1 h i1 l1 k1
  it2 : ItAt b2 h i2 l2 k2
/-- the opening of zip.__next__: behind it the first draw is asked -/
theorem zipB_item {x y : Value} {Q : Value → Shared → Prop} (S : ZSt b1 b2 s.heap z TI TO i1 i2 l1 l2 k1 k2 a b) (hl1 : SqAt b1 s.heap l1 xs) (hl2 : SqAt b2 s.heap l2 ys) (hx : xs[k1]? = some x) (hy : ys[k2]? = some y)
    (hQ : ∀ h', IsZip h' z TI TO (rawInt s.heap.objs.size) → IsPair h' TO x y → ItAt b1 h' i1 l1 (k1 + 1) → ItAt b2 h' i2 l2 (k2 + 1) → IsPair h' s.heap.objs.size x y → h'.objs.size = s.heap.objs.size + 1 →
      (∀ c o, c ≠ z → c ≠ TO → c ≠ i1 → c ≠ i2 → s.heap.get? c = some o → h'.get? c = some o) → Q (.ref s.heap.objs.size) { s with heap := h' }) :
    wpAny (model prog w) A (Builtin.«zip.__next__» ⟨[.ref z], []⟩) (fun fin s' => ∃ v, fin = .done (.ret v) ∧ Q v s') E s := by
  obtain ⟨D, hz, hTI, hTO, h1, h2⟩ := S
  show wpAny _ _ (field (.ref z) 2 >>= _) _ _ _
  refine wpAny_bind (wpAny_field hz rfl (x := .bool false) rfl ?_)
  show wpAny _ _ (field (.ref z) 3 >>= _) _ _ _
  refine wpAny_bind (wpAny_field hz rfl (x := .ref TI) rfl (wpAny_bind (wpAny_seqItems hTI rfl ?_)))
  show wpAny _ _ (Builtin.SmallTypes.ownedTupleIsFree (.ref z) >>= _) _ _ _
  unfold Builtin.SmallTypes.ownedTupleIsFree
  refine wpAny_bind (wpAny_bind (wpAny_field hz rfl (x := .none) rfl (wpAny_pure ?_)))
  simp only [if_true]
  refine wpAny_bind (wpAny_rule (wpAny_bind (wpAny_field hz rfl (x := .ref TO) rfl (wpAny_bind (wpAny_setField_rec hz (by simp) fun g1 z1 m1 => ?_)))))
  replace z1 : IsZip g1 z TI TO .ellipsis := z1
  refine wpAny_bind ?_
  simp only [List.zipIdx_cons, List.zipIdx_nil, List.forIn_cons, List.forIn_nil]
  refine wpAny_bind (wpAny_bind (wpAny_onRaise ?_))
  show wpAny _ _ (Builtin.SmallTypes.nextOf (.ref i1) >>= _) _ _ _
  refine wpAny_bind (nextB_item (h1.keep fun o e => m1.extBut _ o D.i1z e) (hl1.keep fun o e => m1.extBut _ o D.l1z e) hx fun g2 a2 m2 => wpAny_pure ?_)
  have to2 : IsPair g2 TO a b := m2.extBut _ _ D.TOi1 (m1.extBut _ _ D.TOz hTO)
  refine wpAny_bind (wpAny_seqItems to2 rfl (wpAny_bind (wpAny_updateSeq_pair to2 fun g3 to3 m3 => ?_)))
  replace to3 : IsPair g3 TO x b := to3
  refine wpAny_bind (wpAny_letGo (wpAny_pure (wpAny_bind (wpAny_bind (wpAny_onRaise ?_)))))
  show wpAny _ _ (Builtin.SmallTypes.nextOf (.ref i2) >>= _) _ _ _
  refine wpAny_bind (nextB_item (h2.keep fun o e => m3.extBut _ o D.TOi2.symm (m2.extBut _ o D.i12.symm (m1.extBut _ o D.i2z e))) (hl2.keep fun o e => m3.extBut _ o D.l2TO (m2.extBut _ o D.l2i1 (m1.extBut _ o D.l2z e))) hy fun g4 a4 m4 => wpAny_pure ?_)
  have to4 : IsPair g4 TO x b := m4.extBut _ _ D.TOi2 to3
  refine wpAny_bind (wpAny_seqItems to4 rfl (wpAny_bind (wpAny_updateSeq_pair to4 fun g5 to5 m5 => ?_)))
  replace to5 : IsPair g5 TO x y := to5
  refine wpAny_bind (wpAny_letGo (wpAny_pure (wpAny_pure (wpAny_bind (wpAny_seqItems to5 rfl (wpAny_bind (wpAny_newTuple ?_)))))))
  have sz : g5.objs.size = s.heap.objs.size := by rw [m5.1, m4.1, m3.1, m2.1, m1.1]
  have z5 : IsZip g5 z TI TO .ellipsis := m5.extBut _ _ D.TOz.symm (m4.extBut _ _ D.i2z.symm (m3.extBut _ _ D.TOz.symm (m2.extBut _ _ D.i1z.symm z1)))
  have keep5 : ∀ c o, c ≠ z → c ≠ TO → c ≠ i1 → c ≠ i2 → s.heap.get? c = some o → g5.get? c = some o := fun c o c1 c2 c3 c4 e =>
    m5.extBut _ _ c2 (m4.extBut _ _ c4 (m3.extBut _ _ c2 (m2.extBut _ _ c3 (m1.extBut _ _ c1 e))))
  have p1 : ItAt b1 g5 i1 l1 (k1 + 1) := a2.keep fun o e => m5.extBut _ o D.TOi1.symm (m4.extBut _ o D.i12 (m3.extBut _ o D.TOi1.symm e))
  have p2 : ItAt b2 g5 i2 l2 (k2 + 1) := a4.keep fun o e => m5.extBut _ o D.TOi2.symm e
  have zl : z < g5.objs.size := Heap.lt_size z5
  show wpAny _ _ (Builtin.SmallTypes.ownedTupleHandOut (.ref z) (.ref g5.objs.size) >>= _) _ _ _
  unfold Builtin.SmallTypes.ownedTupleHandOut
  have z6 : IsZip (g5.push { cls := .type "tuple", data := .seq #[x, y] }) z TI TO .ellipsis := Heap.get?_push_of_some _ z5
  refine wpAny_bind (wpAny_bind (wpAny_setField_rec z6 (by simp) fun g7 z7 m7 => ?_))
  replace z7 : IsZip g7 z TI TO (rawInt g5.objs.size) := z7
  refine wpAny_setField_rec z7 (by simp) fun g8 z8 m8 => ?_
  replace z8 : IsZip g8 z TI TO (rawInt g5.objs.size) := z8
  have up : ∀ c o, c ≠ z → g5.get? c = some o → g8.get? c = some o := fun c o c1 e => m8.extBut _ _ c1 (m7.extBut _ _ c1 (Heap.get?_push_of_some _ e))
  have t8 : IsPair g8 g5.objs.size x y := m8.extBut _ _ (Nat.ne_of_gt zl) (m7.extBut _ _ (Nat.ne_of_gt zl) (Heap.get?_push_size _ rfl))
  have s8 : g8.objs.size = g5.objs.size + 1 := by rw [m8.1, m7.1, Heap.size_push]
  rw [sz] at z8 t8 s8
  refine wpAny_pure ⟨_, rfl, ?_⟩
  show Q (.ref g5.objs.size) _
  rw [sz]
  exact hQ g8 z8 (up _ _ D.TOz to5) (p1.keep fun o e => up _ o D.i1z e) (p2.keep fun o e => up _ o D.i2z e) t8 s8 fun c o c1 c2 c3 c4 e => up c o c1 (keep5 c o c1 c2 c3 c4 e)
theorem zipB_end {Q : Fin → Shared → Prop} (hh : A.handled = none) (S : ZSt b1 b2 s.heap z TI TO i1 i2 l1 l2 k1 k2 a b) (hl1 : SqAt b1 s.heap l1 xs) (hl2 : SqAt b2 s.heap l2 ys) (hend : xs[k1]? = none ∨ ys[k2]? = none)
    (hE : ∀ h' e, (∀ c o, c ≠ z → c ≠ TO → c ≠ i1 → c ≠ i2 → s.heap.get? c = some o → h'.get? c = some o) → (∃ o, h'.get? e = some o ∧ o.cls = .type "StopIteration") → E (.ref e) { s with heap := h' }) :
    wpAny (model prog w) A (Builtin.«zip.__next__» ⟨[.ref z], []⟩) Q E s := by
  obtain ⟨D, hz, hTI, hTO, h1, h2⟩ := S
  show wpAny _ _ (field (.ref z) 2 >>= _) _ _ _
  refine wpAny_bind (wpAny_field hz rfl (x := .bool false) rfl ?_)
  show wpAny _ _ (field (.ref z) 3 >>= _) _ _ _
  refine wpAny_bind (wpAny_field hz rfl (x := .ref TI) rfl (wpAny_bind (wpAny_seqItems hTI rfl ?_)))
  show wpAny _ _ (Builtin.SmallTypes.ownedTupleIsFree (.ref z) >>= _) _ _ _
  unfold Builtin.SmallTypes.ownedTupleIsFree
  refine wpAny_bind (wpAny_bind (wpAny_field hz rfl (x := .none) rfl (wpAny_pure ?_)))
  simp only [if_true]
  refine wpAny_bind (wpAny_rule (wpAny_bind (wpAny_field hz rfl (x := .ref TO) rfl (wpAny_bind (wpAny_setField_rec hz (by simp) fun g1 z1 m1 => ?_)))))
  replace z1 : IsZip g1 z TI TO .ellipsis := z1
  refine wpAny_bind ?_
  simp only [List.zipIdx_cons, List.zipIdx_nil, List.forIn_cons, List.forIn_nil]
  refine wpAny_bind (wpAny_bind (wpAny_onRaise ?_))
  show wpAny _ _ (Builtin.SmallTypes.nextOf (.ref i1) >>= _) _ _ _
  have q1 : ItAt b1 g1 i1 l1 k1 := h1.keep fun o e => m1.extBut _ o D.i1z e
  have r1 : SqAt b1 g1 l1 xs := hl1.keep fun o e => m1.extBut _ o D.l1z e
  cases hx : xs[k1]? with
  | none =>
    refine wpAny_bind (nextB_end hh q1 r1 hx fun g2 e m2 he => ?_)
    obtain ⟨oe, hoe, hce⟩ := he
    have z2 : IsZip g2 z TI TO .ellipsis := m2 _ _ D.i1z.symm z1
    have ez : e ≠ z := fun q => by
      rw [q, z2] at hoe
      cases hoe
      simp at hce
    exact wpAny_setField_rec z2 (by simp) fun g3 _ m3 => hE g3 e (fun c o c1 _ c3 _ q => m3.extBut _ _ c1 (m2 _ _ c3 (m1.extBut _ _ c1 q))) ⟨oe, m3.extBut _ _ ez hoe, hce⟩
  | some x =>
    have hy : ys[k2]? = none := hend.elim (fun q => by rw [hx] at q; cases q) id
    refine wpAny_bind (nextB_item q1 r1 hx fun g2 a2 m2 => wpAny_pure ?_)
    have to2 : IsPair g2 TO a b := m2.extBut _ _ D.TOi1 (m1.extBut _ _ D.TOz hTO)
    refine wpAny_bind (wpAny_seqItems to2 rfl (wpAny_bind (wpAny_updateSeq_pair to2 fun g3 to3 m3 => ?_)))
    refine wpAny_bind (wpAny_letGo (wpAny_pure (wpAny_bind (wpAny_bind (wpAny_onRaise ?_)))))
    show wpAny _ _ (Builtin.SmallTypes.nextOf (.ref i2) >>= _) _ _ _
    refine wpAny_bind (nextB_end hh (h2.keep fun o e => m3.extBut _ o D.TOi2.symm (m2.extBut _ o D.i12.symm (m1.extBut _ o D.i2z e))) (hl2.keep fun o e => m3.extBut _ o D.l2TO (m2.extBut _ o D.l2i1 (m1.extBut _ o D.l2z e))) hy fun g4 e m4 he => ?_)
    obtain ⟨oe, hoe, hce⟩ := he
    have z4 : IsZip g4 z TI TO .ellipsis := m4 _ _ D.i2z.symm (m3.extBut _ _ D.TOz.symm (m2.extBut _ _ D.i1z.symm z1))
    have ez : e ≠ z := fun q => by
      rw [q, z4] at hoe
      cases hoe
      simp at hce
    exact wpAny_setField_rec z4 (by simp) fun g5 _ m5 => hE g5 e (fun c o c1 c2 c3 c4 q => m5.extBut _ _ c1 (m4 _ _ c4 (m3.extBut _ _ c2 (m2.extBut _ _ c3 (m1.extBut _ _ c1 q))))) ⟨oe, m5.extBut _ _ ez hoe, hce⟩
theorem nextZ_item {x y : Value} {Q : Option Value → Shared → Prop} (S : ZSt b1 b2 s.heap z TI TO i1 i2 l1 l2 k1 k2 a b) (hl1 : SqAt b1 s.heap l1 xs) (hl2 : SqAt b2 s.heap l2 ys) (hx : xs[k1]? = some x) (hy : ys[k2]? = some y)
    (hQ : ∀ h', IsZip h' z TI TO (rawInt s.heap.objs.size) → IsPair h' TO x y → ItAt b1 h' i1 l1 (k1 + 1) → ItAt b2 h' i2 l2 (k2 + 1) → IsPair h' s.heap.objs.size x y → h'.objs.size = s.heap.objs.size + 1 →
      (∀ c o, c ≠ z → c ≠ TO → c ≠ i1 → c ≠ i2 → s.heap.get? c = some o → h'.get? c = some o) → Q (some (.ref s.heap.objs.size)) { s with heap := h' }) : wpAny (model prog w) A (pyNext (.ref z)) Q E s := by
  have hT : s.TypeIs (.ref z) "zip" := ⟨_, S.hz, rfl⟩
  unfold pyNext
  refine wpAny_bind (wpAny_attempt (wpAny_callSpecial?_slot (name := Str.ofString "__next__") hT PySem.F.slot_zip_next (wpAny_call_entry PySem.F.slot_zip_next hT PySem.F.entry_zip_next ?_ (PySem.F.args_zip_next_1 _))))
  exact zipB_item S hl1 hl2 hx hy fun h' c1 c2 c3 c4 c5 c6 c7 => wpAny_pure (hQ h' c1 c2 c3 c4 c5 c6 c7)
theorem nextZ_end {Q : Option Value → Shared → Prop} (hh : A.handled = none) (S : ZSt b1 b2 s.heap z TI TO i1 i2 l1 l2 k1 k2 a b) (hl1 : SqAt b1 s.heap l1 xs) (hl2 : SqAt b2 s.heap l2 ys) (hend : xs[k1]? = none ∨ ys[k2]? = none)
    (hQ : ∀ h', (∀ c o, c ≠ z → c ≠ TO → c ≠ i1 → c ≠ i2 → s.heap.get? c = some o → h'.get? c = some o) → Q none { s with heap := h' }) : wpAny (model prog w) A (pyNext (.ref z)) Q E s := by
  have hT : s.TypeIs (.ref z) "zip" := ⟨_, S.hz, rfl⟩
  unfold pyNext
  refine wpAny_bind (wpAny_attempt (wpAny_callSpecial?_slot (name := Str.ofString "__next__") hT PySem.F.slot_zip_next (wpAny_call_entry PySem.F.slot_zip_next hT PySem.F.entry_zip_next ?_ (PySem.F.args_zip_next_1 _))))
  refine zipB_end hh S hl1 hl2 hend fun h' e hk he => ?_
  obtain ⟨o, ho, hc⟩ := he
  exact wpAny_bind (wpAny_isInstance (T := "StopIteration") (b := true) ⟨o, ho, hc⟩ isSubtype_stop (wpAny_pure (hQ _ hk)))
/-- zip(a tuple, a list) -/
def zm1 (h : Heap) (l1 : Addr) : Heap := h.push { cls := .type "tuple_iterator", data := .fields #[.ref l1, .int 0 0] }
def zm2 (h : Heap) (l1 l2 : Addr) : Heap := (zm1 h l1).push { cls := .type "list_iterator", data := .fields #[.ref l2, .int 0 0] }
def zm3 (h : Heap) (l1 l2 : Addr) : Heap := (zm2 h l1 l2).push { cls := .type "tuple", data := .seq #[.ref h.objs.size, .ref (zm1 h l1).objs.size] }
def zm4 (h : Heap) (l1 l2 : Addr) : Heap := (zm3 h l1 l2).push { cls := .type "tuple", data := .seq #[.none, .none] }
def zm5 (h : Heap) (l1 l2 : Addr) : Heap := (zm4 h l1 l2).push { cls := .type "zip", data := .fields #[.none, .bool false, .bool false, .ref (zm2 h l1 l2).objs.size, .ref (zm3 h l1 l2).objs.size] }
theorem meets_zm (l1 l2 : Addr) (xs ys : Array Value) : Meets (Builtin.«zip.__new__» ⟨[.type "zip", .ref l1, .ref l2], []⟩) (fun _ R s => s.heap.IsTuple l1 xs ∧ s.heap.IsList l2 ys ∧ R (.ok (.ret (.ref (zm4 s.heap l1 l2).objs.size))) { s with heap := zm5 s.heap l1 l2 }) :=
  .of_wp fun prog w A R s h => by
    obtain ⟨hp, g, d, tk, os⟩ := s
    obtain ⟨h1, h2, h⟩ := h
    have hsub := sub_zip
    have q1 : Heap.IsTuple (Shared.heap ⟨hp, g, d, tk, os⟩) l1 xs := h1
    have q2 : Heap.IsList (Shared.heap ⟨hp.push { cls := .type "tuple_iterator", data := .fields #[.ref l1, .int 0 0] }, g, d, tk, os⟩) l2 ys := Heap.IsList.push h2 _
    wp_walk using wpAny_pyIter_tuple q1, wpAny_pyIter_list q2
    exact ⟨_, rfl, h⟩
theorem call_zm {Q : Value → Shared → Prop} (h1 : s.heap.IsTuple l1 xs) (h2 : s.heap.IsList l2 ys)
    (h : ∀ h', ZSt true false h' (s.heap.objs.size + 4) (s.heap.objs.size + 2) (s.heap.objs.size + 3) s.heap.objs.size (s.heap.objs.size + 1) l1 l2 0 0 .none .none → (∀ c o, s.heap.get? c = some o → h'.get? c = some o) → Q (.ref (s.heap.objs.size + 4)) { s with heap := h' }) :
    wpAny (model prog w) A (call (.type "zip") [.ref l1, .ref l2]) Q E s := by
  have la : l1 < s.heap.objs.size := by obtain ⟨o, e, _⟩ := h1; exact Heap.lt_size e
  have lb : l2 < s.heap.objs.size := by obtain ⟨o, e, _⟩ := h2; exact Heap.lt_size e
  refine callType_new PySem.F.called_zip (by decide) (PySem.F.typeCall_zip_2 _ _) (PySem.F.newCall_zip_2 _ _) (fun obj => PySem.F.args_object_init_3 obj _ _) PySem.F.entry_zip_new (meets_zm l1 l2 xs ys) ⟨h1, h2, ?_⟩
  have n1 : (zm1 s.heap l1).objs.size = s.heap.objs.size + 1 := Heap.size_push ..
  have n2 : (zm2 s.heap l1 l2).objs.size = s.heap.objs.size + 2 := by unfold zm2; rw [Heap.size_push, n1]
  have n3 : (zm3 s.heap l1 l2).objs.size = s.heap.objs.size + 3 := by unfold zm3; rw [Heap.size_push, n2]
  have n4 : (zm4 s.heap l1 l2).objs.size = s.heap.objs.size + 4 := by unfold zm4; rw [Heap.size_push, n3]
  have k5 : ∀ c o, (zm4 s.heap l1 l2).get? c = some o → (zm5 s.heap l1 l2).get? c = some o := fun c o e => Heap.get?_push_of_some _ e
  have k4 : ∀ c o, (zm3 s.heap l1 l2).get? c = some o → (zm5 s.heap l1 l2).get? c = some o := fun c o e => k5 c o (Heap.get?_push_of_some _ e)
  have k3 : ∀ c o, (zm2 s.heap l1 l2).get? c = some o → (zm5 s.heap l1 l2).get? c = some o := fun c o e => k4 c o (Heap.get?_push_of_some _ e)
  have k2 : ∀ c o, (zm1 s.heap l1).get? c = some o → (zm5 s.heap l1 l2).get? c = some o := fun c o e => k3 c o (Heap.get?_push_of_some _ e)
  have k1 : ∀ c o, s.heap.get? c = some o → (zm5 s.heap l1 l2).get? c = some o := fun c o e => k2 c o (Heap.get?_push_of_some _ e)
  have g5 : (zm5 s.heap l1 l2).get? (zm4 s.heap l1 l2).objs.size = some { cls := .type "zip", data := .fields #[.none, .bool false, .bool false, .ref (zm2 s.heap l1 l2).objs.size, .ref (zm3 s.heap l1 l2).objs.size] } := Heap.get?_push_size _ rfl
  have g4 := k5 _ { cls := .type "tuple", data := .seq #[.none, .none] } (Heap.get?_push_size (zm3 s.heap l1 l2) rfl)
  have g3 := k4 _ { cls := .type "tuple", data := .seq #[.ref s.heap.objs.size, .ref (zm1 s.heap l1).objs.size] } (Heap.get?_push_size (zm2 s.heap l1 l2) rfl)
  have g2 := k3 _ { cls := .type "list_iterator", data := .fields #[.ref l2, .int 0 0] } (Heap.get?_push_size (zm1 s.heap l1) rfl)
  have g1 := k2 _ { cls := .type "tuple_iterator", data := .fields #[.ref l1, .int 0 0] } (Heap.get?_push_size s.heap rfl)
  rw [n4, n2, n3] at g5
  rw [n3] at g4
  rw [n2, n1] at g3
  rw [n1] at g2
  show _ ∧ _
  rw [n4]
  exact ⟨⟨_, g5, rfl⟩, h _ ⟨PySem.W.ktu_apart s.heap.objs.size l1 l2 la lb, g5, g3, g4, ⟨_, g1, rfl, rfl⟩, ⟨_, g2, rfl, rfl⟩⟩ k1⟩
end
/-! ### the walk -/
def Itm (K : Fg) (a b : Addr) : It :=
  ⟨fun i H => ∃ (xs ys : List V) (x y : V), SqT K H a xs ∧ SqL K H b ys ∧ xs[i]? = some x ∧ ys[i]? = some y,
    fun i H v H' => ∃ T x y, v = .ref T ∧ H T = none ∧ H' = upd H T (.tup [x, y]) ∧ (∀ xs, SqT K H a xs → xs[i]? = some x) ∧ ∀ ys, SqL K H b ys → ys[i]? = some y,
    fun i H => ∃ xs ys : List V, SqT K H a xs ∧ SqL K H b ys ∧ (xs.length ≤ i ∨ ys.length ≤ i)⟩
theorem turn_zm {P : Program} {w : World} {K : Fg} {elts : List Expr} {kk : Nat} {tpos : Pos} {a b z TI TO i1 i2 : Addr} :
    Turn P w K (.Tuple elts kk tpos) (Itm K a b) [z, TI, TO, i1, i2] z (fun i h => ∃ x y, ZSt true false h z TI TO i1 i2 a b i i x y) where
  mem := by simp
  obj := fun i h ⟨x, y, S⟩ c hc => by
    have e' : c = z ∨ c = TI ∨ c = TO ∨ c = i1 ∨ c = i2 := by simpa using hc
    rcases e' with q | q | q | q | q
    · subst q; exact ⟨_, S.hz, fun v q => nomatch q⟩
    · subst q; exact ⟨_, S.ti, fun v q => nomatch q⟩
    · subst q; exact ⟨_, S.to, fun v q => nomatch q⟩
    · subst q; exact S.it1.obj
    · subst q; exact S.it2.obj
  keep := fun i h h' ⟨x, y, S⟩ k => ⟨x, y, S.ap, k z (by simp) _ S.hz, k TI (by simp) _ S.ti, k TO (by simp) _ S.to, S.it1.keep (k i1 (by simp)), S.it2.keep (k i2 (by simp))⟩
  item := by
    intro X hP hw hK hc i pins s σ H E I hf ⟨x0, y0, S⟩ hg
    subst hP hw hK
    obtain ⟨xs, ys, x, y, hqx, hqy, hx, hy⟩ := hg
    obtain ⟨its, rv, p, _⟩ := I.tuple hqx
    obtain ⟨its2, rv2, p2, _⟩ := I.list hqy
    obtain ⟨u, hu, ru⟩ := rv.get hx
    obtain ⟨u2, hu2, ru2⟩ := rv2.get hy
    have D := S.ap
    have lz : z < s.heap.objs.size := Heap.lt_size S.hz
    refine nextZ_item S (xs := its.toArray) (ys := its2.toArray) p p2.isList (x := u) (y := u2) (by simpa using hu) (by simpa using hu2) fun g gz gto g1 g2 gT gs gk => ?_
    refine ⟨_, rfl, wpAny_letOwnedTupleGo_zip (s := { s with heap := g }) gz fun h2 z2 sb => ?_⟩
    have hT : h2.get? s.heap.objs.size = some { cls := .type "tuple", data := .seq #[u, u2] } := (sb.2 _ (Nat.ne_of_gt lz)).trans gT
    have new : ObjOk X.prog X.w (upd H s.heap.objs.size (.tup [x, y])) h2 s.heap.objs.size (.tup [x, y]) := ⟨by show 2 ≤ sizeLine; decide, [u, u2], .cons ru (.cons ru2 .nil), ⟨_, hT, rfl, _, rfl⟩⟩
    have I1 : Inv X pins σ (upd H s.heap.objs.size (.tup [x, y])) { s with heap := h2 } :=
      I.turnedNew (t' := s.toks) (ch := [z, TI, TO, i1, i2]) (fun c o hb q => (sb.2 c (fun e => hb (by simp [e]))).trans (gk c o (fun e => hb (by simp [e])) (fun e => hb (by simp [e])) (fun e => hb (by simp [e])) (fun e => hb (by simp [e])) q)) hf (Nat.le_refl _) new
    refine ⟨.ref s.heap.objs.size, _, I1, rfl, ⟨_, x, y, rfl, I.hok.fresh (Nat.le_refl _), rfl, fun l hl => by rw [I.tuple_inj hl hqx]; exact hx, fun l hl => by rw [I.list_inj hl hqy]; exact hy⟩, ⟨u, u2, D, z2, (sb.2 _ D.TIz).trans (gk _ _ D.TIz D.TITO D.TIi1 D.TIi2 S.ti), (sb.2 _ D.TOz).trans gto, g1.keep fun o q => (sb.2 _ D.i1z).trans q, g2.keep fun o q => (sb.2 _ D.i2z).trans q⟩, fun c hcm => ?_⟩
    have lt : c < s.heap.objs.size := by
      have e' : c = z ∨ c = TI ∨ c = TO ∨ c = i1 ∨ c = i2 := by simpa using hcm
      rcases e' with q | q | q | q | q
      · rw [q]; exact lz
      · rw [q]; exact Heap.lt_size S.ti
      · rw [q]; exact Heap.lt_size S.to
      · rw [q]; obtain ⟨o, e1, _⟩ := S.it1.obj; exact Heap.lt_size e1
      · rw [q]; obtain ⟨o, e2, _⟩ := S.it2.obj; exact Heap.lt_size e2
    rw [upd_ne (Nat.ne_of_lt lt)]
    exact (hf c hcm).1
  done := by
    intro X hP hw hK hc i pins s σ H E I hf ⟨x0, y0, S⟩ hg
    subst hP hw hK
    obtain ⟨xs, ys, hqx, hqy, hend⟩ := hg
    obtain ⟨its, rv, p, _⟩ := I.tuple hqx
    obtain ⟨its2, rv2, p2, _⟩ := I.list hqy
    have l1 := rv.length
    have l2 := rv2.length
    have he : its.toArray[i]? = none ∨ its2.toArray[i]? = none := hend.elim (fun q => .inl (by simp; omega)) fun q => .inr (by simp; omega)
    exact nextZ_end (I.ok.hd hc) S (xs := its.toArray) (ys := its2.toArray) p p2.isList he fun h' hk => ⟨rfl, I.turnedL (t' := s.toks) (ch := [z, TI, TO, i1, i2]) (fun c o hb q => hk c o (fun e => hb (by simp [e])) (fun e => hb (by simp [e])) (fun e => hb (by simp [e])) (fun e => hb (by simp [e])) q) hf⟩
  self := fun A i s Q E ⟨x, y, S⟩ h => wpAny_pyIter_zip S.hz h
def iZipM (K : Fg) (ta : TA) : TI := fun σ H R => ta σ H fun vs H1 => ∃ a b xs ys, vs = [.ref a, .ref b] ∧ SqT K H1 a xs ∧ SqL K H1 b ys ∧ R (Itm K a b) H1
theorem pi_zipM {X : Cx} {e e2 : Expr} {ta : TA} {p pos tpos : Pos} {elts : List Expr} {kk : Nat} (hg : Gl X "zip") (hm : X.mg "zip" = none) (ha : PA X [e, e2] ta)
    (hs : starEach [e, e2] X.env = (false, eval e X.env) :: starEach [e2] X.env := by rfl) (hpl : (backTo pos (starEach [e2] X.env)).any (·.1) = false := by rfl) : PI X (.Tuple elts kk tpos) (.Call (.Name "zip" p) [e, e2] [] pos) (iZipM X.K ta) := by
  refine ⟨fun pins s σ H R I h => ?_⟩
  refine Call_ (ld_blt I hg hm PyProof.Rows.boot_zip (PyProof.Rows.callWith_type1 (thn (ha.run pos pins s σ H _ I h) fun us s1 ⟨vs, H1, I1, r1, a, b, xs, ys, ev, hqx, hqy, q⟩ => ?_) hs hpl))
  subst ev
  cases r1 with
  | cons r rr =>
    cases rr with
    | cons r' rr =>
      cases rr
      cases r
      cases r'
      obtain ⟨its, rv, p1, _⟩ := I1.tuple hqx
      obtain ⟨its2, rv2, p2, _⟩ := I1.list hqy
      refine call_zm (xs := its.toArray) (ys := its2.toArray) p1 p2.isList fun h' S hk => wpAny_pyIter_zip S.hz ?_
      refine ⟨s1.heap.objs.size + 4, [s1.heap.objs.size + 4, s1.heap.objs.size + 2, s1.heap.objs.size + 3, s1.heap.objs.size, s1.heap.objs.size + 1], _, _, H1, rfl, I1.kept (t' := s1.toks) hk, turn_zm, ⟨_, _, S⟩, fun c hcm => ?_, q⟩
      have le : s1.heap.objs.size ≤ c := by
        have e' : c = s1.heap.objs.size + 4 ∨ c = s1.heap.objs.size + 2 ∨ c = s1.heap.objs.size + 3 ∨ c = s1.heap.objs.size ∨ c = s1.heap.objs.size + 1 := by simpa using hcm
        rcases e' with z | z | z | z | z <;> rw [z]
        · exact Nat.le_add_right _ _
        · exact Nat.le_add_right _ _
        · exact Nat.le_add_right _ _
        · exact Nat.le_refl _
        · exact Nat.le_add_right _ _
      exact I1.fpOk le (I1.hok.fresh le)
/-! ### over a list or a tuple -/
def iSeq (K : Fg) (tl : TE) : TI := fun σ H R => tl σ H fun x H1 => ∃ a, x = .ref a ∧ (((∃ xs, SqL K H1 a xs) ∧ R (Itl K a) H1) ∨ ((∃ xs, SqT K H1 a xs) ∧ R (Itt K a) H1))
theorem pi_seq {X : Cx} {tg l : Expr} {tl : TE} (hl : PE X l tl) : PI X tg l (iSeq X.K tl) := by
  refine ⟨fun pins s σ H R I h => thn (hl.run pins s σ H _ I h) fun v s1 ⟨x, H1, I1, r1, a, e, q⟩ => ?_⟩
  subst e
  cases r1
  have fresh : ∀ (h2 : Heap), ∀ b ∈ [s1.heap.objs.size], FpOk X pins H1 b := fun _ b hb => by
    have e : b = s1.heap.objs.size := by simpa using hb
    rw [e]
    exact I1.fpOk (Nat.le_refl _) (I1.hok.fresh (Nat.le_refl _))
  rcases q with ⟨⟨xs, hq⟩, q⟩ | ⟨⟨xs, hq⟩, q⟩
  · obtain ⟨its, rv, p, hz⟩ := I1.list hq
    exact wpAny_pyIter_list p.isList ⟨s1.heap.objs.size, [s1.heap.objs.size], _, _, H1, rfl, I1.kept (t' := s1.toks) fun b o e => Heap.get?_push_of_some _ e, turn_list a _, ⟨_, Heap.get?_push_size _ rfl, rfl, rfl⟩, fresh s1.heap, q⟩
  · obtain ⟨its, rv, p, hz⟩ := I1.tuple hq
    exact wpAny_pyIter_tuple (show s1.heap.IsTuple a its.toArray from p) ⟨s1.heap.objs.size, [s1.heap.objs.size], _, _, H1, rfl, I1.kept (t' := s1.toks) fun b o e => Heap.get?_push_of_some _ e, turn_tuple a _, ⟨_, Heap.get?_push_size _ rfl, rfl, rfl⟩, fresh s1.heap, q⟩
end Nz

/-! NzQ: more of what expressions evaluate to. -/
namespace Nz
open Py (rep)
open PySem PySem.Spec PyProof.Rows L2
/-! ### data -/
class PyD (α : Type) [Py α] where
  dat : α → PyData
  ok : ∀ {K : Fg} {B : Hp} {v : V} {x : α}, rep K B v x → Dp K B v (dat x)
  dpt : Nat
  hd : ∀ x, (dat x).depth ≤ dpt
  lay : ∀ x, (dat x).canLay0 = true
  eqv : ∀ x y, PyData.eqv (dat x) (dat y) = true ↔ x = y
open PyD (dat)
instance : PyD Int where
  dat := .int
  ok := fun h => by cases h; exact .int _
  dpt := 0
  hd := fun _ => by simp only [PyData.depth]; exact Nat.le_refl _
  lay := fun _ => by simp only [PyData.canLay0]
  eqv := fun x y => by simp [PyData.eqv]
instance : PyD Nat where
  dat := fun n => .int (n : Int)
  ok := fun h => by cases h; exact .int _
  dpt := 0
  hd := fun _ => by simp only [PyData.depth]; exact Nat.le_refl _
  lay := fun _ => by simp only [PyData.canLay0]
  eqv := fun x y => by simp [PyData.eqv]; omega
instance : PyD Bool where
  dat := .bool
  ok := fun h => by cases h; exact .bl _
  dpt := 0
  hd := fun _ => by simp only [PyData.depth]; exact Nat.le_refl _
  lay := fun _ => by simp only [PyData.canLay0]
  eqv := fun x y => by simp [PyData.eqv]
theorem dpAll_of {α : Type} [Py α] [PyD α] {K : Fg} {B : Hp} : ∀ {vs : List V} {xs : List α}, Paired (rep K B) vs xs → DpAll K B vs (xs.map dat)
  | _, _, .nil => .nil
  | _, _, .cons r t => .cons (PyD.ok r) (dpAll_of t)
theorem depthAll_le {α : Type} [Py α] [PyD α] : ∀ xs : List α, PyData.depthAll (xs.map dat) ≤ PyD.dpt α
  | [] => by simp only [List.map_nil, PyData.depthAll]; exact Nat.zero_le _
  | x :: xs => by
    simp only [List.map_cons, PyData.depthAll]
    exact Nat.max_le.mpr ⟨PyD.hd x, depthAll_le xs⟩
theorem canLayAll {α : Type} [Py α] [PyD α] : ∀ xs : List α, PyData.canLayAll0 (xs.map dat) = true
  | [] => by simp only [List.map_nil, PyData.canLayAll0]
  | x :: xs => by simp only [List.map_cons, PyData.canLayAll0, PyD.lay x, canLayAll xs, Bool.and_self]
theorem eqvAll_iff {α : Type} [Py α] [PyD α] : ∀ xs ys : List α, PyData.eqvAll (xs.map dat) (ys.map dat) = true ↔ xs = ys
  | [], [] => by simp [PyData.eqvAll]
  | [], y :: ys => by simp [PyData.eqvAll]
  | x :: xs, [] => by simp [PyData.eqvAll]
  | x :: xs, y :: ys => by
    simp only [List.map_cons, PyData.eqvAll, Bool.and_eq_true, eqvAll_iff xs ys, PyD.eqv x y, List.cons.injEq]
instance {α : Type} [Py α] [PyD α] : PyD (List α) where
  dat := fun xs => .list (xs.map dat)
  ok := fun ⟨a, vs, e, hB, hp⟩ => by subst e; exact .lst (.inl (.inl hB)) (dpAll_of hp)
  dpt := PyD.dpt α + 1
  hd := fun xs => by simp only [PyData.depth]; exact Nat.succ_le_succ (depthAll_le xs)
  lay := fun xs => by simp only [PyData.canLay0]; exact canLayAll xs
  eqv := fun xs ys => by simp only [PyData.eqv]; exact eqvAll_iff xs ys
instance {α β : Type} [Py α] [PyD α] [Py β] [PyD β] : PyD (α × β) where
  dat := fun x => .tuple [dat x.1, dat x.2]
  ok := fun ⟨a, v1, v2, e, hB, h1, h2⟩ => by subst e; exact .tup hB (.cons (PyD.ok h1) (.cons (PyD.ok h2) .nil))
  dpt := max (PyD.dpt α) (PyD.dpt β) + 1
  hd := fun x => by
    simp only [PyData.depth, PyData.depthAll]
    have h1 := PyD.hd x.1
    have h2 := PyD.hd x.2
    omega
  lay := fun x => by simp only [PyData.canLay0, PyData.canLayAll0, PyD.lay x.1, PyD.lay x.2, Bool.and_self]
  eqv := fun x y => by
    simp only [PyData.eqv, PyData.eqvAll, Bool.and_eq_true, PyD.eqv x.1 y.1, PyD.eqv x.2 y.2, and_true]
    exact ⟨fun h => Prod.ext h.1 h.2, fun h => by subst h; exact ⟨rfl, rfl⟩⟩
/-- it can be shown, in at most n signs -/
def Fit (d : PyData) (n : Nat) : Prop := d.showable = true ∧ d.shown.length ≤ n
theorem fit_int {i : Int} {k : Nat} (hk : 0 < k) (h5 : k ≤ 500) (h : i.natAbs < 10 ^ k) : Fit (.int i) (k + 1) := by
  refine ⟨?_, ?_⟩
  · simp only [PyData.showable, decide_eq_true_eq]
    refine log2_small (Nat.lt_of_lt_of_le h (Nat.le_trans (Nat.pow_le_pow_right (by decide) h5) ?_))
    decide +kernel
  · rw [PyData.shown_int]
    rw [PySem.ofString_length]
    exact int_text_length_le10 hk h
theorem fit_mono {d : PyData} {n m : Nat} (h : Fit d n) (e : n ≤ m) : Fit d m := ⟨h.1, Nat.le_trans h.2 e⟩
theorem fit_bool (b : Bool) : Fit (.bool b) 5 := by
  refine ⟨by simp only [PyData.showable], ?_⟩
  rw [PyData.shown_bool]
  cases b <;> decide +kernel
theorem fit_none : Fit .none 5 := ⟨by simp only [PyData.showable], by rw [PyData.shown_none]; decide +kernel⟩
theorem fitAll {ds : List PyData} {n : Nat} (h : ∀ d ∈ ds, Fit d n) : PyData.showableAll ds = true ∧ ((PyData.shownAll ds).map (·.length)).sum ≤ ds.length * n := by
  induction ds with
  | nil => exact ⟨by simp only [PyData.showableAll], by simp [PyData.shownAll]⟩
  | cons d ds ih =>
    obtain ⟨h1, h2⟩ := ih fun x hx => h x (List.mem_cons_of_mem _ hx)
    obtain ⟨g1, g2⟩ := h d List.mem_cons_self
    refine ⟨by simp only [PyData.showableAll, g1, h1, Bool.and_self], ?_⟩
    simp only [PyData.shownAll, List.map_cons, List.sum_cons, List.length_cons, Nat.add_mul, Nat.one_mul]
    omega
theorem fit_list {ds : List PyData} {n m : Nat} (h : ∀ d ∈ ds, Fit d n) (hm : ds.length ≤ m) : Fit (.list ds) (m * (n + 2) + 3) := by
  obtain ⟨h1, h2⟩ := fitAll h
  refine ⟨by simp only [PyData.showable]; exact h1, ?_⟩
  have e : (PyData.list ds).shown = listText (PyData.shownAll ds) := by simp only [PyData.shown]
  rw [e]
  refine Nat.le_trans (listText_len_le _) ?_
  rw [PyData.shownAll_length]
  have : ds.length * n + 2 * ds.length ≤ m * (n + 2) := by
    have e2 : ds.length * n + 2 * ds.length = ds.length * (n + 2) := by rw [Nat.mul_add, Nat.mul_comm 2]
    rw [e2]
    exact Nat.mul_le_mul_right _ hm
  omega
theorem fit_tuple {ds : List PyData} {n m : Nat} (h : ∀ d ∈ ds, Fit d n) (hm : ds.length ≤ m) : Fit (.tuple ds) (m * (n + 2) + 3) := by
  obtain ⟨h1, h2⟩ := fitAll h
  refine ⟨by simp only [PyData.showable]; exact h1, ?_⟩
  have e : (PyData.tuple ds).shown = tupleText (PyData.shownAll ds) := by simp only [PyData.shown]
  rw [e]
  refine Nat.le_trans (tupleText_len_le _) ?_
  rw [PyData.shownAll_length]
  have : ds.length * n + 2 * ds.length ≤ m * (n + 2) := by
    have e2 : ds.length * n + 2 * ds.length = ds.length * (n + 2) := by rw [Nat.mul_add, Nat.mul_comm 2]
    rw [e2]
    exact Nat.mul_le_mul_right _ hm
  omega
section
variable {c : Ct} {L : Lc} {σ : L2.St} {B : Hp} {ta tb te tl : TE} {x y z v : V} {R : V → Hp → Prop} {α β : Type} [Py α] [Py β] {n : Nat}
theorem ev_repr [PyD α] {x : α} {m : Nat} (h : EvP c L te σ B x) (hf : Fit (dat x) m) (hm : m ≤ sizeLine) (hd : PyD.dpt α ≤ 60) : EvV c L (tCB (rRepr c.K) (tCons te tNil)) σ B (.str (dat x).shown) :=
  ev_cb1 h fun v B1 H e r w Q q => ⟨v, dat x, rfl, (PyD.ok (Py.up w.le r)), hf.1, Nat.le_trans hf.2 hm, Nat.le_trans (PyD.hd x) hd, q _ B1 H .refl rfl⟩
theorem ev_reprD {d : PyData} {m : Nat} (h : EvR c L te σ B fun v B' => Dp c.K B' v d) (up : ∀ v B1 B2, Same B1 B2 → Dp c.K B1 v d → Dp c.K B2 v d) (hf : Fit d m) (hm : m ≤ sizeLine) (hd : d.depth ≤ 60) : EvV c L (tCB (rRepr c.K) (tCons te tNil)) σ B (.str d.shown) :=
  ev_cb1 h fun v B1 H e r w Q q => ⟨v, d, rfl, up _ _ _ w.le r, hf.1, Nat.le_trans hf.2 hm, hd, q _ B1 H .refl rfl⟩
theorem ev_eqD [PyD α] {x y : α} (ha : EvP c L ta σ B x) (hb : EvP c L tb σ B y) (hd : PyD.dpt α ≤ 64) : EvV c L (tOp (rEqD c.K) ta tb) σ B (.bl (PyData.eqv (dat x) (dat y))) :=
  ev_opR ha (fun _ _ e _ => hb.up e) fun v w B1 B2 H _ e2 r1 r2 wd Q q => by
    have sh : ∀ x : α, SeqAt.shaped (dat x) = true := fun x => by
      unfold SeqAt.shaped
      rw [PyD.lay x, decide_eq_true (Nat.le_trans (PyD.hd x) hd), Bool.and_self]
    exact ⟨dat x, dat y, PyD.ok (Py.up (e2.trans wd.le) r1), PyD.ok (Py.up wd.le r2), sh x, sh y, q _ B2 H .refl rfl⟩
theorem ev_neD [PyD α] {x y : α} (ha : EvP c L ta σ B x) (hb : EvP c L tb σ B y) (hd : PyD.dpt α ≤ 64) : EvV c L (tOp (rNeD c.K) ta tb) σ B (.bl (!PyData.eqv (dat x) (dat y))) :=
  ev_opR ha (fun _ _ e _ => hb.up e) fun v w B1 B2 H _ e2 r1 r2 wd Q q => by
    have sh : ∀ x : α, SeqAt.shaped (dat x) = true := fun x => by
      unfold SeqAt.shaped
      rw [PyD.lay x, decide_eq_true (Nat.le_trans (PyD.hd x) hd), Bool.and_self]
    exact ⟨dat x, dat y, PyD.ok (Py.up (e2.trans wd.le) r1), PyD.ok (Py.up wd.le r2), sh x, sh y, q _ B2 H .refl rfl⟩
/-! ### new lists of old ones -/
theorem ev_new_of {O : HO → Hp → Prop} {xs : List α} (f : ∀ o B', O o B' → LstOf c.K xs o B') (h : EvN c L te σ B O) : EvL c L te σ B xs := h.imp fun o B' _ => f o B'
theorem Paired.same {α β : Type} {F : α → β → Prop} {x : α} {y : β} (r : F x y) : ∀ k : Nat, Paired F (List.replicate k x) (List.replicate k y)
  | 0 => .nil
  | k + 1 => .cons r (Paired.same r k)
theorem el_rep {x : α} {k : Nat} (h : EvP c L ta σ B x) (hb : EvP c L tb σ B k) (hk : k ≤ sizeLine) : EvL c L (tOp rRep (tLst (tCons ta tNil)) tb) σ B (List.replicate k x) := fun B1 H e w Q q =>
  h B1 H e w _ fun v B2 H2 s2 rv => ⟨by show 1 ≤ sizeLine; decide, fun p hp => by
    have w2 := s2.2 _ w
    have s3 : Stp c B1 H (upd B2 p (.lst [v])) (upd H2 p (.lst [v])) := s2.trans (Stp.new w2 hp)
    refine hb _ _ (e.trans s3.1) (s3.2 _ w) _ fun v' B4 H4 s4 ev => ?_
    have ev' : v' = .int (k : Int) := ev
    subst ev'
    have w4 := s4.2 _ (s3.2 _ w)
    have hB4 : B4 p = some (.lst [v]) := s4.1 _ _ upd_same
    have hs := sizeLine_eq
    refine ⟨p, (k : Int), [v], rfl, rfl, w4.le _ _ hB4, by omega, by omega, by simp; exact hk, fun r hr => ?_⟩
    have e5 : (List.replicate (k : Int).toNat [v]).flatten = List.replicate k v := by simp
    rw [e5]
    refine q r B4 _ (.lst (List.replicate k v)) (s3.1.trans s4.1) (w4.fresh hr).2.2.2 (fun L' w' => (s4.2 _ (s3.2 _ w')).mine hr) ⟨_, rfl, ?_⟩
    exact Paired.same (Py.up ((Same.up1 (w2.fresh hp).2.1).trans s4.1) rv) k⟩
theorem el_cat {xs ys : List α} (ha : EvP c L ta σ B xs) (hb : EvP c L tb σ B ys) (hl : xs.length + ys.length ≤ sizeLine) : EvL c L (tOp rCat ta tb) σ B (xs ++ ys) := fun B1 H e w Q q =>
  ha B1 H e w _ fun v B2 H2 s2 ⟨a, vs, ev, hB, hp⟩ => hb B2 H2 (e.trans s2.1) (s2.2 _ w) _ fun v' B3 H3 s3 ⟨b, us, ev', hB', hp'⟩ => by
    subst ev ev'
    have s := s2.trans s3
    have w3 := s.2 _ w
    refine ⟨a, b, vs, us, rfl, rfl, w3.le _ _ (s3.1 _ _ hB), w3.le _ _ hB', by rw [Paired.len hp, Paired.len hp']; exact hl, fun r hr => ?_⟩
    exact q r B3 _ (.lst (vs ++ us)) s.1 (w3.fresh hr).2.2.2 (fun L' w' => (s.2 _ w').mine hr) ⟨_, rfl, Paired.app (Paired.imp (fun _ _ r => Py.up s3.1 r) hp) hp'⟩
theorem el_rev {xs : List α} (ha : EvP c L te σ B xs) : EvL c L (tRevL c.K te) σ B xs.reverse := fun B1 H e w Q q =>
  ha B1 H e w _ fun v B2 H2 s2 ⟨a, vs, ev, hB, hp⟩ => by
    have w2 := s2.2 _ w
    exact ⟨a, vs, ev, .inl (.inl (w2.le _ _ hB)), fun r hr => q r B2 _ (.lst vs.reverse) s2.1 (w2.fresh hr).2.2.2 (fun L' w' => (s2.2 _ w').mine hr) ⟨_, rfl, Paired.rev hp⟩⟩
theorem el_listOf {xs : List α} (ha : EvP c L te σ B xs) : EvL c L (tCB (rListOf c.K) (tCons te tNil)) σ B xs := fun B1 H e w Q q =>
  ha B1 H e w _ fun v B2 H2 s2 ⟨a, vs, ev, hB, hp⟩ => by
    subst ev
    have w2 := s2.2 _ w
    exact ⟨a, vs, rfl, .inl (.inl (.inl (w2.le _ _ hB))), fun r hr => q r B2 _ (.lst vs) s2.1 (w2.fresh hr).2.2.2 (fun L' w' => (s2.2 _ w').mine hr) ⟨_, rfl, hp⟩⟩
/-- list(range(n)) -/
theorem el_listRange {k : Nat} (ha : EvP c L te σ B k) (hk : k ≤ 1000000) : EvL c L (tLstRg (tRg1 te)) σ B (List.range k) := fun B1 H e w Q q =>
  ha B1 H e w _ fun v B2 H2 s2 ev => by
    have ev' : v = .int (k : Int) := ev
    subst ev'
    have w2 := s2.2 _ w
    refine ⟨(k : Int), rfl, RgOk.of_le (by omega) (by omega) (by omega) (by omega), fun r hr => q r B2 _ (.lst (rgV 0 k)) s2.1 (w2.fresh hr).2.2.2 (fun L' w' => (s2.2 _ w').mine hr) ⟨_, rfl, ?_⟩⟩
    have e1 : rgV 0 (k : Int) = (List.range k).map fun i : Nat => V.int (i : Int) := by
      unfold rgV
      simp
    rw [e1]
    exact Paired.mapR (F := rep c.K B2) (g := fun i : Nat => V.int (i : Int)) (fun y => rfl) _
/-! ### slices -/
theorem eo_none : EvO c L tNoPart σ B none := fun B1 H e w Q q => q B1 H .refl
theorem eo_some {i : Int} (h : EvV c L te σ B (.int i)) : EvO c L (tPart te) σ B (some i) := fun B1 H e w Q q => h B1 H e w _ fun v B2 H2 s ev => ⟨i, ev, q B2 H2 s⟩
theorem el_slice {xs : List α} {lo hi : Option Int} {tlo thi : TO} (h : EvP c L te σ B xs) (h1 : EvO c L tlo σ B lo) (h2 : EvO c L thi σ B hi) :
    EvL c L (tSl (rSlL c.K) te tlo thi) σ B ((xs.drop (HT.sIx xs.length 0 lo)).take (HT.sIx xs.length xs.length hi - HT.sIx xs.length 0 lo)) := fun B1 H e w Q q =>
  h B1 H e w _ fun v B2 H2 s2 ⟨a, vs, ev, hB, hp⟩ => h1 B2 H2 (e.trans s2.1) (s2.2 _ w) _ fun B3 H3 s3 => h2 B3 H3 ((e.trans s2.1).trans s3.1) ((s2.trans s3).2 _ w) _ fun B4 H4 s4 => by
    subst ev
    have s := (s2.trans s3).trans s4
    have w4 := s.2 _ w
    have hB4 := s4.1 _ _ (s3.1 _ _ hB)
    refine ⟨a, vs, rfl, .inl (.inl (w4.le _ _ hB4)), fun r hr => q r B4 _ (.lst (cutV vs lo hi)) s.1 (w4.fresh hr).2.2.2 (fun L' w' => (s.2 _ w').mine hr) ⟨_, rfl, ?_⟩⟩
    unfold cutV
    have hp4 : Paired (rep c.K B4) vs xs := Paired.imp (fun _ _ r => Py.up (s3.1.trans s4.1) r) hp
    rw [Paired.len hp4]
    exact Paired.take _ (Paired.drop _ hp4)
/-! ### in -/
class Flat (α : Type) [Py α] where
  fl : ∀ {K : Fg} {B : Hp} {v : V} {x : α}, rep K B v x → flatV v = true
  eq : ∀ {K K' : Fg} {B B' : Hp} {v w : V} {x y : α}, rep K B v x → rep K' B' w y → (eqV v w = true ↔ x = y)
instance : Flat Int := ⟨fun h => by cases h; rfl, fun h h' => by cases h; cases h'; simp [eqV]⟩
instance : Flat Nat := ⟨fun h => by cases h; rfl, fun h h' => by cases h; cases h'; simp [eqV]; omega⟩
instance : Flat Bool := ⟨fun h => by cases h; rfl, fun h h' => by cases h; cases h'; simp [eqV]⟩
theorem flat_all [Flat α] {K : Fg} : ∀ {vs : List V} {xs : List α}, Paired (rep K B) vs xs → vs.all flatV = true
  | _, _, .nil => rfl
  | _, _, .cons r t => by simp only [List.all_cons, Flat.fl r, flat_all t, Bool.and_self]
theorem inV_iff [Flat α] {K K' : Fg} {B' : Hp} {v : V} {x : α} (rx : rep K' B' v x) : ∀ {vs : List V} {xs : List α}, Paired (rep K B) vs xs → (inV v vs = true ↔ x ∈ xs)
  | _, _, .nil => by simp [inV]
  | _, _, .cons r t => by
    have ih := inV_iff rx t
    unfold inV at ih ⊢
    rw [List.any_cons, Bool.or_eq_true, ih, Flat.eq r rx, List.mem_cons]
    exact ⟨fun h => h.imp (fun e => e.symm) id, fun h => h.imp (fun e => e.symm) id⟩
theorem ev_in [Flat α] [DecidableEq α] {x : α} {xs : List α} (ha : EvP c L ta σ B x) (hb : EvP c L tb σ B xs) : EvV c L (tOp (rIn c.K false) ta tb) σ B (.bl (decide (x ∈ xs))) :=
  ev_opR ha (fun _ _ e _ => hb.up e) fun v w B1 B2 H _ e2 r1 ⟨a, vs, ew, hB, hp⟩ wd Q q => by
    subst ew
    refine ⟨a, vs, rfl, .inl (.inl (.inl (wd.le _ _ hB))), Flat.fl r1, flat_all hp, q _ B2 H .refl ?_⟩
    simp only [Bool.false_eq_true, if_false]
    congr 1
    rw [Bool.eq_iff_iff, inV_iff r1 hp, decide_eq_true_eq]
theorem ev_notin [Flat α] [DecidableEq α] {x : α} {xs : List α} (ha : EvP c L ta σ B x) (hb : EvP c L tb σ B xs) : EvV c L (tOp (rIn c.K true) ta tb) σ B (.bl (!decide (x ∈ xs))) :=
  ev_opR ha (fun _ _ e _ => hb.up e) fun v w B1 B2 H _ e2 r1 ⟨a, vs, ew, hB, hp⟩ wd Q q => by
    subst ew
    refine ⟨a, vs, rfl, .inl (.inl (.inl (wd.le _ _ hB))), Flat.fl r1, flat_all hp, q _ B2 H .refl ?_⟩
    simp only [if_true]
    congr 2
    rw [Bool.eq_iff_iff, inV_iff r1 hp, decide_eq_true_eq]
/-! ### truth -/
theorem et_truR {Rb : Bool → Prop} (h : EvR c L te σ B fun v _ => ∃ b, v = .bl b ∧ Rb b) : EvT c L (tTru c.K te) σ B Rb := fun B1 H e w Q q => h B1 H e w _ fun v B2 H2 s ⟨b, e, rb⟩ => ⟨b, by subst e; rfl, q b B2 H2 s rb⟩
theorem et_tru {b : Bool} (h : EvV c L te σ B (.bl b)) : EvB c L (tTru c.K te) σ B b := et_truR (h.imp fun v B' _ e => ⟨b, e, rfl⟩)
theorem et_truL {xs : List α} (h : EvP c L te σ B xs) : EvB c L (tTru c.K te) σ B (!xs.isEmpty) := fun B1 H e w Q q => h B1 H e w _ fun v B2 H2 s ⟨a, vs, ev, hB, hp⟩ => by
  subst ev
  refine ⟨!vs.isEmpty, .inl ⟨vs, .inl (.inl ((s.2 _ w).le _ _ hB)), rfl⟩, q _ B2 H2 s ?_⟩
  cases hp <;> rfl
/-! ### int, abs, isinstance -/
theorem ev_int {i : Int} (h : EvV c L te σ B (.int i)) : EvV c L (tCB rInt (tCons te tNil)) σ B (.int i) := ev_cb1 h fun v B1 H e ev w Q q => .inl ⟨i, by rw [ev], q _ B1 H .refl rfl⟩
theorem ev_abs {i : Int} (h : EvV c L te σ B (.int i)) : EvV c L (tCB rAbs (tCons te tNil)) σ B (.int (if i < 0 then -i else i)) := ev_cb1 h fun v B1 H e ev w Q q => ⟨i, by rw [ev], q _ B1 H .refl rfl⟩
theorem ev_isi {T U : String} {b : Bool} (h : EvR c L te σ B R) (ht : ∀ v B1 H, Same B B1 → R v B1 → Wd c L B1 H → TyX c.K H v (.type T)) (hk : kitB T U = some b) : EvV c L (tCB (rIsi c.K) (tCons te (tCons (tC (.ty U)) tNil))) σ B (.bl b) := fun B1 H e w Q q =>
  h B1 H e w _ fun v B2 H2 s2 rv => ⟨v, .ty U, .type T, .type U, b, rfl, .ty U, ht v B2 H2 (e.trans s2.1) rv (s2.2 _ w), kit_ty hk, q _ B2 H2 s2 rfl⟩
theorem ev_isL {xs : List α} (h : EvP c L te σ B xs) : EvV c L (tCB (rIsi c.K) (tCons te (tCons (tC (.ty "list")) tNil))) σ B (.bl true) :=
  ev_isi h (fun v B1 H e ⟨a, vs, ev, hB, hp⟩ w => by subst ev; exact .base (.lst (w.le _ _ hB))) (by decide +kernel)
theorem ev_isN {b : Bool} (h : EvR c L te σ B R) (hb : ∀ v B', R v B' → decide (v = .non) = b) : EvV c L (tOp rIsN te (tC .non)) σ B (.bl b) :=
  ev_opR h (fun _ _ _ _ => ev_c) fun v w B1 B2 H _ _ rv ew wd Q q => ⟨ew, q _ B2 H .refl (by rw [hb v B1 rv])⟩
theorem ev_notN {b : Bool} (h : EvR c L te σ B R) (hb : ∀ v B', R v B' → decide (v = .non) = b) : EvV c L (tOp rNotN te (tC .non)) σ B (.bl (!b)) :=
  ev_opR h (fun _ _ _ _ => ev_c) fun v w B1 B2 H _ _ rv ew wd Q q => ⟨ew, q _ B2 H .refl (by rw [hb v B1 rv])⟩
theorem paired_ints {K : Fg} : ∀ {vs : List V} {xs : List Int}, Paired (rep K B) vs xs → vs = xs.map V.int
  | _, _, .nil => rfl
  | _, _, .cons r t => by cases r; rw [paired_ints t]; rfl
theorem paired_bools {K : Fg} : ∀ {vs : List V} {xs : List Bool}, Paired (rep K B) vs xs → vs = xs.map V.bl
  | _, _, .nil => rfl
  | _, _, .cons r t => by cases r; rw [paired_bools t]; rfl
theorem paired_nats {K : Fg} : ∀ {vs : List V} {xs : List Nat}, Paired (rep K B) vs xs → vs = xs.map fun n : Nat => V.int (n : Int)
  | _, _, .nil => rfl
  | _, _, .cons r t => by cases r; rw [paired_nats t]; rfl
theorem pbL {K : Fg} (bs : List Bool) : Paired (rep K B) (bs.map V.bl) bs := Paired.mapR (F := rep K B) (g := V.bl) (fun _ => rfl) bs
theorem piL {K : Fg} (xs : List Int) : Paired (rep K B) (xs.map V.int) xs := Paired.mapR (F := rep K B) (g := V.int) (fun _ => rfl) xs
theorem pnL {K : Fg} (xs : List Nat) : Paired (rep K B) (xs.map fun n : Nat => V.int (n : Int)) xs := Paired.mapR (F := rep K B) (g := fun n : Nat => V.int (n : Int)) (fun _ => rfl) xs
/-- a list by a function of the place -/
def fL {α : Type} (n : Nat) (f : Nat → α) : List α := (List.range n).map f
theorem fL_len {α : Type} (n : Nat) (f : Nat → α) : (fL n f).length = n := by simp [fL]
theorem fL_get {α : Type} {n i : Nat} (f : Nat → α) (h : i < n) : (fL n f)[i]? = some (f i) := by simp [fL, h]
theorem fL_set {α : Type} (n i : Nat) (f : Nat → α) (x : α) : (fL n f).set i x = fL n fun j => if j = i then x else f j := by
  apply List.ext_getElem
  · simp [fL]
  · intro j h1 h2
    simp only [fL, List.getElem_set, List.getElem_map, List.getElem_range]
    by_cases h : i = j
    · subst h; simp
    · have : ¬ j = i := fun z => h z.symm
      simp [h, this]
theorem fL_map {α β : Type} (n : Nat) (f : Nat → α) (g : α → β) : (fL n f).map g = fL n fun j => g (f j) := by simp [fL]
theorem fL_congr {α : Type} {n : Nat} {f g : Nat → α} (h : ∀ i, i < n → f i = g i) : fL n f = fL n g := List.map_congr_left fun i hi => h i (List.mem_range.mp hi)
theorem fL_rep {α : Type} (n : Nat) (x : α) : List.replicate n x = fL n fun _ => x := by
  apply List.ext_getElem
  · simp [fL]
  · intro i h1 h2; simp [fL]
theorem fL_getD {α β : Type} (xs : List α) (d : α) (g : α → β) : fL xs.length (fun k => g (xs.getD k d)) = xs.map g := by
  apply List.ext_getElem
  · simp [fL]
  · intro i h1 h2
    have h3 : i < xs.length := by simpa [fL] using h1
    simp [fL, List.getD_eq_getElem?_getD, h3]
/-- xs.count(k), ints -/
theorem ev_count {xs : List Int} {k : Int} (h : EvP c L ta σ B xs) (hk : EvV c L tb σ B (.int k)) : EvV c L (tBM c.K "list" (rCntI c.K) ta (tCons tb tNil)) σ B (.int (xs.count k : Nat)) := fun B1 H e w Q q =>
  h B1 H e w _ fun v B2 H2 s2 ⟨a, vs, ev, hB, hp⟩ => by
    subst ev
    have hB2 := (s2.2 _ w).le _ _ hB
    refine ⟨.inl ⟨rfl, _, .inl (.inl hB2)⟩, hk B2 H2 (e.trans s2.1) (s2.2 _ w) _ fun v' B3 H3 s3 ev' => ?_⟩
    subst ev'
    have e2 := paired_ints hp
    refine ⟨a, xs, k, rfl, rfl, .inl (.inl ((s2.trans s3).2 _ w |>.le _ _ (s3.1 _ _ (by rw [← e2]; exact hB)))), q _ B3 H3 (s2.trans s3) rfl⟩
end
/-! ### tuples of any length; a list or a tuple -/
structure Tl (α : Type) where
  l : List α
instance {α : Type} [Py α] : Py (Tl α) :=
  ⟨fun K B v x => ∃ a vs, v = .ref a ∧ SqT K B a vs ∧ Paired (rep K B) vs x.l, fun e ⟨a, vs, h1, h2, h3⟩ => ⟨a, vs, h1, Same.tup e h2, Paired.imp (fun _ _ r => Py.up e r) h3⟩⟩
/-- a list, or a tuple -/
structure Sq (α : Type) where
  l : List α
instance {α : Type} [Py α] : Py (Sq α) :=
  ⟨fun K B v x => ∃ a vs, v = .ref a ∧ (B a = some (.lst vs) ∨ SqT K B a vs) ∧ Paired (rep K B) vs x.l, fun e ⟨a, vs, h1, h2, h3⟩ => ⟨a, vs, h1, h2.imp (fun z => e _ _ z) (fun z => Same.tup e z), Paired.imp (fun _ _ r => Py.up e r) h3⟩⟩
theorem sq_of_list {α : Type} [Py α] {K : Fg} {B : Hp} {v : V} {xs : List α} (h : rep K B v xs) : rep K B v (Sq.mk xs) := by
  obtain ⟨a, vs, h1, h2, h3⟩ := h
  exact ⟨a, vs, h1, .inl h2, h3⟩
theorem sq_of_tup {α : Type} [Py α] {K : Fg} {B : Hp} {v : V} {xs : List α} (h : rep K B v (Tl.mk xs)) : rep K B v (Sq.mk xs) := by
  obtain ⟨a, vs, h1, h2, h3⟩ := h
  exact ⟨a, vs, h1, .inr h2, h3⟩
section
variable {c : Ct} {L : Lc} {σ : L2.St} {B : Hp} {ta tb te tl : TE} {x y z v : V} {R : V → Hp → Prop} {α β : Type} [Py α] [Py β] {n : Nat}
theorem ei_tup {xs : Tl α} (h : EvP c L tl σ B xs) : EvI c L (iTup c.K tl) σ B xs.l.length (YOf c.K xs.l) := fun B1 H e w R q =>
  h B1 H e w _ fun v B2 H2 s2 ⟨a, vs, ev, hB, hp⟩ => by
    subst ev
    have w2 := s2.2 _ w
    refine ⟨a, rfl, ⟨vs, Same.tup w2.le hB⟩, q _ B2 H2 s2 ⟨?_, ?_, ?_⟩⟩
    · intro k B' H' L' e1 w1 _ hk
      have hk2 : k < vs.length := by rw [Paired.len hp]; exact hk
      exact ⟨vs, vs[k], Same.tup (e1.trans w1.le) hB, by simp [hk2]⟩
    · intro B' H' L' e1 w1 _
      exact ⟨vs, Same.tup (e1.trans w1.le) hB, by rw [Paired.len hp]; exact Nat.le_refl _⟩
    · intro k v B' H' H'' L' e1 w1 _ hk y
      obtain ⟨e2, y⟩ := y
      obtain ⟨x, hx, r⟩ := Paired.at' hp (y vs (Same.tup (e1.trans w1.le) hB))
      rw [e2]
      exact ⟨B', .refl, x, hx, Py.up e1 r⟩
theorem ei_seq {xs : Sq α} (h : EvP c L tl σ B xs) : EvI c L (iSeq c.K tl) σ B xs.l.length (YOf c.K xs.l) := fun B1 H e w R q =>
  h B1 H e w _ fun v B2 H2 s2 ⟨a, vs, ev, hB, hp⟩ => by
    subst ev
    have w2 := s2.2 _ w
    have pin : ∀ {B3 : Hp}, Same B2 B3 → Paired (rep c.K B3) vs xs.l := fun e3 => Paired.imp (fun _ _ r => Py.up e3 r) hp
    rcases hB with hB | hB
    · have hi := ei_list (c := c) (L := L) (σ := σ) (xs := xs.l) (tl := tC (.ref a)) (B := B2) (fun B3 H3 e3 w3 Q q => q _ B3 H3 .refl ⟨a, vs, rfl, e3 _ _ hB, pin e3⟩) B2 H2 (Same.refl _) w2 R fun J B3 H3 s3 W => q J B3 H3 (s2.trans s3) W
      obtain ⟨b, eb, hq, r⟩ := hi
      cases eb
      exact ⟨_, rfl, .inl ⟨hq, r⟩⟩
    · have hi := ei_tup (c := c) (L := L) (σ := σ) (xs := ⟨xs.l⟩) (tl := tC (.ref a)) (B := B2) (fun B3 H3 e3 w3 Q q => q _ B3 H3 .refl ⟨a, vs, rfl, Same.tup e3 hB, pin e3⟩) B2 H2 (Same.refl _) w2 R fun J B3 H3 s3 W => q J B3 H3 (s2.trans s3) W
      obtain ⟨b, eb, hq, r⟩ := hi
      cases eb
      exact ⟨_, rfl, .inr ⟨hq, r⟩⟩
theorem ev_lenS {xs : Sq α} (ha : EvP c L ta σ B xs) : EvV c L (tCB (rLenQ c.K) (tCons ta tNil)) σ B (.int xs.l.length) :=
  ev_cb1 ha fun x B1 H e rx w Q q => by
    obtain ⟨a, vs, rfl, hB, hp⟩ := rx
    exact ⟨a, vs, rfl, hB.imp (fun z => .inl (.inl (w.le _ _ z))) (fun z => Same.tup w.le z), q _ B1 H .refl (by rw [Paired.len hp])⟩
/-- zip(a tuple, a list) -/
theorem ei_zipM {xs : Tl α} {ys : List β} (h : EvP c L ta σ B xs) (h' : EvP c L tb σ B ys) : EvI c L (iZipM c.K (tCons ta (tCons tb tNil))) σ B (min xs.l.length ys.length) (fun k v B' => ∃ x y, xs.l[k]? = some x ∧ ys[k]? = some y ∧ rep c.K B' v (x, y)) := fun B1 H e w R q =>
  h B1 H e w _ fun v B2 H2 s2 ⟨a, vs, ev, hB, hp⟩ => h' B2 H2 (e.trans s2.1) (s2.2 _ w) _ fun v' B3 H3 s3 ⟨b, us, ev', hB', hp'⟩ => by
    subst ev ev'
    have w3 := (s2.trans s3).2 _ w
    have hB3 := Same.tup s3.1 hB
    have hp3 := Paired.imp (fun _ _ r => Py.up s3.1 r) hp
    have l1 := Paired.len hp
    have l2 := Paired.len hp'
    refine ⟨a, b, vs, us, rfl, Same.tup w3.le hB3, .inl (.inl (w3.le _ _ hB')), q _ B3 H3 (s2.trans s3) ⟨?_, ?_, ?_⟩⟩
    · intro k B' H' L' e1 w1 _ hk
      have k1 : k < vs.length := by omega
      have k2 : k < us.length := by omega
      exact ⟨vs, us, vs[k], us[k], Same.tup (e1.trans w1.le) hB3, .inl (.inl (w1.le _ _ (e1 _ _ hB'))), by simp [k1], by simp [k2]⟩
    · intro B' H' L' e1 w1 _
      exact ⟨vs, us, Same.tup (e1.trans w1.le) hB3, .inl (.inl (w1.le _ _ (e1 _ _ hB'))), by omega⟩
    · rintro k v B' H' H'' L' e1 w1 _ hk ⟨T, x0, y0, rfl, nT, rfl, f1, f2⟩
      obtain ⟨x, hx, r⟩ := Paired.at' hp3 (f1 vs (Same.tup (e1.trans w1.le) hB3))
      obtain ⟨y, hy, r'⟩ := Paired.at' hp' (f2 us (.inl (.inl (w1.le _ _ (e1 _ _ hB')))))
      have nB := (w1.fresh nT).2.1
      exact ⟨_, Stp.new w1 nT, x, y, hx, hy, T, _, _, rfl, .inl (.inl upd_same), Py.up (e1.trans (Same.up1 nB)) r, Py.up (e1.trans (Same.up1 nB)) r'⟩
end
end Nz

/-! NzG: the program's Graph as data. -/
namespace Nz
open Py (rep)
open PyD (dat)
open PySem PySem.Spec PyProof.Rows L2
/-- a graph: the number of vertices, the pairs -/
structure Gr where
  n : Nat
  es : List (Nat × Nat)
namespace Gr
abbrev m (G : Gr) : Nat := G.es.length
/-- the edges at a vertex -/
def atv (G : Gr) (v : Nat) : List Nat := (List.range G.m).filter fun e => match G.es[e]? with | some (a, b) => a == v || b == v | none => false
def ats (G : Gr) : List (List Nat) := (List.range G.n).map G.atv
structure Ok (G : Gr) : Prop where
  lt : ∀ e ∈ G.es, e.1 < G.n ∧ e.2 < G.n
  sn : G.n ≤ 100000
  sm : G.m ≤ 100000
end Gr
def grF (n : Nat) (lp la : Addr) : List (Str × V) := [("_many", .int (n : Int)), ("_pairs", .ref lp), ("_at", .ref la)]
theorem grF_many (n : Nat) (lp la : Addr) : (grF n lp la).lookup ("_many" : Str) = some (.int (n : Int)) := by
  unfold grF
  rw [List.lookup_cons_self]
theorem gr1 : (("_pairs" : Str) == ("_many" : Str)) = false := by decide +kernel
theorem gr2 : (("_at" : Str) == ("_many" : Str)) = false := by decide +kernel
theorem gr3 : (("_at" : Str) == ("_pairs" : Str)) = false := by decide +kernel
theorem grF_pairs (n : Nat) (lp la : Addr) : (grF n lp la).lookup ("_pairs" : Str) = some (.ref lp) := by
  unfold grF
  rw [List.lookup_cons, gr1]
  show List.lookup _ (_ :: _) = _
  rw [List.lookup_cons_self]
theorem grF_at (n : Nat) (lp la : Addr) : (grF n lp la).lookup ("_at" : Str) = some (.ref la) := by
  unfold grF
  rw [List.lookup_cons, gr2]
  show List.lookup _ (_ :: _) = _
  rw [List.lookup_cons, gr3]
  show List.lookup _ (_ :: _) = _
  rw [List.lookup_cons_self]
/-- the value is the graph G, an instance of the class at C -/
def GrAt (K : Fg) (C : Addr) (B : Hp) (v : V) (G : Gr) : Prop := ∃ g dx lp la, v = .ref g ∧ B g = some (.ins C dx (grF G.n lp la)) ∧ rep K B (.ref lp) G.es ∧ rep K B (.ref la) G.ats ∧ G.Ok
theorem GrAt.up {K : Fg} {C : Addr} {B B' : Hp} {v : V} {G : Gr} (e : Same B B') (h : GrAt K C B v G) : GrAt K C B' v G := by
  obtain ⟨g, dx, lp, la, h1, h2, h3, h4, h5⟩ := h
  exact ⟨g, dx, lp, la, h1, e _ _ h2, Py.up e h3, Py.up e h4, h5⟩
theorem GrAt.ok {K : Fg} {C : Addr} {B : Hp} {v : V} {G : Gr} (h : GrAt K C B v G) : G.Ok := by obtain ⟨_, _, _, _, _, _, _, _, ok⟩ := h; exact ok
section
variable {c : Ct} {L : Lc} {σ : L2.St} {B : Hp} {te ta tl : TE} {C : Addr} {G : Gr}
abbrev EvG (c : Ct) (C : Addr) (L : Lc) (te : TE) (σ : L2.St) (B : Hp) (G : Gr) : Prop := EvR c L te σ B fun v B' => GrAt c.K C B' v G
theorem eg_var {i : Nat} {v : V} (h : σ[i]? = some (some v)) (r : GrAt c.K C B v G) : EvG c C L (tVar i) σ B G := ev_varR h fun B' e => r.up e
/-- graph.vertices -/
theorem eg_n (h : EvG c C L te σ B G) : EvP c L (tProp C (getSp C "_many") [] E0 te) σ B G.n := fun B1 H e w Q q =>
  h B1 H e w _ fun v B2 H2 s ⟨g, dx, lp, la, ev, hg, _⟩ => by
    subst ev
    have hg2 := (s.2 _ w).le _ _ hg
    exact ⟨g, dx, _, rfl, hg2, g, dx, _, _, rfl, hg2, grF_many _ _ _, q _ B2 H2 s rfl⟩
/-- len(graph) -/
theorem eg_len (h : EvG c C L te σ B G) : EvP c L (tCB (rLenO C (spLen C) E0) (tCons te tNil)) σ B G.m := fun B1 H e w Q q =>
  h B1 H e w _ fun v B2 H2 s ⟨g, dx, lp, la, ev, hg, hp, _, ok⟩ => by
    subst ev
    have w2 := s.2 _ w
    have hg2 := w2.le _ _ hg
    obtain ⟨l, vs, el, hl, hpp⟩ := hp
    cases el
    refine ⟨g, dx, _, rfl, hg2, g, dx, _, lp, vs, rfl, hg2, grF_pairs _ _ _, w2.le _ _ hl, (vs.length : Int), rfl, by omega, ?_, q _ B2 H2 s ?_⟩
    · have := Paired.len hpp
      have := ok.sm
      have e : G.m = G.es.length := rfl
      omega
    · show V.int (vs.length : Int) = V.int (G.m : Int)
      rw [Paired.len hpp]
/-- for tail, head in graph -/
theorem ei_own (h : EvG c C L te σ B G) : EvI c L (iOwn c.K C te) σ B G.m (YOf c.K G.es) := fun B1 H e w R q =>
  h B1 H e w _ fun v B2 H2 s2 ⟨g, dx, lp, la, ev, hg, hp, _, ok⟩ => by
    subst ev
    have w2 := s2.2 _ w
    obtain ⟨l, vs, el, hl, hpp⟩ := hp
    cases el
    refine ⟨g, dx, _, lp, vs, rfl, w2.le _ _ hg, grF_pairs _ _ _, .inl (.inl (w2.le _ _ hl)), ?_⟩
    have hb : EvP c L (tC (.ref lp)) σ B2 G.es := fun B3 H3 e3 w3 Q q => q _ B3 H3 .refl ⟨lp, vs, rfl, e3 _ _ hl, Paired.imp (fun _ _ r => Py.up e3 r) hpp⟩
    have hi := ei_list hb B2 H2 (Same.refl _) w2 R fun J B3 H3 s3 W => q J B3 H3 (s2.trans s3) W
    obtain ⟨a, ea, _, r⟩ := hi
    cases ea
    exact r
theorem ei_enumG (h : EvG c C L te σ B G) : EvI c L (iEnumO c.K C (tCons te tNil)) σ B G.m (fun k v B' => ∃ x, G.es[k]? = some x ∧ rep c.K B' v ((k : Nat), x)) := fun B1 H e w R q =>
  h B1 H e w _ fun v B2 H2 s2 ⟨g, dx, lp, la, ev, hg, hp, _, ok⟩ => by
    subst ev
    have w2 := s2.2 _ w
    obtain ⟨l, vs, el, hl, hpp⟩ := hp
    cases el
    exact ⟨g, dx, _, lp, vs, rfl, w2.le _ _ hg, grF_pairs _ _ _, .inl (.inl (w2.le _ _ hl)), q _ B2 H2 s2 (walks_enum hl hpp)⟩
/-- (edge, (tail, head)) -/
theorem tg_edge {i j k : Nat} {v : V} {e a b : Nat} (r : rep c.K B v (e, (a, b))) : TgOk c (g2 c.K (gName i) (g2 c.K (gName j) (gName k))) v σ B (fun σ' => σ' = ((σ.set i (some (.int (e : Int)))).set j (some (.int (a : Int)))).set k (some (.int (b : Int)))) :=
  tg_pair (x := e) (y := (a, b)) r fun v1 v2 r1 r2 => ⟨_, tg_name, fun σ1 e1 => by
    subst e1
    intro L B1 H e w Q q
    refine tg_names (σ := σ.set i (some v1)) r2 L B1 H e w Q fun σ' h => ?_
    obtain ⟨u1, u2, q1, q2, e2⟩ := h
    cases r1; cases q1; cases q2
    exact q _ e2⟩
end
end Nz

/-! NzU: calls that change owned objects; draws as bounds; more of owned lists. -/
namespace Nz
open Py (rep)
open PyD (dat)
open PySem PySem.Spec PyProof.Rows L2
section
variable {c : Ct} {L L' Ls L0 : Lc} {σ : L2.St} {B B' H H' : Hp} {ta tb te : TE} {ta' : TA} {t u rest : TS} {P : Post} {R : V → Hp → Prop} {α β : Type} [Py α] [Py β] {i : Nat} {n : Nat} {Y : Nat → V → Hp → Prop}
theorem sr_perm (hp : L'.Perm L) (h : SR c L' t σ B P) : SR c L t σ B P := fun H w => h H (w.sub (fun q hq => hp.subset hq) ((hp.map Prod.fst).nodup_iff.mpr w.nd))
theorem Wd.enterS {T' : List Addr} (w : Wd c (Ls ++ L0) B H) (hT : ∀ s ∈ T', s ∈ c.T) : Wd ⟨c.K, T', Ls.map Prod.fst, B, H⟩ Ls B H := by
  refine ⟨w.le, Same.refl _, fun _ _ _ _ e => e, fun _ _ e => .inl e, fun s hs => w.st s (hT s hs), fun s hs z => ?_, fun s hs => ?_, fun q hq => ?_, ?_⟩
  · obtain ⟨q, hq, e⟩ := List.mem_map.mp z
    subst e
    exact (w.own q (List.mem_append_left _ hq)).2.2.1 (hT _ hs)
  · obtain ⟨q, hq, e⟩ := List.mem_map.mp hs
    subst e
    rw [(w.own q (List.mem_append_left _ hq)).2.1]
    simp
  · obtain ⟨q1, q2, q3, q4⟩ := w.own q (List.mem_append_left _ hq)
    exact ⟨q1, q2, fun z => q3 (hT _ z), .inr (List.mem_map_of_mem hq)⟩
  · have h := w.nd
    rw [List.map_append] at h
    exact (List.nodup_append.mp h).1
theorem Wd.callS {T' : List Addr} (w : Wd c (Ls ++ L0) B H) (hT : ∀ s ∈ T', s ∈ c.T) (hm : L'.map Prod.fst = Ls.map Prod.fst) (u : Wd ⟨c.K, T', Ls.map Prod.fst, B, H⟩ L' B' H') : Wd c (L' ++ L0) B' H' := by
  have ow : ∀ a, a ∈ Ls.map Prod.fst → B a = none ∧ H a ≠ none ∧ a ∉ c.T ∧ (c.H0 a = none ∨ a ∈ c.S) := fun a ha => by
    obtain ⟨q, hq, e⟩ := List.mem_map.mp ha
    subst e
    obtain ⟨q1, q2, q3, q4⟩ := w.own q (List.mem_append_left _ hq)
    exact ⟨q1, by rw [q2]; simp, q3, q4⟩
  have old : ∀ a, H a ≠ none → B a = none → B' a = none := fun a h hb => by
    cases e : B' a with
    | none => rfl
    | some v =>
      rcases u.nw a v e with z | z
      · have z' : B a = some v := z
        rw [hb] at z'; cases z'
      · exact (h z).elim
  refine ⟨u.le, w.b0.trans u.b0, fun a v h1 h2 h3 => ?_, fun a v e => ?_, fun s hs => ?_, w.ts, fun s hs => ?_, fun q hq => ?_, ?_⟩
  · refine u.fr a v (fun z => h1 (hT a z)) (fun z => ?_) (w.fr a v h1 h2 h3)
    rcases (ow a z).2.2.2 with h | h
    · rw [h] at h3; cases h3
    · exact h2 h
  · rcases u.nw a v e with z | z
    · exact w.nw a v z
    · exact .inr (w.fresh z).1
  · by_cases z : s ∈ T'
    · exact u.st s z
    · have q := w.st s hs
      obtain ⟨q0, a, ns, pl, q1, q2⟩ := id q
      have q3 := u.fr s _ z (fun z => (ow s z).2.2.1 hs) q1
      exact q.keep u.b0 (q3.trans q1.symm) (old s (by rw [q1]; simp) q0)
  · intro z
    by_cases y : s ∈ Ls.map Prod.fst
    · exact u.sk s y z
    · cases e : H s with
      | none => exact w.sk s hs e
      | some v =>
        have q := u.fr s v (fun z => w.ts s (hT s z) hs) y e
        rw [z] at q; cases q
  · rcases List.mem_append.mp hq with hq | hq
    · obtain ⟨q1, q2, q3, q4⟩ := u.own q hq
      have y : q.1 ∈ Ls.map Prod.fst := by rw [← hm]; exact List.mem_map_of_mem hq
      exact ⟨q1, q2, (ow _ y).2.2.1, (ow _ y).2.2.2⟩
    · obtain ⟨q1, q2, q3, q4⟩ := w.own q (List.mem_append_right _ hq)
      have y : q.1 ∉ Ls.map Prod.fst := fun z => by
        have h := w.nd
        rw [List.map_append] at h
        exact (List.nodup_append.mp h).2.2 _ z _ (List.mem_map_of_mem hq) rfl
      exact ⟨old _ (by rw [q2]; simp) q1, u.fr _ _ (fun z => q3 (hT _ z)) y q2, q3, q4⟩
  · have h := w.nd
    rw [List.map_append] at h ⊢
    rw [hm]
    exact h
/-- the promise of a def that changes objects of its caller's -/
def SpS (K : Fg) {ι : Type} (T : ι → List Addr) (Ls : ι → Lc) (pre : ι → Hp → List V → Prop) (post : ι → V → Lc → Hp → Prop) : Sp := fun vs H Q _ =>
  ∃ (i : ι) (B : Hp), Wd ⟨K, T i, (Ls i).map Prod.fst, B, H⟩ (Ls i) B H ∧ pre i B vs ∧ ∀ v L' B' H', Wd ⟨K, T i, (Ls i).map Prod.fst, B, H⟩ L' B' H' → L'.map Prod.fst = (Ls i).map Prod.fst → post i v L' B' → Q v H'
theorem bodyS {K : Fg} {ι : Type} {T : ι → List Addr} {Ls : ι → Lc} {pre : ι → Hp → List V → Prop} {post : ι → V → Lc → Hp → Prop} {N : List Str} {t : TS}
    (h : ∀ (i : ι) (B H : Hp) (vs : List V), pre i B vs → SR ⟨K, T i, (Ls i).map Prod.fst, B, H⟩ (Ls i) t (start N vs) B { nx := fun _ B' L' => L'.map Prod.fst = (Ls i).map Prod.fst ∧ post i .non L' B', rt := fun v B' L' => L'.map Prod.fst = (Ls i).map Prod.fst ∧ post i v L' B' })
    (vs : List V) (H : Hp) (Q : VK) (E : XK) (hs : SpS K T Ls pre post vs H Q E) : t { nx := fun _ H' => Q .non H', rt := Q } (start N vs) H := by
  obtain ⟨i, B, w, hp, q⟩ := hs
  exact h i B H vs hp H w _ ⟨fun _ B' L' H' _ w' p => q .non L' B' H' w' p.1 p.2, fun v B' L' H' _ w' p => q v L' B' H' w' p.1 p.2, fun _ _ _ _ _ _ p => p, fun _ _ _ _ _ _ p => p, fun _ _ p => p.elim⟩
theorem sr_dropS1 {ι : Type} {T : ι → List Addr} {Lf : ι → Lc} {pre : ι → Hp → List V → Prop} {post : ι → V → Lc → Hp → Prop} {E : XK} (i : ι) (ha : EvA c (Lf i ++ L0) ta' σ B fun vs B' => pre i B' vs) (hT : ∀ s ∈ T i, s ∈ c.T)
    (k : ∀ v L' B', Same B B' → L'.map Prod.fst = (Lf i).map Prod.fst → post i v L' B' → P.nx σ B' (L' ++ L0)) : SR c (Lf i ++ L0) (tDrop (tCall (SpS c.K T Lf pre post) [] E ta')) σ B P := fun H w D m =>
  ha B H (Same.refl _) w _ fun vs B2 H2 s2 hp => by
    have w2 := s2.2 _ w
    refine ⟨i, B2, w2.enterS hT, by rw [List.append_nil]; exact hp, fun v L' B3 H3 u hm hv => ?_⟩
    exact m.nx _ _ _ _ (s2.1.trans u.b0) (w2.callS hT hm u) (k v L' B3 (s2.1.trans u.b0) hm hv)
/-! ### loops of a length that is drawn -/
def EvX (c : Ct) (L : Lc) (wi : TI) (σ : L2.St) (B : Hp) (Rn : Nat → Prop) (Y : Nat → Nat → V → Hp → Prop) : Prop :=
  ∀ B1 H, Same B B1 → Wd c L B1 H → ∀ R : It → Hp → Prop, (∀ n J B2 H2, Rn n → Stp c B1 H B2 H2 → Walks c [] J n B2 (Y n) → R J H2) → wi σ H R
theorem Walks.up {J : It} {L : Lc} (e : Same B B') (h : Walks c L J n B Y) : Walks c L J n B' Y := ⟨fun k B1 H L' e1 => h.go k B1 H L' (e.trans e1), fun B1 H L' e1 => h.stop B1 H L' (e.trans e1), fun k v B1 H H' L' e1 => h.yld k v B1 H H' L' (e.trans e1)⟩
theorem sr_forX1 {wi : TI} {g : TG} {tb : TS} {Rn : Nat → Prop} {Y : Nat → Nat → V → Hp → Prop} (hi : EvX c L wi σ B Rn Y)
    (h : ∀ n B' wi', Rn n → Same B B' → EvI c L wi' σ B' n (Y n) → SR c L (tFor wi' g tb) σ B' P) : SR c L (tFor wi g tb) σ B P := fun H w D m =>
  hi B H (Same.refl _) w _ fun n J B2 H2 hn s2 W => h n B2 (fun _ H R => R J H) hn s2.1 (fun B1 H1 e1 w1 R q => q J B1 H1 .refl (W.up e1)) H2 (s2.2 _ w) D (m.up s2.1)
theorem sr_forX {wi : TI} {g : TG} {tb : TS} {Rn : Nat → Prop} {Y : Nat → Nat → V → Hp → Prop} (hi : EvX c L wi σ B Rn Y)
    (h : ∀ n B' wi', Rn n → Same B B' → EvI c L wi' σ B' n (Y n) → SR c L (tSeq (tFor wi' g tb) rest) σ B' P) : SR c L (tSeq (tFor wi g tb) rest) σ B P := fun H w D m =>
  hi B H (Same.refl _) w _ fun n J B2 H2 hn s2 W => h n B2 (fun _ H R => R J H) hn s2.1 (fun B1 H1 e1 w1 R q => q J B1 H1 .refl (W.up e1)) H2 (s2.2 _ w) D (m.up s2.1)
theorem ex_range1 {Rn : Nat → Prop} (h : EvR c L te σ B fun v _ => ∃ r : Nat, Rn r ∧ r < 1000000 ∧ v = .int (r : Int)) : EvX c L (iRng1 (tCons te tNil)) σ B Rn (fun _ i v _ => v = .int (i : Int)) := fun B1 H e w R q =>
  h B1 H e w _ fun v B2 H2 s2 ⟨r, hr, hlt, ev⟩ => by
    subst ev
    refine ⟨r, rfl, by omega, by omega, q r _ B2 H2 hr s2 ⟨fun k' _ _ _ _ _ _ hk => by rw [Int.toNat_natCast]; exact hk, fun _ _ _ _ _ _ => by rw [Int.toNat_natCast]; exact Nat.le_refl _, ?_⟩⟩
    rintro i v B' H' H'' L' e1 w1 _ hk ⟨rfl, rfl⟩
    exact ⟨B', .refl, by simp⟩
/-! ### owned lists -/
theorem ev_isR {v : V} {x : α} (h : EvV c L te σ B v) (r : rep c.K B v x) : EvP c L te σ B x := h.imp fun _ _ e ev => by rw [ev]; exact Py.up e r
theorem ev_notinO {p : Addr} {vs : List V} (hL : (p, .lst vs) ∈ L) {xs : List Nat} {x : Nat} (hv : vs = xs.map fun n : Nat => V.int (n : Int)) (ha : EvP c L ta σ B x) (hb : EvV c L tb σ B (.ref p)) : EvV c L (tOp (rIn c.K true) ta tb) σ B (.bl (!decide (x ∈ xs))) :=
  ev_opR ha (fun _ _ e _ => hb.up e) fun v w B1 B2 H _ e2 r1 ew wd Q q => by
    subst ew
    have hp : Paired (rep c.K B2) vs xs := by rw [hv]; exact pnL xs
    refine ⟨p, vs, rfl, .inl (.inl (.inl (wd.own _ hL).2.1)), Flat.fl r1, flat_all hp, q _ B2 H .refl ?_⟩
    simp only [if_true]
    congr 2
    rw [Bool.eq_iff_iff, inV_iff r1 hp, decide_eq_true_eq]
theorem sr_putR1 {p : Addr} {vs : List V} (he : EvR c ((p, .lst vs) :: L) te σ B R) (ho : EvV c ((p, .lst vs) :: L) ta σ B (.ref p)) (hi : EvR c ((p, .lst vs) :: L) tb σ B fun v _ => ∃ j : Nat, j < vs.length ∧ v = .int (j : Int)) (k : ∀ j v B' B'', j < vs.length → Same B B' → R v B' → Same B' B'' → P.nx σ B'' ((p, .lst (vs.set j v)) :: L)) :
    SR c ((p, .lst vs) :: L) (tAsg te (gSub ta tb rSetL)) σ B P := fun H w D m =>
  he B H (Same.refl _) w _ fun v B1 H1 s1 rv => ho B1 H1 s1.1 (s1.2 _ w) _ fun x B2 H2 s2 ex => hi B2 H2 (s1.1.trans s2.1) ((s1.trans s2).2 _ w) _ fun y B3 H3 s3 ⟨j, hj, ey⟩ => by
    subst ex ey
    have w3 := ((s1.trans s2).trans s3).2 _ w
    refine ⟨p, vs, (j : Int), j, rfl, rfl, w3.head.2, ?_, m.nx _ _ _ _ (s1.1.trans (s2.1.trans s3.1)) (w3.put _) (k j v B1 B3 hj s1.1 rv (s2.1.trans s3.1))⟩
    unfold ixN
    rw [if_pos (by omega), if_pos (by omega)]; simp
theorem ev_eqI {Rr : Nat → Prop} {k : Int} (ha : EvR c L ta σ B fun v _ => ∃ r : Nat, Rr r ∧ v = .int (r : Int)) : EvR c L (tOp rEq ta (tC (.int k))) σ B fun v _ => ∃ r : Nat, Rr r ∧ v = .bl (decide (V.int (r : Int) = V.int k)) :=
  ev_opR (Rb := fun _ v _ => v = .int k) ha (fun _ _ e _ => ev_c) fun x y B1 B2 H _ e2 ⟨r, hr, ex⟩ ey wd Q q => by
    subst ex ey
    exact ⟨rfl, q _ B2 H .refl ⟨r, hr, rfl⟩⟩
/-- a coin -/
theorem et_coin {Rr : Nat → Prop} {k : Int} (ha : EvR c L ta σ B fun v _ => ∃ r : Nat, Rr r ∧ v = .int (r : Int)) : EvT c L (tTest (tOp rEq ta (tC (.int k)))) σ B fun _ => True := et_testR ((ev_eqI ha).imp fun v _ _ ⟨r, _, e⟩ => ⟨_, e, trivial⟩)
theorem ev_ofSome {Rs : List α → Prop} (h : EvN c L te σ B fun o B' => ∃ zs : List α, Rs zs ∧ LstOf c.K zs o B') : EvR c L te σ B fun v B' => ∃ zs : List α, Rs zs ∧ rep c.K B' v zs := fun B1 H e w Q q => h B1 H e w _ fun p B2 H2 o s hS k ⟨zs, hr, us, eo, hp⟩ => by
  subst eo
  have w1 := k _ w
  have hB := w1.head.1
  have e3 : Same B2 (upd B2 p (.lst us)) := Same.up1 hB
  exact q (.ref p) (upd B2 p (.lst us)) H2 ⟨s.trans e3, fun L' w' => (k L' w').freeze hS⟩ ⟨zs, hr, p, us, rfl, upd_same, Paired.imp (fun _ _ r => Py.up e3 r) hp⟩
theorem ev_addN {a : Nat} {Rr : Nat → Prop} (ha : EvP c L ta σ B a) (hb : EvR c L tb σ B fun v _ => ∃ r : Nat, Rr r ∧ v = .int (r : Int)) : EvR c L (tOp rAddI ta tb) σ B fun v _ => ∃ r : Nat, Rr r ∧ v = .int ((a + r : Nat) : Int) :=
  ev_opR ha (fun _ _ e _ => hb.up e) fun x y B1 B2 H _ e2 ex ⟨r, hr, ey⟩ wd Q q => by
    cases ex
    subst ey
    exact ⟨a, r, rfl, rfl, q _ B2 H .refl ⟨r, hr, by rw [Int.natCast_add]⟩⟩
/-- x = [e, [], []], the three owned -/
theorem sr_three (h : EvR c L te σ B R) (k : ∀ z pb pp ps B', Same B B' → R z B' → pb ∉ c.S → pp ∉ c.S → ps ∉ c.S → SR c ((pb, .lst [z, .ref pp, .ref ps]) :: (ps, .lst []) :: (pp, .lst []) :: L) rest (σ.set i (some (.ref pb))) B' P) :
    SR c L (tSeq (tAsg (tLst (tCons te (tCons (tLst tNil) (tCons (tLst tNil) tNil)))) (gName i)) rest) σ B P := fun H w D m =>
  h B H (Same.refl _) w _ fun v B1 H1 s1 ev => by
    have hs := sizeLine_eq
    have w1 := s1.2 _ w
    refine ⟨by show 0 ≤ sizeLine; omega, fun pp hpp => ?_⟩
    have w2 := w1.mine (o := .lst []) hpp
    refine ⟨by show 0 ≤ sizeLine; omega, fun ps hps => ?_⟩
    have w3 := w2.mine (o := .lst []) hps
    refine ⟨by show 3 ≤ sizeLine; omega, fun pb hpb => ?_⟩
    have w4 := w3.mine (o := .lst [v, .ref pp, .ref ps]) hpb
    exact k v pb pp ps B1 s1.1 ev (w3.fresh hpb).2.2.2 (w1.fresh hpp).2.2.2 (w2.fresh hps).2.2.2 _ w4 D (m.up s1.1)
end
/-! ### lists that an older base does not know -/
structure FrL where
  bx : Hp
  l : List Nat
instance : Py FrL := ⟨fun K B v x => ∃ a vs, v = .ref a ∧ x.bx a = none ∧ B a = some (.lst vs) ∧ Paired (rep K B) vs x.l, fun e ⟨a, vs, h1, h2, h3, h4⟩ => ⟨a, vs, h1, h2, e _ _ h3, Paired.imp (fun _ _ r => Py.up e r) h4⟩⟩
theorem fr_list {K : Fg} {B : Hp} {v : V} {x : FrL} (h : rep K B v x) : rep K B v x.l := by
  obtain ⟨a, vs, h1, _, h3, h4⟩ := h
  exact ⟨a, vs, h1, h3, h4⟩
theorem frs_list {K : Fg} {B Bx : Hp} {v : V} {ls : List (List Nat)} (h : rep K B v (ls.map (FrL.mk Bx))) : rep K B v ls := by
  obtain ⟨a, vs, h1, h2, h3⟩ := h
  refine ⟨a, vs, h1, h2, ?_⟩
  clear h2
  induction ls generalizing vs with
  | nil => cases h3; exact .nil
  | cons l ls ih =>
    cases h3 with
    | cons r t => exact .cons (fr_list r) (ih _ t)
theorem Same.none {B B' : Hp} {a : Addr} (e : Same B B') (h : B' a = none) : B a = none := by
  cases z : B a with
  | none => rfl
  | some u => rw [e _ _ z] at h; cases h
theorem ev_ofF {c : Ct} {L : Lc} {σ : L2.St} {B Bx : Hp} {te : TE} {xs : List Nat} (h : EvL c L te σ B xs) (e0 : Same Bx B) : EvP c L te σ B (FrL.mk Bx xs) := fun B1 H e w Q q => h B1 H e w Q fun p B2 H2 o s hS k ⟨vs, eo, hp⟩ => by
  subst eo
  have hB := ((k _ w).head).1
  refine q (.ref p) (upd B2 p (.lst vs)) H2 ⟨s.trans (Same.up1 hB), fun L' w' => (k L' w').freeze hS⟩ ⟨p, vs, rfl, Same.none (e0.trans (e.trans s)) hB, upd_same, Paired.imp (fun _ _ r => Py.up (Same.up1 hB) r) hp⟩
theorem ev_tupleOf {c : Ct} {L : Lc} {σ : L2.St} {B : Hp} {te : TE} {α : Type} [Py α] {xs : List α} (h : EvP c L te σ B xs) : EvP c L (tCB (rTupleOf c.K) (tCons te tNil)) σ B (Tl.mk xs) :=
  ev_cb1 h fun v B1 H e ⟨a, vs, ev, hB, hp⟩ w Q q => by
    subst ev
    refine ⟨a, vs, rfl, .inl ⟨.inl (.inl (w.le _ _ hB)), fun l hl => q _ _ _ (Stp.new w hl) ⟨l, vs, rfl, .inl (.inl upd_same), Paired.imp (fun _ _ r => Py.up (Same.up1 (w.fresh hl).2.1) r) hp⟩⟩⟩
/-! ### lists of three things -/
structure Tri (α β γ : Type) where
  a : α
  b : β
  c : γ
instance {α β γ : Type} [Py α] [Py β] [Py γ] : Py (Tri α β γ) :=
  ⟨fun K B v x => ∃ p v1 v2 v3, v = .ref p ∧ B p = some (.lst [v1, v2, v3]) ∧ rep K B v1 x.a ∧ rep K B v2 x.b ∧ rep K B v3 x.c,
   fun e ⟨p, v1, v2, v3, h1, h2, h3, h4, h5⟩ => ⟨p, v1, v2, v3, h1, e _ _ h2, Py.up e h3, Py.up e h4, Py.up e h5⟩⟩
section
variable {c : Ct} {L : Lc} {σ : L2.St} {B : Hp} {ta tb te : TE} {ta' : TA} {α β γ : Type} [Py α] [Py β] [Py γ] {x : Tri α β γ}
theorem ev_tri0 (ha : EvP c L ta σ B x) : EvP c L (tOp (rIxL c.K) ta (tC (.int 0))) σ B x.a :=
  ev_opR ha (fun _ _ _ _ => ev_c) fun x' y' B1 B2 H e1 e2 rx ey w Q q => by
    subst ey
    obtain ⟨p, v1, v2, v3, rfl, hB, h1, h2, h3⟩ := rx
    exact ⟨p, _, 0, v1, rfl, rfl, .inl (.inl (w.le _ _ (e2 _ _ hB))), rfl, q _ B2 H .refl (Py.up e2 h1)⟩
theorem ev_tri1 (ha : EvP c L ta σ B x) : EvP c L (tOp (rIxL c.K) ta (tC (.int 1))) σ B x.b :=
  ev_opR ha (fun _ _ _ _ => ev_c) fun x' y' B1 B2 H e1 e2 rx ey w Q q => by
    subst ey
    obtain ⟨p, v1, v2, v3, rfl, hB, h1, h2, h3⟩ := rx
    exact ⟨p, _, 1, v2, rfl, rfl, .inl (.inl (w.le _ _ (e2 _ _ hB))), rfl, q _ B2 H .refl (Py.up e2 h2)⟩
theorem ev_tri2 (ha : EvP c L ta σ B x) : EvP c L (tOp (rIxL c.K) ta (tC (.int 2))) σ B x.c :=
  ev_opR ha (fun _ _ _ _ => ev_c) fun x' y' B1 B2 H e1 e2 rx ey w Q q => by
    subst ey
    obtain ⟨p, v1, v2, v3, rfl, hB, h1, h2, h3⟩ := rx
    exact ⟨p, _, 2, v3, rfl, rfl, .inl (.inl (w.le _ _ (e2 _ _ hB))), rfl, q _ B2 H .refl (Py.up e2 h3)⟩
theorem ev_tri {R1 : V → Hp → Prop} {R2 : V → Hp → Prop} {R3 : V → Hp → Prop} {R : V → Hp → Prop} {tc : TE} (h1 : EvR c L ta σ B R1) (h2 : ∀ v B1, Same B B1 → R1 v B1 → EvR c L tb σ B1 R2) (h3 : ∀ v w B1 B2, Same B B1 → R1 v B1 → Same B1 B2 → R2 w B2 → EvR c L tc σ B2 R3)
    (h : ∀ v1 v2 v3 B1 B2 B3 p, Same B B1 → R1 v1 B1 → Same B1 B2 → R2 v2 B2 → Same B2 B3 → R3 v3 B3 → B3 p = none → R (.ref p) (upd B3 p (.lst [v1, v2, v3]))) : EvR c L (tLst (tCons ta (tCons tb (tCons tc tNil)))) σ B R := fun B0 H e w Q q =>
  h1 B0 H e w _ fun v1 B1 H1 s1 r1 => h2 v1 B1 (e.trans s1.1) r1 B1 H1 (Same.refl _) (s1.2 _ w) _ fun v2 B2 H2 s2 r2 => h3 v1 v2 B1 B2 (e.trans s1.1) r1 s2.1 r2 B2 H2 (Same.refl _) ((s1.trans s2).2 _ w) _ fun v3 B3 H3 s3 r3 => by
    have hs := sizeLine_eq
    have w3 := ((s1.trans s2).trans s3).2 _ w
    refine ⟨by show 3 ≤ sizeLine; omega, fun p hp => ?_⟩
    exact q _ _ _ (((s1.trans s2).trans s3).trans (Stp.new w3 hp)) (h v1 v2 v3 B1 B2 B3 p (e.trans s1.1) r1 s2.1 r2 s3.1 r3 (w3.fresh hp).2.1)
end
end Nz

/-! NzW: instances that are being made; lists of owned lists. -/
namespace Nz
open Py (rep)
open PyD (dat)
open PySem PySem.Spec PyProof.Rows L2
theorem fL_split {α : Type} (v k : Nat) (F : Nat → α) : fL (v + (k + 1)) F = fL v F ++ F v :: fL k (fun j => F (v + 1 + j)) := by
  unfold fL
  rw [List.range_add, List.map_append, List.range_succ_eq_map, List.map_cons, List.map_cons, List.map_map, List.map_map]
  simp only [Nat.add_zero]
  congr 2
  refine List.map_congr_left fun j _ => ?_
  show F (v + (j + 1)) = F (v + 1 + j)
  congr 1
  omega
theorem fL_succ {α : Type} (k : Nat) (F : Nat → α) : fL (k + 1) F = fL k F ++ [F k] := fL_split k 0 F
section
variable {c : Ct} {L L' Ls L0 : Lc} {σ : L2.St} {B B' H H' : Hp} {ta tb te tv : TE} {ta' : TA} {t u rest : TS} {P : Post} {R : V → Hp → Prop} {i : Nat} {n : Nat} {x C dx : Addr} {fs : List (Str × V)} {f : Str}
theorem Wd.perm (hp : L'.Perm L) (w : Wd c L B H) : Wd c L' B H := w.sub (fun q hq => hp.subset hq) ((hp.map Prod.fst).nodup_iff.mpr w.nd)
theorem sr_fld (cl : Cls c.K C) (na : NoAttr c.K C f) (hl : fs.length < 1000) (hv : EvR c ((x, .ins C dx fs) :: L) tv σ B R) (ho : EvV c ((x, .ins C dx fs) :: L) ta σ B (.ref x))
    (k : ∀ v B' B'', Same B B' → R v B' → Same B' B'' → SR c ((x, .ins C dx (putF f v fs)) :: L) rest σ B'' P) : SR c ((x, .ins C dx fs) :: L) (tSeq (sFld c.K ta tv f) rest) σ B P := fun H w D m =>
  hv B H (Same.refl _) w _ fun v B1 H1 s1 rv => ho B1 H1 s1.1 (s1.2 _ w) _ fun y B2 H2 s2 ey => by
    subst ey
    have w2 := (s1.trans s2).2 _ w
    refine ⟨x, C, dx, fs, rfl, w2.head.2, cl, na, hl, k v B1 B2 s1.1 rv s2.1 _ (w2.put _) D (m.up (s1.1.trans s2.1))⟩
theorem sr_fldN {O : HO → Hp → Prop} (cl : Cls c.K C) (na : NoAttr c.K C f) (hl : fs.length < 1000) (hv : EvN c ((x, .ins C dx fs) :: L) tv σ B O) (ho : ∀ L', EvV c L' ta σ B (.ref x))
    (k : ∀ p o B' B'', Same B B' → p ∉ c.S → O o B' → Same B' B'' → SR c ((x, .ins C dx (putF f (.ref p) fs)) :: (p, o) :: L) rest σ B'' P) : SR c ((x, .ins C dx fs) :: L) (tSeq (sFld c.K ta tv f) rest) σ B P := fun H w D m =>
  hv B H (Same.refl _) w _ fun p B1 H1 o s1 hS kk ho1 => ho _ B1 H1 s1 (kk _ w) _ fun y B2 H2 s2 ey => by
    subst ey
    have w2 := (s2.2 _ (kk _ w)).swap
    refine ⟨x, C, dx, fs, rfl, w2.head.2, cl, na, hl, k p o B1 B2 s1 hS ho1 s2.1 _ (w2.put _) D (m.up (s1.trans s2.1))⟩
theorem ev_fldO {v : V} (cl : Cls c.K C) (na : NoAttr c.K C f) (hL : (x, .ins C dx fs) ∈ L) (hf : fs.lookup f = some v) (ho : EvV c L ta σ B (.ref x)) : EvV c L (tFld c.K ta f) σ B v := fun B1 H e w Q q =>
  ho B1 H e w _ fun y B2 H2 s ey => by
    subst ey
    exact ⟨x, C, dx, fs, v, rfl, ((s.2 _ w).own _ hL).2.1, cl, na, hf, q v B2 H2 s rfl⟩
/-- self.f = [[] for i in range(n)] -/
theorem sr_fldE (cl : Cls c.K C) (na : NoAttr c.K C f) (hl : fs.length < 1000) (hn : EvP c ((x, .ins C dx fs) :: L) te σ B n) (hn2 : n < 1000000) (ho : ∀ L' B', Same B B' → EvV c L' ta σ B' (.ref x))
    (k : ∀ (la : Addr) (as : Nat → Addr) B', Same B B' → la ∉ c.S → (∀ u, u < n → as u ∉ c.S) → SR c ((x, .ins C dx (putF f (.ref la) fs)) :: (la, .lst (fL n fun u => V.ref (as u))) :: (fL n (fun u => ((as u : Addr), HO.lst [])) ++ L)) rest σ B' P) :
    SR c ((x, .ins C dx fs) :: L) (tSeq (sFld c.K ta (tLc (iRng1 (tCons te tNil)) (gName i) tYes (tLst tNil) [i]) f) rest) σ B P := fun H w D m => by
  have hs := sizeLine_eq
  have hi := ei_rangeN hn (by omega)
  generalize iRng1 (tCons te tNil) = wi at hi ⊢
  refine hi B H (Same.refl _) w _ fun J B2 H2 s2 W => ?_
  intro p hp
  have w2 := s2.2 _ w
  refine ⟨fun k m H3 => ∃ B3 as, m = n - k ∧ k ≤ n ∧ Same B2 B3 ∧ (∀ u, u < k → as u ∉ c.S) ∧ Wd c ((p, .lst (fL k fun u => V.ref (as u))) :: (fL k (fun u => ((as u : Addr), HO.lst [])) ++ ((x, .ins C dx fs) :: L))) B3 H3, ⟨n, B2, fun _ => 0, by simp, Nat.zero_le _, Same.refl _, by omega, w2.mine hp⟩, ?_⟩
  rintro k' m' H3 ⟨B3, as, rfl, hk, e3, hS, w3⟩
  have pS := (w2.fresh hp).2.2.2
  by_cases hlt : k' < n
  · refine .inr ⟨W.go k' B3 H3 _ e3 w3 (by simp) hlt, fun H' => ∃ B' as', Same B2 B' ∧ (∀ u, u < k' + 1 → as' u ∉ c.S) ∧ Wd c ((p, .lst (fL (k' + 1) fun u => V.ref (as' u))) :: (fL (k' + 1) (fun u => ((as' u : Addr), HO.lst [])) ++ ((x, .ins C dx fs) :: L))) B' H', fun H' ⟨B', as', a1, a2, a3⟩ => ⟨n - (k' + 1), by omega, B', as', rfl, hlt, a1, a2, a3⟩, fun y H' hy => ?_⟩
    obtain ⟨B4, s4, y4⟩ := W.yld k' y B3 H3 H' _ e3 w3 (by simp) hlt hy
    have w4 := s4.2 _ w3
    refine ⟨wipe_set (by simp), ?_⟩
    unfold tYes
    dsimp only []
    rw [if_pos rfl]
    refine ⟨by show 0 ≤ sizeLine; omega, fun a ha => ?_⟩
    have w5 := (w4.mine (o := HO.lst []) ha).swap
    have aS := (w4.fresh ha).2.2.2
    refine ⟨_, w5.head.2, by rw [fL_len]; omega, B4, fun u => if u = k' then a else as u, e3.trans s4.1, fun u hu => ?_, ?_⟩
    · show (if u = k' then a else as u) ∉ c.S
      by_cases z : u = k'
      · rw [if_pos z]; exact aS
      · rw [if_neg z]; exact hS u (by omega)
    · have w6 := w5.put (.lst (fL k' (fun u => V.ref (as u)) ++ [V.ref a]))
      have e1 : fL (k' + 1) (fun u => V.ref (if u = k' then a else as u)) = fL k' (fun u => V.ref (as u)) ++ [V.ref a] := by
        rw [fL_succ]
        congr 1
        · exact fL_congr fun u hu => by rw [if_neg (by omega)]
        · rw [if_pos rfl]
      have e2 : fL (k' + 1) (fun u => (((if u = k' then a else as u) : Addr), HO.lst [])) = fL k' (fun u => ((as u : Addr), HO.lst [])) ++ [(a, .lst [])] := by
        rw [fL_succ]
        congr 1
        · exact fL_congr fun u hu => by rw [if_neg (by omega)]
        · rw [if_pos rfl]
      rw [e1, e2]
      refine w6.perm (List.Perm.cons _ ?_)
      rw [List.append_assoc]
      exact List.perm_middle
  · have en : k' = n := by omega
    subst en
    refine .inl ⟨W.stop B3 H3 _ e3 w3 (by simp), ?_⟩
    refine ho _ B3 (s2.1.trans e3) B3 H3 (Same.refl _) w3 _ fun y B5 H5 s5 ey => ?_
    subst ey
    have w5 : Wd c ((x, .ins C dx fs) :: (p, .lst (fL k' fun u => V.ref (as u))) :: (fL k' (fun u => ((as u : Addr), HO.lst [])) ++ L)) B5 H5 := by
      refine (s5.2 _ w3).perm ?_
      exact (List.Perm.swap _ _ _).trans (List.Perm.cons _ List.perm_middle.symm)
    exact ⟨x, C, dx, fs, rfl, w5.head.2, cl, na, hl, k p as B5 ((s2.1.trans e3).trans s5.1) pS hS _ (w5.put _) D (m.up ((s2.1.trans e3).trans s5.1))⟩
theorem sr_appAt {as : Nat → Addr} {cs : Nat → List V} {v : Nat} (hv : v < n) (ho : EvV c (fL n (fun u => (as u, HO.lst (cs u))) ++ L) ta σ B (.ref (as v))) (he : EvR c (fL n (fun u => (as u, HO.lst (cs u))) ++ L) te σ B R) (hl : (cs v).length < sizeLine)
    (k : ∀ w B', Same B B' → R w B' → P.nx σ B' (fL n (fun u => (as u, HO.lst (if u = v then cs u ++ [w] else cs u))) ++ L)) : SR c (fL n (fun u => (as u, HO.lst (cs u))) ++ L) (tDrop (tBM c.K "list" rAppend ta (tCons te tNil))) σ B P := fun H w D m => by
  refine ho B H (Same.refl _) w _ fun x B2 H2 s2 ex => ?_
  subst ex
  have w2 := s2.2 _ w
  obtain ⟨d, rfl⟩ : ∃ d, n = v + (d + 1) := ⟨n - v - 1, by omega⟩
  have hm : (as v, HO.lst (cs v)) ∈ fL (v + (d + 1)) (fun u => (as u, HO.lst (cs u))) ++ L := List.mem_append_left _ (by rw [fL_split]; simp)
  refine ⟨.inl ⟨rfl, _, .inl (.inl (w2.own _ hm).2.1)⟩, he B2 H2 s2.1 w2 _ fun y B3 H3 s3 ry => ?_⟩
  have w3 := s3.2 _ w2
  refine ⟨as v, cs v, y, rfl, rfl, (w3.own _ hm).2.1, hl, ?_⟩
  refine m.nx _ _ _ _ (s2.1.trans s3.1) ?_ (k y B3 (s2.1.trans s3.1) ry)
  have w4 : Wd c ((as v, HO.lst (cs v)) :: (fL v (fun u => (as u, HO.lst (cs u))) ++ (fL d (fun j => (as (v + 1 + j), HO.lst (cs (v + 1 + j)))) ++ L))) B3 H3 := by
    refine w3.perm ?_
    rw [fL_split, List.append_assoc]
    exact List.perm_middle.symm
  refine (w4.put (.lst (cs v ++ [y]))).perm ?_
  rw [fL_split, List.append_assoc, if_pos rfl]
  have e1 : fL v (fun u => (as u, HO.lst (if u = v then cs u ++ [y] else cs u))) = fL v (fun u => (as u, HO.lst (cs u))) := fL_congr fun u hu => by rw [if_neg (by omega)]
  have e2 : fL d (fun j => (as (v + 1 + j), HO.lst (if v + 1 + j = v then cs (v + 1 + j) ++ [y] else cs (v + 1 + j)))) = fL d (fun j => (as (v + 1 + j), HO.lst (cs (v + 1 + j)))) := fL_congr fun u hu => by rw [if_neg (by omega)]
  rw [e1, e2]
  exact List.perm_middle
theorem sr_freezeL : ∀ (Ls : Lc) {B : Hp}, (∀ q ∈ Ls, q.1 ∉ c.S) → (∀ B', Same B B' → (∀ q ∈ Ls, B' q.1 = some q.2) → SR c L t σ B' P) → SR c (Ls ++ L) t σ B P
  | [], B, _, h => h B (Same.refl _) (by simp)
  | (p, o) :: Ls, B, hS, h => sr_freeze (hS _ List.mem_cons_self) fun hB => sr_freezeL Ls (fun q hq => hS q (List.mem_cons_of_mem _ hq)) fun B' e hq => h B' ((Same.up1 hB).trans e) fun q hq' => by
    rcases List.mem_cons.mp hq' with rfl | hq'
    · exact e _ _ upd_same
    · exact hq q hq'
end
section
variable {c : Ct} {L : Lc} {σ : L2.St} {B : Hp} {t : TS} {P : Post}
theorem sr_last (h : SR c L t σ B { P with nx := fun σ' B' L' => ∃ Ls L0, List.Perm (Ls ++ L0) L' ∧ (∀ q ∈ Ls, q.1 ∉ c.S) ∧ ∀ B'', Same B' B'' → (∀ q ∈ Ls, B'' q.1 = some q.2) → P.nx σ' B'' L0 }) : SR c L t σ B P := fun H w D m =>
  h H w D ⟨fun σ' B' L' H' e w' ⟨Ls, L0, hp, hS, k⟩ => sr_freezeL (t := tNext) Ls hS (fun B'' e2 h2 => sr_next (k B'' e2 h2)) H' (w'.perm hp) D (m.up e), m.rt, m.bk, m.ct, m.al⟩
end
/-! ### the graph is made -/
theorem gr1' : ¬ (("_many" : Str) = "_pairs") := by decide +kernel
theorem gr2' : ¬ (("_many" : Str) = "_at") := by decide +kernel
theorem gr3' : ¬ (("_pairs" : Str) = "_at") := by decide +kernel
theorem grF_put (n : Nat) (lp la : Addr) : putF "_at" (.ref la) (putF "_pairs" (.ref lp) (putF "_many" (.int (n : Int)) [])) = grF n lp la := by
  show putF "_at" (.ref la) (if ("_many" : Str) = "_pairs" then [(("_many" : Str), V.ref lp)] else (("_many" : Str), V.int (n : Int)) :: putF "_pairs" (V.ref lp) []) = _
  rw [if_neg gr1']
  show (if ("_many" : Str) = "_at" then _ else (("_many" : Str), V.int (n : Int)) :: (if ("_pairs" : Str) = "_at" then _ else (("_pairs" : Str), V.ref lp) :: putF "_at" (V.ref la) [])) = _
  rw [if_neg gr2', if_neg gr3']
  rfl
def sp_GraphD_initD (K : Fg) (C : Addr) : Sp := SpS K (ι := Gr × Addr × Addr) (fun _ => []) (fun i => [(i.2.1, .ins C i.2.2 [])]) (fun i B vs => ∃ v, vs = [.ref i.2.1, .int (i.1.n : Int), v] ∧ rep K B v i.1.es ∧ i.1.Ok)
  fun i v L' B => v = .non ∧ ∃ lp la, L' = [(i.2.1, .ins C i.2.2 (grF i.1.n lp la))] ∧ rep K B (.ref lp) i.1.es ∧ rep K B (.ref la) i.1.ats
theorem eg_make {c : Ct} {C : Addr} {L : Lc} {σ : L2.St} {B : Hp} {ta' : TA} {E : XK} {G : Gr} (ha : EvA c L ta' σ B fun vs B' => ∃ v, vs = [.int (G.n : Int), v] ∧ rep c.K B' v G.es) (ok : G.Ok) : EvG c C L (tMake C (sp_GraphD_initD c.K C) [] E ta') σ B G := fun B1 H e w Q q =>
  ha B1 H e w _ fun vs B2 H2 s2 ⟨v, ev, r⟩ => by
    subst ev
    intro x dx hx hdx hne
    have e1 : Same B2 (upd B2 dx (.own x)) := Same.up1 ((s2.2 _ w).fresh hdx).2.1
    have hx' : (upd H2 dx (.own x)) x = none := by rw [upd_ne (Ne.symm hne)]; exact hx
    have w4 : ∀ L', Wd c L' B1 H → Wd c ((x, .ins C dx []) :: L') (upd B2 dx (.own x)) (upd (upd H2 dx (.own x)) x (.ins C dx [])) := fun L' w' => ((s2.2 _ w').new hdx).mine hx'
    have xS : x ∉ c.S := (((s2.2 _ w).new hdx).fresh hx').2.2.2
    refine ⟨(G, x, dx), upd B2 dx (.own x), Wd.enterS (Ls := [(x, .ins C dx [])]) (L0 := L) (w4 L w) (by simp), ⟨v, rfl, Py.up e1 r, ok⟩, fun y L' B' H' u hm ⟨ey, lp, la, eL, rp, ra⟩ => ⟨ey, ?_⟩⟩
    dsimp only at eL rp ra u
    subst eL
    have w5 : ∀ L', Wd c L' B1 H → Wd c ((x, .ins C dx (grF G.n lp la)) :: L') B' H' := fun L' w' => Wd.callS (Ls := [(x, .ins C dx [])]) (L0 := L') (w4 L' w') (by simp) hm u
    have hB := (w5 L w).head.1
    have e3 : Same B' (upd B' x (.ins C dx (grF G.n lp la))) := Same.up1 hB
    exact q (.ref x) (upd B' x (.ins C dx (grF G.n lp la))) H' ⟨s2.1.trans (e1.trans (u.b0.trans e3)), fun L' w' => (w5 L' w').freeze xS⟩ ⟨x, dx, lp, la, rfl, upd_same, Py.up e3 rp, Py.up e3 ra, ok⟩
end Nz

/-! NzK: the law's call where the law wants to know that no repr is running; the seven facts of a class. -/
namespace Nz
open Py (rep)
open PyD (dat)
open PySem PySem.Spec PyProof.Rows L2
theorem enterG {P : Program} {w : World} {K : Fg} {mg mb : Str → Option Value} {k : Nat} {fa a : Addr} {fd : FuncData} {x : Str} {sp : Sp} {s : Shared} {vs : List Value} {ns : List Int}
    (kin : K.In s.heap) (gl : s.heap.Ns mainGlobals mg) (bl : s.heap.Ns builtinsNs mb) (bb : ∀ x : Str, x ≠ "__name__" → mb x = bootBuiltins x) (lim : s.heap.NoLimit) (gens : s.gens = #[])
    (script : s.heap.get? a = some { cls := .type "list", data := .seq vs.toArray }) (hints : IntsAre vs ns) (len : ns.length ≤ sizeLine) (room : Room k callerA)
    (F : ∀ base : Heap, K.In base → base.Ns mainGlobals mg → FnG P w K mg base CX0 k fa fd [x] sp) (bind : ∀ (s : Shared) (u : Value), BindsTo s fd ⟨[u], []⟩ [(x, u)])
    (keeps : ∀ H : Hp, SqL K H a (ns.map V.int) → sp [.ref a] H (fun v _ => v = .bl true) E0) :
    codeAny (model P w) callerA (.call (.ref fa) ⟨[.ref a], []⟩) (fun r s' => r = .ok (.ret (.bool true)) ∧ OldK s.heap s'.heap ∧ s'.os = s.os ∧ AllBare s'.gens) s := by
  have rv := vals_ints hints
  have hl := hints.length
  let u : HO := .frz { cls := .type "list", data := .seq vs.toArray } (.lst (ns.map V.int))
  let H : Hp := fun b => if b = a ∧ K.lookup a = none then some u else none
  have hH : ∀ b o, H b = some o → b = a ∧ K.lookup a = none ∧ o = u := fun b o e => by
    by_cases z : b = a ∧ K.lookup a = none
    · have e1 : H b = some u := if_pos z
      rw [e1] at e
      cases e
      exact ⟨z.1, z.2, rfl⟩
    · have e1 : H b = none := if_neg z
      rw [e1] at e
      cases e
  have hS : SqL K H a (ns.map V.int) := by
    cases q : K.lookup a with
    | none => exact .inl (.inr ⟨_, if_pos ⟨rfl, q⟩⟩)
    | some o =>
      have e := kin a o q
      rw [script] at e
      cases e
      exact .inr ⟨_, vs.toArray, _, q, rfl, rfl, rfl, by rw [List.size_toArray, hl]; exact len, by simpa using rv⟩
  have hok : HOk P w H s.heap := fun b o e => by
    obtain ⟨rfl, _, rfl⟩ := hH b o e
    exact ⟨script, by rw [List.length_map]; exact len, vs, _, rv, script⟩
  have keep : ∀ {b : Addr} {o : Obj}, s.heap.get? b = some o → H b = none → (hidT s.heap H).get? b = some o := fun e n => hidT_get e n
  have free : ∀ {b : Addr}, (∀ o, s.heap.get? b = some o → ∀ its n, o.data ≠ .seq its n) → s.heap.get? b ≠ none → H b = none := fun {b} h1 h2 => by
    cases q : H b with
    | none => rfl
    | some o =>
      obtain ⟨rfl, _, _⟩ := hH b o q
      exact (h1 _ script vs.toArray _ rfl).elim
  have ns' : ∀ {b : Addr} {m : Str → Option Value}, s.heap.Ns b m → (hidT s.heap H).Ns b m := fun {b m} ⟨o, es, ep, e, d, r⟩ =>
    ⟨o, es, ep, keep e (free (fun o' e' its n z => by rw [e] at e'; cases e'; rw [d] at z; cases z) (by rw [e]; simp)), d, r⟩
  have kin' : K.In (hidT s.heap H) := fun b o e => keep (kin b o e) (by
    cases q : H b with
    | none => rfl
    | some v =>
      obtain ⟨rfl, z, _⟩ := hH b v q
      rw [z] at e
      cases e)
  have lim' : (hidT s.heap H).NoLimit := by
    obtain ⟨mc, h1, h2⟩ := lim
    exact ⟨mc, ns' h1, h2⟩
  have env : Env0 P w K mg (hidT s.heap H) callerA [] s H :=
    { frames := rfl, mod := ⟨kin', ns' gl, ⟨mb, ns' bl, bb⟩, lim'⟩, bs := fun b o e => of_hidT e, bsz := Nat.le_of_eq (hidT_size _ _), funs := trivial, frf := fun b z => (by cases z), hok := hok, bare := .of_eq gens }
  refine codeAny_mono ((F _ kin' (ns' gl)).go callerA [] s H ⟨[.ref a], []⟩ [.ref a] [.ref a] _ _ rfl room env (bind s (.ref a)) (.cons rfl .nil) (keeps H hS)) fun r s' h => ?_
  rcases r with er | fl
  · exact h.elim
  rcases fl with _ | _ | _ | v
  · exact h.elim
  · exact h.elim
  · exact h.elim
  obtain ⟨y, H', os, bare, un, hok', ry, q⟩ := h
  have q : y = .bl true := q
  subst q
  have ry : v = Value.bool true := ry
  subst ry
  refine ⟨rfl, OldK.of_keep fun b o e => ?_, os, bare⟩
  cases z : H b with
  | none => exact un.keep b o e z (fun z => by cases z) (by simp)
  | some o' =>
    obtain ⟨rfl, _, rfl⟩ := hH b o' z
    have e2 := (hok' b _ (un.frzs b _ _ z)).1
    rw [script] at e
    cases e
    exact e2
/-- the goal that the head leaves, from the law's promise -/
theorem walkG {l : PySem.W.OpenLaw} {n k : Nat} {q : Program} {loose : List Str} {XP : (Str → Option Value) → Heap → Prop} {YP : World → Heap → Prop} {d : DefRec} {K : Params → Fg} {x : Str}
    (hn : l.most = some n) (hn2 : n ≤ sizeLine) (hdf : d.params.defaults = []) (hr : Room k callerA) (hY : ∀ (w : World) (h : Heap), YP w h → (K w.params).In h)
    (F : ∀ (w : World) (mg : Str → Option Value) (fa : Addr) (h : Heap), (K w.params).In h → h.Ns mainGlobals mg → mg d.name = some (.ref fa) →
      ∃ (sp : Sp) (fd : FuncData), (∀ (H : Hp) (a : Addr) (ns : List Int), SqL (K w.params) H a (ns.map V.int) → sp [.ref a] H (fun v _ => v = .bl true) E0) ∧ (∀ (s : Shared) (u : Value), BindsTo s fd ⟨[u], []⟩ [(x, u)]) ∧
        ∀ base : Heap, (K w.params).In base → base.Ns mainGlobals mg → FnG l.prog w (K w.params) mg base CX0 k fa fd [x] sp) :
    PySem.W.WalkO q loose XP YP l.row.toRowW d [] (fun f vs => PySem.call f vs) := by
  refine Att.attach_call hn hdf fun w s₀ s₁ mg mb fa o pm cd doc a vs ns G Y ho hd hcd hmg hobj hints hlen hg => ?_
  have KX := hY w _ Y
  obtain ⟨sp, fd, hsp, hb, hF⟩ := F w mg fa _ KX G.T.g hmg
  exact enterG KX G.T.g G.T.b G.T.builtins G.T.nolimit hg hobj hints (Nat.le_trans hlen hn2) hr hF hb (fun H hS => hsp H a ns hS)
end Nz

/-! NpA: the program's small defs. -/
namespace Nz
open Py (rep)
open PyD (dat)
open PySem PySem.Spec PyProof.Rows L2
/-- the places of True -/
def plc (bs : List Bool) : List Nat := (List.range bs.length).filter fun i => bs[i]? == some true
def sp_places (K : Fg) (C : Addr) : Sp := Sp1 K (ι := Hp × List Bool) (fun _ => []) (fun ⟨Bx, bs⟩ B vs => ∃ v, vs = [v] ∧ rep K B v bs ∧ bs.length ≤ 100000 ∧ Same Bx B) fun ⟨Bx, bs⟩ v B => rep K B v (FrL.mk Bx (plc bs))
abbrev N_places : List Str := ["marks", "place", "mark"]
def t_places (K : Fg) (C : Addr) : TS :=
  (tRet (tLc (iEnum K (tCons (tVar 0) tNil)) (gTup K 2 (gCons (gName 1) (gCons (gName 2) gNil))) (tTru K (tVar 2)) (tVar 1) [1, 2]))
theorem pure_places {K : Fg} {C : Addr} (vs : List V) (H : Hp) (Q : VK) (E : XK) : sp_places K C vs H Q E → t_places K C { nx := fun _ H' => Q .non H', rt := Q } (start N_places vs) H := by
  refine body1 ?_ vs H Q E
  rintro ⟨Bx, bs⟩ B H _ ⟨v, rfl, r, hl, e0⟩
  have hs := sizeLine_eq
  refine sr_ret (ev_ofF (Bx := Bx) (el_filter (β := Nat) (fun k => bs[k]? == some true) (fun k => k) (ei_enum (xs := bs) (ev_var rfl r)) (by omega) fun k v B' hk e ⟨x, hx, y⟩ => ?_) e0) fun v B' e r => ?_
  · refine ⟨_, tg_names y, ?_⟩
    rintro σ' ⟨v1, v2, r1, r2, rfl⟩
    cases r1; cases r2
    exact ⟨rfl, et_is (et_tru (ev_v rfl)) (by rw [hx]; cases x <;> rfl), fun _ => ev_v rfl⟩
  · rw [List.map_id'] at r
    exact r
/-- the sum of two sets of marks -/
def xorL (xs ys : List Bool) : List Bool := (List.range (min xs.length ys.length)).map fun i => xs.getD i false != ys.getD i false
def sp_sum_of_marks (K : Fg) (C : Addr) : Sp := Sp1 K (ι := List Bool × List Bool) (fun _ => []) (fun ⟨xs, ys⟩ B vs => ∃ v w, vs = [v, w] ∧ rep K B v xs ∧ rep K B w ys ∧ xs.length ≤ 100000) fun ⟨xs, ys⟩ v B => rep K B v (xorL xs ys)
abbrev N_sum_of_marks : List Str := ["one", "other", "a", "b"]
def t_sum_of_marks (K : Fg) (C : Addr) : TS :=
  (tRet (tLc (iZip K (tCons (tVar 0) (tCons (tVar 1) tNil))) (gTup K 2 (gCons (gName 2) (gCons (gName 3) gNil))) tYes (tOp rNe (tVar 2) (tVar 3)) [2, 3]))
theorem pure_sum_of_marks {K : Fg} {C : Addr} (vs : List V) (H : Hp) (Q : VK) (E : XK) : sp_sum_of_marks K C vs H Q E → t_sum_of_marks K C { nx := fun _ H' => Q .non H', rt := Q } (start N_sum_of_marks vs) H := by
  refine body1 ?_ vs H Q E
  rintro ⟨xs, ys⟩ B H _ ⟨v, w, rfl, r, r', hl⟩
  have hs := sizeLine_eq
  refine sr_ret (ev_of (el_map (β := Bool) (fun k => xs.getD k false != ys.getD k false) (ei_zip (ev_var rfl r) (ev_var rfl r')) (by omega) fun k v B' hk e ⟨x, y, hx, hy, z⟩ => ?_)) fun v B' e r => r
  refine ⟨_, tg_names z, ?_⟩
  rintro σ' ⟨v1, v2, r1, r2, rfl⟩
  cases r1; cases r2
  refine ⟨rfl, ev_is (ev_ne (ev_v rfl) (ev_v rfl)) ?_⟩
  rw [List.getD_eq_getElem?_getD, List.getD_eq_getElem?_getD, hx, hy]
  cases x <;> cases y <;> rfl
/-- the marks of a set of edges -/
def mks (m : Nat) (es : List Nat) : List Bool := (List.range m).map fun i => decide (i ∈ es)
def sp_marked_edges (K : Fg) (C : Addr) : Sp := Sp1 K (ι := Gr × List Nat) (fun _ => []) (fun ⟨G, es⟩ B vs => ∃ v w, vs = [v, w] ∧ GrAt K C B v G ∧ rep K B w es ∧ ∀ e ∈ es, e < G.m) fun ⟨G, es⟩ v B => rep K B v (mks G.m es)
abbrev N_marked_edges : List Str := ["graph", "edges", "marks", "edge"]
def t_marked_edges (K : Fg) (C : Addr) : TS :=
  (tSeq (tAsg (tOp rRep (tLst (tCons (tC (.bl false)) tNil)) (tCB (rLenO C (spLen C) E0) (tCons (tVar 0) tNil))) (gName 2))
  (tSeq (tFor (iList K (tVar 1)) (gName 3) (tSeq (tIfS (tNot (tTest (tChain rLeI rLtI (tC (.int 0)) (tVar 3) (tCB (rLenO C (spLen C) E0) (tCons (tVar 0) tNil))))) tNever tNext)
  (tAsg (tC (.bl true)) (gSub (tVar 2) (tVar 3) rSetL))))
  (tRet (tVar 2))))
theorem mks_nil (m : Nat) : mks m [] = List.replicate m false := by
  unfold mks
  apply List.ext_getElem
  · simp
  · intro i h1 h2; simp
theorem mks_set (m : Nat) (es : List Nat) (e : Nat) : (mks m es).set e true = mks m (es ++ [e]) := by
  unfold mks
  apply List.ext_getElem
  · simp
  · intro i h1 h2
    simp only [List.getElem_set, List.getElem_map, List.getElem_range, List.mem_append, List.mem_singleton]
    by_cases h : e = i
    · simp [h]
    · have : ¬ i = e := fun z => h z.symm
      simp [h, this]
theorem mks_len (m : Nat) (es : List Nat) : (mks m es).length = m := by simp [mks]
theorem pure_marked_edges {K : Fg} {C : Addr} (vs : List V) (H : Hp) (Q : VK) (E : XK) : sp_marked_edges K C vs H Q E → t_marked_edges K C { nx := fun _ H' => Q .non H', rt := Q } (start N_marked_edges vs) H := by
  refine body1 ?_ vs H Q E
  rintro ⟨G, es⟩ B H _ ⟨v, w, rfl, g, r, hl⟩
  have ok : G.Ok := g.ok
  have hs := sizeLine_eq
  have hm := ok.sm
  refine sr_setN (el_rep (x := false) ev_c (eg_len (eg_var rfl g)) (by omega)) fun p o B1 e1 hp ⟨us, eo, hu⟩ => ?_
  subst eo
  have hu2 := paired_bools hu
  subst hu2
  have g1 := g.up e1
  refine sr_forN (fun k σ B' L => ∃ x, σ = [some v, some w, some (.ref p), x] ∧ L = [(p, .lst ((mks G.m (es.take k)).map V.bl))]) (ei_list (ev_var rfl (Py.up e1 r))) (fun B' e => ⟨none, rfl, ?_⟩) ?_ ?_
  · rw [List.take_zero, mks_nil]
  · rintro k v' σ' B2 B' L' hk e2 ⟨x, rfl, rfl⟩ e4 ⟨e, he, ev⟩
    cases ev
    have hem : e < G.m := hl e (List.mem_of_getElem? he)
    have g2 := g1.up (e2.trans e4)
    refine sr_seq (sr_ifB (b := false) ?_ (fun z => by cases z) fun _ B3 e5 => sr_next ?_)
    · refine et_is (et_not (et_test (ev_chain ev_c (ev_v rfl) (eg_len (eg_var rfl g2))))) ?_
      simp [hem]
    · refine sr_put1 (j := e) (R := fun v _ => v = .bl true) ev_c (ev_v rfl) (ev_v rfl) (by simp [mks_len, hem]) fun v' B4 B5 _ ev' _ => ⟨_, rfl, ?_⟩
      subst ev'
      rw [← List.map_set, mks_set, List.take_add_one, he]
      rfl
  · rintro σ' B' L' e2 ⟨x, rfl, rfl⟩
    refine sr_freeze (by simp) fun hB => sr_ret (ev_var (x := mks G.m es) rfl ?_) fun v B' e r => r
    rw [List.take_length]
    exact rep_frozen hB (pbL _)
/-- the degree of v in the marked ones of the first k edges -/
def dgk (es : List (Nat × Nat)) (bs : List Bool) (v : Nat) : Nat → Nat
  | 0 => 0
  | k + 1 => dgk es bs v k + if bs.getD k false = true then (if (es.getD k (0, 0)).1 = v then 1 else 0) + (if (es.getD k (0, 0)).2 = v then 1 else 0) else 0
def oddL (G : Gr) (bs : List Bool) : List Bool := fL G.n fun v => dgk G.es bs v G.m % 2 == 1
def sp_odd_vertices (K : Fg) (C : Addr) : Sp := Sp1 K (ι := Gr × List Bool) (fun _ => []) (fun ⟨G, bs⟩ B vs => ∃ v w, vs = [v, w] ∧ GrAt K C B v G ∧ rep K B w bs ∧ bs.length = G.m) fun ⟨G, bs⟩ v B => rep K B v (oddL G bs)
abbrev N_odd_vertices : List Str := ["graph", "marks", "odd", "edge", "tail", "head"]
def t_odd_vertices (K : Fg) (C : Addr) : TS :=
  (tSeq (tAsg (tOp rRep (tLst (tCons (tC (.bl false)) tNil)) (tProp C (getSp C "_many") [] E0 (tVar 0))) (gName 2))
  (tSeq (tFor (iEnumO K C (tCons (tVar 0) tNil)) (gTup K 2 (gCons (gName 3) (gCons (gTup K 2 (gCons (gName 4) (gCons (gName 5) gNil))) gNil))) (tIfS (tTru K (tOp (rIxL K) (tVar 1) (tVar 3))) (tSeq (tAsg (tNotV (tOp (rIxL K) (tVar 2) (tVar 4))) (gSub (tVar 2) (tVar 4) rSetL))
  (tAsg (tNotV (tOp (rIxL K) (tVar 2) (tVar 5))) (gSub (tVar 2) (tVar 5) rSetL))) tNext))
  (tRet (tVar 2))))
theorem flip_odd (d : Nat) : (!(d % 2 == 1)) = ((d + 1) % 2 == 1) := by
  rcases Nat.mod_two_eq_zero_or_one d with h | h
  · have : (d + 1) % 2 = 1 := by omega
    simp [h, this]
  · have : (d + 1) % 2 = 0 := by omega
    simp [h, this]
theorem pure_odd_vertices {K : Fg} {C : Addr} (vs : List V) (H : Hp) (Q : VK) (E : XK) : sp_odd_vertices K C vs H Q E → t_odd_vertices K C { nx := fun _ H' => Q .non H', rt := Q } (start N_odd_vertices vs) H := by
  refine body1 ?_ vs H Q E
  rintro ⟨G, bs⟩ B H _ ⟨v, w, rfl, g, r, hl⟩
  have ok : G.Ok := g.ok
  have hs := sizeLine_eq
  have hn := ok.sn
  refine sr_setN (el_rep (x := false) ev_c (eg_n (eg_var rfl g)) (by omega)) fun p o B1 e1 hp ⟨us, eo, hu⟩ => ?_
  subst eo
  have hu2 := paired_bools hu
  subst hu2
  have g1 := g.up e1
  refine sr_for (fun k σ B' L => ∃ x y z, σ = [some v, some w, some (.ref p), x, y, z] ∧ L = [(p, .lst (fL G.n fun u => V.bl (dgk G.es bs u k % 2 == 1)))]) (ei_enumG (eg_var rfl g1)) (fun B' e => ⟨none, none, none, rfl, ?_⟩) ?_ ?_
  · rw [fL_rep, fL_map]
    rfl
  · rintro k v' σ' B2 B' L' hk e2 ⟨x, y, z, rfl, rfl⟩ e4 ⟨⟨a, b⟩, hab, rv⟩
    refine ⟨_, tg_edge rv, fun σ2 e5 => ?_⟩
    subst e5
    have lt := ok.lt _ (List.mem_of_getElem? hab)
    have la : a < G.n := lt.1
    have lb : b < G.n := lt.2
    have hb : bs[k]? = some bs[k] := List.getElem?_eq_getElem (by omega)
    have hab2 : G.es.getD k (0, 0) = (a, b) := by rw [List.getD_eq_getElem?_getD, hab]; rfl
    have hb2 : bs.getD k false = bs[k] := by rw [List.getD_eq_getElem?_getD, hb]; rfl
    have rw' : rep K B' w bs := Py.up (e1.trans (e2.trans e4)) r
    refine sr_ifB (b := bs[k]) (et_tru (ev_ixN (xs := bs) (x := bs[k]) (i := k) (ev_var rfl rw') (ev_v rfl) hb)) (fun hbt B3 e5 => ?_) fun hbf B3 e5 => sr_next ?_
    · refine sr_put (j := a) (R := fun v _ => v = .bl (!(dgk G.es bs a k % 2 == 1))) (ev_notV (ev_ixO (i := a) List.mem_cons_self (ev_v rfl) (ev_v rfl) (by omega) (by rw [Int.toNat_natCast]; exact fL_get _ la))) (ev_v rfl) (ev_v rfl) (by rw [fL_len]; exact la) fun v1 B4 B5 _ ev1 _ => ?_
      subst ev1
      rw [fL_set]
      refine sr_put1 (j := b) (R := fun v _ => v = .bl (!((dgk G.es bs b k + if b = a then 1 else 0) % 2 == 1))) (ev_notV (ev_is (ev_ixO (i := b) List.mem_cons_self (ev_v rfl) (ev_v rfl) (by omega) (by rw [Int.toNat_natCast]; exact fL_get _ lb)) ?_)) (ev_v rfl) (ev_v rfl) (by rw [fL_len]; exact lb) fun v1 B4 B5 _ ev1 _ => ⟨_, _, _, rfl, ?_⟩
      · by_cases h : b = a
        · subst h; simp only [if_true, flip_odd]
        · simp only [h, if_false, Nat.add_zero]
      · subst ev1
        rw [fL_set]
        congr 1
        congr 1
        congr 1
        refine fL_congr fun u hu => ?_
        simp only [dgk, hab2, hb2, hbt, if_true]
        by_cases h1 : u = b
        · subst h1
          simp only [if_true, flip_odd]
          by_cases h2 : u = a
          · subst h2
            have e3 : ∀ d : Nat, (d + 1 + 1) % 2 = d % 2 := fun d => by omega
            simp [e3]
          · have : ¬ a = u := fun z => h2 z.symm
            simp [h2, this]
        · have h1' : ¬ b = u := fun z => h1 z.symm
          by_cases h2 : u = a
          · subst h2
            simp only [h1, h1', if_true, if_false, flip_odd, Nat.add_zero]
          · have : ¬ a = u := fun z => h2 z.symm
            simp [h1, h1', h2, this]
    · refine ⟨_, _, _, rfl, ?_⟩
      congr 1
      congr 1
      congr 1
      refine fL_congr fun u hu => ?_
      simp only [dgk, hb2, hbf]
      simp
  · rintro σ' B' L' e2 ⟨x, y, z, rfl, rfl⟩
    refine sr_freeze (by simp) fun hB => sr_ret (ev_var (x := oddL G bs) rfl ?_) fun v B' e r => r
    refine rep_frozen hB ?_
    have := pbL (B := B') (K := K) (oddL G bs)
    unfold oddL at this ⊢
    rw [fL_map] at this
    exact this
end Nz

/-! NzT: zip of two tuples. -/
namespace Nz
open Py (rep)
open PyD (dat)
open PySem PySem.Spec PyProof.Rows L2
section
variable {prog : Program} {w : World} {A : Around} {E : Value → Shared → Prop} {s : Shared} {l1 l2 : Addr} {xs ys : Array Value}
def zt1 (h : Heap) (l1 : Addr) : Heap := h.push { cls := .type "tuple_iterator", data := .fields #[.ref l1, .int 0 0] }
def zt2 (h : Heap) (l1 l2 : Addr) : Heap := (zt1 h l1).push { cls := .type "tuple_iterator", data := .fields #[.ref l2, .int 0 0] }
def zt3 (h : Heap) (l1 l2 : Addr) : Heap := (zt2 h l1 l2).push { cls := .type "tuple", data := .seq #[.ref h.objs.size, .ref (zt1 h l1).objs.size] }
def zt4 (h : Heap) (l1 l2 : Addr) : Heap := (zt3 h l1 l2).push { cls := .type "tuple", data := .seq #[.none, .none] }
def zt5 (h : Heap) (l1 l2 : Addr) : Heap := (zt4 h l1 l2).push { cls := .type "zip", data := .fields #[.none, .bool false, .bool false, .ref (zt2 h l1 l2).objs.size, .ref (zt3 h l1 l2).objs.size] }
theorem meets_zt (l1 l2 : Addr) (xs ys : Array Value) : Meets (Builtin.«zip.__new__» ⟨[.type "zip", .ref l1, .ref l2], []⟩) (fun _ R s => s.heap.IsTuple l1 xs ∧ s.heap.IsTuple l2 ys ∧ R (.ok (.ret (.ref (zt4 s.heap l1 l2).objs.size))) { s with heap := zt5 s.heap l1 l2 }) :=
  .of_wp fun prog w A R s h => by
    obtain ⟨hp, g, d, tk, os⟩ := s
    obtain ⟨h1, h2, h⟩ := h
    have hsub := sub_zip
    have q1 : Heap.IsTuple (Shared.heap ⟨hp, g, d, tk, os⟩) l1 xs := h1
    have q2 : Heap.IsTuple (Shared.heap ⟨hp.push { cls := .type "tuple_iterator", data := .fields #[.ref l1, .int 0 0] }, g, d, tk, os⟩) l2 ys := by
      obtain ⟨o, e, r⟩ := h2
      exact ⟨o, Heap.get?_push_of_some _ e, r⟩
    wp_walk using wpAny_pyIter_tuple q1, wpAny_pyIter_tuple q2
    exact ⟨_, rfl, h⟩
theorem call_zt {Q : Value → Shared → Prop} (h1 : s.heap.IsTuple l1 xs) (h2 : s.heap.IsTuple l2 ys)
    (h : ∀ h', ZSt true true h' (s.heap.objs.size + 4) (s.heap.objs.size + 2) (s.heap.objs.size + 3) s.heap.objs.size (s.heap.objs.size + 1) l1 l2 0 0 .none .none → (∀ c o, s.heap.get? c = some o → h'.get? c = some o) → Q (.ref (s.heap.objs.size + 4)) { s with heap := h' }) :
    wpAny (model prog w) A (call (.type "zip") [.ref l1, .ref l2]) Q E s := by
  have la : l1 < s.heap.objs.size := by obtain ⟨o, e, _⟩ := h1; exact Heap.lt_size e
  have lb : l2 < s.heap.objs.size := by obtain ⟨o, e, _⟩ := h2; exact Heap.lt_size e
  refine callType_new PySem.F.called_zip (by decide) (PySem.F.typeCall_zip_2 _ _) (PySem.F.newCall_zip_2 _ _) (fun obj => PySem.F.args_object_init_3 obj _ _) PySem.F.entry_zip_new (meets_zt l1 l2 xs ys) ⟨h1, h2, ?_⟩
  have n1 : (zt1 s.heap l1).objs.size = s.heap.objs.size + 1 := Heap.size_push ..
  have n2 : (zt2 s.heap l1 l2).objs.size = s.heap.objs.size + 2 := by unfold zt2; rw [Heap.size_push, n1]
  have n3 : (zt3 s.heap l1 l2).objs.size = s.heap.objs.size + 3 := by unfold zt3; rw [Heap.size_push, n2]
  have n4 : (zt4 s.heap l1 l2).objs.size = s.heap.objs.size + 4 := by unfold zt4; rw [Heap.size_push, n3]
  have k5 : ∀ c o, (zt4 s.heap l1 l2).get? c = some o → (zt5 s.heap l1 l2).get? c = some o := fun c o e => Heap.get?_push_of_some _ e
  have k4 : ∀ c o, (zt3 s.heap l1 l2).get? c = some o → (zt5 s.heap l1 l2).get? c = some o := fun c o e => k5 c o (Heap.get?_push_of_some _ e)
  have k3 : ∀ c o, (zt2 s.heap l1 l2).get? c = some o → (zt5 s.heap l1 l2).get? c = some o := fun c o e => k4 c o (Heap.get?_push_of_some _ e)
  have k2 : ∀ c o, (zt1 s.heap l1).get? c = some o → (zt5 s.heap l1 l2).get? c = some o := fun c o e => k3 c o (Heap.get?_push_of_some _ e)
  have k1 : ∀ c o, s.heap.get? c = some o → (zt5 s.heap l1 l2).get? c = some o := fun c o e => k2 c o (Heap.get?_push_of_some _ e)
  have g5 : (zt5 s.heap l1 l2).get? (zt4 s.heap l1 l2).objs.size = some { cls := .type "zip", data := .fields #[.none, .bool false, .bool false, .ref (zt2 s.heap l1 l2).objs.size, .ref (zt3 s.heap l1 l2).objs.size] } := Heap.get?_push_size _ rfl
  have g4 := k5 _ { cls := .type "tuple", data := .seq #[.none, .none] } (Heap.get?_push_size (zt3 s.heap l1 l2) rfl)
  have g3 := k4 _ { cls := .type "tuple", data := .seq #[.ref s.heap.objs.size, .ref (zt1 s.heap l1).objs.size] } (Heap.get?_push_size (zt2 s.heap l1 l2) rfl)
  have g2 := k3 _ { cls := .type "tuple_iterator", data := .fields #[.ref l2, .int 0 0] } (Heap.get?_push_size (zt1 s.heap l1) rfl)
  have g1 := k2 _ { cls := .type "tuple_iterator", data := .fields #[.ref l1, .int 0 0] } (Heap.get?_push_size s.heap rfl)
  rw [n4, n2, n3] at g5
  rw [n3] at g4
  rw [n2, n1] at g3
  rw [n1] at g2
  show _ ∧ _
  rw [n4]
  exact ⟨⟨_, g5, rfl⟩, h _ ⟨PySem.W.ktu_apart s.heap.objs.size l1 l2 la lb, g5, g3, g4, ⟨_, g1, rfl, rfl⟩, ⟨_, g2, rfl, rfl⟩⟩ k1⟩
end
/-! ### the walk -/
def Itt2 (K : Fg) (a b : Addr) : It :=
  ⟨fun i H => ∃ (xs ys : List V) (x y : V), SqT K H a xs ∧ SqT K H b ys ∧ xs[i]? = some x ∧ ys[i]? = some y,
    fun i H v H' => ∃ T x y, v = .ref T ∧ H T = none ∧ H' = upd H T (.tup [x, y]) ∧ (∀ xs, SqT K H a xs → xs[i]? = some x) ∧ ∀ ys, SqT K H b ys → ys[i]? = some y,
    fun i H => ∃ xs ys : List V, SqT K H a xs ∧ SqT K H b ys ∧ (xs.length ≤ i ∨ ys.length ≤ i)⟩
theorem turn_zt {P : Program} {w : World} {K : Fg} {elts : List Expr} {kk : Nat} {tpos : Pos} {a b z TI TO i1 i2 : Addr} :
    Turn P w K (.Tuple elts kk tpos) (Itt2 K a b) [z, TI, TO, i1, i2] z (fun i h => ∃ x y, ZSt true true h z TI TO i1 i2 a b i i x y) where
  mem := by simp
  obj := fun i h ⟨x, y, S⟩ c hc => by
    have e' : c = z ∨ c = TI ∨ c = TO ∨ c = i1 ∨ c = i2 := by simpa using hc
    rcases e' with q | q | q | q | q
    · subst q; exact ⟨_, S.hz, fun v q => nomatch q⟩
    · subst q; exact ⟨_, S.ti, fun v q => nomatch q⟩
    · subst q; exact ⟨_, S.to, fun v q => nomatch q⟩
    · subst q; exact S.it1.obj
    · subst q; exact S.it2.obj
  keep := fun i h h' ⟨x, y, S⟩ k => ⟨x, y, S.ap, k z (by simp) _ S.hz, k TI (by simp) _ S.ti, k TO (by simp) _ S.to, S.it1.keep (k i1 (by simp)), S.it2.keep (k i2 (by simp))⟩
  item := by
    intro X hP hw hK hc i pins s σ H E I hf ⟨x0, y0, S⟩ hg
    subst hP hw hK
    obtain ⟨xs, ys, x, y, hqx, hqy, hx, hy⟩ := hg
    obtain ⟨its, rv, p, _⟩ := I.tuple hqx
    obtain ⟨its2, rv2, p2, _⟩ := I.tuple hqy
    obtain ⟨u, hu, ru⟩ := rv.get hx
    obtain ⟨u2, hu2, ru2⟩ := rv2.get hy
    have D := S.ap
    have lz : z < s.heap.objs.size := Heap.lt_size S.hz
    refine nextZ_item S (xs := its.toArray) (ys := its2.toArray) p p2 (x := u) (y := u2) (by simpa using hu) (by simpa using hu2) fun g gz gto g1 g2 gT gs gk => ?_
    refine ⟨_, rfl, wpAny_letOwnedTupleGo_zip (s := { s with heap := g }) gz fun h2 z2 sb => ?_⟩
    have hT : h2.get? s.heap.objs.size = some { cls := .type "tuple", data := .seq #[u, u2] } := (sb.2 _ (Nat.ne_of_gt lz)).trans gT
    have new : ObjOk X.prog X.w (upd H s.heap.objs.size (.tup [x, y])) h2 s.heap.objs.size (.tup [x, y]) := ⟨by show 2 ≤ sizeLine; decide, [u, u2], .cons ru (.cons ru2 .nil), ⟨_, hT, rfl, _, rfl⟩⟩
    have I1 : Inv X pins σ (upd H s.heap.objs.size (.tup [x, y])) { s with heap := h2 } :=
      I.turnedNew (t' := s.toks) (ch := [z, TI, TO, i1, i2]) (fun c o hb q => (sb.2 c (fun e => hb (by simp [e]))).trans (gk c o (fun e => hb (by simp [e])) (fun e => hb (by simp [e])) (fun e => hb (by simp [e])) (fun e => hb (by simp [e])) q)) hf (Nat.le_refl _) new
    refine ⟨.ref s.heap.objs.size, _, I1, rfl, ⟨_, x, y, rfl, I.hok.fresh (Nat.le_refl _), rfl, fun l hl => by rw [I.tuple_inj hl hqx]; exact hx, fun l hl => by rw [I.tuple_inj hl hqy]; exact hy⟩, ⟨u, u2, D, z2, (sb.2 _ D.TIz).trans (gk _ _ D.TIz D.TITO D.TIi1 D.TIi2 S.ti), (sb.2 _ D.TOz).trans gto, g1.keep fun o q => (sb.2 _ D.i1z).trans q, g2.keep fun o q => (sb.2 _ D.i2z).trans q⟩, fun c hcm => ?_⟩
    have lt : c < s.heap.objs.size := by
      have e' : c = z ∨ c = TI ∨ c = TO ∨ c = i1 ∨ c = i2 := by simpa using hcm
      rcases e' with q | q | q | q | q
      · rw [q]; exact lz
      · rw [q]; exact Heap.lt_size S.ti
      · rw [q]; exact Heap.lt_size S.to
      · rw [q]; obtain ⟨o, e1, _⟩ := S.it1.obj; exact Heap.lt_size e1
      · rw [q]; obtain ⟨o, e2, _⟩ := S.it2.obj; exact Heap.lt_size e2
    rw [upd_ne (Nat.ne_of_lt lt)]
    exact (hf c hcm).1
  done := by
    intro X hP hw hK hc i pins s σ H E I hf ⟨x0, y0, S⟩ hg
    subst hP hw hK
    obtain ⟨xs, ys, hqx, hqy, hend⟩ := hg
    obtain ⟨its, rv, p, _⟩ := I.tuple hqx
    obtain ⟨its2, rv2, p2, _⟩ := I.tuple hqy
    have l1 := rv.length
    have l2 := rv2.length
    have he : its.toArray[i]? = none ∨ its2.toArray[i]? = none := hend.elim (fun q => .inl (by simp; omega)) fun q => .inr (by simp; omega)
    exact nextZ_end (I.ok.hd hc) S (xs := its.toArray) (ys := its2.toArray) p p2 he fun h' hk => ⟨rfl, I.turnedL (t' := s.toks) (ch := [z, TI, TO, i1, i2]) (fun c o hb q => hk c o (fun e => hb (by simp [e])) (fun e => hb (by simp [e])) (fun e => hb (by simp [e])) (fun e => hb (by simp [e])) q) hf⟩
  self := fun A i s Q E ⟨x, y, S⟩ h => wpAny_pyIter_zip S.hz h
def iZipT (K : Fg) (ta : TA) : TI := fun σ H R => ta σ H fun vs H1 => ∃ a b xs ys, vs = [.ref a, .ref b] ∧ SqT K H1 a xs ∧ SqT K H1 b ys ∧ R (Itt2 K a b) H1
theorem pi_zipT {X : Cx} {e e2 : Expr} {ta : TA} {p pos tpos : Pos} {elts : List Expr} {kk : Nat} (hg : Gl X "zip") (hm : X.mg "zip" = none) (ha : PA X [e, e2] ta)
    (hs : starEach [e, e2] X.env = (false, eval e X.env) :: starEach [e2] X.env := by rfl) (hpl : (backTo pos (starEach [e2] X.env)).any (·.1) = false := by rfl) : PI X (.Tuple elts kk tpos) (.Call (.Name "zip" p) [e, e2] [] pos) (iZipT X.K ta) := by
  refine ⟨fun pins s σ H R I h => ?_⟩
  refine Call_ (ld_blt I hg hm PyProof.Rows.boot_zip (PyProof.Rows.callWith_type1 (thn (ha.run pos pins s σ H _ I h) fun us s1 ⟨vs, H1, I1, r1, a, b, xs, ys, ev, hqx, hqy, q⟩ => ?_) hs hpl))
  subst ev
  cases r1 with
  | cons r rr =>
    cases rr with
    | cons r' rr =>
      cases rr
      cases r
      cases r'
      obtain ⟨its, rv, p1, _⟩ := I1.tuple hqx
      obtain ⟨its2, rv2, p2, _⟩ := I1.tuple hqy
      refine call_zt (xs := its.toArray) (ys := its2.toArray) p1 p2 fun h' S hk => wpAny_pyIter_zip S.hz ?_
      refine ⟨s1.heap.objs.size + 4, [s1.heap.objs.size + 4, s1.heap.objs.size + 2, s1.heap.objs.size + 3, s1.heap.objs.size, s1.heap.objs.size + 1], _, _, H1, rfl, I1.kept (t' := s1.toks) hk, turn_zt, ⟨_, _, S⟩, fun c hcm => ?_, q⟩
      have le : s1.heap.objs.size ≤ c := by
        have e' : c = s1.heap.objs.size + 4 ∨ c = s1.heap.objs.size + 2 ∨ c = s1.heap.objs.size + 3 ∨ c = s1.heap.objs.size ∨ c = s1.heap.objs.size + 1 := by simpa using hcm
        rcases e' with z | z | z | z | z <;> rw [z]
        · exact Nat.le_add_right _ _
        · exact Nat.le_add_right _ _
        · exact Nat.le_add_right _ _
        · exact Nat.le_refl _
        · exact Nat.le_add_right _ _
      exact I1.fpOk le (I1.hok.fresh le)
section
variable {c : Ct} {L : Lc} {σ : L2.St} {B : Hp} {ta tb te tl : TE} {α β : Type} [Py α] [Py β]
theorem ei_zipT {xs : Tl α} {ys : Tl β} (h : EvP c L ta σ B xs) (h' : EvP c L tb σ B ys) : EvI c L (iZipT c.K (tCons ta (tCons tb tNil))) σ B (min xs.l.length ys.l.length) (fun k v B' => ∃ x y, xs.l[k]? = some x ∧ ys.l[k]? = some y ∧ rep c.K B' v (x, y)) := fun B1 H e w R q =>
  h B1 H e w _ fun v B2 H2 s2 ⟨a, vs, ev, hB, hp⟩ => h' B2 H2 (e.trans s2.1) (s2.2 _ w) _ fun v' B3 H3 s3 ⟨b, us, ev', hB', hp'⟩ => by
    subst ev ev'
    have w3 := (s2.trans s3).2 _ w
    have hB3 := Same.tup s3.1 hB
    have hp3 := Paired.imp (fun _ _ r => Py.up s3.1 r) hp
    have l1 := Paired.len hp
    have l2 := Paired.len hp'
    refine ⟨a, b, vs, us, rfl, Same.tup w3.le hB3, Same.tup w3.le hB', q _ B3 H3 (s2.trans s3) ⟨?_, ?_, ?_⟩⟩
    · intro k B' H' L' e1 w1 _ hk
      have k1 : k < vs.length := by omega
      have k2 : k < us.length := by omega
      exact ⟨vs, us, vs[k], us[k], Same.tup (e1.trans w1.le) hB3, Same.tup (e1.trans w1.le) hB', by simp [k1], by simp [k2]⟩
    · intro B' H' L' e1 w1 _
      exact ⟨vs, us, Same.tup (e1.trans w1.le) hB3, Same.tup (e1.trans w1.le) hB', by omega⟩
    · rintro k v B' H' H'' L' e1 w1 _ hk ⟨T, x0, y0, rfl, nT, rfl, f1, f2⟩
      obtain ⟨x, hx, r⟩ := Paired.at' hp3 (f1 vs (Same.tup (e1.trans w1.le) hB3))
      obtain ⟨y, hy, r'⟩ := Paired.at' hp' (f2 us (Same.tup (e1.trans w1.le) hB'))
      have nB := (w1.fresh nT).2.1
      exact ⟨_, Stp.new w1 nT, x, y, hx, hy, T, _, _, rfl, .inl (.inl upd_same), Py.up (e1.trans (Same.up1 nB)) r, Py.up (e1.trans (Same.up1 nB)) r'⟩
variable {n i : Nat} {Y : Nat → V → Hp → Prop} {P : Post}
theorem sr_forN1 {wi : TI} {i : Nat} {tb : TS} (Inv : Nat → L2.St → Hp → Lc → Prop) (hi : EvI c L wi σ B n Y) (h0 : ∀ B', Same B B' → Inv 0 σ B' L)
    (turn : ∀ k v σ' B1 B' L', k < n → Same B B1 → Inv k σ' B1 L' → Same B1 B' → Y k v B' → SR c L' tb (σ'.set i (some v)) B' { nx := Inv (k + 1), ct := Inv (k + 1), bk := P.nx, rt := P.rt })
    (done : ∀ σ' B' L', Same B B' → Inv n σ' B' L' → P.nx σ' B' L') : SR c L (tFor wi (gName i) tb) σ B P :=
  sr_for1 Inv hi h0 (fun k v σ' B1 B' L' hk e inv e1 y => ⟨_, tg_name, fun σ2 e2 => by subst e2; exact turn k v σ' B1 B' L' hk e inv e1 y⟩) done
/-- t[i], t a tuple of any length -/
theorem ev_ixTl {xs : Tl α} {x : α} {i : Nat} (ha : EvP c L ta σ B xs) (hb : EvP c L tb σ B i) (hx : xs.l[i]? = some x) : EvP c L (tOp (rIxT c.K) ta tb) σ B x :=
  ev_opR ha (fun _ _ e _ => hb.up e) fun x' y' B1 B2 H e1 e2 rx ey w Q q => by
    cases ey
    obtain ⟨a, vs, rfl, hB, hp⟩ := rx
    obtain ⟨v, hv, rv⟩ := Paired.at hp hx
    exact ⟨a, vs, i, v, rfl, rfl, Same.tup (e2.trans w.le) hB, atI_nat hv, q v B2 H .refl (Py.up e2 rv)⟩
theorem el_listOfT {xs : Tl α} (ha : EvP c L te σ B xs) : EvL c L (tCB (rListOf c.K) (tCons te tNil)) σ B xs.l := fun B1 H e w Q q =>
  ha B1 H e w _ fun v B2 H2 s2 ⟨a, vs, ev, hB, hp⟩ => by
    subst ev
    have w2 := s2.2 _ w
    exact ⟨a, vs, rfl, .inr (Same.tup w2.le hB), fun r hr => q r B2 _ (.lst vs) s2.1 (w2.fresh hr).2.2.2 (fun L' w' => (s2.2 _ w').mine hr) ⟨_, rfl, hp⟩⟩
/-- a tuple of anything -/
theorem ev_tups {xs : List α} {ta' : TA} (h : EvA c L ta' σ B fun vs B' => Paired (rep c.K B') vs xs) (hl : xs.length ≤ sizeLine) : EvP c L (tTup ta') σ B (Tl.mk xs) :=
  ev_tup (h.imp fun vs B' _ r => ⟨by rw [Paired.len r]; exact hl, fun p hp => ⟨p, vs, rfl, .inl (.inl upd_same), Paired.imp (fun _ _ r => Py.up (Same.up1 hp) r) r⟩⟩)
end
section
variable {c : Ct} {L : Lc} {σ : L2.St} {B : Hp} {ta te : TE} {ta' : TA} {α : Type} [Py α]
abbrev EvAs (c : Ct) (L : Lc) (ta' : TA) (σ : L2.St) (B : Hp) (xs : List α) : Prop := EvA c L ta' σ B fun vs B' => Paired (rep c.K B') vs xs
theorem as_nil : EvAs c L tNil σ B ([] : List α) := ea_nil fun _ _ => .nil
theorem as_cons {x : α} {xs : List α} (h : EvP c L ta σ B x) (h2 : EvAs c L ta' σ B xs) : EvAs c L (tCons ta ta') σ B (x :: xs) := ea_cons h fun v B1 e1 r1 => fun B2 H e w Q q => h2 B2 H (e1.trans e) w Q fun vs B3 H3 s3 rv => q vs B3 H3 s3 (.cons (Py.up (e.trans s3.1) r1) rv)
theorem el_lits {xs : List α} (h : EvAs c L ta' σ B xs) (hl : xs.length ≤ sizeLine) : EvL c L (tLst ta') σ B xs := el_lst (h.imp fun vs B' _ r => ⟨by rw [Paired.len r]; exact hl, vs, rfl, r⟩)
theorem ev_nat {n : Nat} : EvP c L (tC (.int (n : Int))) σ B n := ev_c
end
end Nz

/-! NpB: covers' checks and the seven sums. -/
namespace Nz
open Py (rep)
open PyD (dat)
open PySem PySem.Spec PyProof.Rows L2
def EvenL (G : Gr) (bs : List Bool) : Prop := ∀ v, v < G.n → dgk G.es bs v G.m % 2 = 0
theorem odd_none {G : Gr} {bs : List Bool} (h : EvenL G bs) : true ∉ oddL G bs := by
  intro q
  unfold oddL fL at q
  obtain ⟨v, hv, e⟩ := List.mem_map.mp q
  have := h v (List.mem_range.mp hv)
  rw [this] at e
  cases e
def sp_refuse_odd (K : Fg) (C : Addr) : Sp := Sp1 K (ι := Gr × List Bool) (fun _ => []) (fun ⟨G, bs⟩ B vs => ∃ v w, vs = [v, w] ∧ GrAt K C B v G ∧ rep K B w bs ∧ bs.length = G.m ∧ EvenL G bs) fun _ v B => v = .non
abbrev N_refuse_odd : List Str := ["graph", "marks", "odd"]
def t_refuse_odd (K : Fg) (C : Addr) : TS :=
  (tSeq (tAsg (tCall (sp_odd_vertices K C) [] E0 (tCons (tVar 0) (tCons (tVar 1) tNil))) (gName 2))
  (tIfS (tTest (tOp (rIn K false) (tC (.bl true)) (tVar 2))) tNever tNext))
theorem pure_refuse_odd {K : Fg} {C : Addr} (vs : List V) (H : Hp) (Q : VK) (E : XK) : sp_refuse_odd K C vs H Q E → t_refuse_odd K C { nx := fun _ H' => Q .non H', rt := Q } (start N_refuse_odd vs) H := by
  refine body1 ?_ vs H Q E
  rintro ⟨G, bs⟩ B H _ ⟨v, w, rfl, g, r, hl, hev⟩
  refine sr_set (ev_call (G, bs) (ea_cons (eg_var rfl g) fun x B1 e1 r1 => ea_cons (ev_var (x := bs) rfl (Py.up e1 r)) fun y B2 e2 r2 => ea_nil fun B3 e3 => ⟨x, y, rfl, r1.up (e2.trans e3), Py.up e3 r2, hl⟩) (by simp)) fun o B1 e1 ro => ?_
  have ro : rep K B1 o (oddL G bs) := ro
  refine sr_ifB (b := false) (et_is (et_test (ev_in (x := true) ev_c (ev_var rfl ro))) (decide_eq_false (odd_none hev))) (fun z => by cases z) fun _ B2 e2 => sr_next rfl
/-- the rows of a cover -/
structure Cov (G : Gr) (ss : List (List Nat)) : Prop where
  lt : ∀ s ∈ ss, ∀ e ∈ s, e < G.m
  ev : ∀ s ∈ ss, EvenL G (mks G.m s)
  al : ∀ e, e < G.m → ∃ s ∈ ss, e ∈ s
  ln : ss.length ≤ 1000
def sp__checked (K : Fg) (C : Addr) : Sp := Sp1 K (ι := Gr × List (List Nat)) (fun _ => []) (fun ⟨G, ss⟩ B vs => ∃ v w, vs = [v, w] ∧ GrAt K C B v G ∧ rep K B w (Sq.mk ss) ∧ Cov G ss) fun ⟨G, ss⟩ v B => rep K B v (ss.map (mks G.m))
abbrev N__checked : List Str := ["graph", "sets", "rows", "marks", "edge", "edges"]
def t__checked (K : Fg) (C : Addr) : TS :=
  (tSeq (tAsg (tLc (iSeq K (tVar 1)) (gName 5) tYes (tCall (sp_marked_edges K C) [] E0 (tCons (tVar 0) (tCons (tVar 5) tNil))) [5]) (gName 2))
  (tSeq (tFor (iList K (tVar 2)) (gName 3) (tDrop (tCall (sp_refuse_odd K C) [] E0 (tCons (tVar 0) (tCons (tVar 3) tNil)))))
  (tSeq (tFor (iRng1 (tCons (tCB (rLenO C (spLen C) E0) (tCons (tVar 0) tNil)) tNil)) (gName 4) (tIfS (tTest (tOp (rIn K true) (tC (.bl true)) (tLc (iList K (tVar 2)) (gName 3) tYes (tOp (rIxL K) (tVar 3) (tVar 4)) [3]))) tNever tNext))
  (tRet (tVar 2)))))
theorem pure__checked {K : Fg} {C : Addr} (vs : List V) (H : Hp) (Q : VK) (E : XK) : sp__checked K C vs H Q E → t__checked K C { nx := fun _ H' => Q .non H', rt := Q } (start N__checked vs) H := by
  refine body1 ?_ vs H Q E
  rintro ⟨G, ss⟩ B H _ ⟨v, w, rfl, g, r, cov⟩
  have hs := sizeLine_eq
  have ok := g.ok
  have hm := ok.sm
  have hln := cov.ln
  -- rows = [marked_edges(graph, edges) for edges in sets]
  refine sr_set (ev_of (el_map (fun k => mks G.m (ss.getD k [])) (ei_seq (xs := Sq.mk ss) (ev_var rfl r)) (by show ss.length < _; omega) fun k x B' hk e1 ⟨s, hx, rx⟩ => ⟨_, tg_name, fun σ' eσ => ?_⟩)) fun rows B1 e1 r1 => ?_
  · subst eσ
    have hx2 : ss.getD k [] = s := by rw [List.getD_eq_getElem?_getD, show ss[k]? = some s from hx]; rfl
    refine ⟨rfl, EvR.imp (ev_call (G, s) (ea_cons (eg_var rfl (g.up e1)) fun x B1 e1 r1 => ea_cons (ev_var (x := s) rfl (Py.up e1 rx)) fun y B2 e2 r2 => ea_nil fun B3 e3 => ⟨x, y, rfl, r1.up (e2.trans e3), Py.up e3 r2, cov.lt s (List.mem_of_getElem? hx)⟩) (by simp)) fun v B' _ q => ?_⟩
    rw [hx2]
    exact q
  have e5 : (List.range (Sq.mk ss).l.length).map (fun k => mks G.m (ss.getD k [])) = ss.map (mks G.m) := fL_getD ss [] (mks G.m)
  rw [e5] at r1
  clear e5
  have g1 := g.up e1
  -- for marks in rows
  refine sr_forN (fun k σ B' L => ∃ x, σ = [some v, some w, some rows, x, none, none] ∧ L = []) (ei_list (xs := ss.map (mks G.m)) (ev_var rfl r1)) (fun B' e => ⟨none, rfl, rfl⟩) ?_ ?_
  · rintro k x σ' B2 B' L' hk e2 ⟨y, rfl, rfl⟩ e3 ⟨bs, hb, rb⟩
    obtain ⟨s, hs1, hs2⟩ := List.mem_map.mp (List.mem_of_getElem? hb)
    subst hs2
    refine sr_drop1 (ev_call (G, mks G.m s) (ea_cons (eg_var rfl (g1.up (e2.trans e3))) fun x B1 e1 r1 => ea_cons (ev_var (x := mks G.m s) rfl (Py.up e1 rb)) fun y B2 e2 r2 => ea_nil fun B3 e3 => ⟨x, y, rfl, r1.up (e2.trans e3), Py.up e3 r2, mks_len _ _, cov.ev s hs1⟩) (by simp)) fun _ _ _ _ => ⟨_, rfl, rfl⟩
  rintro σ' B2 L' e2 ⟨x, rfl, rfl⟩
  have g2 := g1.up e2
  have r2 : rep K B2 rows (ss.map (mks G.m)) := Py.up e2 r1
  -- for edge in range(len(graph))
  refine sr_forN (fun k σ B' L => ∃ y, σ = [some v, some w, some rows, x, y, none] ∧ L = []) (ei_rangeN (eg_len (eg_var rfl g2))) (fun B' e => ⟨none, rfl, rfl⟩) ?_ ?_
  · rintro k y σ' B3 B' L' hk e3 ⟨z, rfl, rfl⟩ e4 ey
    subst ey
    have r3 : rep K B' rows (ss.map (mks G.m)) := Py.up (e3.trans e4) r2
    refine sr_ifB (b := false) (et_is (et_test (ev_notin (x := true) (xs := (ss.map (mks G.m)).map fun b => b.getD k false) ev_c (ev_isP (ev_of (el_map (fun j => ((ss.map (mks G.m)).getD j []).getD k false) (ei_list (xs := ss.map (mks G.m)) (ev_var rfl r3)) (by rw [List.length_map]; omega) fun j v' B4 hj e5 ⟨bs, hb, rb⟩ => ⟨_, tg_name, fun σ' eσ => ?_⟩)) (fL_getD (ss.map (mks G.m)) [] (fun b => b.getD k false))))) ?_) (fun z => by cases z) fun _ B4 e5 => sr_next ⟨_, rfl, rfl⟩
    · subst eσ
      have hb2 : (ss.map (mks G.m)).getD j [] = bs := by rw [List.getD_eq_getElem?_getD, hb]; rfl
      rw [hb2]
      have lb : bs.length = G.m := by
        obtain ⟨s, _, hs2⟩ := List.mem_map.mp (List.mem_of_getElem? hb)
        rw [← hs2, mks_len]
      have hk' : k < G.m := hk
      refine ⟨rfl, ev_ixN (xs := bs) (i := k) (ev_var rfl rb) (ev_v rfl) ?_⟩
      rw [List.getD_eq_getElem?_getD, List.getElem?_eq_getElem (by omega)]
      rfl
    · obtain ⟨s, hs1, hs2⟩ := cov.al k hk
      have : true ∈ (ss.map (mks G.m)).map fun b => b.getD k false := by
        refine List.mem_map.mpr ⟨_, List.mem_map_of_mem hs1, ?_⟩
        unfold mks
        rw [List.getD_eq_getElem?_getD]
        have hk' : k < G.m := hk
        simp [hk', hs2]
      rw [decide_eq_true this]; rfl
  rintro σ' B3 L' e3 ⟨y, rfl, rfl⟩
  exact sr_ret (ev_var (x := ss.map (mks G.m)) rfl (Py.up e3 r2)) fun v B' e r => r
/-! ### the seven sums -/
def msk : List (List Nat) := [[1, 0, 0], [0, 1, 0], [0, 0, 1], [1, 1, 0], [1, 0, 1], [0, 1, 1], [1, 1, 1]]
def mskT : Tl (Tl Nat) := ⟨msk.map Tl.mk⟩
/-- one sum: the rows whose part is 1, one after another -/
def sumUp (m : Nat) (mask : List Nat) (rows : List (List Bool)) : Nat → List Bool
  | 0 => List.replicate m false
  | k + 1 => if mask.getD k 0 = 1 then xorL (sumUp m mask rows k) (rows.getD k []) else sumUp m mask rows k
def sevL (m : Nat) (rows : List (List Bool)) : List (List Bool) := msk.map fun mask => sumUp m mask rows 3
theorem xorL_len (xs ys : List Bool) : (xorL xs ys).length = min xs.length ys.length := by simp [xorL]
theorem sumUp_len {m : Nat} {mask : List Nat} {rows : List (List Bool)} (h : ∀ b ∈ rows, b.length = m) : ∀ k, k ≤ rows.length → (sumUp m mask rows k).length = m
  | 0, _ => by simp [sumUp]
  | k + 1, hk => by
    unfold sumUp
    split
    · rw [xorL_len, sumUp_len h k (by omega)]
      have : (rows.getD k []).length = m := h _ (by
        rw [List.getD_eq_getElem?_getD, List.getElem?_eq_getElem (by omega)]
        exact List.getElem_mem _)
      omega
    · exact sumUp_len h k (by omega)
def sp__seven (K : Fg) (C : Addr) : Sp := Sp1 K (ι := Gr × List (List Nat)) (fun _ => []) (fun ⟨G, ss⟩ B vs => ∃ v w, vs = [v, w] ∧ GrAt K C B v G ∧ rep K B w (Sq.mk ss) ∧ Cov G ss ∧ ss.length = 3) fun ⟨G, ss⟩ v B => rep K B v (sevL G.m (ss.map (mks G.m)))
abbrev N__seven : List Str := ["graph", "sets", "rows", "sums", "mask", "marks", "part", "row"]
def t__seven (K : Fg) (C : Addr) (g_MASKS : Addr) : TS :=
  (tSeq (tIfS (tTest (tOp rNe (tCB (rLenQ K) (tCons (tVar 1) tNil)) (tC (.int 3)))) tNever tNext)
  (tSeq (tAsg (tCall (sp__checked K C) [] E0 (tCons (tVar 0) (tCons (tVar 1) tNil))) (gName 2))
  (tSeq (tAsg (tLst tNil) (gName 3))
  (tSeq (tFor (iTup K (tC (.ref g_MASKS))) (gName 4) (tSeq (tAsg (tOp rRep (tLst (tCons (tC (.bl false)) tNil)) (tCB (rLenO C (spLen C) E0) (tCons (tVar 0) tNil))) (gName 5))
  (tSeq (tFor (iZipM K (tCons (tVar 4) (tCons (tVar 2) tNil))) (gTup K 2 (gCons (gName 6) (gCons (gName 7) gNil))) (tIfS (tTest (tOp rEq (tVar 6) (tC (.int 1)))) (tAsg (tCall (sp_sum_of_marks K C) [] E0 (tCons (tVar 5) (tCons (tVar 7) tNil))) (gName 5)) tNext))
  (tDrop (tBM K "list" rAppend (tVar 3) (tCons (tVar 5) tNil))))))
  (tRet (tVar 3))))))
theorem pure__seven {K : Fg} {C gM : Addr} (hM : ∀ B, rep K B (.ref gM) mskT) (vs : List V) (H : Hp) (Q : VK) (E : XK) : sp__seven K C vs H Q E → t__seven K C gM { nx := fun _ H' => Q .non H', rt := Q } (start N__seven vs) H := by
  refine body1 ?_ vs H Q E
  rintro ⟨G, ss⟩ B H _ ⟨v, w, rfl, g, r, cov, h3⟩
  have hs := sizeLine_eq
  have ok := g.ok
  have hm := ok.sm
  refine sr_seq (sr_ifB (b := false) (et_is (et_test (ev_ne (ev_lenS (xs := Sq.mk ss) (ev_var rfl r)) ev_c)) (by show (!decide (V.int (ss.length : Int) = _)) = false; rw [h3]; rfl)) (fun z => by cases z) fun _ B1 e1 => sr_next ?_)
  -- rows = _checked(graph, sets)
  refine sr_set (ev_call (G, ss) (ea_cons (eg_var rfl (g.up e1)) fun x B1 e1 r1 => ea_cons (ev_var (x := Sq.mk ss) rfl (Py.up (Same.trans (by assumption) e1) r)) fun y B2 e2 r2 => ea_nil fun B3 e3 => ⟨x, y, rfl, r1.up (e2.trans e3), Py.up e3 r2, cov⟩) (by simp)) fun rows B2 e2 r2 => ?_
  have r2 : rep K B2 rows (ss.map (mks G.m)) := r2
  have g2 := g.up (e1.trans e2)
  have lr : ∀ b ∈ ss.map (mks G.m), b.length = G.m := fun b hb => by
    obtain ⟨s, _, e⟩ := List.mem_map.mp hb
    rw [← e, mks_len]
  generalize hR : ss.map (mks G.m) = R at r2 lr
  have l3 : R.length = 3 := by rw [← hR, List.length_map, h3]
  -- sums = []
  refine sr_setN (el_nil (α := List Bool)) fun p o B3 e3 hp ⟨us, eo, hu⟩ => ?_
  subst eo
  cases hu
  have g3 := g2.up e3
  have r3 : rep K B3 rows R := Py.up e3 r2
  refine sr_forN (fun k σ B' L => ∃ x y z t vs, σ = [some v, some w, some rows, some (.ref p), x, y, z, t] ∧ L = [(p, .lst vs)] ∧ Paired (rep K B') vs ((msk.take k).map fun mask => sumUp G.m mask R 3)) (ei_tup (xs := mskT) (fun B' H' e w Q q => q _ B' H' .refl (hM B'))) (fun B' e => ⟨none, none, none, none, [], rfl, rfl, .nil⟩) ?_ ?_
  · rintro k x σ' B4 B' L' hk e4 ⟨x1, x2, x3, x4, vs, rfl, rfl, pv⟩ e5 ⟨mk, hmk, rmk⟩
    have hmask : msk[k]? = some mk.l := by
      have h : (msk.map Tl.mk)[k]? = some mk := hmk
      rw [List.getElem?_map] at h
      cases q : msk[k]? with
      | none => rw [q] at h; cases h
      | some l => rw [q] at h; cases h; rfl
    have lm : mk.l.length = 3 := by
      have h := List.mem_of_getElem? hmask
      simp only [msk, List.mem_cons, List.not_mem_nil, or_false] at h
      rcases h with h | h | h | h | h | h | h <;> rw [h] <;> rfl
    have g5 := g3.up (e4.trans e5)
    have r5 : rep K B' rows R := Py.up (e4.trans e5) r3
    -- marks = [False] * len(graph)
    refine sr_set (ev_of (el_rep (x := false) ev_c (eg_len (eg_var rfl g5)) (by omega))) fun mv B6 e6 r6 => ?_
    refine sr_for (fun j σ B' L => ∃ y z t, σ = [some v, some w, some rows, some (.ref p), some x, some y, z, t] ∧ L = [(p, .lst vs)] ∧ rep K B' y (sumUp G.m mk.l R j)) (ei_zipM (xs := mk) (ys := R) (ev_var rfl (Py.up e6 rmk)) (ev_var rfl (Py.up e6 r5))) (fun B' e => ⟨mv, _, _, rfl, rfl, Py.up e r6⟩) ?_ ?_
    · rintro j pr σ2 B7 B8 L2 hj e7 ⟨y, z, t, rfl, rfl, ry⟩ e8 ⟨q, b, hq, hb, rq⟩
      refine ⟨_, tg_names rq, ?_⟩
      rintro σ3 ⟨v1, v2, rv1, rv2, rfl⟩
      cases rv1
      have hq2 : mk.l.getD j 0 = q := by rw [List.getD_eq_getElem?_getD, hq]; rfl
      have hb2 : R.getD j [] = b := by rw [List.getD_eq_getElem?_getD, hb]; rfl
      have ry8 : rep K B8 y (sumUp G.m mk.l R j) := Py.up e8 ry
      refine sr_ifB (et_test (ev_eq (ev_v rfl) ev_c)) (fun hc B9 e9 => ?_) fun hc B9 e9 => sr_next ⟨y, _, _, rfl, rfl, ?_⟩
      · have hq1 : q = 1 := by
          have h := of_decide_eq_true hc
          have h2 : ((q : Nat) : Int) = 1 := by injection h
          omega
        refine sr_set1 (ev_call (sumUp G.m mk.l R j, b) (ea_cons (ev_var (x := sumUp G.m mk.l R j) rfl (Py.up e9 ry8)) fun x1 B1 e1 q1 => ea_cons (ev_var (x := b) rfl (Py.up (e9.trans e1) rv2)) fun y1 B2 e2 q2 => ea_nil fun B3 e3 => ⟨x1, y1, rfl, Py.up (e2.trans e3) q1, Py.up e3 q2, ?_⟩) (by simp)) fun v9 B10 e10 r10 => ⟨v9, _, _, rfl, rfl, ?_⟩
        · rw [sumUp_len lr j (by omega)]; exact hm
        · have r10 : rep K B10 v9 (xorL (sumUp G.m mk.l R j) b) := r10
          unfold sumUp
          rw [hq2, hb2, if_pos hq1]
          exact r10
      · have hq1 : ¬ q = 1 := fun z => by
          subst z
          simp at hc
        unfold sumUp
        rw [hq2, if_neg hq1]
        exact Py.up e9 ry8
    · rintro σ2 B7 L2 e7 ⟨y, z, t, rfl, rfl, ry⟩
      have e8 : min mk.l.length R.length = 3 := by rw [lm, l3]; rfl
      rw [e8] at ry
      have lv : vs.length ≤ 7 := by
        have h := Paired.len pv
        have h7 : (msk.take k).length ≤ 7 := Nat.le_trans (List.length_take_le' _ _) (Nat.le_refl _)
        rw [List.length_map] at h
        omega
      refine sr_app1 (R := fun w B' => rep K B' w (sumUp G.m mk.l R 3)) (ev_v rfl) (ev_var rfl ry) (by omega) fun v9 B9 e9 r9 => ⟨_, _, _, _, _, rfl, rfl, ?_⟩
      rw [List.take_add_one, hmask, List.map_append]
      exact Paired.app (Paired.imp (fun _ _ r => Py.up (e5.trans (e6.trans (e7.trans e9))) r) pv) (.cons r9 .nil)
  · rintro σ' B4 L' e4 ⟨x, y, z, t, vs, rfl, rfl, pv⟩
    refine sr_freeze (by simp) fun hB => sr_ret (ev_var (x := sevL G.m R) rfl ?_) fun v B' e r => ?_
    · exact rep_frozen hB pv
    · show rep K B' v (sevL G.m (ss.map (mks G.m)))
      rw [hR]
      exact r
def bas (one two three : List Nat) : Bool := !decide ((List.range (min one.length two.length)).map (fun k => (one.getD k 0 + two.getD k 0) % 2) = three)
def sp__is_basis (K : Fg) (C : Addr) : Sp := Sp1 K (ι := List Nat × List Nat × List Nat) (fun _ => []) (fun ⟨a, b, c⟩ B vs => ∃ u v w, vs = [u, v, w] ∧ rep K B u (Tl.mk a) ∧ rep K B v (Tl.mk b) ∧ rep K B w (Tl.mk c) ∧ a.length ≤ 100) fun ⟨a, b, c⟩ v B => v = .bl (bas a b c)
abbrev N__is_basis : List Str := ["one", "two", "three", "a", "b"]
def t__is_basis (K : Fg) (C : Addr) : TS :=
  (tRet (tOp (rNeD K) (tLc (iZipT K (tCons (tVar 0) (tCons (tVar 1) tNil))) (gTup K 2 (gCons (gName 3) (gCons (gName 4) gNil))) tYes (tOp rModI (tOp rAddI (tVar 3) (tVar 4)) (tC (.int 2))) [3, 4]) (tCB (rListOf K) (tCons (tVar 2) tNil))))
theorem eqv_nats (x y : List Nat) : PyData.eqv (dat x) (dat y) = decide (x = y) := by
  rw [Bool.eq_iff_iff, PyD.eqv x y, decide_eq_true_iff]
theorem pure__is_basis {K : Fg} {C : Addr} (vs : List V) (H : Hp) (Q : VK) (E : XK) : sp__is_basis K C vs H Q E → t__is_basis K C { nx := fun _ H' => Q .non H', rt := Q } (start N__is_basis vs) H := by
  refine body1 ?_ vs H Q E
  rintro ⟨a, b, c⟩ B H _ ⟨u, v, w, rfl, ra, rb, rc, hl⟩
  have hs := sizeLine_eq
  refine sr_ret (ev_is (ev_neD (x := (List.range (min a.length b.length)).map fun k => (a.getD k 0 + b.getD k 0) % 2) (y := c) (ev_of (el_map (β := Nat) (fun k => (a.getD k 0 + b.getD k 0) % 2) (ei_zipT (xs := Tl.mk a) (ys := Tl.mk b) (ev_var rfl ra) (ev_var rfl rb)) (by show min a.length b.length < sizeLine; omega) fun k x B' hk e ⟨x1, y1, hx, hy, z⟩ => ⟨_, tg_names z, ?_⟩)) (ev_of (el_listOfT (xs := Tl.mk c) (ev_var rfl rc))) (by decide)) (w := .bl (bas a b c)) (by rw [eqv_nats]; rfl)) fun v B' e ev => ev
  rintro σ' ⟨v1, v2, r1, r2, rfl⟩
  cases r1; cases r2
  have hx : a[k]? = some x1 := hx
  have hy : b[k]? = some y1 := hy
  have e1 : a.getD k 0 = x1 := by rw [List.getD_eq_getElem?_getD, hx]; rfl
  have e2 : b.getD k 0 = y1 := by rw [List.getD_eq_getElem?_getD, hy]; rfl
  rw [e1, e2]
  refine ⟨rfl, ev_is (ev_I (ev_I0 (ev_v rfl) (ev_v rfl)) ev_c (by decide)) ?_⟩
  rw [Int.natCast_emod, Int.natCast_add]; rfl
def mk3 (i : Nat) : List Nat := msk.getD i []
def ba3 (i j k : Nat) : Bool := bas (mk3 i) (mk3 j) (mk3 k)
def sz (T : List (List Nat)) (i j k : Nat) : Nat := (T.getD i []).length + (T.getD j []).length + (T.getD k []).length
/-- the best triple of those that were seen -/
def Best (K : Fg) (T : List (List Nat)) (seen : Nat → Nat → Nat → Prop) (bv : V) (B : Hp) : Prop :=
  (bv = .non ∧ ∀ a b c, seen a b c → ba3 a b c = false) ∨
  ∃ a b c p, c < b ∧ b < a ∧ a < 7 ∧ ba3 a b c = true ∧ bv = .ref p ∧ SqT K B p [.int (sz T a b c : Nat), .int (a : Nat), .int (b : Nat), .int (c : Nat)] ∧ ∀ a' b' c', seen a' b' c' → ba3 a' b' c' = true → sz T a b c ≤ sz T a' b' c'
theorem Best.up {K : Fg} {T : List (List Nat)} {seen seen' : Nat → Nat → Nat → Prop} {bv : V} {B B' : Hp} (e : Same B B') (hs : ∀ a b c, seen' a b c → seen a b c) (h : Best K T seen bv B) : Best K T seen' bv B' := by
  rcases h with ⟨h1, h2⟩ | ⟨a, b, c, p, h1, h2, h3, h4, h5, h6, h7⟩
  · exact .inl ⟨h1, fun a b c h => h2 a b c (hs a b c h)⟩
  · exact .inr ⟨a, b, c, p, h1, h2, h3, h4, h5, Same.tup e h6, fun a b c h => h7 a b c (hs a b c h)⟩
def sp_light_cover (K : Fg) (C : Addr) : Sp := Sp1 K (ι := Gr × List (List Nat)) (fun _ => []) (fun ⟨G, ss⟩ B vs => ∃ v w, vs = [v, w] ∧ GrAt K C B v G ∧ rep K B w (Sq.mk ss) ∧ Cov G ss ∧ ss.length = 3)
  fun ⟨G, ss⟩ v B => ∃ a b c, c < b ∧ b < a ∧ a < 7 ∧ ba3 a b c = true ∧ (∀ a' b' c', c' < b' → b' < a' → a' < 7 → ba3 a' b' c' = true → sz ((sevL G.m (ss.map (mks G.m))).map plc) a b c ≤ sz ((sevL G.m (ss.map (mks G.m))).map plc) a' b' c') ∧
    rep K B v (Tl.mk [((sevL G.m (ss.map (mks G.m))).map plc).getD a [], ((sevL G.m (ss.map (mks G.m))).map plc).getD b [], ((sevL G.m (ss.map (mks G.m))).map plc).getD c []])
abbrev N_light_cover : List Str := ["graph", "sets", "sums", "best", "one", "two", "three", "many", "marks"]
def t_light_cover (K : Fg) (C : Addr) (g_MASKS : Addr) : TS :=
  (tSeq (tAsg (tLc (iList K (tCall (sp__seven K C) [] E0 (tCons (tVar 0) (tCons (tVar 1) tNil)))) (gName 8) tYes (tCall (sp_places K C) [] E0 (tCons (tVar 8) tNil)) [8]) (gName 2))
  (tSeq (tAsg (tC .non) (gName 3))
  (tSeq (tFor (iRng1 (tCons (tC (.int 7)) tNil)) (gName 4) (tFor (iRng1 (tCons (tVar 4) tNil)) (gName 5) (tFor (iRng1 (tCons (tVar 5) tNil)) (gName 6) (tIfS (tTru K (tCall (sp__is_basis K C) [] E0 (tCons (tOp (rIxT K) (tC (.ref g_MASKS)) (tVar 4)) (tCons (tOp (rIxT K) (tC (.ref g_MASKS)) (tVar 5)) (tCons (tOp (rIxT K) (tC (.ref g_MASKS)) (tVar 6)) tNil))))) (tSeq (tAsg (tOp rAddI (tOp rAddI (tCB (rLenQ K) (tCons (tOp (rIxL K) (tVar 2) (tVar 4)) tNil)) (tCB (rLenQ K) (tCons (tOp (rIxL K) (tVar 2) (tVar 5)) tNil))) (tCB (rLenQ K) (tCons (tOp (rIxL K) (tVar 2) (tVar 6)) tNil))) (gName 7))
  (tIfS (tOr (tTest (tOp rIsN (tVar 3) (tC .non))) (tTest (tOp rLtI (tVar 7) (tOp (rIxT K) (tVar 3) (tC (.int 0)))))) (tAsg (tTup (tCons (tVar 7) (tCons (tVar 4) (tCons (tVar 5) (tCons (tVar 6) tNil))))) (gName 3)) tNext)) tNext))))
  (tRet (tTup (tCons (tOp (rIxL K) (tVar 2) (tOp (rIxT K) (tVar 3) (tC (.int 1)))) (tCons (tOp (rIxL K) (tVar 2) (tOp (rIxT K) (tVar 3) (tC (.int 2)))) (tCons (tOp (rIxL K) (tVar 2) (tOp (rIxT K) (tVar 3) (tC (.int 3)))) tNil))))))))
theorem pure_light_cover {K : Fg} {C gM : Addr} (hM : ∀ B, rep K B (.ref gM) mskT) (vs : List V) (H : Hp) (Q : VK) (E : XK) : sp_light_cover K C vs H Q E → t_light_cover K C gM { nx := fun _ H' => Q .non H', rt := Q } (start N_light_cover vs) H := by
  refine body1 ?_ vs H Q E
  rintro ⟨G, ss⟩ B H _ ⟨v, w, rfl, g, r, cov, h3⟩
  have hs := sizeLine_eq
  have hm := g.ok.sm
  have lr : ∀ b ∈ ss.map (mks G.m), b.length = G.m := fun b hb => by
    obtain ⟨s, _, e⟩ := List.mem_map.mp hb
    rw [← e, mks_len]
  refine sr_set (ev_isP (ev_of (el_map (fun k => plc ((sevL G.m (ss.map (mks G.m))).getD k [])) (ei_list (ev_call (G, ss) (ea_cons (eg_var rfl g) fun x B1 e1 r1 => ea_cons (ev_var (x := Sq.mk ss) rfl (Py.up e1 r)) fun y B2 e2 r2 => ea_nil fun B3 e3 => ⟨x, y, rfl, r1.up (e2.trans e3), Py.up e3 r2, cov, h3⟩) (by simp))) (by simp [sevL, msk]; omega) fun k v' B' hk e1 ⟨bs, hb, rb⟩ => ⟨_, tg_name, fun σ' eσ => ?_⟩)) (fL_getD _ [] plc)) fun sv B1 e1 rs => ?_
  · subst eσ
    have hb2 : (sevL G.m (ss.map (mks G.m))).getD k [] = bs := by rw [List.getD_eq_getElem?_getD, hb]; rfl
    rw [hb2]
    refine ⟨rfl, EvR.imp (ev_call (B', bs) (ea_cons (ev_var (x := bs) rfl rb) fun x B1 e2 r1 => ea_nil fun B3 e3 => ⟨x, rfl, Py.up e3 r1, ?_, e2.trans e3⟩) (by simp)) fun v B' _ r => fr_list r⟩
    obtain ⟨mask, _, e⟩ := List.mem_map.mp (List.mem_of_getElem? hb)
    rw [← e, sumUp_len lr 3 (by rw [List.length_map, h3]; exact Nat.le_refl _)]
    exact hm
  generalize hT : (sevL G.m (ss.map (mks G.m))).map plc = T at rs
  have hTl : T.length = 7 := by rw [← hT]; rfl
  refine sr_setV ev_c fun B2 e2 => ?_
  have rs2 : rep K B2 sv T := Py.up e2 rs
  have tat : ∀ i, i < 7 → T[i]? = some (T.getD i []) := fun i hi => by rw [List.getD_eq_getElem?_getD, List.getElem?_eq_getElem (by omega)]; rfl
  have mat : ∀ i, i < 7 → mskT.l[i]? = some (Tl.mk (mk3 i)) := fun i hi => by
    show (msk.map Tl.mk)[i]? = _
    have : msk.length = 7 := rfl
    rw [List.getElem?_map, mk3, List.getD_eq_getElem?_getD, List.getElem?_eq_getElem (by omega)]; rfl
  refine sr_forN (fun k σ B' L => ∃ bv x4 x5 x6 x7, σ = [some v, some w, some sv, some bv, x4, x5, x6, x7, none] ∧ L = [] ∧ Best K T (fun a b c => c < b ∧ b < a ∧ a < k) bv B') (ei_rangeN (k := 7) ev_c) (fun B' e => ⟨.non, none, none, none, none, rfl, rfl, .inl ⟨rfl, fun a b c h => by omega⟩⟩) ?_ ?_
  · rintro i x σ' B3 B' L' hi e3 ⟨bv, x4, x5, x6, x7, rfl, rfl, hb⟩ e4 ex
    subst ex
    refine sr_forN1 (fun k σ B' L => ∃ bv x5 x6 x7, σ = [some v, some w, some sv, some bv, some (.int (i : Nat)), x5, x6, x7, none] ∧ L = [] ∧ Best K T (fun a b c => c < b ∧ b < a ∧ (a < i ∨ (a = i ∧ b < k))) bv B') (ei_rangeN (k := i) (ev_v rfl)) (fun B' e => ⟨bv, x5, x6, x7, rfl, rfl, hb.up (e4.trans e) fun a b c h => by omega⟩) ?_ fun σ' B' L' e ⟨bv, x5, x6, x7, h1, h2, h3⟩ => ⟨bv, _, x5, x6, x7, h1, h2, h3.up (Same.refl _) fun a b c h => by omega⟩
    rintro j x σ' B5 B' L' hj e5 ⟨bv, x5, x6, x7, rfl, rfl, hb⟩ e6 ex
    subst ex
    refine sr_forN1 (fun k σ B' L => ∃ bv x6 x7, σ = [some v, some w, some sv, some bv, some (.int (i : Nat)), some (.int (j : Nat)), x6, x7, none] ∧ L = [] ∧ Best K T (fun a b c => c < b ∧ b < a ∧ (a < i ∨ (a = i ∧ b < j) ∨ (a = i ∧ b = j ∧ c < k))) bv B') (ei_rangeN (k := j) (ev_v rfl)) (fun B' e => ⟨bv, x6, x7, rfl, rfl, hb.up (e6.trans e) fun a b c h => by omega⟩) ?_ fun σ' B' L' e ⟨bv, x6, x7, h1, h2, h3⟩ => ⟨bv, _, x6, x7, h1, h2, h3.up (Same.refl _) fun a b c h => by omega⟩
    rintro k x σ' B7 B' L' hk e7 ⟨bv, x6, x7, rfl, rfl, hb⟩ e8 ex
    subst ex
    have rs8 : rep K B' sv T := Py.up (e3.trans (e4.trans (e5.trans (e6.trans (e7.trans e8))))) rs2
    have hb := hb.up e8 fun _ _ _ h => h
    refine sr_ifB (et_tru (ev_call (mk3 i, mk3 j, mk3 k) (ea_cons (ev_ixTl (xs := mskT) (i := i) (fun B' H' e w Q q => q _ B' H' .refl (hM B')) (ev_v rfl) (mat i hi)) fun x B1 e1 r1 => ea_cons (ev_ixTl (xs := mskT) (i := j) (fun B' H' e w Q q => q _ B' H' .refl (hM B')) (ev_v rfl) (mat j (by omega))) fun y B2 e2 r2 => ea_cons (ev_ixTl (xs := mskT) (i := k) (fun B' H' e w Q q => q _ B' H' .refl (hM B')) (ev_v rfl) (mat k (by omega))) fun z B3 e3 r3 => ea_nil fun B4 e4 => ⟨x, y, z, rfl, Py.up (e2.trans (e3.trans e4)) r1, Py.up (e3.trans e4) r2, Py.up e4 r3, ?_⟩) (by simp))) (fun hc B9 e9 => ?_) fun hc B9 e9 => sr_next ⟨bv, _, _, rfl, rfl, ?_⟩
    · have : ∀ q, q < 7 → (mk3 q).length ≤ 100 := by decide
      exact this i hi
    · have hc : ba3 i j k = true := hc
      have rs9 := Py.up e9 rs8
      refine sr_set (ev_I0 (ev_I0 (ev_len (xs := T.getD i []) (ev_ixN (xs := T) (i := i) (ev_var rfl rs9) (ev_v rfl) (tat i hi))) (ev_len (xs := T.getD j []) (ev_ixN (xs := T) (i := j) (ev_var rfl rs9) (ev_v rfl) (tat j (by omega))))) (ev_len (xs := T.getD k []) (ev_ixN (xs := T) (i := k) (ev_var rfl rs9) (ev_v rfl) (tat k (by omega))))) fun mv B10 e10 em => ?_
      have em : mv = .int (sz T i j k : Nat) := by rw [em]; unfold sz; rw [Int.natCast_add, Int.natCast_add]
      subst em
      have hb10 := hb.up (e9.trans e10) fun _ _ _ h => h
      -- best
      have put : ∀ {B11 : Hp}, Same B10 B11 → (∀ a' b' c', (c' < b' ∧ b' < a' ∧ (a' < i ∨ (a' = i ∧ b' < j) ∨ (a' = i ∧ b' = j ∧ c' < k))) → ba3 a' b' c' = true → sz T i j k ≤ sz T a' b' c') → SR ⟨K, [], [], B, H⟩ [] (tAsg (tTup (tCons (tVar 7) (tCons (tVar 4) (tCons (tVar 5) (tCons (tVar 6) tNil))))) (gName 3)) [some v, some w, some sv, some bv, some (.int (i : Nat)), some (.int (j : Nat)), some (.int (k : Nat)), some (.int (sz T i j k : Nat)), none] B11 { nx := fun σ B' L => ∃ bv x6 x7, σ = [some v, some w, some sv, some bv, some (.int (i : Nat)), some (.int (j : Nat)), x6, x7, none] ∧ L = [] ∧ Best K T (fun a b c => c < b ∧ b < a ∧ (a < i ∨ (a = i ∧ b < j) ∨ (a = i ∧ b = j ∧ c < k + 1))) bv B' } := fun e11 hmin =>
        sr_set1 (R := fun y B' => ∃ p, y = .ref p ∧ SqT K B' p [.int (sz T i j k : Nat), .int (i : Nat), .int (j : Nat), .int (k : Nat)]) (ev_tup (ea_cons (ev_v rfl) fun x1 B1 e1 r1 => ea_cons (ev_v rfl) fun x2 B2 e2 r2 => ea_cons (ev_v rfl) fun x3 B3 e3 r3 => ea_cons (ev_v rfl) fun x4 B4 e4 r4 => ea_nil fun B5 e5 => ⟨by show 4 ≤ sizeLine; omega, fun p hp => ⟨p, rfl, by rw [r1, r2, r3, r4]; exact .inl (.inl upd_same)⟩⟩)) fun y B' e ⟨p, ey, hp⟩ => ⟨y, _, _, rfl, rfl, .inr ⟨i, j, k, p, hk, hj, hi, hc, ey, hp, fun a' b' c' h hb' => by
          by_cases q : a' = i ∧ b' = j ∧ c' = k
          · obtain ⟨rfl, rfl, rfl⟩ := q
            exact Nat.le_refl _
          · exact hmin a' b' c' (by omega) hb'⟩⟩
      have put2 : ∀ {P : Post} {B11 : Hp}, P.nx = (fun σ B' L => ∃ bv x6 x7, σ = [some v, some w, some sv, some bv, some (.int (i : Nat)), some (.int (j : Nat)), x6, x7, none] ∧ L = [] ∧ Best K T (fun a b c => c < b ∧ b < a ∧ (a < i ∨ (a = i ∧ b < j) ∨ (a = i ∧ b = j ∧ c < k + 1))) bv B') → Same B10 B11 → (∀ a' b' c', (c' < b' ∧ b' < a' ∧ (a' < i ∨ (a' = i ∧ b' < j) ∨ (a' = i ∧ b' = j ∧ c' < k))) → ba3 a' b' c' = true → sz T i j k ≤ sz T a' b' c') → SR ⟨K, [], [], B, H⟩ [] (tAsg (tTup (tCons (tVar 7) (tCons (tVar 4) (tCons (tVar 5) (tCons (tVar 6) tNil))))) (gName 3)) [some v, some w, some sv, some bv, some (.int (i : Nat)), some (.int (j : Nat)), some (.int (k : Nat)), some (.int (sz T i j k : Nat)), none] B11 P := fun hP e11 hmin =>
        (put e11 hmin).imp (fun _ _ _ _ p => by rw [hP]; exact p) (fun _ _ _ _ p => p.elim) (fun _ _ _ _ p => p.elim) (fun _ _ _ _ p => p.elim) (fun _ p => p.elim)
      rcases hb10 with ⟨eb, hno⟩ | ⟨a, b, c, p, h1, h2, h3', h4, eb, h6, h7⟩
      · subst eb
        refine sr_ifB (b := true) (et_is (et_or (b := true) (b' := false) (et_test (ev_isN (b := true) (ev_v (v := .non) rfl) fun v B' e => by subst e; rfl)) (fun z => by cases z)) rfl) (fun _ B11 e11 => put2 rfl e11 fun a' b' c' h hb' => ?_) fun z => by cases z
        rw [hno a' b' c' h] at hb'
        cases hb'
      · subst eb
        refine sr_ifB (b := decide (((sz T i j k : Nat) : Int) < ((sz T a b c : Nat) : Int))) (et_is (et_or (b := false) (b' := decide (((sz T i j k : Nat) : Int) < ((sz T a b c : Nat) : Int))) (et_test (ev_isN (b := false) (ev_v (v := .ref p) rfl) fun v B' e => by subst e; rfl)) fun _ => et_test (ev_I0 (ev_v rfl) ?_)) (by simp)) (fun hlt B11 e11 => put2 rfl e11 fun a' b' c' h hb' => ?_) fun hge B11 e11 => sr_next ⟨.ref p, _, _, rfl, rfl, ?_⟩
        · refine ev_opR (Ra := fun v B' => v = .ref p) (Rb := fun _ v _ => v = .int 0) (ev_v rfl) (fun _ _ _ _ => ev_c) fun x' y' B1 B2 H2 e1 e2 ex ey w2 Q q => ?_
          subst ex ey
          exact ⟨p, _, 0, _, rfl, rfl, Same.tup (e1.trans (e2.trans w2.le)) h6, rfl, q _ B2 H2 .refl rfl⟩
        · have := of_decide_eq_true hlt
          have := h7 a' b' c' h hb'
          omega
        · have hge := of_decide_eq_false hge
          exact .inr ⟨a, b, c, p, h1, h2, h3', h4, rfl, Same.tup e11 h6, fun a' b' c' h hb' => by
            by_cases q : a' = i ∧ b' = j ∧ c' = k
            · obtain ⟨rfl, rfl, rfl⟩ := q
              omega
            · exact h7 a' b' c' (by omega) hb'⟩
    · have hc : ba3 i j k = false := hc
      rcases hb with ⟨eb, hno⟩ | ⟨a, b, c, p, h1, h2, h3', h4, eb, h6, h7⟩
      · exact .inl ⟨eb, fun a' b' c' h => by
          by_cases q : a' = i ∧ b' = j ∧ c' = k
          · obtain ⟨rfl, rfl, rfl⟩ := q
            exact hc
          · exact hno a' b' c' (by omega)⟩
      · exact .inr ⟨a, b, c, p, h1, h2, h3', h4, eb, Same.tup e9 h6, fun a' b' c' h hb' => by
          by_cases q : a' = i ∧ b' = j ∧ c' = k
          · obtain ⟨rfl, rfl, rfl⟩ := q
            rw [hc] at hb'; cases hb'
          · exact h7 a' b' c' (by omega) hb'⟩
  · rintro σ' B3 L' e3 ⟨bv, x4, x5, x6, x7, rfl, rfl, hb⟩
    have rs3 := Py.up e3 rs2
    rcases hb with ⟨eb, hno⟩ | ⟨a, b, c, p, h1, h2, h3', h4, eb, h6, h7⟩
    · have q := hno 2 1 0 (by omega)
      have q2 : ba3 2 1 0 = true := by decide
      rw [q2] at q; cases q
    subst eb
    have ixp : ∀ {B' : Hp} (e : Same B3 B') (z : Nat) (y : Nat), ([V.int (sz T a b c : Nat), .int (a : Nat), .int (b : Nat), .int (c : Nat)] : List V)[z]? = some (.int (y : Nat)) → EvP ⟨K, [], [], B, H⟩ [] (tOp (rIxT K) (tVar 3) (tC (.int (z : Int)))) [some v, some w, some sv, some (.ref p), x4, x5, x6, x7, none] B' y := fun e z y hz => by
      refine ev_opR (Ra := fun v B' => v = .ref p) (Rb := fun _ v _ => v = .int (z : Nat)) (ev_v rfl) (fun _ _ _ _ => ev_c) fun x' y' B1 B2 H2 e1 e2 ex ey w2 Q q => ?_
      subst ex ey
      exact ⟨p, _, z, _, rfl, rfl, Same.tup (e.trans (e1.trans (e2.trans w2.le))) h6, atI_nat hz, q _ B2 H2 .refl rfl⟩
    refine sr_ret (ev_tups (xs := [T.getD a [], T.getD b [], T.getD c []]) (as_cons (ev_ixN (xs := T) (i := a) (ev_var rfl rs3) (ixp (Same.refl _) 1 a rfl) (tat a h3')) (as_cons (ev_ixN (xs := T) (i := b) (ev_var rfl rs3) (ixp (Same.refl _) 2 b rfl) (tat b (by omega))) (as_cons (ev_ixN (xs := T) (i := c) (ev_var rfl rs3) (ixp (Same.refl _) 3 c rfl) (tat c (by omega))) as_nil))) (by show 3 ≤ sizeLine; omega)) fun y B' e ry => ⟨a, b, c, h1, h2, h3', h4, fun a' b' c' q1 q2 q3 q4 => ?_, ?_⟩
    · rw [hT]
      exact h7 a' b' c' ⟨q1, q2, q3⟩ q4
    · rw [hT]
      exact ry
end Nz

/-! NpC: the law's draws. -/
namespace Nz
open Py (rep)
open PyD (dat)
open PySem PySem.Spec PyProof.Rows L2
/-- the script: a list of ints, new or kept -/
structure ScL where
  l : List Int
instance : Py ScL := ⟨fun K B v s => ∃ a, v = .ref a ∧ SqL K B a (s.l.map V.int), fun e ⟨a, h1, h2⟩ => ⟨a, h1, Same.seq e h2⟩⟩
section
variable {c : Ct} {L : Lc} {σ : L2.St} {B : Hp} {ta tb te : TE}
theorem sc_len {s : ScL} (ha : EvP c L ta σ B s) : EvV c L (tCB (rLenQ c.K) (tCons ta tNil)) σ B (.int s.l.length) :=
  ev_cb1 ha fun x B1 H e rx w Q q => by
    obtain ⟨a, rfl, hB⟩ := rx
    exact ⟨a, _, rfl, .inl (Same.seq w.le hB), q _ B1 H .refl (by rw [List.length_map])⟩
theorem sc_ix {s : ScL} {x : Int} {i : Nat} (ha : EvP c L ta σ B s) (hb : EvP c L tb σ B i) (hx : s.l[i]? = some x) : EvV c L (tOp (rIxL c.K) ta tb) σ B (.int x) :=
  ev_opR ha (fun _ _ e _ => hb.up e) fun x' y' B1 B2 H e1 e2 rx ey w Q q => by
    cases ey
    obtain ⟨a, rfl, hB⟩ := rx
    exact ⟨a, _, i, _, rfl, rfl, Same.seq (e2.trans w.le) hB, atI_nat (by rw [List.getElem?_map, hx]; rfl), q _ B2 H .refl rfl⟩
end
def sp__law_cell (K : Fg) (C : Addr) : Sp := Sp1 K (ι := ScL × Nat) (fun _ => []) (fun ⟨s, k⟩ B vs => ∃ v, vs = [v, .int (k : Int)] ∧ rep K B v s) fun _ v B => ∃ i : Int, v = .int i
abbrev N__law_cell : List Str := ["script", "k"]
def t__law_cell (K : Fg) (C : Addr) : TS :=
  (tSeq (tIfS (tTest (tOp rLtI (tVar 1) (tCB (rLenQ K) (tCons (tVar 0) tNil)))) (tRet (tOp (rIxL K) (tVar 0) (tVar 1))) tNext)
  (tRet (tC (.int 0))))
theorem pure__law_cell {K : Fg} {C : Addr} (vs : List V) (H : Hp) (Q : VK) (E : XK) : sp__law_cell K C vs H Q E → t__law_cell K C { nx := fun _ H' => Q .non H', rt := Q } (start N__law_cell vs) H := by
  refine body1 ?_ vs H Q E
  rintro ⟨s, k⟩ B H _ ⟨v, rfl, r⟩
  refine sr_seq (sr_ifB (et_test (ev_I0 (j := (s.l.length : Nat)) (ev_v rfl) (sc_len (s := s) (ev_var rfl r)))) (fun hc B' e => ?_) fun _ B' e => sr_next ?_)
  · have hlt : k < s.l.length := by have := of_decide_eq_true hc; omega
    exact sr_ret (sc_ix (s := s) (i := k) (ev_var rfl (Py.up e r)) (ev_v rfl) (List.getElem?_eq_getElem hlt)) fun v B' _ ev => ⟨_, ev⟩
  · exact sr_ret ev_c fun v B' _ ev => ⟨0, ev⟩
def sp__law_numbers (K : Fg) (C : Addr) : Sp := Sp1 K (ι := Int × Nat) (fun _ => []) (fun ⟨i, k⟩ B vs => vs = [.int i, .int (k : Int)] ∧ k ≤ 1000) fun ⟨_, k⟩ v B => ∃ xs : List Int, xs.length = k ∧ rep K B v xs
abbrev N__law_numbers : List Str := ["cell", "many", "rest", "whole", "numbers", "k", "mixed"]
def t__law_numbers (K : Fg) (C : Addr) : TS :=
  (tSeq (tAsg (tCB rAbs (tCons (tVar 0) tNil)) (gName 2))
  (tSeq (tAsg (tVar 2) (gName 3))
  (tSeq (tAsg (tLst tNil) (gName 4))
  (tSeq (tFor (iRng1 (tCons (tVar 1) tNil)) (gName 5) (tIfS (tAnd (tTest (tOp rGeI (tVar 3) (tOp rPowI (tC (.int 10)) (tC (.int 18))))) (tTest (tOp rGtI (tVar 2) (tC (.int 0))))) (tSeq (tDrop (tBM K "list" rAppend (tVar 4) (tCons (tOp rModI (tCB rInt (tCons (tVar 2) tNil)) (tC (.int 1000))) tNil)))
  (tAsg (tOp rDivI (tVar 2) (tC (.int 1000))) (gName 2))) (tSeq (tAsg (tOp rModI (tCB rInt (tCons (tOp rAddI (tOp rAddI (tOp rMulI (tVar 3) (tC (.int 48271))) (tOp rMulI (tVar 5) (tC (.int 69621)))) (tC (.int 11))) tNil)) (tC (.int 2147483647))) (gName 6))
  (tSeq (tAsg (tOp rModI (tCB rInt (tCons (tOp rAddI (tOp rAddI (tOp rMulI (tVar 6) (tVar 6)) (tOp rMulI (tC (.int 40692)) (tVar 5))) (tC (.int 3))) tNil)) (tC (.int 2147483629))) (gName 6))
  (tDrop (tBM K "list" rAppend (tVar 4) (tCons (tOp rModI (tCB rInt (tCons (tOp rDivI (tVar 6) (tC (.int 7))) tNil)) (tC (.int 1000))) tNil)))))))
  (tRet (tVar 4))))))
theorem pow18 : (10 : Int) ^ (18 : Int).toNat = 1000000000000000000 := by decide +kernel
theorem pure__law_numbers {K : Fg} {C : Addr} (vs : List V) (H : Hp) (Q : VK) (E : XK) : sp__law_numbers K C vs H Q E → t__law_numbers K C { nx := fun _ H' => Q .non H', rt := Q } (start N__law_numbers vs) H := by
  refine body1 ?_ vs H Q E
  rintro ⟨i, k⟩ B H _ ⟨rfl, hk⟩
  have hs := sizeLine_eq
  refine sr_setV (ev_abs (ev_v rfl)) fun B1 e1 => sr_setV (ev_v rfl) fun B2 e2 => ?_
  generalize (if i < 0 then -i else i) = w
  refine sr_setN (el_nil (α := Int)) fun p o B3 e3 hp ⟨us, eo, hu⟩ => ?_
  subst eo
  cases hu
  refine sr_forN (fun n σ B' L => ∃ (r : Int) (x y : Option V) (xs : List Int), σ = [some (.int i), some (.int k), some (.int r), some (.int w), some (.ref p), x, y] ∧ xs.length = n ∧ L = [(p, .lst (xs.map V.int))]) (ei_rangeN (ev_v rfl)) (fun B' e => ⟨w, none, none, [], rfl, rfl, rfl⟩) ?_ ?_
  · rintro n v σ' B4 B' L' hn e4 ⟨r, x, y, xs, rfl, hx, rfl⟩ e5 ev
    subst ev
    refine sr_if (Rb := fun _ => True) (et_andR (Rb := fun _ => True) (et_testR (EvR.imp (ev_I0 (ev_v rfl) (ev_I ev_c ev_c (by unfold CPow; decide))) fun v _ _ e => ⟨_, e, trivial⟩)) (fun _ => et_testR (EvR.imp (ev_I0 (ev_v rfl) ev_c) fun v _ _ e => ⟨_, e, trivial⟩)) fun _ => trivial) (fun _ B6 e6 => ?_) fun _ B6 e6 => ?_
    · refine sr_app (R := fun v _ => ∃ z : Int, v = .int z) (ev_v rfl) (EvR.imp (ev_I (ev_int (ev_v rfl)) ev_c (by decide)) fun v _ _ e => ⟨_, e⟩) (by rw [List.length_map]; omega) fun v7 B7 e7 ⟨z, ez⟩ => ?_
      subst ez
      refine sr_set1 (ev_I (ev_v rfl) ev_c (by unfold CDiv; decide)) fun v8 B8 e8 ev8 => ?_
      subst ev8
      exact ⟨_, _, _, xs ++ [z], rfl, by simp [hx], by rw [List.map_append]; rfl⟩
    · refine sr_setV (ev_I (ev_int (ev_I0 (ev_I0 (ev_I (ev_v rfl) ev_c (by unfold CMul; right; decide)) (ev_I (ev_v rfl) ev_c (by unfold CMul; right; decide))) ev_c)) ev_c (by decide)) fun B7 e7 => ?_
      have m1 := Int.emod_nonneg (w * 48271 + (n : Int) * 69621 + 11) (b := 2147483647) (by decide)
      have m2 := Int.emod_lt_of_pos (w * 48271 + (n : Int) * 69621 + 11) (b := 2147483647) (by decide)
      generalize (w * 48271 + (n : Int) * 69621 + 11) % 2147483647 = mx at m1 m2
      refine sr_setV (ev_I (ev_int (ev_I0 (ev_I0 (ev_I (ev_v rfl) (ev_v rfl) (by unfold CMul; left; constructor <;> omega)) (ev_I ev_c (ev_v rfl) (by unfold CMul; left; decide))) ev_c)) ev_c (by decide)) fun B8 e8 => ?_
      generalize (mx * mx + 40692 * (n : Int) + 3) % 2147483629 = my
      refine sr_app1 (R := fun v _ => ∃ z : Int, v = .int z) (ev_v rfl) (EvR.imp (ev_I (ev_int (ev_I (ev_v rfl) ev_c (by unfold CDiv; decide))) ev_c (by decide)) fun v _ _ e => ⟨_, e⟩) (by rw [List.length_map]; omega) fun v9 B9 e9 ⟨z, ez⟩ => ?_
      subst ez
      exact ⟨_, _, _, xs ++ [z], rfl, by simp [hx], by rw [List.map_append]; rfl⟩
  · rintro σ' B4 L' e4 ⟨r, x, y, xs, rfl, hx, rfl⟩
    refine sr_freeze (by simp) fun hB => sr_ret (ev_var (x := xs) rfl (rep_frozen hB (piL xs))) fun v B' _ r => ⟨xs, hx, r⟩
def sp__law_next (K : Fg) (C : Addr) : Sp := Sp1 K (ι := Addr × Nat) (fun i => [i.1]) (fun ⟨s, m⟩ B vs => vs = [.ref s, .int (m : Int)] ∧ 0 < m) fun ⟨s, m⟩ v B => ∃ r : Nat, r < m ∧ v = .int (r : Int)
abbrev N__law_next : List Str := ["state", "many", "numbers", "place"]
def t__law_next (K : Fg) (C : Addr) : TS :=
  (tSeq (tAsg (tOp (rIxL K) (tVar 0) (tC (.int 0))) (gName 2))
  (tSeq (tAsg (tOp (rIxL K) (tVar 0) (tC (.int 1))) (gName 3))
  (tSeq (tAsg (tOp rAddI (tVar 3) (tC (.int 1))) (gSub (tVar 0) (tC (.int 1)) rSetL))
  (tRet (tOp rModI (tCB rInt (tCons (tOp rAddI (tOp (rIxL K) (tVar 2) (tOp rModI (tVar 3) (tCB (rLenQ K) (tCons (tVar 2) tNil)))) (tOp rMulI (tOp rDivI (tVar 3) (tCB (rLenQ K) (tCons (tVar 2) tNil))) (tC (.int 7)))) tNil)) (tVar 1))))))
theorem pure__law_next {K : Fg} {C : Addr} (vs : List V) (H : Hp) (Q : VK) (E : XK) : sp__law_next K C vs H Q E → t__law_next K C { nx := fun _ H' => Q .non H', rt := Q } (start N__law_next vs) H := by
  rintro ⟨⟨s, m⟩, B, w, ⟨rfl, hm⟩, q⟩
  obtain ⟨hn, a, ns, pl, h1, h2, h3, h4⟩ := w.st s (by simp)
  have hlen : 0 < ns.length := by cases ns with | nil => exact (h3 rfl).elim | cons => simp
  refine ⟨.ref s, rfl, s, _, 0, .ref a, rfl, rfl, .inl (.inl h1), rfl, ?_⟩
  refine ⟨.ref s, rfl, s, _, 1, .int pl, rfl, rfl, .inl (.inl h1), rfl, ?_⟩
  refine ⟨.int pl, rfl, pl, 1, rfl, rfl, ?_⟩
  refine ⟨.ref s, rfl, s, [.ref a, .int pl], 1, 1, rfl, rfl, h1, rfl, ?_⟩
  have w2 : Wd ⟨K, [s], [], B, H⟩ [] B (upd H s (.lst [.ref a, .int (pl + 1)])) := by
    have w : Wd ⟨K, [s], [], B, H⟩ [] B H := w
    refine ⟨fun b u e => ?_, w.b0, fun b o n1 n2 e => ?_, w.nw, fun s' hs' => ?_, w.ts, by simp, by simp, by simp⟩
    · have z : b ≠ s := fun z => by subst z; rw [hn] at e; cases e
      rw [upd_ne z]; exact w.le _ _ e
    · have z : b ≠ s := fun z => n1 (by rw [z]; exact List.mem_singleton_self _)
      rw [upd_ne z]; exact w.fr b o n1 n2 e
    · have z : s' = s := List.mem_singleton.mp hs'
      subst z
      exact ⟨hn, a, ns, pl + 1, upd_same, h2, h3, h4⟩
  have hl : (0 : Int) < (ns.length : Nat) := by omega
  have r0 : rep K B (V.ref a) (ScL.mk ns) := ⟨a, rfl, h2⟩
  have i0 := Int.emod_nonneg pl (b := (ns.length : Nat)) (by omega)
  have i1 := Int.emod_lt_of_pos pl hl
  have hix : ns[(pl % (ns.length : Nat)).toNat]? = some ns[(pl % (ns.length : Nat)).toNat] := List.getElem?_eq_getElem (by omega)
  have key : ∀ {t : TS} {σ : L2.St} {H2 : Hp}, Wd ⟨K, [s], [], B, H⟩ [] B H2 → SR ⟨K, [s], [], B, H⟩ [] t σ B { rt := fun v _ _ => ∃ r : Nat, r < m ∧ v = .int (r : Int) } → t { nx := fun _ H' => Q .non H', rt := Q } σ H2 := fun w2 h =>
    h _ w2 _ ⟨fun _ _ _ _ _ _ p => p.elim, fun v B2 L2 H2 e w p => q v B2 H2 w.nil p, fun _ _ _ _ _ _ p => p.elim, fun _ _ _ _ _ _ p => p.elim, fun _ _ p => p.elim⟩
  dsimp only []
  refine key w2 ?_
  refine (sr_ret (ev_I (ev_int (ev_I0 (sc_ix (s := ScL.mk ns) (i := (pl % (ns.length : Nat)).toNat) (ev_var rfl r0) (ev_is (ev_I (i := pl) (ev_v rfl) (sc_len (s := ScL.mk ns) (ev_var rfl r0)) hl) ?_) hix) (ev_I (ev_I (i := pl) (ev_v rfl) (sc_len (s := ScL.mk ns) (ev_var rfl r0)) ?_) ev_c ?_))) (ev_v (v := .int m) ?_) ?_) fun v B2 e2 ev2 => ?_)
  any_goals exact rfl
  · rw [Int.toNat_of_nonneg i0]
  · show CDiv _ (ns.length : Nat)
    unfold CDiv; omega
  · unfold CMul; right; decide
  · omega
  subst ev2
  have hm' : (0 : Int) < m := by omega
  show ∃ r : Nat, r < m ∧ _ = V.int (r : Int)
  generalize (ns[(pl % (ns.length : Nat)).toNat] + pl / (ns.length : Nat) * 7 : Int) = z
  have j0 := Int.emod_nonneg z (b := m) (by omega)
  have j1 := Int.emod_lt_of_pos z hm'
  exact ⟨(z % m).toNat, by omega, by rw [Int.toNat_of_nonneg j0]⟩
def nxt (c : Ct) (C : Addr) (ta tb : TE) : TE := tCall (sp__law_next c.K C) [] E0 (tCons ta (tCons tb tNil))
theorem ev_next {c : Ct} {C : Addr} {L : Lc} {σ : L2.St} {B : Hp} {ta tb : TE} {E : XK} {s : Addr} {m : Nat} (hs : EvV c L ta σ B (.ref s)) (hm : EvP c L tb σ B m) (h0 : 0 < m) (hT : s ∈ c.T) : EvR c L (tCall (sp__law_next c.K C) [] E (tCons ta (tCons tb tNil))) σ B fun v _ => ∃ r : Nat, r < m ∧ v = .int (r : Int) :=
  ev_call (s, m) (ea_cons hs fun x B1 e1 r1 => ea_cons (hm.up e1) fun y B2 e2 r2 => ea_nil fun B3 e3 => ⟨by rw [r1, show y = V.int (m : Int) from r2], h0⟩) (by simpa using hT)
end Nz

/-! NpD: defs that hand out a new list; the state, shuffles, degrees. -/
namespace Nz
open Py (rep)
open PyD (dat)
open PySem PySem.Spec PyProof.Rows L2
/-- the promise of a def that hands out a new object -/
def SpN (K : Fg) {ι : Type} (T : ι → List Addr) (pre : ι → Hp → List V → Prop) (post : ι → HO → Hp → Prop) : Sp := fun vs H Q _ =>
  ∃ (i : ι) (B : Hp), Wd ⟨K, T i, [], B, H⟩ [] B H ∧ pre i B vs ∧ ∀ p o B' H', Wd ⟨K, T i, [], B, H⟩ [(p, o)] B' H' → post i o B' → Q (.ref p) H'
section
variable {c : Ct} {L : Lc} {σ : L2.St} {B : Hp} {te : TE} {ta' : TA} {P : Post}
theorem en_call {ι : Type} {T : ι → List Addr} {pre : ι → Hp → List V → Prop} {post : ι → HO → Hp → Prop} {E : XK} (i : ι) (ha : EvA c L ta' σ B fun vs B' => pre i B' vs) (hT : ∀ s ∈ T i, s ∈ c.T) :
    EvN c L (tCall (SpN c.K T pre post) [] E ta') σ B (post i) := fun B1 H e w Q q =>
  ha B1 H e w _ fun vs B2 H2 s2 hp => by
    refine ⟨i, B2, (s2.2 _ w).enter hT, by rw [List.append_nil]; exact hp, fun p o B3 H3 u hv => ?_⟩
    obtain ⟨u1, u2, u3, u4⟩ := u.own _ List.mem_cons_self
    have u4' : H2 p = none := u4.elim id fun z => by cases z
    have f := (s2.2 _ w).fresh u4'
    refine q p B3 H3 o (s2.1.trans (u.b0)) f.2.2.2 (fun L' w' => ?_) hv
    have w2 := s2.2 _ w'
    have w3 := w2.call hT u.nil
    refine ⟨w3.le, w3.b0, w3.fr, w3.nw, w3.st, w3.ts, w3.sk, fun r hr => ?_, ?_⟩
    · rcases List.mem_cons.mp hr with rfl | hr
      · exact ⟨u1, u2, f.2.2.1, .inl f.1⟩
      · exact w3.own r hr
    · rw [List.map_cons, List.nodup_cons]
      refine ⟨fun z => ?_, w3.nd⟩
      obtain ⟨r, hr, er⟩ := List.mem_map.mp z
      have := (w2.own r hr).2.1
      rw [er, u4'] at this
      cases this
theorem sr_retO {O : HO → Hp → Prop} (h : EvN c L te σ B O) (k : ∀ p o B', Same B B' → p ∉ c.S → O o B' → P.rt (.ref p) B' ((p, o) :: L)) : SR c L (tRet te) σ B P := fun H w D m =>
  h B H (Same.refl _) w _ fun p B2 H2 o s hS kk ho => m.rt _ _ _ H2 s (kk _ w) (k p o B2 s hS ho)
theorem bodyN {K : Fg} {ι : Type} {T : ι → List Addr} {pre : ι → Hp → List V → Prop} {post : ι → HO → Hp → Prop} {N : List Str} {t : TS}
    (h : ∀ (i : ι) (B H : Hp) (vs : List V), pre i B vs → SR ⟨K, T i, [], B, H⟩ [] t (start N vs) B { rt := fun v B' L => ∃ p o, v = .ref p ∧ L = [(p, o)] ∧ post i o B' })
    (vs : List V) (H : Hp) (Q : VK) (E : XK) (hs : SpN K T pre post vs H Q E) : t { nx := fun _ H' => Q .non H', rt := Q } (start N vs) H := by
  obtain ⟨i, B, w, hp, q⟩ := hs
  exact h i B H vs hp H w _ ⟨fun _ B' L' H' _ w' p => p.elim, fun v B' L' H' _ w' ⟨p, o, e1, e2, h⟩ => by subst e1 e2; exact q p o B' H' w' h, fun _ _ _ _ _ _ p => p, fun _ _ _ _ _ _ p => p, fun _ _ p => p.elim⟩
end
def StO (K : Fg) : HO → Hp → Prop := fun o B => ∃ (a : Addr) (ns : List Int), o = .lst [.ref a, .int 0] ∧ SqL K B a (ns.map V.int) ∧ ns ≠ [] ∧ ns.length ≤ 10000
def sp__law_state (K : Fg) (C : Addr) : Sp := SpN K (ι := ScL × Nat × Nat) (fun _ => []) (fun ⟨s, k, m⟩ B vs => ∃ v, vs = [v, .int (k : Int), .int (m : Int)] ∧ rep K B v s ∧ k ≤ 100 ∧ 0 < m ∧ m ≤ 100) fun _ o B => StO K o B
abbrev N__law_state : List Str := ["script", "start", "many", "numbers", "k", "cell"]
def t__law_state (K : Fg) (C : Addr) : TS :=
  (tSeq (tAsg (tLst tNil) (gName 3))
  (tSeq (tFor (iRng2 (tCons (tVar 1) (tCons (tOp rAddI (tVar 1) (tVar 2)) tNil))) (gName 4) (tSeq (tAsg (tCall (sp__law_cell K C) [] E0 (tCons (tVar 0) (tCons (tVar 4) tNil))) (gName 5))
  (tSeq (tIfS (tTest (tOp rLtI (tCB rAbs (tCons (tVar 5) tNil)) (tOp rPowI (tC (.int 10)) (tC (.int 18))))) (tAsg (tOp rAddI (tOp rMulI (tVar 5) (tC (.int 61))) (tVar 4)) (gName 5)) tNext)
  (tAsg (tOp rCat (tVar 3) (tCall (sp__law_numbers K C) [] E0 (tCons (tVar 5) (tCons (tC (.int 20)) tNil)))) (gName 3)))))
  (tRet (tLst (tCons (tVar 3) (tCons (tC (.int 0)) tNil))))))
theorem pure__law_state {K : Fg} {C : Addr} (vs : List V) (H : Hp) (Q : VK) (E : XK) : sp__law_state K C vs H Q E → t__law_state K C { nx := fun _ H' => Q .non H', rt := Q } (start N__law_state vs) H := by
  refine bodyN ?_ vs H Q E
  rintro ⟨s, k, m⟩ B H _ ⟨v, rfl, r, hk, hm0, hm⟩
  have hs := sizeLine_eq
  refine sr_set (ev_of (el_nil (α := Int))) fun nv B1 e1 r1 => ?_
  refine sr_forN (fun n σ B' L => ∃ (nv : V) (x y : Option V) (xs : List Int), σ = [some v, some (.int k), some (.int m), some nv, x, y] ∧ xs.length = 20 * n ∧ rep K B' nv xs ∧ L = []) (ei_range2 (i := k) (j := k + m) (ev_v rfl) (ev_is (ev_I0 (ev_v rfl) (ev_v rfl)) (by rw [Int.natCast_add]))) (fun B' e => ⟨nv, none, none, [], rfl, rfl, Py.up e r1, rfl⟩) ?_ ?_
  · rintro n v' σ' B2 B' L' hn e2 ⟨nv, x, y, xs, rfl, hx, rx, rfl⟩ e3 ev
    subst ev
    have rs : rep K B' v s := Py.up (e1.trans (e2.trans e3)) r
    refine sr_set (ev_call (s, k + n) (ea_cons (ev_var (x := s) rfl rs) fun x B1 e1 r1 => ea_cons (ev_v rfl) fun y B2 e2 r2 => ea_nil fun B3 e3 => ⟨x, by rw [r2], Py.up (e2.trans e3) r1⟩) (by simp)) fun cv B4 e4 ⟨i, ei⟩ => ?_
    subst ei
    refine sr_seq (sr_ifB (et_test (ev_I0 (ev_abs (ev_v rfl)) (ev_I ev_c ev_c (by unfold CPow; decide)))) (fun hc B5 e5 => sr_set1 (ev_I0 (ev_I (ev_v rfl) ev_c (by unfold CMul; right; decide)) (ev_v rfl)) fun v6 B6 e6 ev6 => ?_) fun hc B5 e5 => sr_next ?_)
    all_goals
      try subst ev6
      refine sr_set1 (R := fun v B' => ∃ ys : List Int, ys.length = 20 ∧ rep K B' v (xs ++ ys)) ?_ fun v7 B7 e7 ⟨ys, hy, r7⟩ => ⟨_, _, _, xs ++ ys, rfl, by rw [List.length_append, hx, hy]; omega, r7, rfl⟩
      refine ev_opR (Ra := fun v B' => rep K B' v xs) (Rb := fun _ w B' => ∃ ys : List Int, ys.length = 20 ∧ rep K B' w ys) (ev_var rfl (Py.up (by first | exact (e3.trans (e4.trans (e5.trans e6))) | exact (e3.trans (e4.trans e5))) rx)) (fun x' B' e' _ => ev_call (_, 20) (ea_cons (ev_v rfl) fun x B1 e1 r1 => ea_cons ev_c fun y B2 e2 r2 => ea_nil fun B3 e3 => ⟨by rw [r1, r2]; rfl, by decide⟩) (by simp)) fun x' y' B8 B9 H9 e8 e9 rx ⟨ys, hy, ry⟩ w9 Q q => ?_
      obtain ⟨a, us, rfl, hB, hp⟩ := rx
      obtain ⟨b, ws, rfl, hB', hp'⟩ := ry
      refine ⟨a, b, us, ws, rfl, rfl, w9.le _ _ (e9 _ _ hB), w9.le _ _ hB', by rw [Paired.len hp, Paired.len hp', hx, hy]; omega, fun r hr => q _ _ _ (Stp.new w9 hr) ⟨ys, hy, r, _, rfl, upd_same, ?_⟩⟩
      have e10 : Same B9 (upd B9 r (.lst (us ++ ws))) := Same.up1 (w9.fresh hr).2.1
      exact Paired.app (Paired.imp (fun _ _ r => Py.up (e9.trans e10) r) hp) (Paired.imp (fun _ _ r => Py.up e10 r) hp')
  · rintro σ' B2 L' e2 ⟨nv, x, y, xs, rfl, hx, rx, rfl⟩
    refine sr_retO (el_lst (O := StO K) (ea_cons (ev_var (x := xs) rfl rx) fun x B3 e3 r3 => ea_cons ev_c fun y B4 e4 r4 => ea_nil fun B5 e5 => ?_)) fun p o B3 e3 hS ho => ⟨p, o, rfl, rfl, ho⟩
    subst r4
    obtain ⟨a, ws, rfl, hB, hp⟩ := Py.up (α := List Int) (e4.trans e5) r3
    rw [paired_ints hp] at hB
    refine ⟨by show 2 ≤ sizeLine; omega, a, xs, rfl, .inl (.inl hB), fun z => ?_, by omega⟩
    subst z
    have : (k + m) - k = m := by omega
    simp at hx
    omega
def sp__law_shuffled (K : Fg) (C : Addr) : Sp := Sp1 K (ι := Addr × Nat) (fun i => [i.1]) (fun ⟨s, m⟩ B vs => vs = [.ref s, .int (m : Int)] ∧ m ≤ 100000) fun ⟨s, m⟩ v B => ∃ xs : List Nat, List.Perm xs (List.range m) ∧ rep K B v xs
abbrev N__law_shuffled : List Str := ["state", "many", "row", "k", "other", "kept"]
def t__law_shuffled (K : Fg) (C : Addr) : TS :=
  (tSeq (tAsg (tLstRg (tRg1 (tVar 1))) (gName 2))
  (tSeq (tFor (iRng1 (tCons (tVar 1) tNil)) (gName 3) (tSeq (tAsg (tCall (sp__law_next K C) [] E0 (tCons (tVar 0) (tCons (tOp rAddI (tVar 3) (tC (.int 1))) tNil))) (gName 4))
  (tSeq (tAsg (tOp (rIxL K) (tVar 2) (tVar 3)) (gName 5))
  (tSeq (tAsg (tOp (rIxL K) (tVar 2) (tVar 4)) (gSub (tVar 2) (tVar 3) rSetL))
  (tAsg (tVar 5) (gSub (tVar 2) (tVar 4) rSetL))))))
  (tRet (tVar 2))))
theorem pure__law_shuffled {K : Fg} {C : Addr} (vs : List V) (H : Hp) (Q : VK) (E : XK) : sp__law_shuffled K C vs H Q E → t__law_shuffled K C { nx := fun _ H' => Q .non H', rt := Q } (start N__law_shuffled vs) H := by
  refine body1 ?_ vs H Q E
  rintro ⟨s, m⟩ B H _ ⟨rfl, hm⟩
  have hs := sizeLine_eq
  refine sr_setN (el_listRange (k := m) (ev_v rfl) (by omega)) fun p o B1 e1 hp ⟨us, eo, hu⟩ => ?_
  subst eo
  have hu := paired_nats hu
  subst hu
  refine sr_forN (fun n σ B' L => ∃ (x y z : Option V) (xs : List Nat), σ = [some (.ref s), some (.int m), some (.ref p), x, y, z] ∧ List.Perm xs (List.range m) ∧ L = [(p, .lst (xs.map fun n : Nat => V.int (n : Int)))]) (ei_rangeN (k := m) (ev_v rfl)) (fun B' e => ⟨none, none, none, _, rfl, .refl _, rfl⟩) ?_ ?_
  · rintro n v' σ' B2 B' L' hn e2 ⟨x, y, z, xs, rfl, hx, rfl⟩ e3 ev
    subst ev
    have hl : xs.length = m := by rw [hx.length_eq, List.length_range]
    refine sr_set (ev_next (m := n + 1) (ev_v rfl) (ev_is (ev_I0 (i := (n : Nat)) (ev_v rfl) ev_c) (by rw [Int.natCast_add]; rfl)) (by omega) (by simp)) fun ov B4 e4 ⟨o, ho, eo⟩ => ?_
    subst eo
    have h1 : (xs.map fun n : Nat => V.int (n : Int))[n]? = some (V.int (xs[n] : Nat)) := by rw [List.getElem?_map, List.getElem?_eq_getElem (by omega)]; rfl
    have h2 : (xs.map fun n : Nat => V.int (n : Int))[o]? = some (V.int (xs[o] : Nat)) := by rw [List.getElem?_map, List.getElem?_eq_getElem (by omega)]; rfl
    refine sr_set (ev_ixO (i := (n : Nat)) List.mem_cons_self (ev_v rfl) (ev_v rfl) (by omega) (by rw [Int.toNat_natCast]; exact h1)) fun kv B5 e5 ek => ?_
    subst ek
    refine sr_put (j := n) (ev_ixO (i := (o : Nat)) List.mem_cons_self (ev_v rfl) (ev_v rfl) (by omega) (by rw [Int.toNat_natCast]; exact h2)) (ev_v rfl) (ev_v rfl) (by rw [List.length_map]; omega) fun v6 B6 B7 _ ev6 _ => ?_
    subst ev6
    refine sr_put1 (j := o) (ev_v rfl) (ev_v rfl) (ev_v rfl) (by rw [List.length_set, List.length_map]; omega) fun v8 B8 B9 _ ev8 _ => ⟨_, _, _, (xs.set n xs[o]).set o xs[n], rfl, ?_, ?_⟩
    · exact (List.set_set_perm (by omega) (by omega)).trans hx
    · subst ev8
      rw [List.map_set, List.map_set]
  · rintro σ' B2 L' e2 ⟨x, y, z, xs, rfl, hx, rfl⟩
    exact sr_freeze (by simp) fun hB => sr_ret (ev_var (x := xs) rfl (rep_frozen hB (pnL xs))) fun v B' _ r => ⟨xs, hx, r⟩
end Nz

/-! NpE: the law's small judges. -/
namespace Nz
open Py (rep)
open PyD (dat)
open PySem PySem.Spec PyProof.Rows L2
theorem filter_getD {α : Type} (p : α → Bool) (d : α) (xs : List α) : ((List.range xs.length).filter fun j => p (xs.getD j d)).map (fun j => xs.getD j d) = xs.filter p := by
  have h : (List.range xs.length).map (fun k => xs.getD k d) = xs := by
    apply List.ext_getElem
    · simp
    · intro i h1 h2; simp [List.getD_eq_getElem?_getD, h2]
  have h2 := List.filter_map (f := fun k => xs.getD k d) (p := p) (l := List.range xs.length)
  rw [h] at h2
  exact h2.symm
theorem decV (i j : Int) : decide (V.int i = V.int j) = decide (i = j) := by
  by_cases h : i = j
  · subst h; simp
  · have h2 : ¬ V.int i = V.int j := fun z => h (by injection z)
    simp [h, h2]
theorem decN (i j : Nat) : decide (V.int (i : Int) = V.int (j : Int)) = (i == j) := by
  rw [decV, Bool.eq_iff_iff]
  simp
  omega
theorem decOdd (z : Nat) : decide (V.int ((z : Int) % 2) = V.int 1) = (z % 2 == 1) := by
  rw [decV, Bool.eq_iff_iff]
  simp
  omega
def endsL (es : List (Nat × Nat)) (l : List Nat) : List Nat := (l.map fun e => (es.getD e (0, 0)).1) ++ (l.map fun e => (es.getD e (0, 0)).2)
def oddV (n : Nat) (es : List (Nat × Nat)) (l : List Nat) : List Nat := (List.range n).filter fun v => ((endsL es l).filter (· == v)).length % 2 == 1
def sp__law_odd (K : Fg) (C : Addr) : Sp := Sp1 K (ι := Nat × List (Nat × Nat) × List Nat) (fun _ => []) (fun ⟨n, es, l⟩ B vs => ∃ v w, vs = [.int (n : Int), v, w] ∧ rep K B v es ∧ rep K B w l ∧ (∀ e ∈ l, e < es.length) ∧ n ≤ 100000 ∧ l.length ≤ 100000) fun ⟨n, es, l⟩ v B => rep K B v (oddV n es l)
abbrev N__law_odd : List Str := ["many", "pairs", "edges", "ends", "edge", "vertex", "end"]
def t__law_odd (K : Fg) (C : Addr) : TS :=
  (tSeq (tAsg (tOp rCat (tLc (iList K (tVar 2)) (gName 4) tYes (tOp (rIxT K) (tOp (rIxL K) (tVar 1) (tVar 4)) (tC (.int 0))) [4]) (tLc (iList K (tVar 2)) (gName 4) tYes (tOp (rIxT K) (tOp (rIxL K) (tVar 1) (tVar 4)) (tC (.int 1))) [4])) (gName 3))
  (tRet (tLc (iRng1 (tCons (tVar 0) tNil)) (gName 5) (tTest (tOp rEq (tOp rModI (tCB (rLenQ K) (tCons (tLc (iList K (tVar 3)) (gName 6) (tTest (tOp rEq (tVar 6) (tVar 5))) (tVar 6) [6]) tNil)) (tC (.int 2))) (tC (.int 1)))) (tVar 5) [5])))
theorem pure__law_odd {K : Fg} {C : Addr} (vs : List V) (H : Hp) (Q : VK) (E : XK) : sp__law_odd K C vs H Q E → t__law_odd K C { nx := fun _ H' => Q .non H', rt := Q } (start N__law_odd vs) H := by
  refine body1 ?_ vs H Q E
  rintro ⟨n, es, l⟩ B H _ ⟨v, w, rfl, r, r', hl, hn, hll⟩
  have hs := sizeLine_eq
  have one : ∀ {B0 : Hp} (e0 : Same B B0), ∀ k x B', k < l.length → Same B0 B' → YOf K l k x B' → ∃ e : Nat, l[k]? = some e ∧ x = .int (e : Int) ∧ es[e]? = some (es.getD e (0, 0)) := fun e0 k x B' hk e ⟨e1, h1, h2⟩ => by
    refine ⟨e1, h1, h2, ?_⟩
    have := hl e1 (List.mem_of_getElem? h1)
    rw [List.getD_eq_getElem?_getD, List.getElem?_eq_getElem this]; rfl
  refine sr_set (ev_of (el_cat (xs := l.map fun e => (es.getD e (0, 0)).1) (ys := l.map fun e => (es.getD e (0, 0)).2) (ev_isP (ev_of (el_map (fun k => (es.getD (l.getD k 0) (0, 0)).1) (ei_list (xs := l) (ev_var rfl r')) (by omega) fun k x B' hk e1 hx => ?_)) (fL_getD l 0 fun e => (es.getD e (0, 0)).1)) (ev_isP (ev_of (el_map (fun k => (es.getD (l.getD k 0) (0, 0)).2) (ei_list (xs := l) (ev_var rfl r')) (by omega) fun k x B' hk e1 hx => ?_)) (fL_getD l 0 fun e => (es.getD e (0, 0)).2)) (by simp; omega))) fun ev B1 e1 r1 => ?_
  · obtain ⟨e, h1, h2, h3⟩ := one (Same.refl _) k x B' hk e1 hx
    subst h2
    refine ⟨_, tg_name, fun σ' eσ => ?_⟩
    subst eσ
    refine ⟨rfl, ?_⟩
    have : l.getD k 0 = e := by rw [List.getD_eq_getElem?_getD, h1]; rfl
    rw [this]
    exact ev_ixT1 (y := (es.getD e (0, 0)).2) (ev_ixN (xs := es) (i := e) (x := es.getD e (0, 0)) (ev_var rfl (Py.up e1 r)) (ev_v rfl) h3) ev_c
  · obtain ⟨e, h1, h2, h3⟩ := one (Same.refl _) k x B' hk e1 hx
    subst h2
    refine ⟨_, tg_name, fun σ' eσ => ?_⟩
    subst eσ
    refine ⟨rfl, ?_⟩
    have : l.getD k 0 = e := by rw [List.getD_eq_getElem?_getD, h1]; rfl
    rw [this]
    exact ev_ixT2 (x := (es.getD e (0, 0)).1) (ev_ixN (xs := es) (i := e) (x := es.getD e (0, 0)) (ev_var rfl (Py.up e1 r)) (ev_v rfl) h3) ev_c
  have r1 : rep K B1 ev (endsL es l) := r1
  have hel : (endsL es l).length ≤ 200000 := by simp [endsL]; omega
  refine sr_ret (ev_of (el_filter (β := Nat) (fun x => ((endsL es l).filter (· == x)).length % 2 == 1) (fun k => k) (ei_rangeN (k := n) (ev_v rfl)) (by omega) fun k x B' hk e2 hx => ?_)) fun v' B' e r => ?_
  · subst hx
    refine ⟨_, tg_name, fun σ' eσ => ?_⟩
    subst eσ
    refine ⟨rfl, et_is (et_test (ev_eq (ev_I (ev_len (xs := (endsL es l).filter (· == k)) (ev_isP (ev_of (el_filter (β := Nat) (fun j => (endsL es l).getD j 0 == k) (fun j => (endsL es l).getD j 0) (ei_list (xs := endsL es l) (ev_var rfl (Py.up e2 r1))) (by omega) fun j x B' hj e3 ⟨u, hu, ru⟩ => ?_)) ?_)) ev_c (by decide)) ev_c)) ?_, fun _ => ev_v rfl⟩
    · cases ru
      refine ⟨_, tg_name, fun σ' eσ => ?_⟩
      subst eσ
      have : (endsL es l).getD j 0 = u := by rw [List.getD_eq_getElem?_getD, hu]; rfl
      rw [this]
      refine ⟨rfl, et_is (et_test (ev_eq (ev_v rfl) (ev_v rfl))) ?_, fun _ => ev_v rfl⟩
      exact decN u k
    · exact filter_getD (· == k) 0 (endsL es l)
    · exact decOdd _
  · rw [List.map_id'] at r
    exact r
def cntL (m : Nat) (ss : List (List Nat)) : List Nat := (List.range m).map fun e => (ss.filter fun s => decide (e ∈ s)).length
def sp__law_counts (K : Fg) (C : Addr) : Sp := Sp1 K (ι := List (Nat × Nat) × List (List Nat)) (fun _ => []) (fun ⟨es, ss⟩ B vs => ∃ v w, vs = [v, w] ∧ rep K B v es ∧ rep K B w (Sq.mk ss) ∧ es.length ≤ 100000 ∧ ss.length ≤ 1000) fun ⟨es, ss⟩ v B => rep K B v (cntL es.length ss)
abbrev N__law_counts : List Str := ["pairs", "sets", "edge", "row"]
def t__law_counts (K : Fg) (C : Addr) : TS :=
  (tRet (tLc (iRng1 (tCons (tCB (rLenQ K) (tCons (tVar 0) tNil)) tNil)) (gName 2) tYes (tCB (rLenQ K) (tCons (tLc (iSeq K (tVar 1)) (gName 3) (tTest (tOp (rIn K false) (tVar 2) (tVar 3))) (tVar 3) [3]) tNil)) [2]))
theorem pure__law_counts {K : Fg} {C : Addr} (vs : List V) (H : Hp) (Q : VK) (E : XK) : sp__law_counts K C vs H Q E → t__law_counts K C { nx := fun _ H' => Q .non H', rt := Q } (start N__law_counts vs) H := by
  refine body1 ?_ vs H Q E
  rintro ⟨es, ss⟩ B H _ ⟨v, w, rfl, r, r', hl, hn⟩
  have hs := sizeLine_eq
  refine sr_ret (ev_of (el_map (β := Nat) (fun e => (ss.filter fun s => decide (e ∈ s)).length) (ei_rangeN (k := es.length) (ev_len (ev_var rfl r))) (by omega) fun k x B' hk e2 hx => ?_)) fun v' B' e r => r
  subst hx
  refine ⟨_, tg_name, fun σ' eσ => ?_⟩
  subst eσ
  refine ⟨rfl, ev_len (xs := ss.filter fun s => decide (k ∈ s)) (ev_isP (ev_of (el_filter (β := List Nat) (fun j => decide (k ∈ ss.getD j [])) (fun j => ss.getD j []) (ei_seq (xs := Sq.mk ss) (ev_var rfl (Py.up e2 r'))) (by show ss.length < sizeLine; omega) fun j x B' hj e3 ⟨u, hu, ru⟩ => ?_)) (filter_getD (fun s => decide (k ∈ s)) [] ss))⟩
  refine ⟨_, tg_name, fun σ' eσ => ?_⟩
  subst eσ
  have hu : ss[j]? = some u := hu
  have : ss.getD j [] = u := by rw [List.getD_eq_getElem?_getD, hu]; rfl
  rw [this]
  exact ⟨rfl, et_test (ev_in (x := k) (xs := u) (ev_v rfl) (ev_var rfl ru)), fun _ => ev_var (x := u) rfl ru⟩
def sp__law_are_even (K : Fg) (C : Addr) : Sp := Sp1 K (ι := Nat × List (Nat × Nat) × List (List Nat) × Nat) (fun _ => []) (fun ⟨n, es, ss, k⟩ B vs => ∃ v w, vs = [.int (n : Int), v, w, .int (k : Int)] ∧ rep K B v es ∧ rep K B w (Sq.mk ss) ∧ es.length ≤ 100000 ∧ n ≤ 100000 ∧ ss.length = k ∧ (∀ s ∈ ss, s = (List.range es.length).filter (fun e => decide (e ∈ s)) ∧ oddV n es s = [])) fun _ v B => v = .bl true
abbrev N__law_are_even : List Str := ["many", "pairs", "sets", "count", "row", "edge"]
def t__law_are_even (K : Fg) (C : Addr) : TS :=
  (tSeq (tIfS (tTest (tOp rNe (tCB (rLenQ K) (tCons (tVar 2) tNil)) (tVar 3))) (tRet (tC (.bl false))) tNext)
  (tSeq (tFor (iSeq K (tVar 2)) (gName 4) (tSeq (tIfS (tOr (tNot (tTru K (tCB (rIsi K) (tCons (tVar 4) (tCons (tC (.ty "list")) tNil))))) (tTest (tOp rNe (tCB (rRepr K) (tCons (tVar 4) tNil)) (tCB (rRepr K) (tCons (tLc (iRng1 (tCons (tCB (rLenQ K) (tCons (tVar 1) tNil)) tNil)) (gName 5) (tTest (tOp (rIn K false) (tVar 5) (tVar 4))) (tVar 5) [5]) tNil))))) (tRet (tC (.bl false))) tNext)
  (tIfS (tTest (tOp (rNeD K) (tCall (sp__law_odd K C) [] E0 (tCons (tVar 0) (tCons (tVar 1) (tCons (tVar 4) tNil)))) (tLst tNil))) (tRet (tC (.bl false))) tNext)))
  (tRet (tC (.bl true)))))
theorem fit_nats {m : Nat} {s : List Nat} (h : ∀ e ∈ s, e < 100000) (hl : s.length ≤ m) : Fit (dat s) (m * 8 + 3) := by
  show Fit (.list (s.map dat)) _
  refine fit_list (n := 6) (fun d hd => ?_) (by rw [List.length_map]; exact hl)
  obtain ⟨e, he, rfl⟩ := List.mem_map.mp hd
  refine fit_int (k := 5) (by decide) (by decide) ?_
  have := h e he
  show (e : Int).natAbs < _
  simp
  omega
theorem ev_rec (L : List Nat) : PyData.eqv (dat L) (dat ([] : List Nat)) = decide (L = []) := by
  rw [Bool.eq_iff_iff, PyD.eqv L [], decide_eq_true_iff]
theorem pure__law_are_even {K : Fg} {C : Addr} (vs : List V) (H : Hp) (Q : VK) (E : XK) : sp__law_are_even K C vs H Q E → t__law_are_even K C { nx := fun _ H' => Q .non H', rt := Q } (start N__law_are_even vs) H := by
  refine body1 ?_ vs H Q E
  rintro ⟨n, es, ss, k⟩ B H _ ⟨v, w, rfl, r, r', hl, hn, hk, hss⟩
  have hs := sizeLine_eq
  refine sr_seq (sr_ifB (b := false) (et_is (et_test (ev_ne (ev_lenS (xs := Sq.mk ss) (ev_var rfl r')) (ev_v rfl))) (by show (!decide (V.int (ss.length : Nat) = _)) = false; rw [hk]; simp)) (fun z => by cases z) fun _ B1 e1 => sr_next ?_)
  refine sr_forN (fun j σ B' L => ∃ x, σ = [some (.int n), some v, some w, some (.int k), x, none] ∧ L = []) (ei_seq (xs := Sq.mk ss) (ev_var rfl (Py.up e1 r'))) (fun B' e => ⟨none, rfl, rfl⟩) ?_ ?_
  · rintro j x σ' B2 B' L' hj e2 ⟨y, rfl, rfl⟩ e3 ⟨s, hx, rx⟩
    obtain ⟨q1, q2⟩ := hss s (List.mem_of_getElem? hx)
    have hsm : ∀ e ∈ s, e < es.length := fun e he => by
      rw [q1] at he
      exact List.mem_range.mp (List.mem_filter.mp he).1
    have hsl : s.length ≤ es.length := by
      rw [q1]
      exact Nat.le_trans (List.length_filter_le _ _) (by simp)
    have fit : Fit (dat s) (100000 * 8 + 3) := fit_nats (fun e he => by have := hsm e he; omega) (by omega)
    have r2 : rep K B' v es := Py.up (e1.trans (e2.trans e3)) r
    have hd : PyD.dpt (List Nat) ≤ 60 := by decide
    refine sr_seq (sr_ifB (b := false) (et_is (et_or (b := false) (b' := false) (et_is (et_not (et_tru (ev_isL (xs := s) (ev_var rfl rx)))) rfl) fun _ => et_is (et_test (ev_ne (ev_repr (x := s) (ev_var rfl rx) fit (by omega) hd) (ev_repr (x := s) (ev_isP (ev_of (el_filter (β := Nat) (fun e => decide (e ∈ s)) (fun e => e) (ei_rangeN (k := es.length) (ev_len (xs := es) (ev_var rfl r2))) (by omega) fun e x B5 hk e5 hx => ?_)) ?_) fit (by omega) hd))) ?_) rfl) (fun z => by cases z) fun _ B4 e4 => sr_next ?_)
    · subst hx
      refine ⟨_, tg_name, fun σ' eσ => ?_⟩
      subst eσ
      exact ⟨rfl, et_test (ev_in (x := e) (xs := s) (ev_v rfl) (ev_var rfl (Py.up e5 rx))), fun _ => ev_v rfl⟩
    · rw [List.map_id']
      exact q1.symm
    · simp
    · refine sr_ifB (b := false) (et_is (et_test (ev_neD (x := oddV n es s) (y := ([] : List Nat)) (ev_call (n, es, s) (ea_cons (ev_v rfl) fun x B1 e1 r1 => ea_cons (ev_var (x := es) rfl (Py.up (e4.trans e1) r2)) fun y B2 e2 r2 => ea_cons (ev_var (x := s) rfl (Py.up (e4.trans (e1.trans e2)) rx)) fun z B3 e3 r3 => ea_nil fun B4 e4 => ⟨y, z, by rw [r1], Py.up (e3.trans e4) r2, Py.up e4 r3, hsm, hn, by omega⟩) (by simp)) (ev_of el_nil) (by decide))) (by rw [q2, ev_rec]; rfl)) (fun z => by cases z) fun _ B5 e5 => sr_next ⟨_, rfl, rfl⟩
  · rintro σ' B2 L' e2 ⟨y, rfl, rfl⟩
    exact sr_ret ev_c fun v B' e r => r
/-- the sums of the law's own -/
def mskP : List (List Nat) := [[0], [1], [2], [0, 1], [0, 2], [1, 2], [0, 1, 2]]
def dueRow (m : Nat) (ss : List (List Nat)) (mask : List Nat) : List Nat := (List.range m).filter fun e => (cntL m (mask.map fun j => ss.getD j [])).getD e 0 % 2 == 1
def sp__law_sums (K : Fg) (C : Addr) : Sp := Sp1 K (ι := List (Nat × Nat) × List (List Nat)) (fun _ => []) (fun ⟨es, ss⟩ B vs => ∃ v w, vs = [v, w] ∧ rep K B v es ∧ rep K B w ss ∧ es.length ≤ 100000 ∧ ss.length = 3) fun ⟨es, ss⟩ v B => rep K B v (mskP.map (dueRow es.length ss))
abbrev N__law_sums : List Str := ["pairs", "sets", "found", "mask", "counts", "place", "edge"]
def t__law_sums (K : Fg) (C : Addr) : TS :=
  (tSeq (tAsg (tLst tNil) (gName 2))
  (tSeq (tFor (iList K (tLst (tCons (tLst (tCons (tC (.int 0)) tNil)) (tCons (tLst (tCons (tC (.int 1)) tNil)) (tCons (tLst (tCons (tC (.int 2)) tNil)) (tCons (tLst (tCons (tC (.int 0)) (tCons (tC (.int 1)) tNil))) (tCons (tLst (tCons (tC (.int 0)) (tCons (tC (.int 2)) tNil))) (tCons (tLst (tCons (tC (.int 1)) (tCons (tC (.int 2)) tNil))) (tCons (tLst (tCons (tC (.int 0)) (tCons (tC (.int 1)) (tCons (tC (.int 2)) tNil)))) tNil))))))))) (gName 3) (tSeq (tAsg (tCall (sp__law_counts K C) [] E0 (tCons (tVar 0) (tCons (tLc (iList K (tVar 3)) (gName 5) tYes (tOp (rIxL K) (tVar 1) (tVar 5)) [5]) tNil))) (gName 4))
  (tDrop (tBM K "list" rAppend (tVar 2) (tCons (tLc (iRng1 (tCons (tCB (rLenQ K) (tCons (tVar 0) tNil)) tNil)) (gName 6) (tTest (tOp rEq (tOp rModI (tOp (rIxL K) (tVar 4) (tVar 6)) (tC (.int 2))) (tC (.int 1)))) (tVar 6) [6]) tNil)))))
  (tRet (tVar 2))))
theorem pure__law_sums {K : Fg} {C : Addr} (vs : List V) (H : Hp) (Q : VK) (E : XK) : sp__law_sums K C vs H Q E → t__law_sums K C { nx := fun _ H' => Q .non H', rt := Q } (start N__law_sums vs) H := by
  refine body1 ?_ vs H Q E
  rintro ⟨es, ss⟩ B H _ ⟨v, w, rfl, r, r', hl, hn⟩
  have hs := sizeLine_eq
  refine sr_setN (el_nil (α := List Nat)) fun p o B1 e1 hp ⟨us, eo, hu⟩ => ?_
  subst eo
  cases hu
  have r1 : rep K B1 v es := Py.up e1 r
  have r1' : rep K B1 w ss := Py.up e1 r'
  refine sr_forN (fun j σ B' L => ∃ x y z t vs, σ = [some v, some w, some (.ref p), x, y, z, t] ∧ L = [(p, .lst vs)] ∧ Paired (rep K B') vs ((mskP.take j).map (dueRow es.length ss))) (ei_list (xs := mskP) (ev_of (el_lits (xs := mskP) (as_cons (ev_of (el_lits (xs := [0]) (as_cons (ev_nat (n := 0)) as_nil) (by show _ ≤ sizeLine; simp; omega))) (as_cons (ev_of (el_lits (xs := [1]) (as_cons (ev_nat (n := 1)) as_nil) (by show _ ≤ sizeLine; simp; omega))) (as_cons (ev_of (el_lits (xs := [2]) (as_cons (ev_nat (n := 2)) as_nil) (by show _ ≤ sizeLine; simp; omega))) (as_cons (ev_of (el_lits (xs := [0, 1]) (as_cons (ev_nat (n := 0)) (as_cons (ev_nat (n := 1)) as_nil)) (by show _ ≤ sizeLine; simp; omega))) (as_cons (ev_of (el_lits (xs := [0, 2]) (as_cons (ev_nat (n := 0)) (as_cons (ev_nat (n := 2)) as_nil)) (by show _ ≤ sizeLine; simp; omega))) (as_cons (ev_of (el_lits (xs := [1, 2]) (as_cons (ev_nat (n := 1)) (as_cons (ev_nat (n := 2)) as_nil)) (by show _ ≤ sizeLine; simp; omega))) (as_cons (ev_of (el_lits (xs := [0, 1, 2]) (as_cons (ev_nat (n := 0)) (as_cons (ev_nat (n := 1)) (as_cons (ev_nat (n := 2)) as_nil))) (by show _ ≤ sizeLine; simp; omega))) as_nil))))))) (by show 7 ≤ sizeLine; omega)))) (fun B' e => ⟨none, none, none, none, [], rfl, rfl, .nil⟩) ?_ ?_
  · rintro j x σ' B2 B' L' hj e2 ⟨y, z, t, t2, vs, rfl, rfl, pv⟩ e3 ⟨mask, hx, rx⟩
    have lm : ∀ q ∈ mask, q < 3 := by
      have h := List.mem_of_getElem? hx
      simp only [mskP, List.mem_cons, List.not_mem_nil, or_false] at h
      rcases h with h | h | h | h | h | h | h <;> (rw [h]; decide)
    have lm3 : mask.length ≤ 3 := by
      have h := List.mem_of_getElem? hx
      simp only [mskP, List.mem_cons, List.not_mem_nil, or_false] at h
      rcases h with h | h | h | h | h | h | h <;> (rw [h]; decide)
    have r2 : rep K B' v es := Py.up (e2.trans e3) r1
    have r2' : rep K B' w ss := Py.up (e2.trans e3) r1'
    refine sr_set (ev_call (es, mask.map fun j => ss.getD j []) (ea_cons (ev_var (x := es) rfl r2) fun x B1 e1 q1 => ea_cons (ev_isP (ev_of (el_map (fun i => ss.getD (mask.getD i 0) []) (ei_list (xs := mask) (ev_var rfl (Py.up e1 rx))) (by omega) fun i x B' hi e4 ⟨u, hu, ru⟩ => ?_)) (fL_getD mask 0 fun j => ss.getD j [])) fun y B2 e2 q2 => ea_nil fun B3 e3 => ⟨x, y, rfl, Py.up (e2.trans e3) q1, sq_of_list (Py.up e3 q2), hl, by rw [List.length_map]; omega⟩) (by simp)) fun cv B4 e4 rc => ?_
    · cases ru
      refine ⟨_, tg_name, fun σ' eσ => ?_⟩
      subst eσ
      have e6 : mask.getD i 0 = u := by rw [List.getD_eq_getElem?_getD, hu]; rfl
      have hu3 := lm u (List.mem_of_getElem? hu)
      rw [e6]
      refine ⟨rfl, ev_ixN (xs := ss) (i := u) (ev_var rfl (Py.up (e1.trans e4) r2')) (ev_v rfl) ?_⟩
      rw [List.getD_eq_getElem?_getD, List.getElem?_eq_getElem (by omega)]; rfl
    have rc : rep K B4 cv (cntL es.length (mask.map fun j => ss.getD j [])) := rc
    have lc : (cntL es.length (mask.map fun j => ss.getD j [])).length = es.length := by simp [cntL]
    have lv : vs.length ≤ 7 := by
      have h := Paired.len pv
      have h7 : (mskP.take j).length ≤ 7 := Nat.le_trans (List.length_take_le' _ _) (Nat.le_refl _)
      rw [List.length_map] at h
      omega
    refine sr_app1 (R := fun w B' => rep K B' w (dueRow es.length ss mask)) (ev_v rfl) (EvR.imp (ev_of (el_filter (β := Nat) (fun e => (cntL es.length (mask.map fun j => ss.getD j [])).getD e 0 % 2 == 1) (fun e => e) (ei_rangeN (k := es.length) (ev_len (xs := es) (ev_var rfl (Py.up e4 r2)))) (by omega) fun e x B5 hk e5 hx => ?_)) fun v B' _ r => ?_) (by omega) fun v9 B9 e9 r9 => ⟨_, _, _, _, _, rfl, rfl, ?_⟩
    · subst hx
      refine ⟨_, tg_name, fun σ' eσ => ?_⟩
      subst eσ
      refine ⟨rfl, et_is (et_test (ev_eq (ev_I (ev_ixN (xs := cntL es.length (mask.map fun j => ss.getD j [])) (i := e) (x := (cntL es.length (mask.map fun j => ss.getD j [])).getD e 0) (ev_var rfl (Py.up e5 rc)) (ev_v rfl) ?_) ev_c (by decide)) ev_c)) (decOdd _), fun _ => ev_v rfl⟩
      rw [List.getD_eq_getElem?_getD, List.getElem?_eq_getElem (by omega)]; rfl
    · rw [List.map_id'] at r
      exact r
    · rw [List.take_add_one, hx, List.map_append]
      exact Paired.app (Paired.imp (fun _ _ r => Py.up (e3.trans (e4.trans e9)) r) pv) (.cons r9 .nil)
  · rintro σ' B4 L' e4 ⟨x, y, z, t, vs, rfl, rfl, pv⟩
    exact sr_freeze (by simp) fun hB => sr_ret (ev_var (x := mskP.map (dueRow es.length ss)) rfl (rep_frozen hB pv)) fun v B' e r => r
end Nz

/-! NpF: the law's covered graph. -/
namespace Nz
open Py (rep)
open PyD (dat)
open PySem PySem.Spec PyProof.Rows L2
/-- ends of an edge at v -/
def ind (e : Nat × Nat) (v : Nat) : Nat := (if e.1 = v then 1 else 0) + (if e.2 = v then 1 else 0)
def pd (es : List (Nat × Nat)) (v : Nat) : Nat := (es.map fun e => ind e v).sum
theorem pd_app (a b : List (Nat × Nat)) (v : Nat) : pd (a ++ b) v = pd a v + pd b v := by simp [pd]
theorem pd_one (e : Nat × Nat) (v : Nat) : pd [e] v = ind e v := by simp [pd]
/-- behind a path of edges -/
structure PathTo (n at' n' start : Nat) (P : List (Nat × Nat)) : Prop where
  le : n ≤ n'
  lt : ∀ e ∈ P, e.1 < n' ∧ e.2 < n'
  pr : ∀ v, pd P v % 2 = ind (start, at') v % 2
structure ApI where
  s : Addr
  ps : Addr
  pp : Addr
  pb : Addr
  n : Nat
  us : List V
  ws : List V
  a : Nat
  g : Nat
  bits : List Nat
def ApI.L (i : ApI) : Lc := [(i.ps, .lst i.ws), (i.pp, .lst i.us), (i.pb, .lst [.int (i.n : Int), .ref i.pp, .ref i.ps])]
def sp__law_add_path (K : Fg) (C : Addr) : Sp := SpS K (ι := ApI) (fun i => [i.s]) ApI.L
  (fun i B vs => ∃ bv, vs = [.ref i.s, .ref i.pb, .int (i.a : Int), .int (i.g : Int), bv] ∧ rep K B bv i.bits ∧ i.a < i.n ∧ i.g < i.n ∧ i.us.length ≤ 100000 ∧ i.ws.length ≤ 100000)
  fun i v L' B => ∃ n' P us' ws', PathTo i.n i.g n' i.a P ∧ n' ≤ i.n + 2 ∧ P.length ≤ 3 ∧ L' = [(i.ps, .lst (i.ws ++ ws')), (i.pp, .lst (i.us ++ us')), (i.pb, .lst [.int (n' : Int), .ref i.pp, .ref i.ps])] ∧ Paired (rep K B) us' P ∧ Paired (rep K B) ws' (List.replicate P.length i.bits)
abbrev N__law_add_path : List Str := ["state", "built", "start", "goal", "bits", "at", "k"]
def t__law_add_path (K : Fg) (C : Addr) : TS :=
  (tSeq (tAsg (tVar 2) (gName 5))
  (tSeq (tFor (iRng1 (tCons (tCall (sp__law_next K C) [] E0 (tCons (tVar 0) (tCons (tC (.int 3)) tNil))) tNil)) (gName 6) (tSeq (tDrop (tBM K "list" rAppend (tOp (rIxL K) (tVar 1) (tC (.int 1))) (tCons (tTup (tCons (tVar 5) (tCons (tOp (rIxL K) (tVar 1) (tC (.int 0))) tNil))) tNil)))
  (tSeq (tDrop (tBM K "list" rAppend (tOp (rIxL K) (tVar 1) (tC (.int 2))) (tCons (tVar 4) tNil)))
  (tSeq (tAsg (tOp (rIxL K) (tVar 1) (tC (.int 0))) (gName 5))
  (tAsg (tOp rAddI (tOp (rIxL K) (tVar 1) (tC (.int 0))) (tC (.int 1))) (gSub (tVar 1) (tC (.int 0)) rSetL))))))
  (tSeq (tDrop (tBM K "list" rAppend (tOp (rIxL K) (tVar 1) (tC (.int 1))) (tCons (tTup (tCons (tVar 5) (tCons (tVar 3) tNil))) tNil)))
  (tDrop (tBM K "list" rAppend (tOp (rIxL K) (tVar 1) (tC (.int 2))) (tCons (tVar 4) tNil))))))
theorem ind_comm (a b v : Nat) : ind (a, b) v = ind (b, a) v := by simp only [ind]; omega
theorem path_more {n a n' start z n'' : Nat} {P : List (Nat × Nat)} (h : PathTo n a n' start P) (ha : a < n'') (hz : z < n'') (hn : n' ≤ n'') : PathTo n z n'' start (P ++ [(a, z)]) := by
  refine ⟨Nat.le_trans h.le hn, fun e he => ?_, fun v => ?_⟩
  · rcases List.mem_append.mp he with he | he
    · have := h.lt e he; omega
    · rw [List.mem_singleton.mp he]; exact ⟨ha, hz⟩
  · have := h.pr v
    rw [pd_app, pd_one]
    simp only [ind] at this ⊢
    omega
theorem pure__law_add_path {K : Fg} {C : Addr} (vs : List V) (H : Hp) (Q : VK) (E : XK) : sp__law_add_path K C vs H Q E → t__law_add_path K C { nx := fun _ H' => Q .non H', rt := Q } (start N__law_add_path vs) H := by
  refine bodyS ?_ vs H Q E
  rintro ⟨s, ps, pp, pb, n, us, ws, a, g, bits⟩ B H _ ⟨bv, rfl, rb, ha, hg, hus, hws⟩
  dsimp only at rb ha hg hus hws
  have hs := sizeLine_eq
  have p1 : ∀ (x y z : Addr × HO), List.Perm [z, x, y] [x, y, z] := fun x y z => (List.Perm.swap x z [y]).trans ((List.Perm.swap y z []).cons x)
  refine sr_perm (p1 _ _ _) ?_
  refine sr_setV (ev_v rfl) fun B1 e1 => ?_
  refine sr_forX (ex_range1 (Rn := fun r => r < 3) (EvR.imp (ev_next (m := 3) (ev_v rfl) ev_c (by decide) (by simp)) fun v _ _ ⟨r, hr, ev⟩ => ⟨r, hr, by omega, ev⟩)) fun r B2 wi hr e2 hwi => ?_
  refine sr_forN (fun k σ B' L => ∃ (at' n' : Nat) (P : List (Nat × Nat)) (us' ws' : List V) (x : Option V), σ = [some (.ref s), some (.ref pb), some (.int (a : Int)), some (.int (g : Int)), some bv, some (.int (at' : Int)), x] ∧ PathTo n at' n' a P ∧ at' < n' ∧ n' = n + k ∧ P.length = k ∧ L = [(pb, .lst [.int (n' : Int), .ref pp, .ref ps]), (ps, .lst (ws ++ ws')), (pp, .lst (us ++ us'))] ∧ Paired (rep K B') us' P ∧ Paired (rep K B') ws' (List.replicate P.length bits)) hwi (fun B' e => ?_) ?_ ?_
  · exact ⟨a, n, [], [], [], none, rfl, ⟨Nat.le_refl _, by simp, fun v => by show 0 % 2 = ind (a, a) v % 2; simp only [ind]; omega⟩, ha, by omega, rfl, by rw [List.append_nil, List.append_nil], .nil, .nil⟩
  · rintro k x σ' B3 B' L' hk e3 ⟨at', n', P, us', ws', y, rfl, hP, hat, hn', hl, rfl, pu, pw⟩ e4 ex
    subst ex
    have hlu := Paired.len pu
    have hlw := Paired.len pw
    rw [List.length_replicate] at hlw
    have rb' : rep K B' bv bits := Py.up (e1.trans (e2.trans (e3.trans e4))) rb
    -- built[1].append((at, built[0]))
    refine sr_perm (p1 _ _ _) ?_
    refine sr_app (R := fun v B' => rep K B' v (at', n')) (ev_ixO (p := pb) (i := 1) (v := .ref pp) (List.mem_cons_of_mem _ List.mem_cons_self) (ev_v rfl) ev_c (by decide) rfl) (ev_pair (x := at') (y := n') (ev_v rfl) (ev_ixO (p := pb) (i := 0) (v := .int (n' : Int)) (List.mem_cons_of_mem _ List.mem_cons_self) (ev_v rfl) ev_c (by decide) rfl)) (by rw [List.length_append]; omega) fun v5 B5 e5 r5 => ?_
    refine sr_perm (p1 _ _ _) ?_
    refine sr_app (R := fun v B' => rep K B' v bits) (ev_ixO (p := pb) (i := 2) (v := .ref ps) (List.mem_cons_of_mem _ (List.mem_cons_of_mem _ List.mem_cons_self)) (ev_v rfl) ev_c (by decide) rfl) (ev_var (x := bits) rfl (Py.up e5 rb')) (by rw [List.length_append]; omega) fun v6 B6 e6 r6 => ?_
    refine sr_perm (p1 _ _ _) ?_
    refine sr_set (ev_ixO (p := pb) (i := 0) (v := .int (n' : Int)) List.mem_cons_self (ev_v rfl) ev_c (by decide) rfl) fun v7 B7 e7 ev7 => ?_
    subst ev7
    refine sr_put1 (j := 0) (ev_I0 (ev_ixO (p := pb) (i := 0) (v := .int (n' : Int)) List.mem_cons_self (ev_v rfl) ev_c (by decide) rfl) ev_c) (ev_v rfl) ev_c (by simp) fun v8 B8 B9 e8 ev8 e9 => ⟨n', n' + 1, P ++ [(at', n')], us' ++ [v5], ws' ++ [v6], _, rfl, path_more hP (by omega) (by omega) (by omega), by omega, by omega, by rw [List.length_append, hl]; rfl, ?_, ?_, ?_⟩
    · subst ev8
      simp only [List.append_assoc, List.set_cons_zero, Int.natCast_add]
      rfl
    · exact Paired.app (Paired.imp (fun _ _ r => Py.up (e4.trans (e5.trans (e6.trans (e7.trans (e8.trans e9))))) r) pu) (.cons (Py.up (e6.trans (e7.trans (e8.trans e9))) r5) .nil)
    · rw [List.length_append, show [(at', n')].length = 1 from rfl, List.replicate_succ']
      exact Paired.app (Paired.imp (fun _ _ r => Py.up (e4.trans (e5.trans (e6.trans (e7.trans (e8.trans e9))))) r) pw) (.cons (Py.up (e7.trans (e8.trans e9)) r6) .nil)
  · rintro σ' B3 L' e3 ⟨at', n', P, us', ws', y, rfl, hP, hat, hn', hl, rfl, pu, pw⟩
    have hlu := Paired.len pu
    have hlw := Paired.len pw
    rw [List.length_replicate] at hlw
    have rb' : rep K B3 bv bits := Py.up (e1.trans (e2.trans e3)) rb
    refine sr_perm (p1 _ _ _) ?_
    refine sr_app (R := fun v B' => rep K B' v (at', g)) (ev_ixO (p := pb) (i := 1) (v := .ref pp) (List.mem_cons_of_mem _ List.mem_cons_self) (ev_v rfl) ev_c (by decide) rfl) (ev_pair (x := at') (y := g) (ev_v rfl) (ev_v rfl)) (by rw [List.length_append]; omega) fun v5 B5 e5 r5 => ?_
    refine sr_perm (p1 _ _ _) ?_
    refine sr_app1 (R := fun v B' => rep K B' v bits) (ev_ixO (p := pb) (i := 2) (v := .ref ps) (List.mem_cons_of_mem _ (List.mem_cons_of_mem _ List.mem_cons_self)) (ev_v rfl) ev_c (by decide) rfl) (ev_var (x := bits) rfl (Py.up e5 rb')) (by rw [List.length_append]; omega) fun v6 B6 e6 r6 => ⟨rfl, n', P ++ [(at', g)], us' ++ [v5], ws' ++ [v6], path_more (n'' := n') (z := g) hP hat (by have := hP.le; omega) (Nat.le_refl _), by dsimp only; omega, by rw [List.length_append, hl]; simp; omega, by simp only [List.append_assoc], ?_, ?_⟩
    · exact Paired.app (Paired.imp (fun _ _ r => Py.up (e5.trans e6) r) pu) (.cons (Py.up e6 r5) .nil)
    · rw [List.length_append, show [(at', g)].length = 1 from rfl, List.replicate_succ']
      exact Paired.app (Paired.imp (fun _ _ r => Py.up (e5.trans e6) r) pw) (.cons r6 .nil)
end Nz

/-! NpH: the law's covered graph, as built. -/
namespace Nz
open Py (rep)
open PyD (dat)
open PySem PySem.Spec PyProof.Rows L2
abbrev Tr := List ((Nat × Nat) × List Nat)
def dB (tr : Tr) (j v : Nat) : Nat := (tr.map fun x => if x.2.getD j 0 = 1 then ind x.1 v else 0).sum
structure TrOk (n count : Nat) (tr : Tr) : Prop where
  lt : ∀ x ∈ tr, x.1.1 < n ∧ x.1.2 < n
  bl : ∀ x ∈ tr, x.2.length = count
  b1 : ∀ x ∈ tr, 1 ∈ x.2
theorem dB_app (a b : Tr) (j v : Nat) : dB (a ++ b) j v = dB a j v + dB b j v := by simp [dB]
theorem dB_path (P : List (Nat × Nat)) (bits : List Nat) (j v : Nat) : dB (P.map fun e => (e, bits)) j v = if bits.getD j 0 = 1 then pd P v else 0 := by
  unfold dB pd
  rw [List.map_map]
  induction P with
  | nil => simp
  | cons e P ih =>
    simp only [List.map_cons, List.sum_cons, Function.comp] at ih ⊢
    rw [ih]
    split <;> simp
structure Bu (K : Fg) (B : Hp) (n count : Nat) (tr : Tr) (us ws : List V) : Prop where
  pu : Paired (rep K B) us (tr.map Prod.fst)
  pw : Paired (rep K B) ws (tr.map Prod.snd)
  ok : TrOk n count tr
  n0 : 0 < n
theorem Bu.up {K : Fg} {B B' : Hp} {n count : Nat} {tr : Tr} {us ws : List V} (e : Same B B') (h : Bu K B n count tr us ws) : Bu K B' n count tr us ws := ⟨Paired.imp (fun _ _ r => Py.up e r) h.pu, Paired.imp (fun _ _ r => Py.up e r) h.pw, h.ok, h.n0⟩
theorem Bu.lu {K : Fg} {B : Hp} {n count : Nat} {tr : Tr} {us ws : List V} (h : Bu K B n count tr us ws) : us.length = tr.length := by rw [Paired.len h.pu, List.length_map]
theorem Bu.lw {K : Fg} {B : Hp} {n count : Nat} {tr : Tr} {us ws : List V} (h : Bu K B n count tr us ws) : ws.length = tr.length := by rw [Paired.len h.pw, List.length_map]
theorem Bu.more {K : Fg} {B : Hp} {n count n' a g : Nat} {tr : Tr} {us ws us' ws' : List V} {P : List (Nat × Nat)} {bits : List Nat} (h : Bu K B n count tr us ws) (hP : PathTo n g n' a P) (hu : Paired (rep K B) us' P) (hw : Paired (rep K B) ws' (List.replicate P.length bits)) (hb : bits.length = count) (h1 : 1 ∈ bits) :
    Bu K B n' count (tr ++ P.map fun e => (e, bits)) (us ++ us') (ws ++ ws') := by
  have e1 : (P.map fun e => (e, bits)).map Prod.fst = P := by rw [List.map_map]; exact List.map_id' P
  have e2 : (P.map fun e => (e, bits)).map Prod.snd = List.replicate P.length bits := by
    rw [List.map_map]
    show P.map (fun _ => bits) = _
    rw [List.map_const']
  refine ⟨?_, ?_, ⟨fun x hx => ?_, fun x hx => ?_, fun x hx => ?_⟩, Nat.lt_of_lt_of_le h.n0 hP.le⟩
  · rw [List.map_append, e1]; exact Paired.app h.pu hu
  · rw [List.map_append, e2]; exact Paired.app h.pw hw
  · have := hP.le
    rcases List.mem_append.mp hx with hx | hx
    · have := h.ok.lt x hx; omega
    · obtain ⟨e, he, rfl⟩ := List.mem_map.mp hx; exact hP.lt e he
  · rcases List.mem_append.mp hx with hx | hx
    · exact h.ok.bl x hx
    · obtain ⟨e, he, rfl⟩ := List.mem_map.mp hx; exact hb
  · rcases List.mem_append.mp hx with hx | hx
    · exact h.ok.b1 x hx
    · obtain ⟨e, he, rfl⟩ := List.mem_map.mp hx; exact h1
theorem par_more {tr : Tr} {P : List (Nat × Nat)} {bits : List Nat} {n n' a g j v r : Nat} (hP : PathTo n g n' a P) (hr : r < 2) (hb : bits.getD j 0 < 2) (h : dB tr j v % 2 = (r * ind (a, g) v) % 2) :
    dB (tr ++ P.map fun e => (e, bits)) j v % 2 = ((r + bits.getD j 0) % 2 * ind (a, g) v) % 2 := by
  have := hP.pr v
  rw [dB_app, dB_path]
  generalize ind (a, g) v = z at *
  generalize bits.getD j 0 = y at *
  have hy : y = 0 ∨ y = 1 := by omega
  have hr : r = 0 ∨ r = 1 := by omega
  rcases hy with rfl | rfl <;> rcases hr with rfl | rfl <;> simp at h ⊢ <;> omega
/-- what the law builds -/
structure Good (n : Nat) (qs : List (Nat × Nat)) (ss : List (List Nat)) (count : Nat) : Prop where
  n0 : 0 < n
  sn : n ≤ 1000
  sm : qs.length ≤ 1000
  lt : ∀ e ∈ qs, e.1 < n ∧ e.2 < n
  cl : ss.length = count
  nd : ∀ s ∈ ss, s.Nodup
  le : ∀ s ∈ ss, ∀ e ∈ s, e < qs.length
  ev : ∀ s ∈ ss, ∀ v, v < n → pd (s.map fun e => qs.getD e (0, 0)) v % 2 = 0
  al : ∀ e, e < qs.length → ∃ s ∈ ss, e ∈ s
def sp__law_covered (K : Fg) (C : Addr) : Sp := Sp1 K (ι := Addr × Nat × Nat) (fun i => [i.1]) (fun ⟨s, count, most⟩ B vs => vs = [.ref s, .int (count : Int), .int (most : Int)] ∧ 0 < count ∧ count ≤ 10 ∧ most ≤ 20)
  fun ⟨s, count, most⟩ v B => ∃ (n : Nat) (qs : List (Nat × Nat)) (ss : List (List Nat)), rep K B v (Tri.mk n qs ss) ∧ Good n qs ss count
abbrev N__law_covered : List Str := ["state", "count", "most", "built", "turn", "start", "goal", "rest", "k", "bits", "names", "pairs", "order", "place", "one", "other", "sets", "j", "edge", "row"]
def t__law_covered (K : Fg) (C : Addr) : TS :=
  (tSeq (tAsg (tLst (tCons (tOp rAddI (tC (.int 1)) (tCall (sp__law_next K C) [] E0 (tCons (tVar 0) (tCons (tC (.int 2)) tNil)))) (tCons (tLst tNil) (tCons (tLst tNil) tNil)))) (gName 3))
  (tSeq (tFor (iRng1 (tCons (tCall (sp__law_next K C) [] E0 (tCons (tVar 0) (tCons (tOp rAddI (tVar 2) (tC (.int 1))) tNil))) tNil)) (gName 4) (tSeq (tAsg (tCall (sp__law_next K C) [] E0 (tCons (tVar 0) (tCons (tOp (rIxL K) (tVar 3) (tC (.int 0))) tNil))) (gName 5))
  (tSeq (tAsg (tCall (sp__law_next K C) [] E0 (tCons (tVar 0) (tCons (tOp (rIxL K) (tVar 3) (tC (.int 0))) tNil))) (gName 6))
  (tSeq (tAsg (tLc (iRng1 (tCons (tVar 1) tNil)) (gName 17) tYes (tC (.int 0)) [17]) (gName 7))
  (tSeq (tFor (iRng1 (tCons (tOp rAddI (tC (.int 1)) (tCall (sp__law_next K C) [] E0 (tCons (tVar 0) (tCons (tC (.int 3)) tNil)))) tNil)) (gName 8) (tSeq (tAsg (tLc (iRng1 (tCons (tVar 1) tNil)) (gName 17) tYes (tCall (sp__law_next K C) [] E0 (tCons (tVar 0) (tCons (tC (.int 2)) tNil))) [17]) (gName 9))
  (tSeq (tIfS (tTest (tOp (rIn K true) (tC (.int 1)) (tVar 9))) (tAsg (tC (.int 1)) (gSub (tVar 9) (tCall (sp__law_next K C) [] E0 (tCons (tVar 0) (tCons (tVar 1) tNil))) rSetL)) tNext)
  (tSeq (tDrop (tCall (sp__law_add_path K C) [] E0 (tCons (tVar 0) (tCons (tVar 3) (tCons (tVar 5) (tCons (tVar 6) (tCons (tVar 9) tNil)))))))
  (tAsg (tLc (iRng1 (tCons (tVar 1) tNil)) (gName 17) tYes (tOp rModI (tCB rInt (tCons (tOp rAddI (tOp (rIxL K) (tVar 7) (tVar 17)) (tOp (rIxL K) (tVar 9) (tVar 17))) tNil)) (tC (.int 2))) [17]) (gName 7))))))
  (tIfS (tTest (tOp (rIn K false) (tC (.int 1)) (tVar 7))) (tDrop (tCall (sp__law_add_path K C) [] E0 (tCons (tVar 0) (tCons (tVar 3) (tCons (tVar 5) (tCons (tVar 6) (tCons (tVar 7) tNil))))))) tNext))))))
  (tSeq (tAsg (tCall (sp__law_shuffled K C) [] E0 (tCons (tVar 0) (tCons (tOp (rIxL K) (tVar 3) (tC (.int 0))) tNil))) (gName 10))
  (tSeq (tAsg (tLst tNil) (gName 11))
  (tSeq (tAsg (tCall (sp__law_shuffled K C) [] E0 (tCons (tVar 0) (tCons (tCB (rLenQ K) (tCons (tOp (rIxL K) (tVar 3) (tC (.int 1))) tNil)) tNil))) (gName 12))
  (tSeq (tFor (iList K (tVar 12)) (gName 13) (tSeq (tAsg (tOp (rIxL K) (tVar 10) (tOp (rIxT K) (tOp (rIxL K) (tOp (rIxL K) (tVar 3) (tC (.int 1))) (tVar 13)) (tC (.int 0)))) (gName 14))
  (tSeq (tAsg (tOp (rIxL K) (tVar 10) (tOp (rIxT K) (tOp (rIxL K) (tOp (rIxL K) (tVar 3) (tC (.int 1))) (tVar 13)) (tC (.int 1)))) (gName 15))
  (tDrop (tBM K "list" rAppend (tVar 11) (tCons (tIf (tTest (tOp rEq (tCall (sp__law_next K C) [] E0 (tCons (tVar 0) (tCons (tC (.int 2)) tNil))) (tC (.int 0)))) (tTup (tCons (tVar 14) (tCons (tVar 15) tNil))) (tTup (tCons (tVar 15) (tCons (tVar 14) tNil)))) tNil))))))
  (tSeq (tAsg (tLc (iRng1 (tCons (tVar 1) tNil)) (gName 17) tYes (tLc (iRng1 (tCons (tCB (rLenQ K) (tCons (tVar 12) tNil)) tNil)) (gName 18) (tTest (tOp rEq (tOp (rIxL K) (tOp (rIxL K) (tOp (rIxL K) (tVar 3) (tC (.int 2))) (tOp (rIxL K) (tVar 12) (tVar 18))) (tVar 17)) (tC (.int 1)))) (tVar 18) [18]) [17]) (gName 16))
  (tRet (tLst (tCons (tOp (rIxL K) (tVar 3) (tC (.int 0))) (tCons (tVar 11) (tCons (tLc (iList K (tVar 16)) (gName 19) tYes (tIf (tTest (tOp rEq (tCall (sp__law_next K C) [] E0 (tCons (tVar 0) (tCons (tC (.int 2)) tNil))) (tC (.int 0)))) (tVar 19) (tRevL K (tVar 19))) [19]) tNil))))))))))))
theorem getD_lt2 {xs : List Nat} (h : ∀ b ∈ xs, b < 2) (j : Nat) : xs.getD j 0 < 2 := by
  rw [List.getD_eq_getElem?_getD]
  cases e : xs[j]? with
  | none => decide
  | some b => exact h b (List.mem_of_getElem? e)
/-! ### the maths of the covered graph -/
theorem pd_filter (p : Nat → Bool) (f : Nat → Nat × Nat) (v : Nat) : ∀ l : List Nat, pd ((l.filter p).map f) v = (l.map fun e => if p e = true then ind (f e) v else 0).sum
  | [] => rfl
  | e :: l => by
    have ih := pd_filter p f v l
    rw [List.filter_cons, List.map_cons, List.sum_cons, ← ih]
    by_cases h : p e = true
    · simp [h, pd]
    · simp [h]
theorem perm_at {xs : List Nat} {n : Nat} (h : List.Perm xs (List.range n)) : xs.length = n ∧ xs.Nodup ∧ (∀ i, i < n → xs.getD i 0 < n) ∧ ∀ v, v < n → ∃ u, u < n ∧ xs.getD u 0 = v := by
  have hl : xs.length = n := by rw [h.length_eq, List.length_range]
  refine ⟨hl, h.nodup_iff.mpr List.nodup_range, fun i hi => ?_, fun v hv => ?_⟩
  · rw [List.getD_eq_getElem?_getD, List.getElem?_eq_getElem (by omega)]
    exact List.mem_range.mp (h.mem_iff.mp (List.getElem_mem (by omega)))
  · obtain ⟨u, hu, e⟩ := List.mem_iff_getElem.mp (h.mem_iff.mpr (List.mem_range.mpr hv))
    exact ⟨u, by omega, by rw [List.getD_eq_getElem?_getD, List.getElem?_eq_getElem hu]; exact e⟩
theorem perm_inj {xs : List Nat} {n a b : Nat} (h : List.Perm xs (List.range n)) (ha : a < n) (hb : b < n) : xs.getD a 0 = xs.getD b 0 ↔ a = b := by
  obtain ⟨hl, hn, _⟩ := perm_at h
  rw [List.getD_eq_getElem?_getD, List.getElem?_eq_getElem (by omega), List.getD_eq_getElem?_getD, List.getElem?_eq_getElem (by omega)]
  exact List.getElem_inj hn
theorem ind_names {xs : List Nat} {n a b u : Nat} (h : List.Perm xs (List.range n)) (ha : a < n) (hb : b < n) (hu : u < n) : ind (xs.getD a 0, xs.getD b 0) (xs.getD u 0) = ind (a, b) u := by
  simp only [ind, perm_inj h ha hu, perm_inj h hb hu]
abbrev tr0 : (Nat × Nat) × List Nat := ((0, 0), [])
def setJ (tr : Tr) (order : List Nat) (j : Nat) : List Nat := (List.range tr.length).filter fun e => (tr.getD (order.getD e 0) tr0).2.getD j 0 == 1
structure QOk (n : Nat) (tr : Tr) (names order : List Nat) (k : Nat) (qs : List (Nat × Nat)) : Prop where
  len : qs.length = k
  lt : ∀ e ∈ qs, e.1 < n ∧ e.2 < n
  ind : ∀ i, i < k → ∀ v, ind (qs.getD i (0, 0)) v = ind (names.getD (tr.getD (order.getD i 0) tr0).1.1 0, names.getD (tr.getD (order.getD i 0) tr0).1.2 0) v
theorem QOk.more {n k : Nat} {tr : Tr} {names order : List Nat} {qs : List (Nat × Nat)} {q : Nat × Nat} (h : QOk n tr names order k qs) (hq : q.1 < n ∧ q.2 < n) (hi : ∀ v, Nz.ind q v = Nz.ind (names.getD (tr.getD (order.getD k 0) tr0).1.1 0, names.getD (tr.getD (order.getD k 0) tr0).1.2 0) v) : QOk n tr names order (k + 1) (qs ++ [q]) := by
  refine ⟨by rw [List.length_append, h.len]; rfl, fun e he => ?_, fun i hik v => ?_⟩
  · rcases List.mem_append.mp he with he | he
    · exact h.lt e he
    · rw [List.mem_singleton.mp he]; exact hq
  · have hl := h.len
    by_cases e : i = k
    · subst e
      rw [List.getD_eq_getElem?_getD, List.getElem?_append_right (by omega), hl, Nat.sub_self]
      exact hi v
    · rw [List.getD_eq_getElem?_getD, List.getElem?_append_left (by omega), ← List.getD_eq_getElem?_getD]
      exact h.ind i (by omega) v
theorem tr_at {tr : Tr} {i : Nat} (h : i < tr.length) : tr.getD i tr0 ∈ tr := by
  rw [List.getD_eq_getElem?_getD, List.getElem?_eq_getElem h]
  exact List.getElem_mem _
theorem setJ_even {n count : Nat} {tr : Tr} {names order : List Nat} {qs : List (Nat × Nat)} (ok : TrOk n count tr) (hd : ∀ j v, j < count → dB tr j v % 2 = 0) (hn : List.Perm names (List.range n)) (ho : List.Perm order (List.range tr.length)) (hq : QOk n tr names order tr.length qs)
    {j v : Nat} (hj : j < count) (hv : v < n) : pd ((setJ tr order j).map fun e => qs.getD e (0, 0)) v % 2 = 0 := by
  obtain ⟨hl, _, hlt, _⟩ := perm_at ho
  obtain ⟨_, _, _, hs⟩ := perm_at hn
  obtain ⟨u, hu, rfl⟩ := hs v hv
  unfold setJ
  rw [pd_filter]
  have e1 : ((List.range tr.length).map fun e => if ((tr.getD (order.getD e 0) tr0).2.getD j 0 == 1) = true then ind (qs.getD e (0, 0)) (names.getD u 0) else 0) = (List.range order.length).map fun e => (fun i => if (tr.getD i tr0).2.getD j 0 = 1 then ind (tr.getD i tr0).1 u else 0) (order.getD e 0) := by
    rw [hl]
    refine List.map_congr_left fun e he => ?_
    have he := List.mem_range.mp he
    have hm := ok.lt _ (tr_at (hlt e he))
    rw [hq.ind e he, ind_names hn hm.1 hm.2 hu]
    simp
  rw [e1]
  have e2 := fL_getD order 0 (fun i => if (tr.getD i tr0).2.getD j 0 = 1 then ind (tr.getD i tr0).1 u else 0)
  unfold fL at e2
  rw [e2, (ho.map _).sum_nat]
  have e3 := fL_getD tr tr0 (fun x => if x.2.getD j 0 = 1 then ind x.1 u else 0)
  unfold fL at e3
  rw [e3]
  exact hd j u hj
theorem good_of {n count : Nat} {tr : Tr} {names order : List Nat} {qs : List (Nat × Nat)} {ss : List (List Nat)} (n0 : 0 < n) (sn : n ≤ 1000) (sm : tr.length ≤ 1000) (ok : TrOk n count tr) (hd : ∀ j v, j < count → dB tr j v % 2 = 0) (hn : List.Perm names (List.range n)) (ho : List.Perm order (List.range tr.length)) (hq : QOk n tr names order tr.length qs)
    (hl : ss.length = count) (hs : ∀ j s, ss[j]? = some s → s = setJ tr order j ∨ s = (setJ tr order j).reverse) : Good n qs ss count := by
  have key : ∀ s ∈ ss, ∃ j, j < count ∧ List.Perm s (setJ tr order j) := fun s h => by
    obtain ⟨j, hj⟩ := List.getElem?_of_mem h
    refine ⟨j, by have := getD_at hj; omega, ?_⟩
    rcases hs j s hj with e | e
    · rw [e]
    · rw [e]; exact List.reverse_perm _
  have nd : ∀ j, (setJ tr order j).Nodup := fun j => (List.nodup_range (n := tr.length)).sublist List.filter_sublist
  have hql := hq.len
  refine ⟨n0, sn, by omega, hq.lt, hl, fun s h => ?_, fun s h e he => ?_, fun s h v hv => ?_, fun e he => ?_⟩
  · obtain ⟨j, _, p⟩ := key s h
    exact p.nodup_iff.mpr (nd j)
  · obtain ⟨j, _, p⟩ := key s h
    have := List.mem_range.mp (List.mem_filter.mp (p.mem_iff.mp he)).1
    omega
  · obtain ⟨j, hj, p⟩ := key s h
    have e1 : pd (s.map fun e => qs.getD e (0, 0)) v = pd ((setJ tr order j).map fun e => qs.getD e (0, 0)) v := by
      unfold pd
      exact ((p.map _).map _).sum_nat
    rw [e1]
    exact setJ_even ok hd hn ho hq hj hv
  · rw [hql] at he
    obtain ⟨hol, _, hlt, _⟩ := perm_at ho
    have hm := tr_at (hlt e he)
    obtain ⟨j, hj, hj1⟩ := List.mem_iff_getElem.mp (ok.b1 _ hm)
    have hb := ok.bl _ hm
    obtain ⟨s, hs'⟩ : ∃ s, ss[j]? = some s := ⟨ss[j], List.getElem?_eq_getElem (by omega)⟩
    refine ⟨s, List.mem_of_getElem? hs', ?_⟩
    have hin : e ∈ setJ tr order j := by
      refine List.mem_filter.mpr ⟨List.mem_range.mpr he, ?_⟩
      rw [List.getD_eq_getElem?_getD (i := j), List.getElem?_eq_getElem hj, Option.getD_some, hj1]
      rfl
    rcases hs j s hs' with h | h
    · rw [h]; exact hin
    · rw [h]; exact List.mem_reverse.mpr hin
theorem pure__law_covered {K : Fg} {C : Addr} (vs : List V) (H : Hp) (Q : VK) (E : XK) : sp__law_covered K C vs H Q E → t__law_covered K C { nx := fun _ H' => Q .non H', rt := Q } (start N__law_covered vs) H := by
  refine body1 ?_ vs H Q E
  rintro ⟨s, count, most⟩ B H _ ⟨rfl, hc0, hc, hm⟩
  have hs := sizeLine_eq
  have p2 : ∀ (x y z : Addr × HO), List.Perm [y, z, x] [x, y, z] := fun x y z => ((List.Perm.swap x z []).cons y).trans (List.Perm.swap x y [z])
  refine sr_three (R := fun z _ => ∃ r : Nat, r < 2 ∧ z = .int ((1 + r : Nat) : Int)) (ev_addN ev_c (ev_next (m := 2) (ev_v rfl) ev_c (by decide) (by simp))) fun z pb pp ps B1 e1 ⟨r0, hr0, ez⟩ h1 h2 h3 => ?_
  subst ez
  refine sr_perm (p2 _ _ _) ?_
  refine sr_forX (ex_range1 (Rn := fun r => r ≤ most) (EvR.imp (ev_next (m := most + 1) (ev_v rfl) (ev_is (ev_I0 (i := (most : Nat)) (ev_v rfl) ev_c) (by rw [Int.natCast_add]; rfl)) (by omega) (by simp)) fun v _ _ ⟨r, hr, ev⟩ => ⟨r, by omega, by omega, ev⟩)) fun T B2 wi hT e2 hwi => ?_
  refine sr_forN (fun k σ B' L => ∃ (n : Nat) (tr : Tr) (us ws : List V) (x4 x5 x6 x7 x8 x9 : Option V), σ = [some (.ref s), some (.int count), some (.int most), some (.ref pb), x4, x5, x6, x7, x8, x9, none, none, none, none, none, none, none, none, none, none] ∧ L = [(ps, .lst ws), (pp, .lst us), (pb, .lst [.int (n : Int), .ref pp, .ref ps])] ∧ Bu K B' n count tr us ws ∧ n ≤ 2 + 8 * k ∧ tr.length ≤ 12 * k ∧ ∀ j v, j < count → dB tr j v % 2 = 0) hwi (fun B' e => ⟨1 + r0, [], [], [], none, none, none, none, none, none, rfl, rfl, ⟨.nil, .nil, ⟨by simp, by simp, by simp⟩, by omega⟩, by omega, by simp, fun j v _ => rfl⟩) ?_ ?_
  · rintro k x σ' B3 B' L' hk e3 ⟨n, tr, us, ws, x4, x5, x6, x7, x8, x9, rfl, rfl, bu, hn, ht, hd⟩ e4 ex
    subst ex
    have bu := bu.up e4
    -- start, goal
    refine sr_set (ev_next (m := n) (ev_v rfl) (ev_ixO (p := pb) (i := 0) (v := .int (n : Int)) (List.mem_cons_of_mem _ (List.mem_cons_of_mem _ List.mem_cons_self)) (ev_v rfl) ev_c (by decide) rfl) bu.n0 (by simp)) fun av B5 e5 ⟨a, ha, ea⟩ => ?_
    subst ea
    refine sr_set (ev_next (m := n) (ev_v rfl) (ev_ixO (p := pb) (i := 0) (v := .int (n : Int)) (List.mem_cons_of_mem _ (List.mem_cons_of_mem _ List.mem_cons_self)) (ev_v rfl) ev_c (by decide) rfl) bu.n0 (by simp)) fun gv B6 e6 ⟨g, hg, eg⟩ => ?_
    subst eg
    refine sr_set (ev_of (el_map (β := Nat) (fun _ => 0) (ei_rangeN (k := count) (ev_v rfl)) (by omega) fun k x B' hk e hx => ⟨_, tg_name, fun σ' eσ => by subst eσ; exact ⟨rfl, ev_c⟩⟩)) fun rv B7 e7 r7 => ?_
    have bu7 := bu.up (e5.trans (e6.trans e7))
    refine sr_forX (ex_range1 (Rn := fun r => r ≤ 3) (EvR.imp (ev_addN (a := 1) ev_c (ev_next (m := 3) (ev_v rfl) ev_c (by decide) (by simp))) fun v _ _ ⟨r, hr, ev⟩ => ⟨1 + r, by omega, by omega, ev⟩)) fun T2 B8 wi2 hT2 e8 hwi2 => ?_
    refine sr_forN (fun kk σ B' L => ∃ (n : Nat) (tr : Tr) (us ws : List V) (rest : List Nat) (rv : V) (x8 x9 : Option V), σ = [some (.ref s), some (.int count), some (.int most), some (.ref pb), some (.int k), some (.int a), some (.int g), some rv, x8, x9, none, none, none, none, none, none, none, none, none, none] ∧ L = [(ps, .lst ws), (pp, .lst us), (pb, .lst [.int (n : Int), .ref pp, .ref ps])] ∧ Bu K B' n count tr us ws ∧ n ≤ 2 + 8 * k + 2 * kk ∧ tr.length ≤ 12 * k + 3 * kk ∧ a < n ∧ g < n ∧ rep K B' rv rest ∧ rest.length = count ∧ (∀ b ∈ rest, b < 2) ∧ ∀ j v, j < count → dB tr j v % 2 = (rest.getD j 0 * ind (a, g) v) % 2) hwi2 (fun B' e => ⟨n, tr, us, ws, _, rv, x8, x9, rfl, rfl, bu7.up (e8.trans e), by omega, by omega, ha, hg, Py.up (e8.trans e) r7, by simp, by simp, fun j v hj => ?_⟩) ?_ ?_
    · rw [hd j v hj]
      have : (List.map (fun x => 0) (List.range count)).getD j 0 = 0 := by
        rw [List.getD_eq_getElem?_getD]; simp [hj]
      rw [this]; simp
    · rintro kk x σ' B9 B' L' hkk e9 ⟨n, tr, us, ws, rest, rv, x8, x9, rfl, rfl, bu, hn, ht, ha, hg, rr, rl, r2, hd⟩ e10 ex
      subst ex
      have bu := bu.up e10
      have rr : rep K B' rv rest := Py.up e10 rr
      have hk : k < most := by omega
      have hkk3 : kk < 3 := by omega
      -- bits
      refine sr_setN (el_some (β := Nat) (fun _ z => z < 2) (ei_rangeN (k := count) (ev_v rfl)) (by omega) fun k x B' hk e hx => ⟨_, tg_name, fun σ' eσ => by subst eσ; exact ⟨rfl, EvR.imp (ev_next (m := 2) (ev_v rfl) ev_c (by decide) (by simp)) fun v _ _ ⟨r, hr, ev⟩ => ⟨r, hr, ev⟩⟩⟩) fun p o B11 e11 hp ⟨zs, hz, hz2, us1, eo, hv⟩ => ?_
      subst eo
      have hv := paired_nats hv
      subst hv
      refine sr_cut (fun σ' B' L' => ∃ zs : List Nat, zs.length = count ∧ (∀ b ∈ zs, b < 2) ∧ 1 ∈ zs ∧ σ' = [some (.ref s), some (.int count), some (.int most), some (.ref pb), some (.int k), some (.int a), some (.int g), some rv, some (.int kk), some (.ref p), none, none, none, none, none, none, none, none, none, none] ∧ L' = [(p, .lst (zs.map fun n : Nat => V.int (n : Int))), (ps, .lst ws), (pp, .lst us), (pb, .lst [.int (n : Int), .ref pp, .ref ps])]) (sr_ifB (et_test (ev_notinO (x := 1) (xs := zs) List.mem_cons_self rfl ev_c (ev_v rfl))) (fun hc1 B12 e12 => sr_putR1 (R := fun v _ => v = .int ((1 : Nat) : Int)) ev_c (ev_v rfl) (EvR.imp (ev_next (m := count) (ev_v rfl) (ev_v rfl) hc0 (by simp)) fun v _ _ ⟨r, hr, ev⟩ => ⟨r, by rw [List.length_map]; omega, ev⟩) fun j v B' B'' hj _ ev _ => ⟨zs.set j 1, by rw [List.length_set, hz], fun b hb => ?_, ?_, rfl, ?_⟩) fun hc1 B12 e12 => sr_next ⟨zs, hz, fun b hb => ?_, ?_, rfl, rfl⟩) ?_
      · rcases List.mem_or_eq_of_mem_set hb with h | h
        · obtain ⟨i, hi⟩ := List.getElem?_of_mem h
          exact hz2 i b hi
        · omega
      · rw [List.length_map] at hj
        exact List.mem_set hj 1
      · subst ev
        rw [List.map_set]
      · obtain ⟨i, hi⟩ := List.getElem?_of_mem hb
        exact hz2 i b hi
      · have := of_decide_eq_true (p := 1 ∈ zs) (by simpa using hc1)
        exact this
      clear hz hz2
      rintro σ' B12 L' e12 ⟨zs, hz, hz2, h1z, rfl, rfl⟩
      refine sr_freeze hp fun hB => ?_
      have e13 := Same.up1 (o := HO.lst (zs.map fun n : Nat => V.int (n : Int))) hB
      have rz : rep K (upd B12 p (.lst (zs.map fun n : Nat => V.int (n : Int)))) (.ref p) zs := rep_frozen (c := ⟨K, [], [], B, B⟩) hB (pnL zs)
      generalize upd B12 p (.lst (zs.map fun n : Nat => V.int (n : Int))) = B13 at e13 rz
      have bu13 := bu.up (e11.trans (e12.trans e13))
      refine sr_seq (sr_dropS1 (Lf := ApI.L) (L0 := []) ⟨s, ps, pp, pb, n, us, ws, a, g, zs⟩ (ea_cons (ev_v rfl) fun x B1 e1 r1 => ea_cons (ev_v rfl) fun x B2 e2 r2 => ea_cons (ev_v rfl) fun x B3 e3 r3 => ea_cons (ev_v rfl) fun x B4 e4 r4 => ea_cons (ev_var (x := zs) rfl (Py.up (e1.trans (e2.trans (e3.trans e4))) rz)) fun x B5 e5 r5 => ea_nil fun B6 e6 => ⟨x, by rw [r1, r2, r3, r4], Py.up e6 r5, ha, hg, by rw [bu.lu]; omega, by rw [bu.lw]; omega⟩) (by simp) fun v L' B14 e14 hm' ⟨n', P, us', ws', hP, hn', hPl, hL, pu, pw⟩ => ?_)
      subst hL
      have bu14 := (bu13.up e14).more hP pu pw hz h1z
      have rr14 : rep K B14 rv rest := Py.up (e11.trans (e12.trans (e13.trans e14))) rr
      refine sr_set1 (ev_of (el_map (β := Nat) (fun j => (rest.getD j 0 + zs.getD j 0) % 2) (ei_rangeN (k := count) (ev_v rfl)) (by omega) fun j x B' hj e hx => ⟨_, tg_name, fun σ' eσ => ?_⟩)) fun rv2 B15 e15 r15 => ?_
      · subst eσ
        subst hx
        refine ⟨rfl, ev_is (ev_I (ev_int (ev_I0 (i := (rest.getD j 0 : Nat)) (j := (zs.getD j 0 : Nat)) (ev_ixN (xs := rest) (i := j) (x := rest.getD j 0) (ev_var rfl (Py.up e rr14)) (ev_v rfl) ?_) (ev_ixN (xs := zs) (i := j) (x := zs.getD j 0) (ev_var rfl (Py.up (e14.trans e) rz)) (ev_v rfl) ?_))) ev_c (by decide)) ?_⟩
        · rw [List.getD_eq_getElem?_getD, List.getElem?_eq_getElem (by omega)]; rfl
        · rw [List.getD_eq_getElem?_getD, List.getElem?_eq_getElem (by omega)]; rfl
        · rw [Int.natCast_emod, Int.natCast_add]; rfl
      · have hP1 := hP.le
        dsimp only at hP1 hn'
        refine ⟨n', _, _, _, _, rv2, _, _, rfl, rfl, bu14.up e15, by omega, by rw [List.length_append, List.length_map]; omega, by omega, by omega, r15, by simp, fun b hb => ?_, fun j v hj => ?_⟩
        · obtain ⟨j, _, rfl⟩ := List.mem_map.mp hb
          omega
        · have e6 : (List.map (fun j => (rest.getD j 0 + zs.getD j 0) % 2) (List.range count)).getD j 0 = (rest.getD j 0 + zs.getD j 0) % 2 := by
            rw [List.getD_eq_getElem?_getD]; simp [hj]
          rw [e6]
          exact par_more hP (getD_lt2 r2 j) (getD_lt2 hz2 j) (hd j v hj)
    · rintro σ' B9 L' e9 ⟨n, tr, us, ws, rest, rv, x8, x9, rfl, rfl, bu, hn, ht, ha, hg, rr, rl, r2, hd⟩
      have hk : k < most := by omega
      refine sr_ifB (et_test (ev_in (x := 1) (xs := rest) ev_c (ev_var rfl rr))) (fun hc1 B10 e10 => ?_) fun hc1 B10 e10 => sr_next ⟨n, tr, us, ws, _, _, _, _, _, _, rfl, rfl, bu.up e10, by omega, by omega, fun j v hj => ?_⟩
      · have h1r : 1 ∈ rest := of_decide_eq_true hc1
        have bu10 := bu.up e10
        refine sr_dropS1 (Lf := ApI.L) (L0 := []) ⟨s, ps, pp, pb, n, us, ws, a, g, rest⟩ (ea_cons (ev_v rfl) fun x B1 e1 r1 => ea_cons (ev_v rfl) fun x B2 e2 r2 => ea_cons (ev_v rfl) fun x B3 e3 r3 => ea_cons (ev_v rfl) fun x B4 e4 r4 => ea_cons (ev_var (x := rest) rfl (Py.up (e10.trans (e1.trans (e2.trans (e3.trans e4)))) rr)) fun x B5 e5 r5 => ea_nil fun B6 e6 => ⟨x, by rw [r1, r2, r3, r4], Py.up e6 r5, ha, hg, by rw [bu.lu]; omega, by rw [bu.lw]; omega⟩) (by simp) fun v L' B14 e14 hm' ⟨n', P, us', ws', hP, hn', hPl, hL, pu, pw⟩ => ?_
        subst hL
        have bu14 := (bu10.up e14).more hP pu pw rl h1r
        have hP1 := hP.le
        dsimp only at hP1 hn'
        refine ⟨n', _, _, _, _, _, _, _, _, _, rfl, rfl, bu14, by omega, by rw [List.length_append, List.length_map]; omega, fun j v hj => ?_⟩
        rw [par_more hP (getD_lt2 r2 j) (getD_lt2 r2 j) (hd j v hj)]
        have e7 : (rest.getD j 0 + rest.getD j 0) % 2 = 0 := by omega
        rw [e7]; simp
      · have h1r : 1 ∉ rest := of_decide_eq_false hc1
        have h0 : rest.getD j 0 = 0 := by
          have h2 := getD_lt2 r2 j
          have h3 : rest.getD j 0 ≠ 1 := fun z => by
            rw [List.getD_eq_getElem?_getD, List.getElem?_eq_getElem (by omega)] at z
            have z : rest[j] = 1 := z
            exact h1r (z ▸ List.getElem_mem _)
          omega
        rw [hd j v hj, h0]; simp
  · rintro σ' B3 L' e3 ⟨n, tr, us, ws, x4, x5, x6, x7, x8, x9, rfl, rfl, bu, hn, ht, hd⟩
    have hT2 : T ≤ 20 := by omega
    have hn2 : n ≤ 162 := by omega
    have ht2 : tr.length ≤ 240 := by omega
    refine sr_set (ev_call (s, n) (ea_cons (ev_v rfl) fun x B1 e1 r1 => ea_cons (ev_ixO (p := pb) (i := 0) (v := .int (n : Int)) (List.mem_cons_of_mem _ (List.mem_cons_of_mem _ List.mem_cons_self)) (ev_v rfl) ev_c (by decide) rfl) fun y B2 e2 r2 => ea_nil fun B3 e3 => ⟨by rw [r1, r2], by omega⟩) (by simp)) fun nv B4 e4 ⟨names, hnm, rn⟩ => ?_
    refine sr_setN (el_nil (α := Nat × Nat)) fun p o B5 e5 hp ⟨us5, eo, hu5⟩ => ?_
    subst eo
    cases hu5
    have bu5 := bu.up (e4.trans e5)
    refine sr_set (ev_call (s, tr.length) (ea_cons (ev_v rfl) fun x B1 e1 r1 => ea_cons (ev_lenO (p := pp) (vs := us) (List.mem_cons_of_mem _ (List.mem_cons_of_mem _ List.mem_cons_self)) (ev_ixO (p := pb) (i := 1) (v := .ref pp) (List.mem_cons_of_mem _ (List.mem_cons_of_mem _ (List.mem_cons_of_mem _ List.mem_cons_self))) (ev_v rfl) ev_c (by decide) rfl)) fun y B2 e2 r2 => ea_nil fun B3 e3 => ⟨by rw [r1, r2, bu.lu], by omega⟩) (by simp)) fun ov B6 e6 ⟨order, hom, ro⟩ => ?_
    have bu6 := bu5.up e6
    obtain ⟨hol, _, holt, _⟩ := perm_at hom
    obtain ⟨hnl, _, hnlt, _⟩ := perm_at hnm
    have rn6 : rep K B6 nv names := Py.up (e5.trans e6) rn
    refine sr_forN (fun k σ B' L => ∃ (vs : List V) (qs : List (Nat × Nat)) (x13 x14 x15 : Option V), σ = [some (.ref s), some (.int count), some (.int most), some (.ref pb), x4, x5, x6, x7, x8, x9, some nv, some (.ref p), some ov, x13, x14, x15, none, none, none, none] ∧ L = [(p, .lst vs), (ps, .lst ws), (pp, .lst us), (pb, .lst [.int (n : Int), .ref pp, .ref ps])] ∧ Paired (rep K B') vs qs ∧ QOk n tr names order k qs) (ei_list (xs := order) (ev_var rfl ro)) (fun B' e => ⟨[], [], none, none, none, rfl, rfl, .nil, ⟨rfl, by simp, by omega⟩⟩) ?_ ?_
    · rintro k x σ' B7 B' L' hk e7 ⟨vs, qs, x13, x14, x15, rfl, rfl, pq, hq⟩ e8 ⟨pl, hpl, rpl⟩
      cases rpl
      have bu8 := bu6.up (e7.trans e8)
      have rn8 : rep K B' nv names := Py.up (e7.trans e8) rn6
      have epl : order.getD k 0 = pl := by rw [List.getD_eq_getElem?_getD, hpl]; rfl
      have hplt : pl < tr.length := by rw [← epl]; exact holt k (by omega)
      have htr : (tr.map Prod.fst)[pl]? = some (tr.getD pl tr0).1 := by rw [List.getElem?_map, List.getD_eq_getElem?_getD, List.getElem?_eq_getElem hplt]; rfl
      have hok := bu8.ok.lt _ (tr_at hplt)
      obtain ⟨w, hw, rw'⟩ := Paired.at bu8.pu htr
      generalize hab : (tr.getD pl tr0).1 = ab at rw' hok htr
      obtain ⟨a, b⟩ := ab
      dsimp only at hok
      have nat : ∀ i, i < n → names[i]? = some (names.getD i 0) := fun i hi => by rw [List.getD_eq_getElem?_getD, List.getElem?_eq_getElem (by omega)]; rfl
      have mpb : (pb, HO.lst [.int (n : Int), .ref pp, .ref ps]) ∈ [(p, HO.lst vs), (ps, .lst ws), (pp, .lst us), (pb, .lst [.int (n : Int), .ref pp, .ref ps])] := List.mem_cons_of_mem _ (List.mem_cons_of_mem _ (List.mem_cons_of_mem _ List.mem_cons_self))
      have mpp : (pp, HO.lst us) ∈ [(p, HO.lst vs), (ps, .lst ws), (pp, .lst us), (pb, .lst [.int (n : Int), .ref pp, .ref ps])] := List.mem_cons_of_mem _ (List.mem_cons_of_mem _ List.mem_cons_self)
      refine sr_set (ev_ixN (xs := names) (i := a) (x := names.getD a 0) (ev_var rfl rn8) (ev_ixT1 (x := a) (y := b) (ev_isR (ev_ixO (p := pp) (i := (pl : Nat)) mpp (ev_ixO (p := pb) (i := 1) (v := .ref pp) mpb (ev_v rfl) ev_c (by decide) rfl) (ev_v rfl) (by omega) (by rw [Int.toNat_natCast]; exact hw)) rw') ev_c) (nat a hok.1)) fun v9 B9 e9 r9 => ?_
      refine sr_set (ev_ixN (xs := names) (i := b) (x := names.getD b 0) (ev_var rfl (Py.up e9 rn8)) (ev_ixT2 (x := a) (y := b) (ev_isR (ev_ixO (p := pp) (i := (pl : Nat)) mpp (ev_ixO (p := pb) (i := 1) (v := .ref pp) mpb (ev_v rfl) ev_c (by decide) rfl) (ev_v rfl) (by omega) (by rw [Int.toNat_natCast]; exact hw)) (Py.up e9 rw')) ev_c) (nat b hok.2)) fun v10 B10 e10 r10 => ?_
      have r9 : v9 = .int (names.getD a 0 : Nat) := r9
      have r10 : v10 = .int (names.getD b 0 : Nat) := r10
      have hvl := Paired.len pq
      have hql := hq.len
      have na := hnlt a hok.1
      have nb := hnlt b hok.2
      refine sr_app1 (R := fun v B' => ∃ q : Nat × Nat, rep K B' v q ∧ (q.1 < n ∧ q.2 < n) ∧ ∀ u, ind q u = ind (names.getD a 0, names.getD b 0) u) (ev_v rfl) (ev_if (Rb := fun _ => True) (et_coin (ev_next (m := 2) (ev_v rfl) ev_c (by decide) (by simp))) (fun _ => EvR.imp (ev_pair (x := names.getD a 0) (y := names.getD b 0) (ev_v (by rw [r9]; rfl)) (ev_v (by rw [r10]; rfl))) fun v B' _ r => ⟨_, r, ⟨na, nb⟩, fun u => rfl⟩) fun _ => EvR.imp (ev_pair (x := names.getD b 0) (y := names.getD a 0) (ev_v (by rw [r10]; rfl)) (ev_v (by rw [r9]; rfl))) fun v B' _ r => ⟨_, r, ⟨nb, na⟩, fun u => ind_comm _ _ u⟩) (by omega) fun v11 B11 e11 ⟨q, rq, hq1, hq2⟩ => ⟨_, qs ++ [q], _, _, _, rfl, rfl, ?_, hq.more hq1 fun v => ?_⟩
      · exact Paired.app (Paired.imp (fun _ _ r => Py.up (e8.trans (e9.trans (e10.trans e11))) r) pq) (.cons rq .nil)
      · rw [epl, hab]
        exact hq2 v
    · rintro σ' B7 L' e7 ⟨vs, qs, x13, x14, x15, rfl, rfl, pq, hq⟩
      rw [hol] at hq
      have bu7 := bu6.up e7
      have ro7 : rep K B7 ov order := Py.up e7 ro
      refine sr_set (ev_of (el_map (β := List Nat) (fun j => setJ tr order j) (ei_rangeN (k := count) (ev_v rfl)) (by omega) fun j x B' hj e8 hx => ⟨_, tg_name, fun σ' eσ => ?_⟩)) fun sv B8 e8 r8 => ?_
      · subst eσ
        subst hx
        refine ⟨rfl, ev_isP (ev_of (el_filter (β := Nat) (fun e => (tr.getD (order.getD e 0) tr0).2.getD j 0 == 1) (fun e => e) (ei_rangeN (k := tr.length) (ev_is (ev_len (xs := order) (ev_var rfl (Py.up e8 ro7))) (by rw [hol]))) (by omega) fun e x B9 he e9 hx => ⟨_, tg_name, fun σ' eσ => ?_⟩)) (List.map_id' _)⟩
        subst eσ
        subst hx
        have hplt := holt e he
        have bu9 := bu7.up (e8.trans e9)
        have htr : (tr.map Prod.snd)[order.getD e 0]? = some (tr.getD (order.getD e 0) tr0).2 := by rw [List.getElem?_map, List.getD_eq_getElem?_getD (l := tr), List.getElem?_eq_getElem hplt]; rfl
        obtain ⟨w, hw, rw'⟩ := Paired.at bu9.pw htr
        have hbl := bu9.ok.bl _ (tr_at hplt)
        refine ⟨rfl, et_is (et_test (ev_eq (ev_ixN (xs := (tr.getD (order.getD e 0) tr0).2) (i := j) (x := (tr.getD (order.getD e 0) tr0).2.getD j 0) (ev_isR (ev_ixO (p := ps) (i := (order.getD e 0 : Nat)) (vs := ws) (List.mem_cons_of_mem _ List.mem_cons_self) (ev_ixO (p := pb) (i := 2) (v := .ref ps) (List.mem_cons_of_mem _ (List.mem_cons_of_mem _ (List.mem_cons_of_mem _ List.mem_cons_self))) (ev_v rfl) ev_c (by decide) rfl) (ev_ixN (xs := order) (i := e) (x := order.getD e 0) (ev_var rfl (Py.up (e8.trans e9) ro7)) (ev_v rfl) ?_) (by omega) (by rw [Int.toNat_natCast]; exact hw)) rw') (ev_v rfl) ?_) ev_c)) (decN _ 1), fun _ => ev_v rfl⟩
        · rw [List.getD_eq_getElem?_getD, List.getElem?_eq_getElem (by omega)]; rfl
        · rw [List.getD_eq_getElem?_getD (i := j), List.getElem?_eq_getElem (by omega)]; rfl
      · refine sr_freeze (by simp) fun hB => ?_
        have e9 := Same.up1 (o := HO.lst vs) hB
        have rq : rep K (upd B8 p (.lst vs)) (.ref p) qs := rep_frozen (c := ⟨K, [], [], B, B⟩) hB (Paired.imp (fun _ _ r => Py.up e8 r) pq)
        have rs := Py.up e9 r8
        generalize upd B8 p (.lst vs) = B9 at e9 rq rs
        have sl : ((List.range count).map fun j => setJ tr order j).length = count := by simp
        refine sr_ret (ev_tri (R1 := fun v _ => v = .int (n : Int)) (R2 := fun v B' => rep K B' v qs) (R3 := fun v B' => ∃ zs : List (List Nat), (zs.length = count ∧ ∀ k z, zs[k]? = some z → z = setJ tr order k ∨ z = (setJ tr order k).reverse) ∧ rep K B' v zs) (R := fun v B' => ∃ zs : List (List Nat), (zs.length = count ∧ ∀ k z, zs[k]? = some z → z = setJ tr order k ∨ z = (setJ tr order k).reverse) ∧ rep K B' v (Tri.mk n qs zs)) (ev_ixO (p := pb) (i := 0) (v := .int (n : Int)) (List.mem_cons_of_mem _ (List.mem_cons_of_mem _ List.mem_cons_self)) (ev_v rfl) ev_c (by decide) rfl) (fun v B1 e1 r1 => ev_var (x := qs) rfl (Py.up e1 rq)) (fun v w B1 B2 e1 r1 e2 r2 => ev_ofSome ((el_some (β := List Nat) (fun k z => k < count → z = setJ tr order k ∨ z = (setJ tr order k).reverse) (ei_list (xs := (List.range count).map fun j => setJ tr order j) (ev_var rfl (Py.up (e1.trans e2) rs))) (by rw [sl]; omega) fun k x B' hk e ⟨z, hz, rz⟩ => ⟨_, tg_name, fun σ' eσ => ?_⟩).imp fun o B' _ ⟨zs, h1, h2, h3⟩ => ⟨zs, ⟨by rw [h1, sl], fun k z hz => h2 k z hz (by have := getD_at hz; omega)⟩, h3⟩)) fun v1 v2 v3 B1 B2 B3 p e1 r1 e2 r2 e3 ⟨zs, h1, r3⟩ hp => ⟨zs, h1, p, v1, v2, v3, rfl, upd_same, r1, Py.up (e3.trans (Same.up1 hp)) r2, Py.up (Same.up1 hp) r3⟩) fun v B10 e10 ⟨zs, ⟨h1, h2⟩, r⟩ => ⟨n, qs, zs, r, good_of bu.n0 (by omega) (by omega) bu.ok hd hnm hom hq h1 h2⟩
        subst eσ
        rw [List.getElem?_map] at hz
        rw [sl] at hk
        rw [List.getElem?_range hk] at hz
        have hz : setJ tr order k = z := by simpa using hz
        subst hz
        refine ⟨rfl, ev_if (Rb := fun _ => True) (et_coin (ev_next (m := 2) (ev_v rfl) ev_c (by decide) (by simp))) (fun _ => (ev_var (x := setJ tr order k) rfl rz).imp fun v B' _ r => ⟨_, fun _ => .inl rfl, r⟩) fun _ => (ev_of (el_rev (ev_var (x := setJ tr order k) rfl rz))).imp fun v B' _ r => ⟨_, fun _ => .inr rfl, r⟩⟩
end Nz

/-! NpM: the maths of the seven sums. -/
namespace Nz
open Py (rep)
open PyD (dat)
open PySem PySem.Spec PyProof.Rows L2
def fil (m : Nat) (f : Nat → Bool) : List Nat := (List.range m).filter f
def EvF (n : Nat) (qs : List (Nat × Nat)) (f : Nat → Bool) : Prop := ∀ v, v < n → pd ((fil qs.length f).map fun e => qs.getD e (0, 0)) v % 2 = 0
theorem pd_xor (f g : Nat → Bool) (q : Nat → Nat × Nat) (v : Nat) (l : List Nat) : pd ((l.filter fun e => f e != g e).map q) v % 2 = (pd ((l.filter f).map q) v + pd ((l.filter g).map q) v) % 2 := by
  rw [pd_filter, pd_filter, pd_filter]
  induction l with
  | nil => rfl
  | cons e l ih =>
    simp only [List.map_cons, List.sum_cons]
    generalize (l.map fun e => if (f e != g e) = true then ind (q e) v else 0).sum = x at ih ⊢
    generalize (l.map fun e => if f e = true then ind (q e) v else 0).sum = y at ih ⊢
    generalize (l.map fun e => if g e = true then ind (q e) v else 0).sum = z at ih ⊢
    generalize ind (q e) v = w
    cases f e <;> cases g e <;> simp <;> omega
theorem EvF.xor {n : Nat} {qs : List (Nat × Nat)} {f g : Nat → Bool} (h : EvF n qs f) (h' : EvF n qs g) : EvF n qs (fun e => f e != g e) := fun v hv => by
  unfold fil
  rw [pd_xor]
  have h1 := h v hv
  have h2 := h' v hv
  unfold fil at h1 h2
  omega
theorem fil_mem {m : Nat} {f : Nat → Bool} {e : Nat} : e ∈ fil m f ↔ e < m ∧ f e = true := by
  unfold fil
  rw [List.mem_filter, List.mem_range]
theorem fil_nd (m : Nat) (f : Nat → Bool) : (fil m f).Nodup := (List.nodup_range (n := m)).sublist List.filter_sublist
theorem fil_self (m : Nat) (f : Nat → Bool) : fil m f = (List.range m).filter (fun e => decide (e ∈ fil m f)) := by
  unfold fil
  refine List.filter_congr fun e he => ?_
  have he := List.mem_range.mp he
  rw [Bool.eq_iff_iff, decide_eq_true_eq]
  exact ⟨fun h => fil_mem.mpr ⟨he, h⟩, fun h => (fil_mem.mp h).2⟩
theorem ends_pd (es : List (Nat × Nat)) (l : List Nat) (v : Nat) : ((endsL es l).filter (· == v)).length = pd (l.map fun e => es.getD e (0, 0)) v := by
  unfold endsL pd
  rw [List.filter_append, List.length_append]
  induction l with
  | nil => rfl
  | cons e l ih =>
    simp only [List.map_cons, List.filter_cons, List.sum_cons] at ih ⊢
    rw [← ih]
    generalize es.getD e (0, 0) = x
    simp only [ind, beq_iff_eq]
    split <;> split <;> simp <;> omega
theorem odd_nil {n : Nat} {qs : List (Nat × Nat)} {l : List Nat} (h : ∀ v, v < n → pd (l.map fun e => qs.getD e (0, 0)) v % 2 = 0) : oddV n qs l = [] := by
  unfold oddV
  rw [List.filter_eq_nil_iff]
  intro v hv
  rw [ends_pd, h v (List.mem_range.mp hv)]
  decide
theorem dgk_sum (es : List (Nat × Nat)) (bs : List Bool) (v : Nat) : ∀ k, dgk es bs v k = ((List.range k).map fun e => if bs.getD e false = true then ind (es.getD e (0, 0)) v else 0).sum
  | 0 => rfl
  | k + 1 => by
    rw [List.range_succ, List.map_append, List.sum_append, ← dgk_sum es bs v k]
    simp [dgk, ind]
theorem mks_getD {m e : Nat} {s : List Nat} (h : e < m) : (mks m s).getD e false = decide (e ∈ s) := by
  unfold mks
  rw [List.getD_eq_getElem?_getD]
  simp [h]
theorem perm_fil {m : Nat} {s : List Nat} (nd : s.Nodup) (lt : ∀ e ∈ s, e < m) : List.Perm s (fil m fun e => decide (e ∈ s)) := by
  refine (List.perm_ext_iff_of_nodup nd (fil_nd _ _)).mpr fun e => ?_
  rw [fil_mem, decide_eq_true_eq]
  exact ⟨fun h => ⟨lt e h, h⟩, fun h => h.2⟩
theorem evF_of {n count : Nat} {qs : List (Nat × Nat)} {ss : List (List Nat)} {s : List Nat} (h : Good n qs ss count) (hs : s ∈ ss) : EvF n qs fun e => decide (e ∈ s) := fun v hv => by
  have p := perm_fil (h.nd s hs) (h.le s hs)
  have e : pd ((fil qs.length fun e => decide (e ∈ s)).map fun e => qs.getD e (0, 0)) v = pd (s.map fun e => qs.getD e (0, 0)) v := by
    unfold pd
    exact ((p.symm.map _).map _).sum_nat
  rw [e]
  exact h.ev s hs v hv
theorem evenL_of {n count : Nat} {qs : List (Nat × Nat)} {ss : List (List Nat)} {s : List Nat} (h : Good n qs ss count) (hs : s ∈ ss) : EvenL ⟨n, qs⟩ (mks qs.length s) := fun v hv => by
  have h1 := evF_of h hs v hv
  unfold fil at h1
  rw [pd_filter] at h1
  show dgk qs (mks qs.length s) v qs.length % 2 = 0
  rw [dgk_sum]
  have e : ((List.range qs.length).map fun e => if (mks qs.length s).getD e false = true then ind (qs.getD e (0, 0)) v else 0) = (List.range qs.length).map fun e => if decide (e ∈ s) = true then ind (qs.getD e (0, 0)) v else 0 := List.map_congr_left fun e he => by rw [mks_getD (List.mem_range.mp he)]
  rw [e]
  exact h1
theorem Good.cov {n count : Nat} {qs : List (Nat × Nat)} {ss : List (List Nat)} (h : Good n qs ss count) (hc : count ≤ 100) : Cov ⟨n, qs⟩ ss := ⟨h.le, fun s hs => evenL_of h hs, h.al, by have := h.cl; omega⟩
theorem Good.ok {n count : Nat} {qs : List (Nat × Nat)} {ss : List (List Nat)} (h : Good n qs ss count) : Gr.Ok ⟨n, qs⟩ := ⟨h.lt, Nat.le_trans h.sn (by decide), Nat.le_trans h.sm (by decide)⟩
/-! ### the seven -/
theorem plc_fL (m : Nat) (f : Nat → Bool) : plc (fL m f) = fil m f := by
  unfold plc fil
  rw [fL_len]
  refine List.filter_congr fun e he => ?_
  rw [fL_get f (List.mem_range.mp he)]
  cases f e <;> rfl
theorem xorL_fL (m : Nat) (f g : Nat → Bool) : xorL (fL m f) (fL m g) = fL m fun e => f e != g e := by
  unfold xorL
  rw [fL_len, fL_len, Nat.min_self]
  refine List.map_congr_left fun e he => ?_
  have he := List.mem_range.mp he
  rw [List.getD_eq_getElem?_getD, List.getD_eq_getElem?_getD, fL_get f he, fL_get g he]
  rfl
def sev (a b c : Nat → Bool) : List (Nat → Bool) := [a, b, c, fun e => a e != b e, fun e => a e != c e, fun e => b e != c e, fun e => (a e != b e) != c e]
theorem sev_is (m : Nat) (a b c : Nat → Bool) : sevL m [fL m a, fL m b, fL m c] = (sev a b c).map (fL m) := by
  have z : List.replicate m false = fL m fun _ => false := fL_rep m false
  have nf : ∀ b : Bool, (false != b) = b := fun b => by cases b <;> rfl
  have s : ∀ x y w : Nat, sumUp m [x, y, w] [fL m a, fL m b, fL m c] 3 = fL m fun e => ((if x = 1 then a e else false) != (if y = 1 then b e else false)) != (if w = 1 then c e else false) := fun x y w => by
    have f1 : ∀ b : Bool, (b != false) = b := fun b => by cases b <;> rfl
    by_cases hx : x = 1 <;> by_cases hy : y = 1 <;> by_cases hw : w = 1 <;> simp only [sumUp, List.getD_cons_zero, List.getD_cons_succ, hx, hy, hw, if_true, if_false, z, xorL_fL, nf, f1] <;> rfl
  have f1 : ∀ b : Bool, (b != false) = b := fun b => by cases b <;> rfl
  unfold sevL msk sev
  simp only [List.map_cons, List.map_nil, s]
  simp [nf, f1]
theorem told_is {m : Nat} {s0 s1 s2 : List Nat} : (sevL m ([s0, s1, s2].map (mks m))).map plc = (sev (fun e => decide (e ∈ s0)) (fun e => decide (e ∈ s1)) (fun e => decide (e ∈ s2))).map (fil m) := by
  have h : [s0, s1, s2].map (mks m) = [fL m fun e => decide (e ∈ s0), fL m fun e => decide (e ∈ s1), fL m fun e => decide (e ∈ s2)] := rfl
  rw [h, sev_is, List.map_map]
  exact List.map_congr_left fun f _ => plc_fL m f
theorem cnt_at {m e : Nat} (ss : List (List Nat)) (h : e < m) : (cntL m ss).getD e 0 = (ss.filter fun s => decide (e ∈ s)).length := by
  unfold cntL
  rw [List.getD_eq_getElem?_getD]
  simp [h]
theorem due_is {m : Nat} {s0 s1 s2 : List Nat} : mskP.map (dueRow m [s0, s1, s2]) = (sev (fun e => decide (e ∈ s0)) (fun e => decide (e ∈ s1)) (fun e => decide (e ∈ s2))).map (fil m) := by
  have d : ∀ (mask : List Nat) (f : Nat → Bool), (∀ e, e < m → ((mask.map fun j => [s0, s1, s2].getD j []).filter fun s => decide (e ∈ s)).length % 2 = if f e = true then 1 else 0) → dueRow m [s0, s1, s2] mask = fil m f := fun mask f h => by
    unfold dueRow fil
    refine List.filter_congr fun e he => ?_
    have he := List.mem_range.mp he
    rw [cnt_at _ he, h e he]
    cases f e <;> rfl
  unfold mskP sev
  simp only [List.map_cons, List.map_nil]
  congr 1
  · refine d _ _ fun e _ => ?_
    by_cases h0 : e ∈ s0 <;> simp [h0]
  congr 1
  · refine d _ _ fun e _ => ?_
    by_cases h1 : e ∈ s1 <;> simp [h1]
  congr 1
  · refine d _ _ fun e _ => ?_
    by_cases h2 : e ∈ s2 <;> simp [h2]
  congr 1
  · refine d _ _ fun e _ => ?_
    by_cases h0 : e ∈ s0 <;> by_cases h1 : e ∈ s1 <;> simp [h0, h1]
  congr 1
  · refine d _ _ fun e _ => ?_
    by_cases h0 : e ∈ s0 <;> by_cases h2 : e ∈ s2 <;> simp [h0, h2]
  congr 1
  · refine d _ _ fun e _ => ?_
    by_cases h1 : e ∈ s1 <;> by_cases h2 : e ∈ s2 <;> simp [h1, h2]
  congr 1
  · refine d _ _ fun e _ => ?_
    by_cases h0 : e ∈ s0 <;> by_cases h1 : e ∈ s1 <;> by_cases h2 : e ∈ s2 <;> simp [h0, h1, h2]
/-- each edge is in four of the seven -/
theorem four {m : Nat} {a b c : Nat → Bool} (h : ∀ e, e < m → a e = true ∨ b e = true ∨ c e = true) : cntL m ((sev a b c).map (fil m)) = List.replicate m 4 := by
  apply List.ext_getElem
  · simp [cntL]
  · intro e h1 h2
    have he : e < m := by simpa [cntL] using h1
    have hh := h e he
    have g : ∀ f, decide (e ∈ fil m f) = f e := fun f => by
      rw [Bool.eq_iff_iff, decide_eq_true_eq, fil_mem]
      exact ⟨fun h => h.2, fun h => ⟨he, h⟩⟩
    simp only [cntL, List.getElem_map, List.getElem_range, List.getElem_replicate, sev, List.map_cons, List.map_nil, List.filter_cons, List.filter_nil, g]
    generalize a e = x at *
    generalize b e = y at *
    generalize c e = z at *
    cases x <;> cases y <;> cases z <;> simp at hh ⊢
theorem sev_even {n : Nat} {qs : List (Nat × Nat)} {a b c : Nat → Bool} (ha : EvF n qs a) (hb : EvF n qs b) (hc : EvF n qs c) : ∀ f ∈ sev a b c, EvF n qs f := by
  intro f hf
  simp only [sev, List.mem_cons, List.not_mem_nil, or_false] at hf
  rcases hf with rfl | rfl | rfl | rfl | rfl | rfl | rfl
  · exact ha
  · exact hb
  · exact hc
  · exact ha.xor hb
  · exact ha.xor hc
  · exact hb.xor hc
  · exact (ha.xor hb).xor hc
theorem three {α : Type} : ∀ {l : List α}, l.length = 3 → ∃ a b c, l = [a, b, c]
  | [a, b, c], _ => ⟨a, b, c, rfl⟩
/-- what the law's judges want of the seven -/
theorem seven_ok {n : Nat} {qs : List (Nat × Nat)} {ss : List (List Nat)} (h : Good n qs ss 3) :
    (∀ s ∈ (sevL qs.length (ss.map (mks qs.length))).map plc, s = (List.range qs.length).filter (fun e => decide (e ∈ s)) ∧ oddV n qs s = []) ∧ ((sevL qs.length (ss.map (mks qs.length))).map plc).length = 7 ∧
    cntL qs.length ((sevL qs.length (ss.map (mks qs.length))).map plc) = List.replicate qs.length 4 ∧ mskP.map (dueRow qs.length ss) = (sevL qs.length (ss.map (mks qs.length))).map plc := by
  obtain ⟨s0, s1, s2, rfl⟩ := three h.cl
  rw [told_is, due_is]
  refine ⟨fun s hs => ?_, rfl, four fun e he => ?_, rfl⟩
  · obtain ⟨f, hf, rfl⟩ := List.mem_map.mp hs
    exact ⟨fil_self _ _, odd_nil (sev_even (evF_of h (by simp)) (evF_of h (by simp)) (evF_of h (by simp)) f hf)⟩
  · obtain ⟨s, hs, hes⟩ := h.al e he
    simp only [List.mem_cons, List.not_mem_nil, or_false] at hs
    simp only [decide_eq_true_eq]
    rcases hs with rfl | rfl | rfl
    · exact .inl hes
    · exact .inr (.inl hes)
    · exact .inr (.inr hes)
/-- the third one may be empty where the others have every edge -/
theorem good_drop {n : Nat} {qs : List (Nat × Nat)} {s0 s1 s2 : List Nat} (h : Good n qs [s0, s1, s2] 3) (hc : (cntL qs.length [s0, s1]).count 0 = 0) : Good n qs [s0, s1, []] 3 := by
  refine ⟨h.n0, h.sn, h.sm, h.lt, rfl, fun s hs => ?_, fun s hs => ?_, fun s hs => ?_, fun e he => ?_⟩
  · simp only [List.mem_cons, List.not_mem_nil, or_false] at hs
    rcases hs with rfl | rfl | rfl
    · exact h.nd _ (by simp)
    · exact h.nd _ (by simp)
    · simp
  · simp only [List.mem_cons, List.not_mem_nil, or_false] at hs
    rcases hs with rfl | rfl | rfl
    · exact h.le _ (by simp)
    · exact h.le _ (by simp)
    · simp
  · simp only [List.mem_cons, List.not_mem_nil, or_false] at hs
    rcases hs with rfl | rfl | rfl
    · exact h.ev _ (by simp)
    · exact h.ev _ (by simp)
    · exact fun v _ => rfl
  · have h1 := cnt_at [s0, s1] he
    have h2 : (cntL qs.length [s0, s1]).getD e 0 ≠ 0 := fun z => by
      have hm : (0 : Nat) ∈ cntL qs.length [s0, s1] := by
        have hl : e < (cntL qs.length [s0, s1]).length := by simp [cntL, he]
        rw [List.getD_eq_getElem?_getD, List.getElem?_eq_getElem hl] at z
        exact z ▸ List.getElem_mem hl
      have := List.count_pos_iff.mpr hm
      omega
    rw [h1] at h2
    by_cases a : e ∈ s0
    · exact ⟨s0, by simp, a⟩
    · by_cases b : e ∈ s1
      · exact ⟨s1, by simp, b⟩
      · simp [a, b] at h2
end Nz

/-! NpN: the light cover, the law. -/
namespace Nz
open Py (rep)
open PyD (dat)
open PySem PySem.Spec PyProof.Rows L2
def sevV (x y z : Bool) : List Bool := [x, y, z, x != y, x != z, y != z, (x != y) != z]
theorem basis_all : ((List.range 7).all fun i => (List.range i).all fun j => (List.range j).all fun k => !ba3 i j k || [true, false].all fun x => [true, false].all fun y => [true, false].all fun z => !(x || y || z) || ((sevV x y z).getD i false || (sevV x y z).getD j false || (sevV x y z).getD k false)) = true := by decide +kernel
theorem mem_tf : ∀ x : Bool, x ∈ [true, false]
  | true => by simp
  | false => by simp
theorem basis_covers {i j k : Nat} (hi : i < 7) (hj : j < i) (hk : k < j) (hb : ba3 i j k = true) {x y z : Bool} (h : (x || y || z) = true) : ((sevV x y z).getD i false || (sevV x y z).getD j false || (sevV x y z).getD k false) = true := by
  have q := List.all_eq_true.mp (List.all_eq_true.mp (List.all_eq_true.mp basis_all i (List.mem_range.mpr hi)) j (List.mem_range.mpr hj)) k (List.mem_range.mpr hk)
  rw [hb] at q
  have q2 := List.all_eq_true.mp (List.all_eq_true.mp (List.all_eq_true.mp (show ([true, false].all fun x => [true, false].all fun y => [true, false].all fun z => !(x || y || z) || ((sevV x y z).getD i false || (sevV x y z).getD j false || (sevV x y z).getD k false)) = true from q) x (mem_tf x)) y (mem_tf y)) z (mem_tf z)
  rw [h] at q2
  exact q2
theorem filter_len (p : Nat → Bool) (e : Nat) (l : List Nat) : ((e :: l).filter p).length = (l.filter p).length + (p e).toNat := by
  rw [List.filter_cons]
  cases p e <;> simp
theorem four_len {a b c : Nat → Bool} : ∀ l : List Nat, (∀ e ∈ l, a e = true ∨ b e = true ∨ c e = true) → ((sev a b c).map fun f => (l.filter f).length).sum = 4 * l.length
  | [], _ => rfl
  | e :: l, h => by
    have ih := four_len l fun u hu => h u (List.mem_cons_of_mem _ hu)
    have he := h e List.mem_cons_self
    simp only [sev, List.map_cons, List.map_nil, List.sum_cons, List.sum_nil, filter_len, List.length_cons] at ih ⊢
    generalize (l.filter a).length = n0 at ih ⊢
    generalize (l.filter b).length = n1 at ih ⊢
    generalize (l.filter c).length = n2 at ih ⊢
    generalize (l.filter fun e => a e != b e).length = n3 at ih ⊢
    generalize (l.filter fun e => a e != c e).length = n4 at ih ⊢
    generalize (l.filter fun e => b e != c e).length = n5 at ih ⊢
    generalize (l.filter fun e => (a e != b e) != c e).length = n6 at ih ⊢
    generalize a e = x at he ⊢
    generalize b e = y at he ⊢
    generalize c e = z at he ⊢
    clear h
    cases x <;> cases y <;> cases z <;> simp at he ⊢ <;> omega
theorem lt7 {i : Nat} (h : i < 7) : i = 0 ∨ i = 1 ∨ i = 2 ∨ i = 3 ∨ i = 4 ∨ i = 5 ∨ i = 6 := by omega
theorem sev_mem {m e i : Nat} {a b c : Nat → Bool} (he : e < m) (hi : i < 7) : e ∈ ((sev a b c).map (fil m)).getD i [] ↔ (sevV (a e) (b e) (c e)).getD i false = true := by
  rcases lt7 hi with rfl | rfl | rfl | rfl | rfl | rfl | rfl <;> simp [sev, sevV, fil_mem, he]
theorem avg {l : Nat → Nat} {z m : Nat} (h : ∀ a b c, c < b → b < a → a < 7 → ba3 a b c = true → z ≤ l a + l b + l c) (hs : l 0 + (l 1 + (l 2 + (l 3 + (l 4 + (l 5 + (l 6 + 0)))))) = 4 * m) : 7 * z ≤ 12 * m := by
  have t0 := h 2 1 0 (by omega) (by omega) (by omega) (by decide +kernel)
  have t1 := h 3 2 0 (by omega) (by omega) (by omega) (by decide +kernel)
  have t2 := h 3 2 1 (by omega) (by omega) (by omega) (by decide +kernel)
  have t3 := h 5 4 0 (by omega) (by omega) (by omega) (by decide +kernel)
  have t4 := h 6 4 3 (by omega) (by omega) (by omega) (by decide +kernel)
  have t5 := h 6 5 1 (by omega) (by omega) (by omega) (by decide +kernel)
  have t6 := h 6 5 4 (by omega) (by omega) (by omega) (by decide +kernel)
  clear h
  omega
theorem light_aux {m i j k : Nat} {a b c : Nat → Bool} (cov : ∀ e, e < m → a e = true ∨ b e = true ∨ c e = true) (hk : k < j) (hj : j < i) (hi : i < 7) (hb : ba3 i j k = true)
    (mn : ∀ a' b' c', c' < b' → b' < a' → a' < 7 → ba3 a' b' c' = true → sz ((sev a b c).map (fil m)) i j k ≤ sz ((sev a b c).map (fil m)) a' b' c') :
    (∀ s ∈ [((sev a b c).map (fil m)).getD i [], ((sev a b c).map (fil m)).getD j [], ((sev a b c).map (fil m)).getD k []], s ∈ (sev a b c).map (fil m)) ∧ (∀ e, e < m → ∃ s ∈ [((sev a b c).map (fil m)).getD i [], ((sev a b c).map (fil m)).getD j [], ((sev a b c).map (fil m)).getD k []], e ∈ s) ∧ 7 * sz ((sev a b c).map (fil m)) i j k ≤ 12 * m := by
  refine ⟨fun s hs => ?_, fun e he => ?_, ?_⟩
  · have at' : ∀ q, q < 7 → ((sev a b c).map (fil m)).getD q [] ∈ (sev a b c).map (fil m) := fun q hq => by
      have hl : ((sev a b c).map (fil m)).length = 7 := rfl
      rw [List.getD_eq_getElem?_getD, List.getElem?_eq_getElem (by omega)]
      exact List.getElem_mem _
    rcases List.mem_cons.mp hs with e | hs
    · rw [e]; exact at' i hi
    rcases List.mem_cons.mp hs with e | hs
    · rw [e]; exact at' j (by omega)
    rw [List.mem_singleton.mp hs]
    exact at' k (by omega)
  · have h1 := cov e he
    have h2 := basis_covers hi hj hk hb (x := a e) (y := b e) (z := c e) (by rcases h1 with h1 | h1 | h1 <;> simp [h1])
    rw [Bool.or_eq_true, Bool.or_eq_true] at h2
    rcases h2 with (h2 | h2) | h2
    · exact ⟨_, List.mem_cons_self, (sev_mem he hi).mpr h2⟩
    · exact ⟨_, List.mem_cons_of_mem _ List.mem_cons_self, (sev_mem he (by omega)).mpr h2⟩
    · exact ⟨_, List.mem_cons_of_mem _ (List.mem_cons_of_mem _ List.mem_cons_self), (sev_mem he (by omega)).mpr h2⟩
  · have hs := four_len (a := a) (b := b) (c := c) (List.range m) fun e he => cov e (List.mem_range.mp he)
    rw [List.length_range] at hs
    exact avg (l := fun q => (((sev a b c).map (fil m)).getD q []).length) mn hs
/-- what the law's judges want of the three -/
theorem light_ok {n : Nat} {qs : List (Nat × Nat)} {ss T : List (List Nat)} {i j k : Nat} (h : Good n qs ss 3) (hT : (sevL qs.length (ss.map (mks qs.length))).map plc = T) (hk : k < j) (hj : j < i) (hi : i < 7) (hb : ba3 i j k = true)
    (mn : ∀ a' b' c', c' < b' → b' < a' → a' < 7 → ba3 a' b' c' = true → sz T i j k ≤ sz T a' b' c') :
    (∀ s ∈ [T.getD i [], T.getD j [], T.getD k []], s ∈ T) ∧ (∀ e, e < qs.length → ∃ s ∈ [T.getD i [], T.getD j [], T.getD k []], e ∈ s) ∧ 7 * sz T i j k ≤ 12 * qs.length := by
  obtain ⟨s0, s1, s2, rfl⟩ := three h.cl
  rw [told_is] at hT
  subst hT
  refine light_aux (fun e he => ?_) hk hj hi hb mn
  obtain ⟨s, hs, hes⟩ := h.al e he
  rcases List.mem_cons.mp hs with z | hs
  · exact .inl (decide_eq_true (z ▸ hes))
  rcases List.mem_cons.mp hs with z | hs
  · exact .inr (.inl (decide_eq_true (z ▸ hes)))
  exact .inr (.inr (decide_eq_true (List.mem_singleton.mp hs ▸ hes)))
theorem ev_isT {c : Ct} {L : Lc} {σ : L2.St} {B : Hp} {te : TE} {α : Type} [Py α] {xs : Tl α} (h : EvP c L te σ B xs) : EvV c L (tCB (rIsi c.K) (tCons te (tCons (tC (.ty "tuple")) tNil))) σ B (.bl true) :=
  ev_isi (T := "tuple") (U := "tuple") (b := true) h (fun v B1 H e ⟨a, vs, ev, hB, hp⟩ w => by
    subst ev
    rcases hB with (h | ⟨o, h⟩) | ⟨o, its, n, h1, h2, h3⟩
    · exact .base (.tup (w.le _ _ h))
    · exact .fTuple (w.le _ _ h)
    · exact .kTuple h1 h2) (by decide +kernel)
theorem ev_notinD {c : Ct} {L : Lc} {σ : L2.St} {B : Hp} {ta tb : TE} {x : List Nat} {xs : List (List Nat)} (ha : EvP c L ta σ B x) (hb : EvP c L tb σ B xs) : EvV c L (tOp (rNotInD c.K) ta tb) σ B (.bl (!decide (x ∈ xs))) :=
  ev_opR ha (fun _ _ e _ => hb.up e) fun v w B1 B2 H _ e2 r1 r2 wd Q q => by
    have sh : ∀ {α : Type} [Py α] [PyD α] (x : α), PyD.dpt α ≤ 64 → SeqAt.shaped (dat x) = true := fun x hd => by
      unfold SeqAt.shaped
      rw [PyD.lay x, decide_eq_true (Nat.le_trans (PyD.hd x) hd), Bool.and_self]
    refine ⟨dat x, xs.map dat, PyD.ok (Py.up (e2.trans wd.le) r1), PyD.ok (Py.up wd.le r2), sh x (by decide), sh xs (by decide), q _ B2 H .refl ?_⟩
    congr 2
    rw [Bool.eq_iff_iff, decide_eq_true_eq, List.any_map, List.any_eq_true]
    constructor
    · rintro ⟨y, hy, e⟩
      have := (PyD.eqv y x).mp e
      exact this ▸ hy
    · exact fun h => ⟨x, h, (PyD.eqv x x).mpr rfl⟩
def sp_law (K : Fg) (C : Addr) : Sp := fun vs H Q _ => ∃ (a : Addr) (ns : List Int), vs = [.ref a] ∧ SqL K H a (ns.map V.int) ∧ ∀ H', Q (.bl true) H'
theorem rep_ints {K : Fg} {B : Hp} {v : V} {xs : List Nat} (h : rep K B v xs) : rep K B v (xs.map fun n : Nat => (n : Int)) := by
  obtain ⟨a, vs, h1, h2, h3⟩ := h
  refine ⟨a, vs, h1, h2, ?_⟩
  rw [paired_nats h3]
  clear h2 h3
  induction xs with
  | nil => exact .nil
  | cons x xs ih => exact .cons rfl ih
theorem count_ints (xs : List Nat) : (xs.map fun n : Nat => (n : Int)).count 0 = xs.count 0 := by
  rw [List.count_eq_countP, List.count_eq_countP, List.countP_map]
  refine List.countP_congr fun x _ => ?_
  simp
theorem fit_rows {ss : List (List Nat)} (h : ∀ s ∈ ss, s.length ≤ 1000 ∧ ∀ e ∈ s, e < 100000) (hl : ss.length ≤ 10) : Fit (dat ss) (10 * ((1000 * 8 + 3) + 2) + 3) := by
  show Fit (.list (ss.map dat)) _
  refine fit_list (fun d hd => ?_) (by rw [List.length_map]; exact hl)
  obtain ⟨s, hs, rfl⟩ := List.mem_map.mp hd
  exact fit_nats (h s hs).2 (h s hs).1
theorem nodup_len {s : List Nat} {m : Nat} (nd : s.Nodup) (lt : ∀ e ∈ s, e < m) : s.length ≤ m := by
  have := (perm_fil nd lt).length_eq
  rw [this]
  exact Nat.le_trans (List.length_filter_le _ _) (by simp)
theorem Good.fit {n : Nat} {qs : List (Nat × Nat)} {ss : List (List Nat)} (h : Good n qs ss 3) : Fit (dat ss) (10 * ((1000 * 8 + 3) + 2) + 3) :=
  fit_rows (fun s hs => ⟨Nat.le_trans (nodup_len (h.nd s hs) (h.le s hs)) h.sm, fun e he => by have := h.le s hs e he; have := h.sm; omega⟩) (by have := h.cl; omega)
abbrev N_law : List Str := ["script", "state", "built", "many", "pairs", "sets", "graph", "kept", "told", "sums", "row"]
def t_law (K : Fg) (C : Addr) : TS :=
  (tSeq (tAsg (tCall (sp__law_state K C) [] E0 (tCons (tVar 0) (tCons (tC (.int 0)) (tCons (tC (.int 14)) tNil)))) (gName 1))
  (tSeq (tAsg (tCall (sp__law_covered K C) [] E0 (tCons (tVar 1) (tCons (tC (.int 3)) (tCons (tC (.int 6)) tNil)))) (gName 2))
  (tSeq (tAsg (tOp (rIxL K) (tVar 2) (tC (.int 0))) (gName 3))
  (tSeq (tAsg (tOp (rIxL K) (tVar 2) (tC (.int 1))) (gName 4))
  (tSeq (tAsg (tOp (rIxL K) (tVar 2) (tC (.int 2))) (gName 5))
  (tSeq (tAsg (tMake C (sp_GraphD_initD K C) [] E0 (tCons (tVar 3) (tCons (tCB (rListOf K) (tCons (tVar 4) tNil)) tNil))) (gName 6))
  (tSeq (tAsg (tCB (rRepr K) (tCons (tVar 5) tNil)) (gName 7))
  (tSeq (tAsg (tCall (sp_light_cover K C) [] E0 (tCons (tVar 6) (tCons (tVar 5) tNil))) (gName 8))
  (tSeq (tIfS (tOr (tTest (tOp rNe (tCB (rRepr K) (tCons (tVar 5) tNil)) (tVar 7))) (tOr (tNot (tTru K (tCB (rIsi K) (tCons (tVar 8) (tCons (tC (.ty "tuple")) tNil))))) (tNot (tTru K (tCall (sp__law_are_even K C) [] E0 (tCons (tVar 3) (tCons (tVar 4) (tCons (tVar 8) (tCons (tC (.int 3)) tNil))))))))) (tRet (tC (.bl false))) tNext)
  (tSeq (tAsg (tCall (sp__law_sums K C) [] E0 (tCons (tVar 4) (tCons (tVar 5) tNil))) (gName 9))
  (tSeq (tIfS (tOr (tTest (tOp (rNeD K) (tLc (iTup K (tVar 8)) (gName 10) (tTest (tOp (rNotInD K) (tVar 10) (tVar 9))) (tVar 10) [10]) (tLst tNil))) (tTest (tOp (rIn K false) (tC (.int 0)) (tCall (sp__law_counts K C) [] E0 (tCons (tVar 4) (tCons (tVar 8) tNil)))))) (tRet (tC (.bl false))) tNext)
  (tRet (tOp rLeI (tOp rMulI (tC (.int 7)) (tOp rAddI (tOp rAddI (tCB (rLenQ K) (tCons (tOp (rIxT K) (tVar 8) (tC (.int 0))) tNil)) (tCB (rLenQ K) (tCons (tOp (rIxT K) (tVar 8) (tC (.int 1))) tNil))) (tCB (rLenQ K) (tCons (tOp (rIxT K) (tVar 8) (tC (.int 2))) tNil)))) (tOp rMulI (tC (.int 12)) (tCB (rLenQ K) (tCons (tVar 4) tNil))))))))))))))))
theorem pure_law {K : Fg} {C : Addr} (vs : List V) (H : Hp) (Q : VK) (E : XK) : sp_law K C vs H Q E → t_law K C { nx := fun _ H' => Q .non H', rt := Q } (start N_law vs) H := by
  rintro ⟨sa, ns, rfl, hS, hQ⟩
  have hs := sizeLine_eq
  refine (?_ : SR ⟨K, [], [], H, H⟩ [] (t_law K C) (start N_law [.ref sa]) H { rt := fun v _ _ => v = .bl true, al := fun v => v = .bl true }) H (Wd.refl (Same.refl H)) _ ⟨fun _ _ _ _ _ _ p => p.elim, fun v _ _ H' _ _ p => by subst p; exact hQ H', fun _ _ _ _ _ _ p => p.elim, fun _ _ _ _ _ _ p => p.elim, fun v H' p => by subst p; exact hQ H'⟩
  have rsc : rep K H (V.ref sa) (ScL.mk ns) := ⟨sa, rfl, hS⟩
  -- state
  refine sr_setN (en_call (ScL.mk ns, 0, 14) (ea_cons (ev_var rfl rsc) fun x B1 e1 r1 => ea_cons ev_c fun y B2 e2 r2 => ea_cons ev_c fun z B3 e3 r3 => ea_nil fun B4 e4 => ⟨x, by rw [r2, r3]; rfl, Py.up (e2.trans (e3.trans e4)) r1, by decide, by decide, by decide⟩) (by simp)) fun p o B1 e1 hp ⟨an, nums, eo, hn, hn0, hnl⟩ => ?_
  subst eo
  refine sr_state hp hn hn0 hnl ?_
  -- built
  refine sr_set (ev_call (p, 3, 6) (ea_cons (ev_v rfl) fun x B1 e1 r1 => ea_cons ev_c fun y B2 e2 r2 => ea_cons ev_c fun z B3 e3 r3 => ea_nil fun B4 e4 => ⟨by rw [r1, r2, r3]; rfl, by decide, by decide, by decide⟩) (by simp)) fun bv B2 e2 ⟨n, qs, ss0, rb, good0⟩ => ?_
  refine sr_set (ev_tri0 (x := Tri.mk n qs ss0) (ev_var rfl rb)) fun mv B3 e3 rm => ?_
  have rm : mv = .int (n : Int) := rm
  subst rm
  refine sr_set (ev_tri1 (x := Tri.mk n qs ss0) (ev_var rfl (Py.up e3 rb))) fun pv B4 e4 rp => ?_
  refine sr_set (ev_tri2 (x := Tri.mk n qs ss0) (ev_var rfl (Py.up (e3.trans e4) rb))) fun sv B5 e5 rs => ?_
  have rp : rep K B4 pv qs := rp
  have rs : rep K B5 sv ss0 := rs
  have rp5 : rep K B5 pv qs := Py.up e5 rp
  have hm1 := good0.sm
  have good := good0
  generalize ss0 = ss at rb rs good0 good
  have rp6 : rep K B5 pv qs := rp5
  have ok := good.ok
  have cov := good.cov (by decide)
  have fit := good.fit
  have hd : PyD.dpt (List (List Nat)) ≤ 60 := by decide
  have h80 : 10 * ((1000 * 8 + 3) + 2) + 3 ≤ sizeLine := by omega
  -- graph
  refine sr_set (eg_make (G := ⟨n, qs⟩) (ea_cons (ev_v rfl) fun x B1 e1 r1 => ea_cons (ev_of (el_listOf (xs := qs) (ev_var rfl (Py.up e1 rp6)))) fun y B2 e2 r2 => ea_nil fun B3 e3 => ⟨y, by rw [r1], Py.up e3 r2⟩) ok) fun gv B7 e7 rg => ?_
  have rs7 := Py.up e7 rs
  refine sr_set (ev_repr (x := ss) (ev_var rfl rs7) fit h80 hd) fun kv B8 e8 ek => ?_
  subst ek
  have rp8 : rep K B8 pv qs := Py.up (e7.trans e8) rp6
  have rs8 : rep K B8 sv ss := Py.up e8 rs7
  -- told
  refine sr_set (ev_call ((⟨n, qs⟩ : Gr), ss) (ea_cons (eg_var rfl (rg.up e8)) fun x B1 e1 r1 => ea_cons (ev_var (x := ss) rfl (Py.up e1 rs8)) fun y B2 e2 r2 => ea_nil fun B3 e3 => ⟨x, y, rfl, r1.up (e2.trans e3), sq_of_list (Py.up e3 r2), cov, good.cl⟩) (by simp)) fun tv B9 e9 ⟨i, j, k, hk, hj, hi, hb, mn, rT⟩ => ?_
  obtain ⟨sk1, sk2, sk3, sk4⟩ := seven_ok good
  generalize hT : (sevL qs.length (ss.map (mks qs.length))).map plc = T at mn rT sk1 sk2 sk3 sk4
  obtain ⟨lo1, lo2, lo3⟩ := light_ok good hT hk hj hi hb mn
  have hsz : sz T i j k = (T.getD i []).length + (T.getD j []).length + (T.getD k []).length := rfl
  generalize T.getD i [] = ti at *
  generalize T.getD j [] = tj at *
  generalize T.getD k [] = tk at *
  have rT : rep K B9 tv (Tl.mk [ti, tj, tk]) := rT
  have rp9 := Py.up e9 rp8
  have rs9 := Py.up e9 rs8
  refine sr_seq (sr_ifB (b := false) (et_is (et_or (b := false) (b' := false) (et_is (et_test (ev_ne (ev_repr (x := ss) (ev_var rfl rs9) fit h80 hd) (ev_v rfl))) (by simp)) fun _ => et_is (et_or (b := false) (b' := false) (et_is (et_not (et_tru (ev_isT (xs := Tl.mk [ti, tj, tk]) (ev_var rfl rT)))) rfl) fun _ => et_is (et_not (et_tru (ev_call (n, qs, [ti, tj, tk], 3) (ea_cons (ev_v rfl) fun x B1 e1 r1 => ea_cons (ev_var (x := qs) rfl (Py.up e1 rp9)) fun y B2 e2 r2 => ea_cons (ev_var (x := Tl.mk [ti, tj, tk]) rfl (Py.up (e1.trans e2) rT)) fun z B3 e3 r3 => ea_cons ev_c fun u B4 e4 r4 => ea_nil fun B5 e5 => ⟨y, z, by rw [r1, r4]; rfl, Py.up (e3.trans (e4.trans e5)) r2, sq_of_tup (Py.up (e4.trans e5) r3), by omega, by have := good.sn; omega, rfl, fun s hs => sk1 s (lo1 s hs)⟩) (by simp)))) rfl) rfl) rfl) (fun z => by cases z) fun _ B10 e10 => sr_next ?_)
  have rT10 : rep K B10 tv (Tl.mk [ti, tj, tk]) := Py.up e10 rT
  have rp10 := Py.up e10 rp9
  refine sr_set (ev_call (qs, ss) (ea_cons (ev_var (x := qs) rfl rp10) fun x B1 e1 r1 => ea_cons (ev_var (x := ss) rfl (Py.up (e10.trans e1) rs9)) fun y B2 e2 r2 => ea_nil fun B3 e3 => ⟨x, y, rfl, Py.up (e2.trans e3) r1, Py.up e3 r2, by omega, good.cl⟩) (by simp)) fun dv B11 e11 rd => ?_
  have rd : rep K B11 dv T := by
    have h : rep K B11 dv (mskP.map (dueRow qs.length ss)) := rd
    rw [sk4] at h
    exact h
  have rT11 : rep K B11 tv (Tl.mk [ti, tj, tk]) := Py.up e11 rT10
  have rp11 := Py.up e11 rp10
  refine sr_seq (sr_ifB (b := false) (et_is (et_or (b := false) (b' := false) (et_is (et_test (ev_neD (x := ([] : List (List Nat))) (y := ([] : List (List Nat))) (ev_isP (ev_of (el_filter (β := List Nat) (fun q => !decide ([ti, tj, tk].getD q [] ∈ T)) (fun q => [ti, tj, tk].getD q []) (ei_tup (xs := Tl.mk [ti, tj, tk]) (ev_var rfl rT11)) (by show 3 < sizeLine; omega) fun q x B' hq e ⟨u, hu, ru⟩ => ?_)) ?_) (ev_of el_nil) (by decide))) ?_) fun _ => et_is (et_test (ev_in (x := (0 : Nat)) (xs := cntL qs.length [ti, tj, tk]) ev_c (ev_call (qs, [ti, tj, tk]) (ea_cons (ev_var (x := qs) rfl rp11) fun x B1 e1 r1 => ea_cons (ev_var (x := Tl.mk [ti, tj, tk]) rfl (Py.up e1 rT11)) fun y B2 e2 r2 => ea_nil fun B3 e3 => ⟨x, y, rfl, Py.up (e2.trans e3) r1, sq_of_tup (Py.up e3 r2), by omega, by show 3 ≤ 1000; omega⟩) (by simp)))) ?_) rfl) (fun z => by cases z) fun _ B12 e12 => sr_next ?_)
  · have hu : [ti, tj, tk][q]? = some u := hu
    refine ⟨_, tg_name, fun σ' eσ => ?_⟩
    subst eσ
    have : [ti, tj, tk].getD q [] = u := by rw [List.getD_eq_getElem?_getD, hu]; rfl
    rw [this]
    exact ⟨rfl, et_test (ev_notinD (x := u) (xs := T) (ev_var rfl ru) (ev_var rfl (Py.up e rd))), fun _ => ev_var (x := u) rfl ru⟩
  · show ((List.range [ti, tj, tk].length).filter _).map _ = _
    rw [filter_getD (fun s => !decide (s ∈ T)) [] [ti, tj, tk], List.filter_eq_nil_iff]
    intro s hs
    rw [decide_eq_true (lo1 s hs)]
    decide
  · have : PyData.eqv (dat ([] : List (List Nat))) (dat ([] : List (List Nat))) = true := (PyD.eqv ([] : List (List Nat)) []).mpr rfl
    rw [this]; rfl
  · refine decide_eq_false fun z => ?_
    obtain ⟨e, he, hz⟩ := List.mem_map.mp z
    have he := List.mem_range.mp he
    obtain ⟨s, hs, hes⟩ := lo2 e he
    have : s ∈ [ti, tj, tk].filter fun s => decide (e ∈ s) := List.mem_filter.mpr ⟨hs, decide_eq_true hes⟩
    rw [List.length_eq_zero_iff.mp hz] at this
    cases this
  have rT12 : rep K B12 tv (Tl.mk [ti, tj, tk]) := Py.up e12 rT11
  have ln : ∀ {σ : L2.St} {q : Nat} {s : List Nat}, σ[8]? = some (some tv) → [ti, tj, tk][q]? = some s → EvV ⟨K, [p], [], H, H⟩ [] (tCB (rLenQ K) (tCons (tOp (rIxT K) (tVar 8) (tC (.int (q : Int)))) tNil)) σ B12 (.int (s.length : Nat)) := fun {σ q s} h8 h => ev_len (c := ⟨K, [p], [], H, H⟩) (xs := s) (ev_ixTl (xs := Tl.mk [ti, tj, tk]) (i := q) (ev_var (i := 8) h8 rT12) ev_c h)
  refine sr_ret (ev_I0 (ev_I ev_c (ev_I0 (ev_I0 (ln (q := 0) rfl rfl) (ln (q := 1) rfl rfl)) (ln (q := 2) rfl rfl)) (by unfold CMul; left; decide)) (ev_I ev_c (ev_len (xs := qs) (ev_var rfl (Py.up e12 rp11))) (by unfold CMul; left; decide))) fun v B' e ev => ?_
  subst ev
  show V.bl _ = V.bl true
  congr 1
  refine decide_eq_true ?_
  omega
end Nz

/-! NpI: a Graph is made. -/
namespace Nz
open Py (rep)
open PyD (dat)
open PySem PySem.Spec PyProof.Rows L2
abbrev N_GraphD_initD : List Str := ["self", "vertices", "edges", "index", "tail", "head", "vertex"]
def t_GraphD_initD (K : Fg) (C : Addr) : TS :=
  (tSeq (tIfS (tTest (tOp rLtI (tVar 1) (tC (.int 0)))) tNever tNext)
  (tSeq (sFld K (tVar 0) (tVar 1) "_many")
  (tSeq (sFld K (tVar 0) (tLst tNil) "_pairs")
  (tSeq (sFld K (tVar 0) (tLc (iRng1 (tCons (tVar 1) tNil)) (gName 6) tYes (tLst tNil) [6]) "_at")
  (tFor (iEnum K (tCons (tVar 2) tNil)) (gTup K 2 (gCons (gName 3) (gCons (gTup K 2 (gCons (gName 4) (gCons (gName 5) gNil))) gNil))) (tSeq (tIfS (tOr (tNot (tTest (tChain rLeI rLtI (tC (.int 0)) (tVar 4) (tVar 1)))) (tNot (tTest (tChain rLeI rLtI (tC (.int 0)) (tVar 5) (tVar 1))))) tNever tNext)
  (tSeq (tDrop (tBM K "list" rAppend (tFld K (tVar 0) "_pairs") (tCons (tTup (tCons (tVar 4) (tCons (tVar 5) tNil))) tNil)))
  (tSeq (tDrop (tBM K "list" rAppend (tOp (rIxL K) (tFld K (tVar 0) "_at") (tVar 4)) (tCons (tVar 3) tNil)))
  (tIfS (tTest (tOp rNe (tVar 5) (tVar 4))) (tDrop (tBM K "list" rAppend (tOp (rIxL K) (tFld K (tVar 0) "_at") (tVar 5)) (tCons (tVar 3) tNil))) tNext)))))))))
def atk (es : List (Nat × Nat)) (u k : Nat) : List Nat := (List.range k).filter fun e => match es[e]? with | some (a, b) => a == u || b == u | none => false
theorem atk_succ {es : List (Nat × Nat)} {u k a b : Nat} (h : es[k]? = some (a, b)) : atk es u (k + 1) = atk es u k ++ (if a = u ∨ b = u then [k] else []) := by
  unfold atk
  rw [List.range_succ, List.filter_append]
  congr 1
  by_cases z : a = u ∨ b = u
  · rw [if_pos z]
    rcases z with z | z <;> simp [h, z]
  · rw [if_neg z]
    have z1 : ¬ a = u := fun q => z (.inl q)
    have z2 : ¬ b = u := fun q => z (.inr q)
    simp [h, z1, z2]
theorem atk_len (es : List (Nat × Nat)) (u k : Nat) : (atk es u k).length ≤ k := Nat.le_trans (List.length_filter_le _ _) (by simp)
theorem two_fields (n : Nat) (lp : Addr) : (putF "_pairs" (.ref lp) (putF "_many" (.int (n : Int)) [])).length = 2 := by
  show (if ("_many" : Str) = "_pairs" then [(("_many" : Str), V.ref lp)] else (("_many" : Str), V.int (n : Int)) :: putF "_pairs" (V.ref lp) []).length = 2
  rw [if_neg gr1']
  rfl
theorem pure_GraphD_initD {K : Fg} {C : Addr} (cl : Cls K C) (n1 : NoAttr K C "_many") (n2 : NoAttr K C "_pairs") (n3 : NoAttr K C "_at") (vs : List V) (H : Hp) (Q : VK) (E : XK) : sp_GraphD_initD K C vs H Q E → t_GraphD_initD K C { nx := fun _ H' => Q .non H', rt := Q } (start N_GraphD_initD vs) H := by
  refine bodyS ?_ vs H Q E
  rintro ⟨⟨n, es⟩, x, dx⟩ B H _ ⟨v, rfl, r, ok⟩
  have hs := sizeLine_eq
  have sn := ok.sn
  have sm : es.length ≤ 100000 := ok.sm
  dsimp only at r sn
  refine sr_seq (sr_ifB (b := false) (et_is (et_test (ev_I0 (ev_v rfl) ev_c)) (by rw [decide_eq_false]; omega)) (fun z => by cases z) fun _ B1 e1 => sr_next ?_)
  refine sr_fld cl n1 (by simp) (ev_v rfl) (ev_v rfl) fun y B2 B2' e2 ey e2' => ?_
  subst ey
  refine sr_fldN cl n2 (by show 1 < 1000; omega) (el_nil (α := Nat × Nat)) (fun L' => ev_v rfl) fun lp o B3 B3' e3 lpS ⟨us, eo, hu⟩ e3' => ?_
  subst eo
  cases hu
  refine sr_fldE (n := n) cl n3 (by rw [two_fields]; omega) (ev_v rfl) (by omega) (fun L' B' e => ev_v rfl) fun la as B4 e4 laS asS => ?_
  rw [grF_put]
  have e04 : Same B B4 := e1.trans (e2.trans (e2'.trans (e3.trans (e3'.trans e4))))
  have r4 : rep K B4 v es := Py.up e04 r
  have q1 : ∀ (a b : Addr × HO) (A : Lc) (z : Addr × HO), List.Perm (A ++ [a, b, z]) (a :: b :: (A ++ [z])) := fun a b A z => by
    refine (List.perm_middle (l₁ := A) (a := a) (l₂ := [b, z])).trans (List.Perm.cons _ ?_)
    exact List.perm_middle
  refine sr_perm (q1 _ _ _ _) ?_
  refine sr_last ?_
  refine sr_for1 (fun k σ B' L => ∃ (x3 x4 x5 : Option V) (us : List V), σ = [some (.ref x), some (.int n), some v, x3, x4, x5, none] ∧ L = fL n (fun u => (as u, HO.lst ((atk es u k).map fun n : Nat => V.int (n : Int)))) ++ [(x, .ins C dx (grF n lp la)), (la, .lst (fL n fun u => V.ref (as u))), (lp, .lst us)] ∧ Paired (rep K B') us (es.take k)) (ei_enum (xs := es) (ev_var rfl r4)) (fun B' e => ⟨none, none, none, [], rfl, rfl, .nil⟩) ?_ ?_
  · rintro k v' σ' B5 B' L' hk e5 ⟨x3, x4, x5, us, rfl, rfl, pu⟩ e6 ⟨⟨a, b⟩, hab, rv⟩
    refine ⟨_, tg_edge rv, fun σ2 e7 => ?_⟩
    subst e7
    have lt := ok.lt _ (List.mem_of_getElem? hab)
    have la' : a < n := lt.1
    have lb : b < n := lt.2
    have hlu := Paired.len pu
    have hlu2 : us.length ≤ k := by rw [hlu]; exact List.length_take_le _ _
    refine sr_seq (sr_ifB (b := false) (et_is (et_or (b := false) (b' := false) (et_is (et_not (et_test (ev_chain ev_c (ev_v rfl) (ev_v rfl)))) ?_) fun _ => et_is (et_not (et_test (ev_chain ev_c (ev_v rfl) (ev_v rfl)))) ?_) rfl) (fun z => by cases z) fun _ B7 e7 => sr_next ?_)
    · simp [la']
    · simp [lb]
    -- self._pairs.append((tail, head))
    generalize hA : fL n (fun u => (as u, HO.lst ((atk es u k).map fun n : Nat => V.int (n : Int)))) = A
    have q2 : ∀ (a b z : Addr × HO), List.Perm (z :: (A ++ [a, b])) (A ++ [a, b, z]) := fun a b z => by
      have h := (List.perm_middle (l₁ := A ++ [a, b]) (a := z) (l₂ := [])).symm
      rw [List.append_nil, List.append_assoc] at h
      exact h
    refine sr_perm (q2 _ _ _) ?_
    refine sr_app (R := fun w B' => rep K B' w (a, b)) (ev_fldO cl n2 (List.mem_cons_of_mem _ (List.mem_append_right _ List.mem_cons_self)) (grF_pairs n lp la) (ev_v rfl)) (ev_pair (x := a) (y := b) (ev_v rfl) (ev_v rfl)) (by omega) fun w B8 e8 rw8 => ?_
    refine sr_perm (q2 _ _ _).symm ?_
    have pu8 : Paired (rep K B8) (us ++ [w]) (es.take (k + 1)) := by
      rw [List.take_add_one, hab]
      exact Paired.app (Paired.imp (fun _ _ r => Py.up (e6.trans (e7.trans e8)) r) pu) (.cons rw8 .nil)
    -- self._at[tail].append(index)
    subst hA
    have mla : ∀ {A : Lc}, (la, HO.lst (fL n fun u => V.ref (as u))) ∈ A ++ [(x, .ins C dx (grF n lp la)), (la, .lst (fL n fun u => V.ref (as u))), (lp, .lst (us ++ [w]))] := List.mem_append_right _ (List.mem_cons_of_mem _ List.mem_cons_self)
    have mx : ∀ {A : Lc}, (x, HO.ins C dx (grF n lp la)) ∈ A ++ [(x, .ins C dx (grF n lp la)), (la, .lst (fL n fun u => V.ref (as u))), (lp, .lst (us ++ [w]))] := List.mem_append_right _ List.mem_cons_self
    refine sr_seq (sr_appAt (as := as) (cs := fun u => (atk es u k).map fun n : Nat => V.int (n : Int)) (v := a) (R := fun y _ => y = V.int (k : Int)) la' (ev_ixO (p := la) (i := (a : Nat)) mla (ev_fldO cl n3 mx (grF_at n lp la) (ev_v rfl)) (ev_v rfl) (by omega) (by rw [Int.toNat_natCast]; exact fL_get _ la')) (ev_v rfl) (by rw [List.length_map]; have := atk_len es a k; omega) fun y B9 e9 ey => ?_)
    subst ey
    have pu9 : Paired (rep K B9) (us ++ [w]) (es.take (k + 1)) := Paired.imp (fun _ _ r => Py.up e9 r) pu8
    refine sr_ifB (et_test (ev_ne (ev_v rfl) (ev_v rfl))) (fun hc B10 e10 => ?_) fun hc B10 e10 => sr_next ⟨_, _, _, us ++ [w], rfl, ?_, Paired.imp (fun _ _ r => Py.up e10 r) pu9⟩
    · have hne : ¬ b = a := fun z => by subst z; simp at hc
      refine sr_appAt (as := as) (cs := fun u => if u = a then ((atk es u k).map fun n : Nat => V.int (n : Int)) ++ [V.int (k : Int)] else (atk es u k).map fun n : Nat => V.int (n : Int)) (v := b) (R := fun y _ => y = V.int (k : Int)) lb (ev_ixO (p := la) (i := (b : Nat)) mla (ev_fldO cl n3 mx (grF_at n lp la) (ev_v rfl)) (ev_v rfl) (by omega) (by rw [Int.toNat_natCast]; exact fL_get _ lb)) (ev_v rfl) (by rw [if_neg hne, List.length_map]; have := atk_len es b k; omega) fun y B11 e11 ey => ⟨_, _, _, us ++ [w], rfl, ?_, Paired.imp (fun _ _ r => Py.up (e10.trans e11) r) pu9⟩
      subst ey
      congr 1
      refine fL_congr fun u hu => ?_
      rw [atk_succ hab]
      by_cases z1 : u = b
      · subst z1
        simp [hne]
      · by_cases z2 : u = a
        · subst z2; simp [z1]
        · have z1' : ¬ b = u := fun q => z1 q.symm
          have z2' : ¬ a = u := fun q => z2 q.symm
          simp [z1, z2, z1', z2']
    · have heq : b = a := by
        have : ¬ ¬ V.int (b : Int) = V.int (a : Int) := by simpa using hc
        by_cases z : b = a
        · exact z
        · exact (this fun q => z (by injection q with q; omega)).elim
      subst heq
      congr 1
      refine fL_congr fun u hu => ?_
      rw [atk_succ hab]
      by_cases z2 : u = b
      · subst z2; simp
      · have z2' : ¬ b = u := fun q => z2 q.symm
        simp [z2, z2']
  · rintro σ' B5 L' e5 ⟨x3, x4, x5, us, rfl, rfl, pu⟩
    refine ⟨fL n (fun u => (as u, HO.lst ((atk es u es.length).map fun n : Nat => V.int (n : Int)))) ++ [(la, .lst (fL n fun u => V.ref (as u))), (lp, .lst us)], [(x, .ins C dx (grF n lp la))], ?_, fun q hq => ?_, fun B6 e6 hq => ⟨rfl, rfl, lp, la, rfl, ?_, ?_⟩⟩
    · rw [List.append_assoc]
      refine List.Perm.append_left _ ?_
      exact (List.perm_middle (l₁ := [(la, _), (lp, _)]) (l₂ := []))
    · rcases List.mem_append.mp hq with hq | hq
      · obtain ⟨u, hu, rfl⟩ := List.mem_map.mp hq
        exact asS u (List.mem_range.mp hu)
      · rcases List.mem_cons.mp hq with rfl | hq
        · exact laS
        · rw [List.mem_singleton.mp hq]
          exact lpS
    · refine ⟨lp, us, rfl, hq (lp, .lst us) (List.mem_append_right _ (List.mem_cons_of_mem _ List.mem_cons_self)), ?_⟩
      rw [List.take_length] at pu
      exact Paired.imp (fun _ _ r => Py.up e6 r) pu
    · refine ⟨la, _, rfl, hq (la, _) (List.mem_append_right _ List.mem_cons_self), ?_⟩
      show Paired (rep K B6) ((List.range n).map fun u => V.ref (as u)) ((List.range n).map (Gr.atv ⟨n, es⟩))
      have h2 : ∀ l : List Nat, (∀ u ∈ l, u < n) → Paired (rep K B6) (l.map fun u => V.ref (as u)) (l.map (Gr.atv ⟨n, es⟩)) := by
        intro l
        induction l with
        | nil => exact fun _ => .nil
        | cons u l ih =>
          intro h
          refine .cons ⟨as u, _, rfl, hq (as u, HO.lst ((atk es u es.length).map fun n : Nat => V.int (n : Int))) (List.mem_append_left _ (List.mem_map.mpr ⟨u, List.mem_range.mpr (h u List.mem_cons_self), rfl⟩)), pnL _⟩ (ih fun u hu => h u (List.mem_cons_of_mem _ hu))
      exact h2 _ fun u hu => List.mem_range.mp hu
end Nz

set_option maxHeartbeats 4000000
namespace Nz
open PySem PySem.Spec PyProof.Rows L2
open Py (rep)
open PyD (dat)
def top (i : Nat) : Stmt := PySem.Challenge.pw_nowherezero_k43_light_covers.main.body.getD i (.Pass ⟨0, 0, 0, 0⟩)
theorem hu65 {A : Around} {k : Nat} (hr : Room k A) : A.units + 65 < cLine := by
  have h := hr.un
  omega
structure TxG (K : Fg) (C : Addr) : Prop where
  cl : Cls K C
  n1 : NoAttr K C "_many"
  n2 : NoAttr K C "_pairs"
  n3 : NoAttr K C "_at"
section
variable {P : Program} {w : World} {K : Fg} {mg : Str → Option Value} {base : Heap} {C : Addr}
abbrev s_GraphD_initD : Stmt := inClass (top 10) 0
theorem sc_GraphD_initD : FnScope N_GraphD_initD ["self", "vertices", "edges"] (defScope s_GraphD_initD) := ⟨rfl, rfl, rfl, by decide +kernel, rfl, by decide +kernel, by decide +kernel⟩
theorem der_GraphD_initD {f : Addr} (b : Bt mg)  (cdv : Value) (A : Around) (outer : List Env) (s : Shared) (H : Hp) (E : XK) (hr : Room 0 (A.deeper (envOfC "Graph.__init__" (defScope s_GraphD_initD) s.heap.objs.size f cdv))) :
  PSs (cxOf CX0 P w K mg base N_GraphD_initD "Graph.__init__" (defScope s_GraphD_initD) f cdv A outer s H E).nox (defBody s_GraphD_initD) (t_GraphD_initD K C) := by
  have hu := hr.units
  have hu1 := hu_of hr
  have hu5 := hu65 hr
  exact (pss_cons (ps_if (pt_cmpR op_lt (pv 1) pe_int (nomark _)) (pss_one ps_never) pss_nil)
    (pss_cons (ps_fld (pv 0) (pv 1) rfl)
    (pss_cons (ps_fld (pv 0) (pe_lst pa_nil) rfl)
    (pss_cons (ps_fld (pv 0) (pe_lc (own := [("vertex", 6)]) (g := (gName 6)) (tt := tYes) (te := (tLst tNil)) rfl sc_GraphD_initD.nd (pi_range1 (by rfl) b.range (pa_cons (pv 1) pa_nil)) (blkOk_by (N := N_GraphD_initD) (sc := defScope s_GraphD_initD) (own := [("vertex", 6)]) (by decide +kernel)) (fun _ _ _ _ _ => (pg_name (i := 6) sc_GraphD_initD.nd rfl (.inl rfl))) (fun _ _ _ _ _ => pts_nil) (fun _ _ _ _ _ => (pe_lst pa_nil))) rfl)
    (pss_one (ps_for PassesOwn.never rfl (pi_enum (by rfl) b.enumerate (pa_cons (pv 2) pa_nil)) (pg_tup rfl (pgs_cons (pg_name (i := 3) sc_GraphD_initD.nd rfl (.inl rfl)) (pgs_cons (pg_tup rfl (pgs_cons (pg_name (i := 4) sc_GraphD_initD.nd rfl (.inl rfl)) (pgs_cons (pg_name (i := 5) sc_GraphD_initD.nd rfl (.inl rfl)) pgs_nil))) pgs_nil))) (pss_cons (ps_if (PW.pt (pw_or (pt_not (pt_chain op_le op_lt pe_int (pv 4) (pv 1))) (pw_or1 (pt_not (pt_chain op_le op_lt pe_int (pv 5) (pv 1)))))) (pss_one ps_never) pss_nil)
    (pss_cons (ps_expr (pe_bm PySem.F.plainAttrs_list PySem.F.slot_list_append PySem.F.type_list_append mt_append (pe_fld (pv 0) rfl) (pa_cons (pe_tup (pa_cons (pv 4) (pa_cons (pv 5) pa_nil))) pa_nil)))
    (pss_cons (ps_expr (pe_bm PySem.F.plainAttrs_list PySem.F.slot_list_append PySem.F.type_list_append mt_append (pe_ix ix_list (pe_fld (pv 0) rfl) (pv 4) (fun _ _ => rfl)) (pa_cons (pv 3) pa_nil)))
    (pss_one (ps_if (pt_cmpR op_ne (pv 5) (pv 4) (nomark _)) (pss_one (ps_expr (pe_bm PySem.F.plainAttrs_list PySem.F.slot_list_append PySem.F.type_list_append mt_append (pe_ix ix_list (pe_fld (pv 0) rfl) (pv 5) (fun _ _ => rfl)) (pa_cons (pv 3) pa_nil)))) pss_nil)))))))))))
theorem ok_GraphD_initD {f : Addr} {fd : FuncData} (F : Fun K "__init__" "Graph.__init__" s_GraphD_initD f fd) (b : Bt mg) (T : TxG K C)  : FnOk P w K mg base CX0 1 f fd ["self", "vertices", "edges"] (sp_GraphD_initD K C) :=
  F.ok sc_GraphD_initD (fun vs H Q E h => by obtain ⟨i, B, w, hp, _⟩ := h; first | (obtain ⟨e, _⟩ := hp; exact congrArg List.length e) | (obtain ⟨_, e, _⟩ := hp; exact congrArg List.length e) | (obtain ⟨_, _, e, _⟩ := hp; exact congrArg List.length e) | (obtain ⟨_, _, _, e, _⟩ := hp; exact congrArg List.length e) | (obtain ⟨_, _, _, _, e, _⟩ := hp; exact congrArg List.length e) | (obtain ⟨_, _, _, _, _, e, _⟩ := hp; exact congrArg List.length e)) fun cdv A outer s H vs Q E hr h => ⟨_, der_GraphD_initD b  cdv A outer s H E hr, pure_GraphD_initD T.cl T.n1 T.n2 T.n3 vs H Q E h⟩
abbrev s__law_odd : Stmt := top 29
theorem sc__law_odd : FnScope N__law_odd ["many", "pairs", "edges"] (defScope s__law_odd) := ⟨rfl, rfl, rfl, by decide +kernel, rfl, by decide +kernel, by decide +kernel⟩
theorem der__law_odd {f : Addr} (b : Bt mg)  (cdv : Value) (A : Around) (outer : List Env) (s : Shared) (H : Hp) (E : XK) (hr : Room 0 (A.deeper (envOfC "_law_odd" (defScope s__law_odd) s.heap.objs.size f cdv))) :
  PSs (cxOf CX0 P w K mg base N__law_odd "_law_odd" (defScope s__law_odd) f cdv A outer s H E).nox (defBody s__law_odd) (t__law_odd K C) := by
  have hu := hr.units
  have hu1 := hu_of hr
  have hu5 := hu65 hr
  exact (pss_cons (ps_set (i := 3) sc__law_odd.nd rfl (.inr rfl) (pe_op op_cat (pe_lc (own := [("edge", 4)]) (g := (gName 4)) (tt := tYes) (te := (tOp (rIxT K) (tOp (rIxL K) (tVar 1) (tVar 4)) (tC (.int 0)))) rfl sc__law_odd.nd (pi_list (pv 2)) (blkOk_by (N := N__law_odd) (sc := defScope s__law_odd) (own := [("edge", 4)]) (by decide +kernel)) (fun _ _ _ _ _ => (pg_name (i := 4) sc__law_odd.nd rfl (.inl rfl))) (fun _ _ _ _ _ => pts_nil) (fun _ _ _ _ _ => (pe_ix ix_tup (pe_ix ix_list (pv 1) (pv 4) (fun _ _ => rfl)) pe_int (fun _ _ => rfl)))) (pe_lc (own := [("edge", 4)]) (g := (gName 4)) (tt := tYes) (te := (tOp (rIxT K) (tOp (rIxL K) (tVar 1) (tVar 4)) (tC (.int 1)))) rfl sc__law_odd.nd (pi_list (pv 2)) (blkOk_by (N := N__law_odd) (sc := defScope s__law_odd) (own := [("edge", 4)]) (by decide +kernel)) (fun _ _ _ _ _ => (pg_name (i := 4) sc__law_odd.nd rfl (.inl rfl))) (fun _ _ _ _ _ => pts_nil) (fun _ _ _ _ _ => (pe_ix ix_tup (pe_ix ix_list (pv 1) (pv 4) (fun _ _ => rfl)) pe_int (fun _ _ => rfl))))))
    (pss_one (ps_ret (pe_lc (own := [("vertex", 5)]) (g := (gName 5)) (tt := (tTest (tOp rEq (tOp rModI (tCB (rLenQ K) (tCons (tLc (iList K (tVar 3)) (gName 6) (tTest (tOp rEq (tVar 6) (tVar 5))) (tVar 6) [6]) tNil)) (tC (.int 2))) (tC (.int 1))))) (te := (tVar 5)) rfl sc__law_odd.nd (pi_range1 (by rfl) b.range (pa_cons (pv 0) pa_nil)) (blkOk_by (N := N__law_odd) (sc := defScope s__law_odd) (own := [("vertex", 5)]) (by decide +kernel)) (fun _ _ _ _ _ => (pg_name (i := 5) sc__law_odd.nd rfl (.inr rfl))) (fun _ _ _ _ _ => (pts_one (pt_cmpR op_eq (pe_op op_mod (pe_callB call_len_seq (by rfl) b.len PySem.boot_len (pa_cons (pe_lc (own := [("end", 6)]) (g := (gName 6)) (tt := (tTest (tOp rEq (tVar 6) (tVar 5)))) (te := (tVar 6)) rfl sc__law_odd.nd (pi_list (pv 3)) (blkOk_by (N := N__law_odd) (sc := relS _ (defScope s__law_odd)) (own := [("end", 6)]) (by decide +kernel)) (fun _ _ _ _ _ => (pg_name (i := 6) sc__law_odd.nd rfl (.inl rfl))) (fun _ _ _ _ _ => (pts_one (pt_cmpR op_eq (pv 6) (pv 5) (nomark _)))) (fun _ _ _ _ _ => (pv 6))) pa_nil)) pe_int) pe_int (nomark _)))) (fun _ _ _ _ _ => (pv 5))))))
theorem ok__law_odd {f : Addr} {fd : FuncData} (F : Fun K "_law_odd" "_law_odd" s__law_odd f fd) (b : Bt mg)  : FnOk P w K mg base CX0 1 f fd ["many", "pairs", "edges"] (sp__law_odd K C) :=
  F.ok sc__law_odd (fun vs H Q E h => by obtain ⟨i, B, w, hp, _⟩ := h; first | (obtain ⟨e, _⟩ := hp; exact congrArg List.length e) | (obtain ⟨_, e, _⟩ := hp; exact congrArg List.length e) | (obtain ⟨_, _, e, _⟩ := hp; exact congrArg List.length e) | (obtain ⟨_, _, _, e, _⟩ := hp; exact congrArg List.length e) | (obtain ⟨_, _, _, _, e, _⟩ := hp; exact congrArg List.length e) | (obtain ⟨_, _, _, _, _, e, _⟩ := hp; exact congrArg List.length e)) fun cdv A outer s H vs Q E hr h => ⟨_, der__law_odd b  cdv A outer s H E hr, pure__law_odd vs H Q E h⟩
abbrev s__law_are_even : Stmt := top 32
theorem sc__law_are_even : FnScope N__law_are_even ["many", "pairs", "sets", "count"] (defScope s__law_are_even) := ⟨rfl, rfl, rfl, by decide +kernel, rfl, by decide +kernel, by decide +kernel⟩
theorem der__law_are_even {f : Addr} (b : Bt mg) (D__law_odd : Df P w K mg base CX0 1 "_law_odd" ["many", "pairs", "edges"] (sp__law_odd K C)) (cdv : Value) (A : Around) (hg0 : A.guards = some []) (outer : List Env) (s : Shared) (H : Hp) (E : XK) (hr : Room 1 (A.deeper (envOfC "_law_are_even" (defScope s__law_are_even) s.heap.objs.size f cdv))) :
  PSs (cxOf CX0 P w K mg base N__law_are_even "_law_are_even" (defScope s__law_are_even) f cdv A outer s H E).nox (defBody s__law_are_even) (t__law_are_even K C) := by
  have hu := hr.units
  have hu1 := hu_of hr
  have hu5 := hu65 hr
  have hgd : (A.deeper (envOfC "_law_are_even" (defScope s__law_are_even) s.heap.objs.size f cdv)).guards = some [] := hg0
  exact (pss_cons (ps_if (pt_cmpR op_ne (pe_callB call_len_seq (by rfl) b.len PySem.boot_len (pa_cons (pv 2) pa_nil)) (pv 3) (nomark _)) (pss_one (ps_ret pe_bl)) pss_nil)
    (pss_cons (ps_for PassesOwn.never rfl (pi_seq (pv 2)) (pg_name (i := 4) sc__law_are_even.nd rfl (.inr rfl)) (pss_cons (ps_if (PW.pt (pw_or (pt_not (pt_truth (pe_callB call_isi (by rfl) b.isinstance (by decide +kernel) (pa_cons (pv 4) (pa_cons (pe_bltn (v := .ty "list") (by rfl) b.list (by decide +kernel) rfl) pa_nil))) (by intro _; rfl))) (pw_or1 (pt_cmpR op_ne (pe_callB (call_reprD hgd hu) (by rfl) b.repr (by decide +kernel) (pa_cons (pv 4) pa_nil)) (pe_callB (call_reprD hgd hu) (by rfl) b.repr (by decide +kernel) (pa_cons (pe_lc (own := [("edge", 5)]) (g := (gName 5)) (tt := (tTest (tOp (rIn K false) (tVar 5) (tVar 4)))) (te := (tVar 5)) rfl sc__law_are_even.nd (pi_range1 (by rfl) b.range (pa_cons (pe_callB call_len_seq (by rfl) b.len PySem.boot_len (pa_cons (pv 1) pa_nil)) pa_nil)) (blkOk_by (N := N__law_are_even) (sc := defScope s__law_are_even) (own := [("edge", 5)]) (by decide +kernel)) (fun _ _ _ _ _ => (pg_name (i := 5) sc__law_are_even.nd rfl (.inl rfl))) (fun _ _ _ _ _ => (pts_one (pt_cmpR op_in_seq (pv 5) (pv 4) rfl))) (fun _ _ _ _ _ => (pv 5))) pa_nil)) (nomark _))))) (pss_one (ps_ret pe_bl)) pss_nil)
    (pss_one (ps_if (pt_cmpR (op_neD hu) (pe_callD D__law_odd (hr.mono (by decide)) rfl pass0 (pa_cons (pv 0) (pa_cons (pv 1) (pa_cons (pv 4) pa_nil)))) (pe_lst pa_nil) (nomark _)) (pss_one (ps_ret pe_bl)) pss_nil))))
    (pss_one (ps_ret pe_bl))))
theorem ok__law_are_even {f : Addr} {fd : FuncData} (F : Fun K "_law_are_even" "_law_are_even" s__law_are_even f fd) (b : Bt mg) (D__law_odd : Df P w K mg base CX0 1 "_law_odd" ["many", "pairs", "edges"] (sp__law_odd K C)) : FnG P w K mg base CX0 2 f fd ["many", "pairs", "sets", "count"] (sp__law_are_even K C) :=
  fnX_of F sc__law_are_even (fun _ vs H Q E h => by obtain ⟨i, B, w, hp, _⟩ := h; first | (obtain ⟨e, _⟩ := hp; exact congrArg List.length e) | (obtain ⟨_, e, _⟩ := hp; exact congrArg List.length e) | (obtain ⟨_, _, e, _⟩ := hp; exact congrArg List.length e) | (obtain ⟨_, _, _, e, _⟩ := hp; exact congrArg List.length e) | (obtain ⟨_, _, _, _, e, _⟩ := hp; exact congrArg List.length e) | (obtain ⟨_, _, _, _, _, e, _⟩ := hp; exact congrArg List.length e)) fun cdv A fr s H vs Q E hg hr h => ⟨_, (der__law_are_even b D__law_odd cdv A hg fr s H E hr).nox, pure__law_are_even vs H Q E h⟩
abbrev s__law_counts : Stmt := top 33
theorem sc__law_counts : FnScope N__law_counts ["pairs", "sets"] (defScope s__law_counts) := ⟨rfl, rfl, rfl, by decide +kernel, rfl, by decide +kernel, by decide +kernel⟩
theorem der__law_counts {f : Addr} (b : Bt mg)  (cdv : Value) (A : Around) (outer : List Env) (s : Shared) (H : Hp) (E : XK) (hr : Room 0 (A.deeper (envOfC "_law_counts" (defScope s__law_counts) s.heap.objs.size f cdv))) :
  PSs (cxOf CX0 P w K mg base N__law_counts "_law_counts" (defScope s__law_counts) f cdv A outer s H E).nox (defBody s__law_counts) (t__law_counts K C) := by
  have hu := hr.units
  have hu1 := hu_of hr
  have hu5 := hu65 hr
  exact (pss_one (ps_ret (pe_lc (own := [("edge", 2)]) (g := (gName 2)) (tt := tYes) (te := (tCB (rLenQ K) (tCons (tLc (iSeq K (tVar 1)) (gName 3) (tTest (tOp (rIn K false) (tVar 2) (tVar 3))) (tVar 3) [3]) tNil))) rfl sc__law_counts.nd (pi_range1 (by rfl) b.range (pa_cons (pe_callB call_len_seq (by rfl) b.len PySem.boot_len (pa_cons (pv 0) pa_nil)) pa_nil)) (blkOk_by (N := N__law_counts) (sc := defScope s__law_counts) (own := [("edge", 2)]) (by decide +kernel)) (fun _ _ _ _ _ => (pg_name (i := 2) sc__law_counts.nd rfl (.inr rfl))) (fun _ _ _ _ _ => pts_nil) (fun _ _ _ _ _ => (pe_callB call_len_seq (by rfl) b.len PySem.boot_len (pa_cons (pe_lc (own := [("row", 3)]) (g := (gName 3)) (tt := (tTest (tOp (rIn K false) (tVar 2) (tVar 3)))) (te := (tVar 3)) rfl sc__law_counts.nd (pi_seq (pv 1)) (blkOk_by (N := N__law_counts) (sc := relS _ (defScope s__law_counts)) (own := [("row", 3)]) (by decide +kernel)) (fun _ _ _ _ _ => (pg_name (i := 3) sc__law_counts.nd rfl (.inl rfl))) (fun _ _ _ _ _ => (pts_one (pt_cmpR op_in_seq (pv 2) (pv 3) rfl))) (fun _ _ _ _ _ => (pv 3))) pa_nil))))))
theorem ok__law_counts {f : Addr} {fd : FuncData} (F : Fun K "_law_counts" "_law_counts" s__law_counts f fd) (b : Bt mg)  : FnOk P w K mg base CX0 1 f fd ["pairs", "sets"] (sp__law_counts K C) :=
  F.ok sc__law_counts (fun vs H Q E h => by obtain ⟨i, B, w, hp, _⟩ := h; first | (obtain ⟨e, _⟩ := hp; exact congrArg List.length e) | (obtain ⟨_, e, _⟩ := hp; exact congrArg List.length e) | (obtain ⟨_, _, e, _⟩ := hp; exact congrArg List.length e) | (obtain ⟨_, _, _, e, _⟩ := hp; exact congrArg List.length e) | (obtain ⟨_, _, _, _, e, _⟩ := hp; exact congrArg List.length e) | (obtain ⟨_, _, _, _, _, e, _⟩ := hp; exact congrArg List.length e)) fun cdv A outer s H vs Q E hr h => ⟨_, der__law_counts b  cdv A outer s H E hr, pure__law_counts vs H Q E h⟩
abbrev s__law_next : Stmt := top 27
theorem sc__law_next : FnScope N__law_next ["state", "many"] (defScope s__law_next) := ⟨rfl, rfl, rfl, by decide +kernel, rfl, by decide +kernel, by decide +kernel⟩
theorem der__law_next {f : Addr} (b : Bt mg)  (cdv : Value) (A : Around) (outer : List Env) (s : Shared) (H : Hp) (E : XK) (hr : Room 0 (A.deeper (envOfC "_law_next" (defScope s__law_next) s.heap.objs.size f cdv))) :
  PSs (cxOf CX0 P w K mg base N__law_next "_law_next" (defScope s__law_next) f cdv A outer s H E).nox (defBody s__law_next) (t__law_next K C) := by
  have hu := hr.units
  have hu1 := hu_of hr
  have hu5 := hu65 hr
  exact (pss_cons (ps_set (i := 2) sc__law_next.nd rfl (.inl rfl) (pe_ix ix_list (pv 0) pe_int (fun _ _ => rfl)))
    (pss_cons (ps_set (i := 3) sc__law_next.nd rfl (.inl rfl) (pe_ix ix_list (pv 0) pe_int (fun _ _ => rfl)))
    (pss_cons (ps_asg (pe_op op_add (pv 3) pe_int) (pg_sub (pv 0) pe_int set_list))
    (pss_one (ps_ret (pe_op op_mod (pe_callTy call_int1 (by rfl) b.int (by decide +kernel) (pa_cons (pe_op op_add (pe_ix ix_list (pv 2) (pe_op op_mod (pv 3) (pe_callB call_len_seq (by rfl) b.len PySem.boot_len (pa_cons (pv 2) pa_nil))) (fun _ _ => rfl)) (pe_op op_mul (pe_op op_fdiv (pv 3) (pe_callB call_len_seq (by rfl) b.len PySem.boot_len (pa_cons (pv 2) pa_nil))) pe_int)) pa_nil)) (pv 1)))))))
theorem ok__law_next {f : Addr} {fd : FuncData} (F : Fun K "_law_next" "_law_next" s__law_next f fd) (b : Bt mg)  : FnOk P w K mg base CX0 1 f fd ["state", "many"] (sp__law_next K C) :=
  F.ok sc__law_next (fun vs H Q E h => by obtain ⟨i, B, w, hp, _⟩ := h; first | (obtain ⟨e, _⟩ := hp; exact congrArg List.length e) | (obtain ⟨_, e, _⟩ := hp; exact congrArg List.length e) | (obtain ⟨_, _, e, _⟩ := hp; exact congrArg List.length e) | (obtain ⟨_, _, _, e, _⟩ := hp; exact congrArg List.length e) | (obtain ⟨_, _, _, _, e, _⟩ := hp; exact congrArg List.length e) | (obtain ⟨_, _, _, _, _, e, _⟩ := hp; exact congrArg List.length e)) fun cdv A outer s H vs Q E hr h => ⟨_, der__law_next b  cdv A outer s H E hr, pure__law_next vs H Q E h⟩
abbrev s__law_add_path : Stmt := top 30
theorem sc__law_add_path : FnScope N__law_add_path ["state", "built", "start", "goal", "bits"] (defScope s__law_add_path) := ⟨rfl, rfl, rfl, by decide +kernel, rfl, by decide +kernel, by decide +kernel⟩
theorem der__law_add_path {f : Addr} (b : Bt mg) (D__law_next : Df P w K mg base CX0 1 "_law_next" ["state", "many"] (sp__law_next K C)) (cdv : Value) (A : Around) (outer : List Env) (s : Shared) (H : Hp) (E : XK) (hr : Room 1 (A.deeper (envOfC "_law_add_path" (defScope s__law_add_path) s.heap.objs.size f cdv))) :
  PSs (cxOf CX0 P w K mg base N__law_add_path "_law_add_path" (defScope s__law_add_path) f cdv A outer s H E).nox (defBody s__law_add_path) (t__law_add_path K C) := by
  have hu := hr.units
  have hu1 := hu_of hr
  have hu5 := hu65 hr
  exact (pss_cons (ps_set (i := 5) sc__law_add_path.nd rfl (.inl rfl) (pv 2))
    (pss_cons (ps_for PassesOwn.never rfl (pi_range1 (by rfl) b.range (pa_cons (pe_callD D__law_next (hr.mono (by decide)) rfl pass0 (pa_cons (pv 0) (pa_cons pe_int pa_nil))) pa_nil)) (pg_name (i := 6) sc__law_add_path.nd rfl (.inl rfl)) (pss_cons (ps_expr (pe_bm PySem.F.plainAttrs_list PySem.F.slot_list_append PySem.F.type_list_append mt_append (pe_ix ix_list (pv 1) pe_int (fun _ _ => rfl)) (pa_cons (pe_tup (pa_cons (pv 5) (pa_cons (pe_ix ix_list (pv 1) pe_int (fun _ _ => rfl)) pa_nil))) pa_nil)))
    (pss_cons (ps_expr (pe_bm PySem.F.plainAttrs_list PySem.F.slot_list_append PySem.F.type_list_append mt_append (pe_ix ix_list (pv 1) pe_int (fun _ _ => rfl)) (pa_cons (pv 4) pa_nil)))
    (pss_cons (ps_set (i := 5) sc__law_add_path.nd rfl (.inl rfl) (pe_ix ix_list (pv 1) pe_int (fun _ _ => rfl)))
    (pss_one (ps_asg (pe_op op_add (pe_ix ix_list (pv 1) pe_int (fun _ _ => rfl)) pe_int) (pg_sub (pv 1) pe_int set_list)))))))
    (pss_cons (ps_expr (pe_bm PySem.F.plainAttrs_list PySem.F.slot_list_append PySem.F.type_list_append mt_append (pe_ix ix_list (pv 1) pe_int (fun _ _ => rfl)) (pa_cons (pe_tup (pa_cons (pv 5) (pa_cons (pv 3) pa_nil))) pa_nil)))
    (pss_one (ps_expr (pe_bm PySem.F.plainAttrs_list PySem.F.slot_list_append PySem.F.type_list_append mt_append (pe_ix ix_list (pv 1) pe_int (fun _ _ => rfl)) (pa_cons (pv 4) pa_nil)))))))
theorem ok__law_add_path {f : Addr} {fd : FuncData} (F : Fun K "_law_add_path" "_law_add_path" s__law_add_path f fd) (b : Bt mg) (D__law_next : Df P w K mg base CX0 1 "_law_next" ["state", "many"] (sp__law_next K C)) : FnOk P w K mg base CX0 2 f fd ["state", "built", "start", "goal", "bits"] (sp__law_add_path K C) :=
  F.ok sc__law_add_path (fun vs H Q E h => by obtain ⟨i, B, w, hp, _⟩ := h; first | (obtain ⟨e, _⟩ := hp; exact congrArg List.length e) | (obtain ⟨_, e, _⟩ := hp; exact congrArg List.length e) | (obtain ⟨_, _, e, _⟩ := hp; exact congrArg List.length e) | (obtain ⟨_, _, _, e, _⟩ := hp; exact congrArg List.length e) | (obtain ⟨_, _, _, _, e, _⟩ := hp; exact congrArg List.length e) | (obtain ⟨_, _, _, _, _, e, _⟩ := hp; exact congrArg List.length e)) fun cdv A outer s H vs Q E hr h => ⟨_, der__law_add_path b D__law_next cdv A outer s H E hr, pure__law_add_path vs H Q E h⟩
abbrev s__law_shuffled : Stmt := top 28
theorem sc__law_shuffled : FnScope N__law_shuffled ["state", "many"] (defScope s__law_shuffled) := ⟨rfl, rfl, rfl, by decide +kernel, rfl, by decide +kernel, by decide +kernel⟩
theorem der__law_shuffled {f : Addr} (b : Bt mg) (D__law_next : Df P w K mg base CX0 1 "_law_next" ["state", "many"] (sp__law_next K C)) (cdv : Value) (A : Around) (outer : List Env) (s : Shared) (H : Hp) (E : XK) (hr : Room 1 (A.deeper (envOfC "_law_shuffled" (defScope s__law_shuffled) s.heap.objs.size f cdv))) :
  PSs (cxOf CX0 P w K mg base N__law_shuffled "_law_shuffled" (defScope s__law_shuffled) f cdv A outer s H E).nox (defBody s__law_shuffled) (t__law_shuffled K C) := by
  have hu := hr.units
  have hu1 := hu_of hr
  have hu5 := hu65 hr
  exact (pss_cons (ps_set (i := 2) sc__law_shuffled.nd rfl (.inl rfl) (pe_listRange (by rfl) b.list (by rfl) b.range rfl (pv 1)))
    (pss_cons (ps_for PassesOwn.never rfl (pi_range1 (by rfl) b.range (pa_cons (pv 1) pa_nil)) (pg_name (i := 3) sc__law_shuffled.nd rfl (.inl rfl)) (pss_cons (ps_set (i := 4) sc__law_shuffled.nd rfl (.inl rfl) (pe_callD D__law_next (hr.mono (by decide)) rfl pass0 (pa_cons (pv 0) (pa_cons (pe_op op_add (pv 3) pe_int) pa_nil))))
    (pss_cons (ps_set (i := 5) sc__law_shuffled.nd rfl (.inl rfl) (pe_ix ix_list (pv 2) (pv 3) (fun _ _ => rfl)))
    (pss_cons (ps_asg (pe_ix ix_list (pv 2) (pv 4) (fun _ _ => rfl)) (pg_sub (pv 2) (pv 3) set_list))
    (pss_one (ps_asg (pv 5) (pg_sub (pv 2) (pv 4) set_list)))))))
    (pss_one (ps_ret (pv 2)))))
theorem ok__law_shuffled {f : Addr} {fd : FuncData} (F : Fun K "_law_shuffled" "_law_shuffled" s__law_shuffled f fd) (b : Bt mg) (D__law_next : Df P w K mg base CX0 1 "_law_next" ["state", "many"] (sp__law_next K C)) : FnOk P w K mg base CX0 2 f fd ["state", "many"] (sp__law_shuffled K C) :=
  F.ok sc__law_shuffled (fun vs H Q E h => by obtain ⟨i, B, w, hp, _⟩ := h; first | (obtain ⟨e, _⟩ := hp; exact congrArg List.length e) | (obtain ⟨_, e, _⟩ := hp; exact congrArg List.length e) | (obtain ⟨_, _, e, _⟩ := hp; exact congrArg List.length e) | (obtain ⟨_, _, _, e, _⟩ := hp; exact congrArg List.length e) | (obtain ⟨_, _, _, _, e, _⟩ := hp; exact congrArg List.length e) | (obtain ⟨_, _, _, _, _, e, _⟩ := hp; exact congrArg List.length e)) fun cdv A outer s H vs Q E hr h => ⟨_, der__law_shuffled b D__law_next cdv A outer s H E hr, pure__law_shuffled vs H Q E h⟩
abbrev s__law_covered : Stmt := top 31
theorem sc__law_covered : FnScope N__law_covered ["state", "count", "most"] (defScope s__law_covered) := ⟨rfl, rfl, rfl, by decide +kernel, rfl, by decide +kernel, by decide +kernel⟩
theorem der__law_covered {f : Addr} (b : Bt mg) (D__law_add_path : Df P w K mg base CX0 2 "_law_add_path" ["state", "built", "start", "goal", "bits"] (sp__law_add_path K C)) (D__law_next : Df P w K mg base CX0 1 "_law_next" ["state", "many"] (sp__law_next K C)) (D__law_shuffled : Df P w K mg base CX0 2 "_law_shuffled" ["state", "many"] (sp__law_shuffled K C)) (cdv : Value) (A : Around) (outer : List Env) (s : Shared) (H : Hp) (E : XK) (hr : Room 2 (A.deeper (envOfC "_law_covered" (defScope s__law_covered) s.heap.objs.size f cdv))) :
  PSs (cxOf CX0 P w K mg base N__law_covered "_law_covered" (defScope s__law_covered) f cdv A outer s H E).nox (defBody s__law_covered) (t__law_covered K C) := by
  have hu := hr.units
  have hu1 := hu_of hr
  have hu5 := hu65 hr
  exact (pss_cons (ps_set (i := 3) sc__law_covered.nd rfl (.inr rfl) (pe_lst (pa_cons (pe_op op_add pe_int (pe_callD D__law_next (hr.mono (by decide)) rfl pass0 (pa_cons (pv 0) (pa_cons pe_int pa_nil)))) (pa_cons (pe_lst pa_nil) (pa_cons (pe_lst pa_nil) pa_nil)))))
    (pss_cons (ps_for PassesOwn.never rfl (pi_range1 (by rfl) b.range (pa_cons (pe_callD D__law_next (hr.mono (by decide)) rfl pass0 (pa_cons (pv 0) (pa_cons (pe_op op_add (pv 2) pe_int) pa_nil))) pa_nil)) (pg_name (i := 4) sc__law_covered.nd rfl (.inl rfl)) (pss_cons (ps_set (i := 5) sc__law_covered.nd rfl (.inl rfl) (pe_callD D__law_next (hr.mono (by decide)) rfl pass0 (pa_cons (pv 0) (pa_cons (pe_ix ix_list (pv 3) pe_int (fun _ _ => rfl)) pa_nil))))
    (pss_cons (ps_set (i := 6) sc__law_covered.nd rfl (.inl rfl) (pe_callD D__law_next (hr.mono (by decide)) rfl pass0 (pa_cons (pv 0) (pa_cons (pe_ix ix_list (pv 3) pe_int (fun _ _ => rfl)) pa_nil))))
    (pss_cons (ps_set (i := 7) sc__law_covered.nd rfl (.inr rfl) (pe_lc (own := [("j", 17)]) (g := (gName 17)) (tt := tYes) (te := (tC (.int 0))) rfl sc__law_covered.nd (pi_range1 (by rfl) b.range (pa_cons (pv 1) pa_nil)) (blkOk_by (N := N__law_covered) (sc := defScope s__law_covered) (own := [("j", 17)]) (by decide +kernel)) (fun _ _ _ _ _ => (pg_name (i := 17) sc__law_covered.nd rfl (.inl rfl))) (fun _ _ _ _ _ => pts_nil) (fun _ _ _ _ _ => pe_int)))
    (pss_cons (ps_for PassesOwn.never rfl (pi_range1 (by rfl) b.range (pa_cons (pe_op op_add pe_int (pe_callD D__law_next (hr.mono (by decide)) rfl pass0 (pa_cons (pv 0) (pa_cons pe_int pa_nil)))) pa_nil)) (pg_name (i := 8) sc__law_covered.nd rfl (.inl rfl)) (pss_cons (ps_set (i := 9) sc__law_covered.nd rfl (.inr rfl) (pe_lc (own := [("j", 17)]) (g := (gName 17)) (tt := tYes) (te := (tCall (sp__law_next K C) [] E0 (tCons (tVar 0) (tCons (tC (.int 2)) tNil)))) rfl sc__law_covered.nd (pi_range1 (by rfl) b.range (pa_cons (pv 1) pa_nil)) (blkOk_by (N := N__law_covered) (sc := defScope s__law_covered) (own := [("j", 17)]) (by decide +kernel)) (fun _ _ _ _ _ => (pg_name (i := 17) sc__law_covered.nd rfl (.inl rfl))) (fun _ _ _ _ _ => pts_nil) (fun _ _ _ _ _ => (pe_callD D__law_next (hr.mono (by decide)) rfl pass0 (pa_cons (pv 0) (pa_cons pe_int pa_nil))))))
    (pss_cons (ps_if (pt_cmpR op_notIn_seq pe_int (pv 9) rfl) (pss_one (ps_asg pe_int (pg_sub (pv 9) (pe_callD D__law_next (hr.mono (by decide)) rfl pass0 (pa_cons (pv 0) (pa_cons (pv 1) pa_nil))) set_list))) pss_nil)
    (pss_cons (ps_expr (pe_callD D__law_add_path (hr.mono (by decide)) rfl pass0 (pa_cons (pv 0) (pa_cons (pv 3) (pa_cons (pv 5) (pa_cons (pv 6) (pa_cons (pv 9) pa_nil)))))))
    (pss_one (ps_set (i := 7) sc__law_covered.nd rfl (.inr rfl) (pe_lc (own := [("j", 17)]) (g := (gName 17)) (tt := tYes) (te := (tOp rModI (tCB rInt (tCons (tOp rAddI (tOp (rIxL K) (tVar 7) (tVar 17)) (tOp (rIxL K) (tVar 9) (tVar 17))) tNil)) (tC (.int 2)))) rfl sc__law_covered.nd (pi_range1 (by rfl) b.range (pa_cons (pv 1) pa_nil)) (blkOk_by (N := N__law_covered) (sc := defScope s__law_covered) (own := [("j", 17)]) (by decide +kernel)) (fun _ _ _ _ _ => (pg_name (i := 17) sc__law_covered.nd rfl (.inl rfl))) (fun _ _ _ _ _ => pts_nil) (fun _ _ _ _ _ => (pe_op op_mod (pe_callTy call_int1 (by rfl) b.int (by decide +kernel) (pa_cons (pe_op op_add (pe_ix ix_list (pv 7) (pv 17) (fun _ _ => rfl)) (pe_ix ix_list (pv 9) (pv 17) (fun _ _ => rfl))) pa_nil)) pe_int)))))))))
    (pss_one (ps_if (pt_cmpR op_in_seq pe_int (pv 7) rfl) (pss_one (ps_expr (pe_callD D__law_add_path (hr.mono (by decide)) rfl pass0 (pa_cons (pv 0) (pa_cons (pv 3) (pa_cons (pv 5) (pa_cons (pv 6) (pa_cons (pv 7) pa_nil)))))))) pss_nil)))))))
    (pss_cons (ps_set (i := 10) sc__law_covered.nd rfl (.inl rfl) (pe_callD D__law_shuffled (hr.mono (by decide)) rfl pass0 (pa_cons (pv 0) (pa_cons (pe_ix ix_list (pv 3) pe_int (fun _ _ => rfl)) pa_nil))))
    (pss_cons (ps_set (i := 11) sc__law_covered.nd rfl (.inl rfl) (pe_lst pa_nil))
    (pss_cons (ps_set (i := 12) sc__law_covered.nd rfl (.inr rfl) (pe_callD D__law_shuffled (hr.mono (by decide)) rfl pass0 (pa_cons (pv 0) (pa_cons (pe_callB call_len_seq (by rfl) b.len PySem.boot_len (pa_cons (pe_ix ix_list (pv 3) pe_int (fun _ _ => rfl)) pa_nil)) pa_nil))))
    (pss_cons (ps_for PassesOwn.never rfl (pi_list (pv 12)) (pg_name (i := 13) sc__law_covered.nd rfl (.inl rfl)) (pss_cons (ps_set (i := 14) sc__law_covered.nd rfl (.inl rfl) (pe_ix ix_list (pv 10) (pe_ix ix_tup (pe_ix ix_list (pe_ix ix_list (pv 3) pe_int (fun _ _ => rfl)) (pv 13) (fun _ _ => rfl)) pe_int (fun _ _ => rfl)) (fun _ _ => rfl)))
    (pss_cons (ps_set (i := 15) sc__law_covered.nd rfl (.inl rfl) (pe_ix ix_list (pv 10) (pe_ix ix_tup (pe_ix ix_list (pe_ix ix_list (pv 3) pe_int (fun _ _ => rfl)) (pv 13) (fun _ _ => rfl)) pe_int (fun _ _ => rfl)) (fun _ _ => rfl)))
    (pss_one (ps_expr (pe_bm PySem.F.plainAttrs_list PySem.F.slot_list_append PySem.F.type_list_append mt_append (pv 11) (pa_cons (pe_ifExp (pt_cmpR op_eq (pe_callD D__law_next (hr.mono (by decide)) rfl pass0 (pa_cons (pv 0) (pa_cons pe_int pa_nil))) pe_int (nomark _)) (pe_tup (pa_cons (pv 14) (pa_cons (pv 15) pa_nil))) (pe_tup (pa_cons (pv 15) (pa_cons (pv 14) pa_nil)))) pa_nil)))))))
    (pss_cons (ps_setLc (i := 16) (own := [("j", 17)]) (g := (gName 17)) (tt := tYes) (te := (tLc (iRng1 (tCons (tCB (rLenQ K) (tCons (tVar 12) tNil)) tNil)) (gName 18) (tTest (tOp rEq (tOp (rIxL K) (tOp (rIxL K) (tOp (rIxL K) (tVar 3) (tC (.int 2))) (tOp (rIxL K) (tVar 12) (tVar 18))) (tVar 17)) (tC (.int 1)))) (tVar 18) [18])) rfl sc__law_covered.nd rfl rfl (sw_true rfl rfl rfl (by decide +kernel)) (pi_range1 (by rfl) b.range (pa_cons (pv 1) pa_nil)) (blkOk_by (N := N__law_covered) (sc := defScope s__law_covered) (own := [("j", 17)]) (by decide +kernel)) (fun _ _ _ _ _ => (pg_name (i := 17) sc__law_covered.nd rfl (.inr rfl))) (fun _ _ _ _ _ => pts_nil) (fun _ _ _ _ _ => (pe_lc (own := [("edge", 18)]) (g := (gName 18)) (tt := (tTest (tOp rEq (tOp (rIxL K) (tOp (rIxL K) (tOp (rIxL K) (tVar 3) (tC (.int 2))) (tOp (rIxL K) (tVar 12) (tVar 18))) (tVar 17)) (tC (.int 1))))) (te := (tVar 18)) rfl sc__law_covered.nd (pi_range1 (by rfl) b.range (pa_cons (pe_callB call_len_seq (by rfl) b.len PySem.boot_len (pa_cons (pv 12) pa_nil)) pa_nil)) (blkOk_by (N := N__law_covered) (sc := relS _ (defScope s__law_covered)) (own := [("edge", 18)]) (by decide +kernel)) (fun _ _ _ _ _ => (pg_name (i := 18) sc__law_covered.nd rfl (.inl rfl))) (fun _ _ _ _ _ => (pts_one (pt_cmpR op_eq (pe_ix ix_list (pe_ix ix_list (pe_ix ix_list (pv 3) pe_int (fun _ _ => rfl)) (pe_ix ix_list (pv 12) (pv 18) (fun _ _ => rfl)) (fun _ _ => rfl)) (pv 17) (fun _ _ => rfl)) pe_int (nomark _)))) (fun _ _ _ _ _ => (pv 18)))))
    (pss_one (ps_ret (pe_lst (pa_cons (pe_ix ix_list (pv 3) pe_int (fun _ _ => rfl)) (pa_cons (pv 11) (pa_cons (pe_lc (own := [("row", 19)]) (g := (gName 19)) (tt := tYes) (te := (tIf (tTest (tOp rEq (tCall (sp__law_next K C) [] E0 (tCons (tVar 0) (tCons (tC (.int 2)) tNil))) (tC (.int 0)))) (tVar 19) (tRevL K (tVar 19)))) rfl sc__law_covered.nd (pi_list (pv 16)) (blkOk_by (N := N__law_covered) (sc := defScope s__law_covered) (own := [("row", 19)]) (by decide +kernel)) (fun _ _ _ _ _ => (pg_name (i := 19) sc__law_covered.nd rfl (.inl rfl))) (fun _ _ _ _ _ => pts_nil) (fun _ _ _ _ _ => (pe_ifExp (pt_cmpR op_eq (pe_callD D__law_next (hr.mono (by decide)) rfl pass0 (pa_cons (pv 0) (pa_cons pe_int pa_nil))) pe_int (nomark _)) (pv 19) (pe_revL (pv 19))))) pa_nil)))))))))))))
theorem ok__law_covered {f : Addr} {fd : FuncData} (F : Fun K "_law_covered" "_law_covered" s__law_covered f fd) (b : Bt mg) (D__law_add_path : Df P w K mg base CX0 2 "_law_add_path" ["state", "built", "start", "goal", "bits"] (sp__law_add_path K C)) (D__law_next : Df P w K mg base CX0 1 "_law_next" ["state", "many"] (sp__law_next K C)) (D__law_shuffled : Df P w K mg base CX0 2 "_law_shuffled" ["state", "many"] (sp__law_shuffled K C)) : FnOk P w K mg base CX0 3 f fd ["state", "count", "most"] (sp__law_covered K C) :=
  F.ok sc__law_covered (fun vs H Q E h => by obtain ⟨i, B, w, hp, _⟩ := h; first | (obtain ⟨e, _⟩ := hp; exact congrArg List.length e) | (obtain ⟨_, e, _⟩ := hp; exact congrArg List.length e) | (obtain ⟨_, _, e, _⟩ := hp; exact congrArg List.length e) | (obtain ⟨_, _, _, e, _⟩ := hp; exact congrArg List.length e) | (obtain ⟨_, _, _, _, e, _⟩ := hp; exact congrArg List.length e) | (obtain ⟨_, _, _, _, _, e, _⟩ := hp; exact congrArg List.length e)) fun cdv A outer s H vs Q E hr h => ⟨_, der__law_covered b D__law_add_path D__law_next D__law_shuffled cdv A outer s H E hr, pure__law_covered vs H Q E h⟩
abbrev s__law_cell : Stmt := top 24
theorem sc__law_cell : FnScope N__law_cell ["script", "k"] (defScope s__law_cell) := ⟨rfl, rfl, rfl, by decide +kernel, rfl, by decide +kernel, by decide +kernel⟩
theorem der__law_cell {f : Addr} (b : Bt mg)  (cdv : Value) (A : Around) (outer : List Env) (s : Shared) (H : Hp) (E : XK) (hr : Room 0 (A.deeper (envOfC "_law_cell" (defScope s__law_cell) s.heap.objs.size f cdv))) :
  PSs (cxOf CX0 P w K mg base N__law_cell "_law_cell" (defScope s__law_cell) f cdv A outer s H E).nox (defBody s__law_cell) (t__law_cell K C) := by
  have hu := hr.units
  have hu1 := hu_of hr
  have hu5 := hu65 hr
  exact (pss_cons (ps_if (pt_cmpR op_lt (pv 1) (pe_callB call_len_seq (by rfl) b.len PySem.boot_len (pa_cons (pv 0) pa_nil)) (nomark _)) (pss_one (ps_ret (pe_ix ix_list (pv 0) (pv 1) (fun _ _ => rfl)))) pss_nil)
    (pss_one (ps_ret pe_int)))
theorem ok__law_cell {f : Addr} {fd : FuncData} (F : Fun K "_law_cell" "_law_cell" s__law_cell f fd) (b : Bt mg)  : FnOk P w K mg base CX0 1 f fd ["script", "k"] (sp__law_cell K C) :=
  F.ok sc__law_cell (fun vs H Q E h => by obtain ⟨i, B, w, hp, _⟩ := h; first | (obtain ⟨e, _⟩ := hp; exact congrArg List.length e) | (obtain ⟨_, e, _⟩ := hp; exact congrArg List.length e) | (obtain ⟨_, _, e, _⟩ := hp; exact congrArg List.length e) | (obtain ⟨_, _, _, e, _⟩ := hp; exact congrArg List.length e) | (obtain ⟨_, _, _, _, e, _⟩ := hp; exact congrArg List.length e) | (obtain ⟨_, _, _, _, _, e, _⟩ := hp; exact congrArg List.length e)) fun cdv A outer s H vs Q E hr h => ⟨_, der__law_cell b  cdv A outer s H E hr, pure__law_cell vs H Q E h⟩
abbrev s__law_numbers : Stmt := top 25
theorem sc__law_numbers : FnScope N__law_numbers ["cell", "many"] (defScope s__law_numbers) := ⟨rfl, rfl, rfl, by decide +kernel, rfl, by decide +kernel, by decide +kernel⟩
theorem der__law_numbers {f : Addr} (b : Bt mg)  (cdv : Value) (A : Around) (outer : List Env) (s : Shared) (H : Hp) (E : XK) (hr : Room 0 (A.deeper (envOfC "_law_numbers" (defScope s__law_numbers) s.heap.objs.size f cdv))) :
  PSs (cxOf CX0 P w K mg base N__law_numbers "_law_numbers" (defScope s__law_numbers) f cdv A outer s H E).nox (defBody s__law_numbers) (t__law_numbers K C) := by
  have hu := hr.units
  have hu1 := hu_of hr
  have hu5 := hu65 hr
  exact (pss_cons (ps_set (i := 2) sc__law_numbers.nd rfl (.inl rfl) (pe_callB call_abs (by rfl) b.abs (by decide +kernel) (pa_cons (pv 0) pa_nil)))
    (pss_cons (ps_set (i := 3) sc__law_numbers.nd rfl (.inl rfl) (pv 2))
    (pss_cons (ps_set (i := 4) sc__law_numbers.nd rfl (.inl rfl) (pe_lst pa_nil))
    (pss_cons (ps_for PassesOwn.never rfl (pi_range1 (by rfl) b.range (pa_cons (pv 1) pa_nil)) (pg_name (i := 5) sc__law_numbers.nd rfl (.inl rfl)) (pss_one (ps_if (PW.pt (pw_and (pt_cmpR op_ge (pv 3) (pe_op op_pow pe_int pe_int) (nomark _)) (pw_and1 (pt_cmpR op_gt (pv 2) pe_int (nomark _))))) (pss_cons (ps_expr (pe_bm PySem.F.plainAttrs_list PySem.F.slot_list_append PySem.F.type_list_append mt_append (pv 4) (pa_cons (pe_op op_mod (pe_callTy call_int1 (by rfl) b.int (by decide +kernel) (pa_cons (pv 2) pa_nil)) pe_int) pa_nil)))
    (pss_one (ps_set (i := 2) sc__law_numbers.nd rfl (.inl rfl) (pe_op op_fdiv (pv 2) pe_int)))) (pss_cons (ps_set (i := 6) sc__law_numbers.nd rfl (.inl rfl) (pe_op op_mod (pe_callTy call_int1 (by rfl) b.int (by decide +kernel) (pa_cons (pe_op op_add (pe_op op_add (pe_op op_mul (pv 3) pe_int) (pe_op op_mul (pv 5) pe_int)) pe_int) pa_nil)) pe_int))
    (pss_cons (ps_set (i := 6) sc__law_numbers.nd rfl (.inl rfl) (pe_op op_mod (pe_callTy call_int1 (by rfl) b.int (by decide +kernel) (pa_cons (pe_op op_add (pe_op op_add (pe_op op_mul (pv 6) (pv 6)) (pe_op op_mul pe_int (pv 5))) pe_int) pa_nil)) pe_int))
    (pss_one (ps_expr (pe_bm PySem.F.plainAttrs_list PySem.F.slot_list_append PySem.F.type_list_append mt_append (pv 4) (pa_cons (pe_op op_mod (pe_callTy call_int1 (by rfl) b.int (by decide +kernel) (pa_cons (pe_op op_fdiv (pv 6) pe_int) pa_nil)) pe_int) pa_nil)))))))))
    (pss_one (ps_ret (pv 4)))))))
theorem ok__law_numbers {f : Addr} {fd : FuncData} (F : Fun K "_law_numbers" "_law_numbers" s__law_numbers f fd) (b : Bt mg)  : FnOk P w K mg base CX0 1 f fd ["cell", "many"] (sp__law_numbers K C) :=
  F.ok sc__law_numbers (fun vs H Q E h => by obtain ⟨i, B, w, hp, _⟩ := h; first | (obtain ⟨e, _⟩ := hp; exact congrArg List.length e) | (obtain ⟨_, e, _⟩ := hp; exact congrArg List.length e) | (obtain ⟨_, _, e, _⟩ := hp; exact congrArg List.length e) | (obtain ⟨_, _, _, e, _⟩ := hp; exact congrArg List.length e) | (obtain ⟨_, _, _, _, e, _⟩ := hp; exact congrArg List.length e) | (obtain ⟨_, _, _, _, _, e, _⟩ := hp; exact congrArg List.length e)) fun cdv A outer s H vs Q E hr h => ⟨_, der__law_numbers b  cdv A outer s H E hr, pure__law_numbers vs H Q E h⟩
abbrev s__law_state : Stmt := top 26
theorem sc__law_state : FnScope N__law_state ["script", "start", "many"] (defScope s__law_state) := ⟨rfl, rfl, rfl, by decide +kernel, rfl, by decide +kernel, by decide +kernel⟩
theorem der__law_state {f : Addr} (b : Bt mg) (D__law_cell : Df P w K mg base CX0 1 "_law_cell" ["script", "k"] (sp__law_cell K C)) (D__law_numbers : Df P w K mg base CX0 1 "_law_numbers" ["cell", "many"] (sp__law_numbers K C)) (cdv : Value) (A : Around) (outer : List Env) (s : Shared) (H : Hp) (E : XK) (hr : Room 1 (A.deeper (envOfC "_law_state" (defScope s__law_state) s.heap.objs.size f cdv))) :
  PSs (cxOf CX0 P w K mg base N__law_state "_law_state" (defScope s__law_state) f cdv A outer s H E).nox (defBody s__law_state) (t__law_state K C) := by
  have hu := hr.units
  have hu1 := hu_of hr
  have hu5 := hu65 hr
  exact (pss_cons (ps_set (i := 3) sc__law_state.nd rfl (.inl rfl) (pe_lst pa_nil))
    (pss_cons (ps_for PassesOwn.never rfl (pi_range2 (by rfl) b.range (pa_cons (pv 1) (pa_cons (pe_op op_add (pv 1) (pv 2)) pa_nil))) (pg_name (i := 4) sc__law_state.nd rfl (.inl rfl)) (pss_cons (ps_set (i := 5) sc__law_state.nd rfl (.inl rfl) (pe_callD D__law_cell (hr.mono (by decide)) rfl pass0 (pa_cons (pv 0) (pa_cons (pv 4) pa_nil))))
    (pss_cons (ps_if (pt_cmpR op_lt (pe_callB call_abs (by rfl) b.abs (by decide +kernel) (pa_cons (pv 5) pa_nil)) (pe_op op_pow pe_int pe_int) (nomark _)) (pss_one (ps_set (i := 5) sc__law_state.nd rfl (.inl rfl) (pe_op op_add (pe_op op_mul (pv 5) pe_int) (pv 4)))) pss_nil)
    (pss_one (ps_set (i := 3) sc__law_state.nd rfl (.inl rfl) (pe_op op_cat (pv 3) (pe_callD D__law_numbers (hr.mono (by decide)) rfl pass0 (pa_cons (pv 5) (pa_cons pe_int pa_nil)))))))))
    (pss_one (ps_ret (pe_lst (pa_cons (pv 3) (pa_cons pe_int pa_nil)))))))
theorem ok__law_state {f : Addr} {fd : FuncData} (F : Fun K "_law_state" "_law_state" s__law_state f fd) (b : Bt mg) (D__law_cell : Df P w K mg base CX0 1 "_law_cell" ["script", "k"] (sp__law_cell K C)) (D__law_numbers : Df P w K mg base CX0 1 "_law_numbers" ["cell", "many"] (sp__law_numbers K C)) : FnOk P w K mg base CX0 2 f fd ["script", "start", "many"] (sp__law_state K C) :=
  F.ok sc__law_state (fun vs H Q E h => by obtain ⟨i, B, w, hp, _⟩ := h; first | (obtain ⟨e, _⟩ := hp; exact congrArg List.length e) | (obtain ⟨_, e, _⟩ := hp; exact congrArg List.length e) | (obtain ⟨_, _, e, _⟩ := hp; exact congrArg List.length e) | (obtain ⟨_, _, _, e, _⟩ := hp; exact congrArg List.length e) | (obtain ⟨_, _, _, _, e, _⟩ := hp; exact congrArg List.length e) | (obtain ⟨_, _, _, _, _, e, _⟩ := hp; exact congrArg List.length e)) fun cdv A outer s H vs Q E hr h => ⟨_, der__law_state b D__law_cell D__law_numbers cdv A outer s H E hr, pure__law_state vs H Q E h⟩
abbrev s__law_sums : Stmt := top 34
theorem sc__law_sums : FnScope N__law_sums ["pairs", "sets"] (defScope s__law_sums) := ⟨rfl, rfl, rfl, by decide +kernel, rfl, by decide +kernel, by decide +kernel⟩
theorem der__law_sums {f : Addr} (b : Bt mg) (D__law_counts : Df P w K mg base CX0 1 "_law_counts" ["pairs", "sets"] (sp__law_counts K C)) (cdv : Value) (A : Around) (outer : List Env) (s : Shared) (H : Hp) (E : XK) (hr : Room 1 (A.deeper (envOfC "_law_sums" (defScope s__law_sums) s.heap.objs.size f cdv))) :
  PSs (cxOf CX0 P w K mg base N__law_sums "_law_sums" (defScope s__law_sums) f cdv A outer s H E).nox (defBody s__law_sums) (t__law_sums K C) := by
  have hu := hr.units
  have hu1 := hu_of hr
  have hu5 := hu65 hr
  exact (pss_cons (ps_set (i := 2) sc__law_sums.nd rfl (.inl rfl) (pe_lst pa_nil))
    (pss_cons (ps_for PassesOwn.never rfl (pi_list (pe_lst (pa_cons (pe_lst (pa_cons pe_int pa_nil)) (pa_cons (pe_lst (pa_cons pe_int pa_nil)) (pa_cons (pe_lst (pa_cons pe_int pa_nil)) (pa_cons (pe_lst (pa_cons pe_int (pa_cons pe_int pa_nil))) (pa_cons (pe_lst (pa_cons pe_int (pa_cons pe_int pa_nil))) (pa_cons (pe_lst (pa_cons pe_int (pa_cons pe_int pa_nil))) (pa_cons (pe_lst (pa_cons pe_int (pa_cons pe_int (pa_cons pe_int pa_nil)))) pa_nil))))))))) (pg_name (i := 3) sc__law_sums.nd rfl (.inl rfl)) (pss_cons (ps_set (i := 4) sc__law_sums.nd rfl (.inr rfl) (pe_callD D__law_counts (hr.mono (by decide)) rfl pass0 (pa_cons (pv 0) (pa_cons (pe_lc (own := [("place", 5)]) (g := (gName 5)) (tt := tYes) (te := (tOp (rIxL K) (tVar 1) (tVar 5))) rfl sc__law_sums.nd (pi_list (pv 3)) (blkOk_by (N := N__law_sums) (sc := defScope s__law_sums) (own := [("place", 5)]) (by decide +kernel)) (fun _ _ _ _ _ => (pg_name (i := 5) sc__law_sums.nd rfl (.inl rfl))) (fun _ _ _ _ _ => pts_nil) (fun _ _ _ _ _ => (pe_ix ix_list (pv 1) (pv 5) (fun _ _ => rfl)))) pa_nil))))
    (pss_one (ps_expr (pe_bm PySem.F.plainAttrs_list PySem.F.slot_list_append PySem.F.type_list_append mt_append (pv 2) (pa_cons (pe_lc (own := [("edge", 6)]) (g := (gName 6)) (tt := (tTest (tOp rEq (tOp rModI (tOp (rIxL K) (tVar 4) (tVar 6)) (tC (.int 2))) (tC (.int 1))))) (te := (tVar 6)) rfl sc__law_sums.nd (pi_range1 (by rfl) b.range (pa_cons (pe_callB call_len_seq (by rfl) b.len PySem.boot_len (pa_cons (pv 0) pa_nil)) pa_nil)) (blkOk_by (N := N__law_sums) (sc := defScope s__law_sums) (own := [("edge", 6)]) (by decide +kernel)) (fun _ _ _ _ _ => (pg_name (i := 6) sc__law_sums.nd rfl (.inl rfl))) (fun _ _ _ _ _ => (pts_one (pt_cmpR op_eq (pe_op op_mod (pe_ix ix_list (pv 4) (pv 6) (fun _ _ => rfl)) pe_int) pe_int (nomark _)))) (fun _ _ _ _ _ => (pv 6))) pa_nil))))))
    (pss_one (ps_ret (pv 2)))))
theorem ok__law_sums {f : Addr} {fd : FuncData} (F : Fun K "_law_sums" "_law_sums" s__law_sums f fd) (b : Bt mg) (D__law_counts : Df P w K mg base CX0 1 "_law_counts" ["pairs", "sets"] (sp__law_counts K C)) : FnOk P w K mg base CX0 2 f fd ["pairs", "sets"] (sp__law_sums K C) :=
  F.ok sc__law_sums (fun vs H Q E h => by obtain ⟨i, B, w, hp, _⟩ := h; first | (obtain ⟨e, _⟩ := hp; exact congrArg List.length e) | (obtain ⟨_, e, _⟩ := hp; exact congrArg List.length e) | (obtain ⟨_, _, e, _⟩ := hp; exact congrArg List.length e) | (obtain ⟨_, _, _, e, _⟩ := hp; exact congrArg List.length e) | (obtain ⟨_, _, _, _, e, _⟩ := hp; exact congrArg List.length e) | (obtain ⟨_, _, _, _, _, e, _⟩ := hp; exact congrArg List.length e)) fun cdv A outer s H vs Q E hr h => ⟨_, der__law_sums b D__law_counts cdv A outer s H E hr, pure__law_sums vs H Q E h⟩
abbrev s__is_basis : Stmt := top 22
theorem sc__is_basis : FnScope N__is_basis ["one", "two", "three"] (defScope s__is_basis) := ⟨rfl, rfl, rfl, by decide +kernel, rfl, by decide +kernel, by decide +kernel⟩
theorem der__is_basis {f : Addr} (b : Bt mg)  (cdv : Value) (A : Around) (outer : List Env) (s : Shared) (H : Hp) (E : XK) (hr : Room 0 (A.deeper (envOfC "_is_basis" (defScope s__is_basis) s.heap.objs.size f cdv))) :
  PSs (cxOf CX0 P w K mg base N__is_basis "_is_basis" (defScope s__is_basis) f cdv A outer s H E).nox (defBody s__is_basis) (t__is_basis K C) := by
  have hu := hr.units
  have hu1 := hu_of hr
  have hu5 := hu65 hr
  exact (pss_one (ps_ret (pe_cmpR (op_neD hu) (pe_lc (own := [("a", 3), ("b", 4)]) (g := (gTup K 2 (gCons (gName 3) (gCons (gName 4) gNil)))) (tt := tYes) (te := (tOp rModI (tOp rAddI (tVar 3) (tVar 4)) (tC (.int 2)))) rfl sc__is_basis.nd (pi_zipT (by rfl) b.zip (pa_cons (pv 0) (pa_cons (pv 1) pa_nil))) (blkOk_by (N := N__is_basis) (sc := defScope s__is_basis) (own := [("a", 3), ("b", 4)]) (by decide +kernel)) (fun _ _ _ _ _ => (pg_tup rfl (pgs_cons (pg_name (i := 3) sc__is_basis.nd rfl (.inl rfl)) (pgs_cons (pg_name (i := 4) sc__is_basis.nd rfl (.inl rfl)) pgs_nil)))) (fun _ _ _ _ _ => pts_nil) (fun _ _ _ _ _ => (pe_op op_mod (pe_op op_add (pv 3) (pv 4)) pe_int))) (pe_callTy call_list_of (by rfl) b.list (by decide +kernel) (pa_cons (pv 2) pa_nil)) (nomark _))))
theorem ok__is_basis {f : Addr} {fd : FuncData} (F : Fun K "_is_basis" "_is_basis" s__is_basis f fd) (b : Bt mg)  : FnOk P w K mg base CX0 1 f fd ["one", "two", "three"] (sp__is_basis K C) :=
  F.ok sc__is_basis (fun vs H Q E h => by obtain ⟨i, B, w, hp, _⟩ := h; first | (obtain ⟨e, _⟩ := hp; exact congrArg List.length e) | (obtain ⟨_, e, _⟩ := hp; exact congrArg List.length e) | (obtain ⟨_, _, e, _⟩ := hp; exact congrArg List.length e) | (obtain ⟨_, _, _, e, _⟩ := hp; exact congrArg List.length e) | (obtain ⟨_, _, _, _, e, _⟩ := hp; exact congrArg List.length e) | (obtain ⟨_, _, _, _, _, e, _⟩ := hp; exact congrArg List.length e)) fun cdv A outer s H vs Q E hr h => ⟨_, der__is_basis b  cdv A outer s H E hr, pure__is_basis vs H Q E h⟩
abbrev s_GraphD_lenD : Stmt := inClass (top 10) 3
abbrev N_GraphD_lenD : List Str := ["self"]
theorem sc_GraphD_lenD : FnScope N_GraphD_lenD ["self"] (defScope s_GraphD_lenD) := ⟨rfl, rfl, rfl, by decide +kernel, rfl, by decide +kernel, by decide +kernel⟩
theorem ok_GraphD_lenD {f : Addr} {fd : FuncData} (F : Fun K "__len__" "Graph.__len__" s_GraphD_lenD f fd) (b : Bt mg) (T : TxG K C) : FnOk P w K mg base CX0 1 f fd ["self"] (spLen C) := by
  refine F.ok sc_GraphD_lenD (fun vs H Q E h => ?_) fun cdv A outer s H vs Q E hr h => ?_
  · obtain ⟨a, dx, fs, l, zs, rfl, _⟩ := h
    rfl
  · obtain ⟨a, dx, fs, l, zs, rfl, h1, h2, h3, q⟩ := h
    refine ⟨_, pss_one (ps_ret (pe_callB call_len_seq (by rfl) b.len PySem.boot_len (pa_cons (pe_fld (pv 0) rfl) pa_nil))), ?_⟩
    exact ⟨_, rfl, a, C, dx, fs, _, rfl, h1, T.cl, T.n2, h2, l, zs, rfl, .inl (.inl (.inl h3)), q⟩
abbrev s_marked_edges : Stmt := top 11
theorem sc_marked_edges : FnScope N_marked_edges ["graph", "edges"] (defScope s_marked_edges) := ⟨rfl, rfl, rfl, by decide +kernel, rfl, by decide +kernel, by decide +kernel⟩
theorem der_marked_edges {f : Addr} (b : Bt mg) (D_Graph_len : Ds P w K mg base CX0 1 C "__len__" (spLen C)) (cdv : Value) (A : Around) (outer : List Env) (s : Shared) (H : Hp) (E : XK) (hr : Room 2 (A.deeper (envOfC "marked_edges" (defScope s_marked_edges) s.heap.objs.size f cdv))) :
  PSs (cxOf CX0 P w K mg base N_marked_edges "marked_edges" (defScope s_marked_edges) f cdv A outer s H E).nox (defBody s_marked_edges) (t_marked_edges K C) := by
  have hu := hr.units
  have hu1 := hu_of hr
  have hu5 := hu65 hr
  exact (pss_cons (ps_set (i := 2) sc_marked_edges.nd rfl (.inl rfl) (pe_op op_rep (pe_lst (pa_cons pe_bl pa_nil)) (pe_callB (call_lenD D_Graph_len (hr.mono (by decide)) pass0) (by rfl) b.len PySem.boot_len (pa_cons (pv 0) pa_nil))))
    (pss_cons (ps_for PassesOwn.never rfl (pi_list (pv 1)) (pg_name (i := 3) sc_marked_edges.nd rfl (.inl rfl)) (pss_cons (ps_if (pt_not (pt_chain op_le op_lt pe_int (pv 3) (pe_callB (call_lenD D_Graph_len (hr.mono (by decide)) pass0) (by rfl) b.len PySem.boot_len (pa_cons (pv 0) pa_nil)))) (pss_one ps_never) pss_nil)
    (pss_one (ps_asg pe_bl (pg_sub (pv 2) (pv 3) set_list)))))
    (pss_one (ps_ret (pv 2)))))
theorem ok_marked_edges {f : Addr} {fd : FuncData} (F : Fun K "marked_edges" "marked_edges" s_marked_edges f fd) (b : Bt mg) (D_Graph_len : Ds P w K mg base CX0 1 C "__len__" (spLen C)) : FnOk P w K mg base CX0 3 f fd ["graph", "edges"] (sp_marked_edges K C) :=
  F.ok sc_marked_edges (fun vs H Q E h => by obtain ⟨i, B, w, hp, _⟩ := h; first | (obtain ⟨e, _⟩ := hp; exact congrArg List.length e) | (obtain ⟨_, e, _⟩ := hp; exact congrArg List.length e) | (obtain ⟨_, _, e, _⟩ := hp; exact congrArg List.length e) | (obtain ⟨_, _, _, e, _⟩ := hp; exact congrArg List.length e) | (obtain ⟨_, _, _, _, e, _⟩ := hp; exact congrArg List.length e) | (obtain ⟨_, _, _, _, _, e, _⟩ := hp; exact congrArg List.length e)) fun cdv A outer s H vs Q E hr h => ⟨_, der_marked_edges b D_Graph_len cdv A outer s H E hr, pure_marked_edges vs H Q E h⟩
abbrev s_GraphD_iterD : Stmt := inClass (top 10) 4
abbrev N_GraphD_iterD : List Str := ["self"]
theorem sc_GraphD_iterD : FnScope N_GraphD_iterD ["self"] (defScope s_GraphD_iterD) := ⟨rfl, rfl, rfl, by decide +kernel, rfl, by decide +kernel, by decide +kernel⟩
theorem ok_GraphD_iterD {f : Addr} {fd : FuncData} (F : Fun K "__iter__" "Graph.__iter__" s_GraphD_iterD f fd) (b : Bt mg) (T : TxG K C) : FnX (fun _ => True) P w K mg base CX0 1 f fd ["self"] (spIt K C) := by
  refine fnX_of F sc_GraphD_iterD (fun n vs H Q E h => ?_) fun cdv A fr s H vs Q E _ hr h => ?_
  · obtain ⟨a, dx, fs, l, zs, rfl, _⟩ := h
    rfl
  · obtain ⟨a, dx, fs, l, zs, rfl, h1, h2, h3, q⟩ := h
    refine ⟨_, pss_one (ps_ret (pe_callB ItX.call_iterN (by rfl) b.iter (by decide +kernel) (pa_cons (pe_fld (pv 0) rfl) pa_nil))), ?_⟩
    exact ⟨_, rfl, a, C, dx, fs, _, rfl, h1, T.cl, T.n2, h2, l, zs, rfl, h3, q⟩
abbrev s_Graph_vertices : Stmt := inClass (top 10) 1
abbrev N_Graph_vertices : List Str := ["self"]
theorem sc_Graph_vertices : FnScope N_Graph_vertices ["self"] (defScope s_Graph_vertices) := ⟨rfl, rfl, rfl, by decide +kernel, rfl, by decide +kernel, by decide +kernel⟩
abbrev s_odd_vertices : Stmt := top 14
theorem sc_odd_vertices : FnScope N_odd_vertices ["graph", "marks"] (defScope s_odd_vertices) := ⟨rfl, rfl, rfl, by decide +kernel, rfl, by decide +kernel, by decide +kernel⟩
theorem der_odd_vertices {f : Addr} (b : Bt mg) (D_Graph_iter : Di P w K mg base CX0 1 C) (D_Graph_vertices : Dp' P w K mg base CX0 1 C "vertices" (getSp C "_many")) (cdv : Value) (A : Around) (outer : List Env) (s : Shared) (H : Hp) (E : XK) (hr : Room 3 (A.deeper (envOfC "odd_vertices" (defScope s_odd_vertices) s.heap.objs.size f cdv))) :
  PSs (cxOf CX0 P w K mg base N_odd_vertices "odd_vertices" (defScope s_odd_vertices) f cdv A outer s H E).nox (defBody s_odd_vertices) (t_odd_vertices K C) := by
  have hu := hr.units
  have hu1 := hu_of hr
  have hu5 := hu65 hr
  exact (pss_cons (ps_set (i := 2) sc_odd_vertices.nd rfl (.inl rfl) (pe_op op_rep (pe_lst (pa_cons pe_bl pa_nil)) (pe_propD D_Graph_vertices (pv 0) (hr.mono (by decide)) pass0 rfl)))
    (pss_cons (ps_for PassesOwn.never rfl (pi_enumD D_Graph_iter (hr.mono (by decide)) pass0 (by rfl) b.enumerate (pa_cons (pv 0) pa_nil)) (pg_tup rfl (pgs_cons (pg_name (i := 3) sc_odd_vertices.nd rfl (.inl rfl)) (pgs_cons (pg_tup rfl (pgs_cons (pg_name (i := 4) sc_odd_vertices.nd rfl (.inl rfl)) (pgs_cons (pg_name (i := 5) sc_odd_vertices.nd rfl (.inl rfl)) pgs_nil))) pgs_nil))) (pss_one (ps_if (pt_truth (pe_ix ix_list (pv 1) (pv 3) (fun _ _ => rfl)) (by intro _; rfl)) (pss_cons (ps_asg (pe_not (pe_ix ix_list (pv 2) (pv 4) (fun _ _ => rfl))) (pg_sub (pv 2) (pv 4) set_list))
    (pss_one (ps_asg (pe_not (pe_ix ix_list (pv 2) (pv 5) (fun _ _ => rfl))) (pg_sub (pv 2) (pv 5) set_list)))) pss_nil)))
    (pss_one (ps_ret (pv 2)))))
theorem ok_odd_vertices {f : Addr} {fd : FuncData} (F : Fun K "odd_vertices" "odd_vertices" s_odd_vertices f fd) (b : Bt mg) (D_Graph_iter : Di P w K mg base CX0 1 C) (D_Graph_vertices : Dp' P w K mg base CX0 1 C "vertices" (getSp C "_many")) : FnOk P w K mg base CX0 4 f fd ["graph", "marks"] (sp_odd_vertices K C) :=
  F.ok sc_odd_vertices (fun vs H Q E h => by obtain ⟨i, B, w, hp, _⟩ := h; first | (obtain ⟨e, _⟩ := hp; exact congrArg List.length e) | (obtain ⟨_, e, _⟩ := hp; exact congrArg List.length e) | (obtain ⟨_, _, e, _⟩ := hp; exact congrArg List.length e) | (obtain ⟨_, _, _, e, _⟩ := hp; exact congrArg List.length e) | (obtain ⟨_, _, _, _, e, _⟩ := hp; exact congrArg List.length e) | (obtain ⟨_, _, _, _, _, e, _⟩ := hp; exact congrArg List.length e)) fun cdv A outer s H vs Q E hr h => ⟨_, der_odd_vertices b D_Graph_iter D_Graph_vertices cdv A outer s H E hr, pure_odd_vertices vs H Q E h⟩
abbrev s_refuse_odd : Stmt := top 15
theorem sc_refuse_odd : FnScope N_refuse_odd ["graph", "marks"] (defScope s_refuse_odd) := ⟨rfl, rfl, rfl, by decide +kernel, rfl, by decide +kernel, by decide +kernel⟩
theorem der_refuse_odd {f : Addr} (b : Bt mg) (D_odd_vertices : Df P w K mg base CX0 4 "odd_vertices" ["graph", "marks"] (sp_odd_vertices K C)) (cdv : Value) (A : Around) (outer : List Env) (s : Shared) (H : Hp) (E : XK) (hr : Room 4 (A.deeper (envOfC "refuse_odd" (defScope s_refuse_odd) s.heap.objs.size f cdv))) :
  PSs (cxOf CX0 P w K mg base N_refuse_odd "refuse_odd" (defScope s_refuse_odd) f cdv A outer s H E).nox (defBody s_refuse_odd) (t_refuse_odd K C) := by
  have hu := hr.units
  have hu1 := hu_of hr
  have hu5 := hu65 hr
  exact (pss_cons (ps_set (i := 2) sc_refuse_odd.nd rfl (.inl rfl) (pe_callD D_odd_vertices (hr.mono (by decide)) rfl pass0 (pa_cons (pv 0) (pa_cons (pv 1) pa_nil))))
    (pss_one (ps_if (pt_cmpR op_in_seq pe_bl (pv 2) rfl) (pss_one ps_never) pss_nil)))
theorem ok_refuse_odd {f : Addr} {fd : FuncData} (F : Fun K "refuse_odd" "refuse_odd" s_refuse_odd f fd) (b : Bt mg) (D_odd_vertices : Df P w K mg base CX0 4 "odd_vertices" ["graph", "marks"] (sp_odd_vertices K C)) : FnOk P w K mg base CX0 5 f fd ["graph", "marks"] (sp_refuse_odd K C) :=
  F.ok sc_refuse_odd (fun vs H Q E h => by obtain ⟨i, B, w, hp, _⟩ := h; first | (obtain ⟨e, _⟩ := hp; exact congrArg List.length e) | (obtain ⟨_, e, _⟩ := hp; exact congrArg List.length e) | (obtain ⟨_, _, e, _⟩ := hp; exact congrArg List.length e) | (obtain ⟨_, _, _, e, _⟩ := hp; exact congrArg List.length e) | (obtain ⟨_, _, _, _, e, _⟩ := hp; exact congrArg List.length e) | (obtain ⟨_, _, _, _, _, e, _⟩ := hp; exact congrArg List.length e)) fun cdv A outer s H vs Q E hr h => ⟨_, der_refuse_odd b D_odd_vertices cdv A outer s H E hr, pure_refuse_odd vs H Q E h⟩
abbrev s__checked : Stmt := top 19
theorem sc__checked : FnScope N__checked ["graph", "sets"] (defScope s__checked) := ⟨rfl, rfl, rfl, by decide +kernel, rfl, by decide +kernel, by decide +kernel⟩
theorem der__checked {f : Addr} (b : Bt mg) (D_Graph_len : Ds P w K mg base CX0 1 C "__len__" (spLen C)) (D_marked_edges : Df P w K mg base CX0 3 "marked_edges" ["graph", "edges"] (sp_marked_edges K C)) (D_refuse_odd : Df P w K mg base CX0 5 "refuse_odd" ["graph", "marks"] (sp_refuse_odd K C)) (cdv : Value) (A : Around) (outer : List Env) (s : Shared) (H : Hp) (E : XK) (hr : Room 5 (A.deeper (envOfC "_checked" (defScope s__checked) s.heap.objs.size f cdv))) :
  PSs (cxOf CX0 P w K mg base N__checked "_checked" (defScope s__checked) f cdv A outer s H E).nox (defBody s__checked) (t__checked K C) := by
  have hu := hr.units
  have hu1 := hu_of hr
  have hu5 := hu65 hr
  exact (pss_cons (ps_setLc (i := 2) (own := [("edges", 5)]) (g := (gName 5)) (tt := tYes) (te := (tCall (sp_marked_edges K C) [] E0 (tCons (tVar 0) (tCons (tVar 5) tNil)))) rfl sc__checked.nd rfl rfl (sw_true rfl rfl rfl (by decide +kernel)) (pi_seq (pv 1)) (blkOk_by (N := N__checked) (sc := defScope s__checked) (own := [("edges", 5)]) (by decide +kernel)) (fun _ _ _ _ _ => (pg_name (i := 5) sc__checked.nd rfl (.inl rfl))) (fun _ _ _ _ _ => pts_nil) (fun _ _ _ _ _ => (pe_callD D_marked_edges (hr.mono (by decide)) rfl pass0 (pa_cons (pv 0) (pa_cons (pv 5) pa_nil)))))
    (pss_cons (ps_for PassesOwn.never rfl (pi_list (pv 2)) (pg_name (i := 3) sc__checked.nd rfl (.inl rfl)) (pss_one (ps_expr (pe_callD D_refuse_odd (hr.mono (by decide)) rfl pass0 (pa_cons (pv 0) (pa_cons (pv 3) pa_nil))))))
    (pss_cons (ps_for PassesOwn.never rfl (pi_range1 (by rfl) b.range (pa_cons (pe_callB (call_lenD D_Graph_len (hr.mono (by decide)) pass0) (by rfl) b.len PySem.boot_len (pa_cons (pv 0) pa_nil)) pa_nil)) (pg_name (i := 4) sc__checked.nd rfl (.inr rfl)) (pss_one (ps_if (pt_cmpR op_notIn_seq pe_bl (pe_lc (own := [("marks", 3)]) (g := (gName 3)) (tt := tYes) (te := (tOp (rIxL K) (tVar 3) (tVar 4))) rfl sc__checked.nd (pi_list (pv 2)) (blkOk_by (N := N__checked) (sc := defScope s__checked) (own := [("marks", 3)]) (by decide +kernel)) (fun _ _ _ _ _ => (pg_name (i := 3) sc__checked.nd rfl (.inl rfl))) (fun _ _ _ _ _ => pts_nil) (fun _ _ _ _ _ => (pe_ix ix_list (pv 3) (pv 4) (fun _ _ => rfl)))) rfl) (pss_one ps_never) pss_nil)))
    (pss_one (ps_ret (pv 2))))))
theorem ok__checked {f : Addr} {fd : FuncData} (F : Fun K "_checked" "_checked" s__checked f fd) (b : Bt mg) (D_Graph_len : Ds P w K mg base CX0 1 C "__len__" (spLen C)) (D_marked_edges : Df P w K mg base CX0 3 "marked_edges" ["graph", "edges"] (sp_marked_edges K C)) (D_refuse_odd : Df P w K mg base CX0 5 "refuse_odd" ["graph", "marks"] (sp_refuse_odd K C)) : FnOk P w K mg base CX0 6 f fd ["graph", "sets"] (sp__checked K C) :=
  F.ok sc__checked (fun vs H Q E h => by obtain ⟨i, B, w, hp, _⟩ := h; first | (obtain ⟨e, _⟩ := hp; exact congrArg List.length e) | (obtain ⟨_, e, _⟩ := hp; exact congrArg List.length e) | (obtain ⟨_, _, e, _⟩ := hp; exact congrArg List.length e) | (obtain ⟨_, _, _, e, _⟩ := hp; exact congrArg List.length e) | (obtain ⟨_, _, _, _, e, _⟩ := hp; exact congrArg List.length e) | (obtain ⟨_, _, _, _, _, e, _⟩ := hp; exact congrArg List.length e)) fun cdv A outer s H vs Q E hr h => ⟨_, der__checked b D_Graph_len D_marked_edges D_refuse_odd cdv A outer s H E hr, pure__checked vs H Q E h⟩
abbrev s_sum_of_marks : Stmt := top 16
theorem sc_sum_of_marks : FnScope N_sum_of_marks ["one", "other"] (defScope s_sum_of_marks) := ⟨rfl, rfl, rfl, by decide +kernel, rfl, by decide +kernel, by decide +kernel⟩
theorem der_sum_of_marks {f : Addr} (b : Bt mg)  (cdv : Value) (A : Around) (outer : List Env) (s : Shared) (H : Hp) (E : XK) (hr : Room 0 (A.deeper (envOfC "sum_of_marks" (defScope s_sum_of_marks) s.heap.objs.size f cdv))) :
  PSs (cxOf CX0 P w K mg base N_sum_of_marks "sum_of_marks" (defScope s_sum_of_marks) f cdv A outer s H E).nox (defBody s_sum_of_marks) (t_sum_of_marks K C) := by
  have hu := hr.units
  have hu1 := hu_of hr
  have hu5 := hu65 hr
  exact (pss_one (ps_ret (pe_lc (own := [("a", 2), ("b", 3)]) (g := (gTup K 2 (gCons (gName 2) (gCons (gName 3) gNil)))) (tt := tYes) (te := (tOp rNe (tVar 2) (tVar 3))) rfl sc_sum_of_marks.nd (pi_zip (by rfl) b.zip (pa_cons (pv 0) (pa_cons (pv 1) pa_nil))) (blkOk_by (N := N_sum_of_marks) (sc := defScope s_sum_of_marks) (own := [("a", 2), ("b", 3)]) (by decide +kernel)) (fun _ _ _ _ _ => (pg_tup rfl (pgs_cons (pg_name (i := 2) sc_sum_of_marks.nd rfl (.inl rfl)) (pgs_cons (pg_name (i := 3) sc_sum_of_marks.nd rfl (.inl rfl)) pgs_nil)))) (fun _ _ _ _ _ => pts_nil) (fun _ _ _ _ _ => (pe_cmpR op_ne (pv 2) (pv 3) (nomark _))))))
theorem ok_sum_of_marks {f : Addr} {fd : FuncData} (F : Fun K "sum_of_marks" "sum_of_marks" s_sum_of_marks f fd) (b : Bt mg)  : FnOk P w K mg base CX0 1 f fd ["one", "other"] (sp_sum_of_marks K C) :=
  F.ok sc_sum_of_marks (fun vs H Q E h => by obtain ⟨i, B, w, hp, _⟩ := h; first | (obtain ⟨e, _⟩ := hp; exact congrArg List.length e) | (obtain ⟨_, e, _⟩ := hp; exact congrArg List.length e) | (obtain ⟨_, _, e, _⟩ := hp; exact congrArg List.length e) | (obtain ⟨_, _, _, e, _⟩ := hp; exact congrArg List.length e) | (obtain ⟨_, _, _, _, e, _⟩ := hp; exact congrArg List.length e) | (obtain ⟨_, _, _, _, _, e, _⟩ := hp; exact congrArg List.length e)) fun cdv A outer s H vs Q E hr h => ⟨_, der_sum_of_marks b  cdv A outer s H E hr, pure_sum_of_marks vs H Q E h⟩
abbrev s__seven : Stmt := top 20
theorem sc__seven : FnScope N__seven ["graph", "sets"] (defScope s__seven) := ⟨rfl, rfl, rfl, by decide +kernel, rfl, by decide +kernel, by decide +kernel⟩
theorem der__seven {f : Addr} (b : Bt mg) (D_Graph_len : Ds P w K mg base CX0 1 C "__len__" (spLen C)) (D__checked : Df P w K mg base CX0 6 "_checked" ["graph", "sets"] (sp__checked K C)) (D_sum_of_marks : Df P w K mg base CX0 1 "sum_of_marks" ["one", "other"] (sp_sum_of_marks K C)) {g_MASKS : Addr} (m_MASKS : mg "MASKS" = some (.ref g_MASKS)) (v_MASKS : ∀ B, rep K B (.ref g_MASKS) mskT) (cdv : Value) (A : Around) (outer : List Env) (s : Shared) (H : Hp) (E : XK) (hr : Room 6 (A.deeper (envOfC "_seven" (defScope s__seven) s.heap.objs.size f cdv))) :
  PSs (cxOf CX0 P w K mg base N__seven "_seven" (defScope s__seven) f cdv A outer s H E).nox (defBody s__seven) (t__seven K C g_MASKS) := by
  have hu := hr.units
  have hu1 := hu_of hr
  have hu5 := hu65 hr
  exact (pss_cons (ps_if (pt_cmpR op_ne (pe_callB call_len_seq (by rfl) b.len PySem.boot_len (pa_cons (pv 1) pa_nil)) pe_int (nomark _)) (pss_one ps_never) pss_nil)
    (pss_cons (ps_set (i := 2) sc__seven.nd rfl (.inl rfl) (pe_callD D__checked (hr.mono (by decide)) rfl pass0 (pa_cons (pv 0) (pa_cons (pv 1) pa_nil))))
    (pss_cons (ps_set (i := 3) sc__seven.nd rfl (.inl rfl) (pe_lst pa_nil))
    (pss_cons (ps_for PassesOwn.never rfl (pi_tup (pe_glob rfl m_MASKS rfl)) (pg_name (i := 4) sc__seven.nd rfl (.inl rfl)) (pss_cons (ps_set (i := 5) sc__seven.nd rfl (.inl rfl) (pe_op op_rep (pe_lst (pa_cons pe_bl pa_nil)) (pe_callB (call_lenD D_Graph_len (hr.mono (by decide)) pass0) (by rfl) b.len PySem.boot_len (pa_cons (pv 0) pa_nil))))
    (pss_cons (ps_for PassesOwn.never rfl (pi_zipM (by rfl) b.zip (pa_cons (pv 4) (pa_cons (pv 2) pa_nil))) (pg_tup rfl (pgs_cons (pg_name (i := 6) sc__seven.nd rfl (.inl rfl)) (pgs_cons (pg_name (i := 7) sc__seven.nd rfl (.inl rfl)) pgs_nil))) (pss_one (ps_if (pt_cmpR op_eq (pv 6) pe_int (nomark _)) (pss_one (ps_set (i := 5) sc__seven.nd rfl (.inl rfl) (pe_callD D_sum_of_marks (hr.mono (by decide)) rfl pass0 (pa_cons (pv 5) (pa_cons (pv 7) pa_nil))))) pss_nil)))
    (pss_one (ps_expr (pe_bm PySem.F.plainAttrs_list PySem.F.slot_list_append PySem.F.type_list_append mt_append (pv 3) (pa_cons (pv 5) pa_nil)))))))
    (pss_one (ps_ret (pv 3)))))))
theorem ok__seven {f : Addr} {fd : FuncData} (F : Fun K "_seven" "_seven" s__seven f fd) (b : Bt mg) (D_Graph_len : Ds P w K mg base CX0 1 C "__len__" (spLen C)) (D__checked : Df P w K mg base CX0 6 "_checked" ["graph", "sets"] (sp__checked K C)) (D_sum_of_marks : Df P w K mg base CX0 1 "sum_of_marks" ["one", "other"] (sp_sum_of_marks K C)) {g_MASKS : Addr} (m_MASKS : mg "MASKS" = some (.ref g_MASKS)) (v_MASKS : ∀ B, rep K B (.ref g_MASKS) mskT) : FnOk P w K mg base CX0 7 f fd ["graph", "sets"] (sp__seven K C) :=
  F.ok sc__seven (fun vs H Q E h => by obtain ⟨i, B, w, hp, _⟩ := h; first | (obtain ⟨e, _⟩ := hp; exact congrArg List.length e) | (obtain ⟨_, e, _⟩ := hp; exact congrArg List.length e) | (obtain ⟨_, _, e, _⟩ := hp; exact congrArg List.length e) | (obtain ⟨_, _, _, e, _⟩ := hp; exact congrArg List.length e) | (obtain ⟨_, _, _, _, e, _⟩ := hp; exact congrArg List.length e) | (obtain ⟨_, _, _, _, _, e, _⟩ := hp; exact congrArg List.length e)) fun cdv A outer s H vs Q E hr h => ⟨_, der__seven b D_Graph_len D__checked D_sum_of_marks m_MASKS v_MASKS cdv A outer s H E hr, pure__seven v_MASKS vs H Q E h⟩
abbrev s_places : Stmt := top 12
theorem sc_places : FnScope N_places ["marks"] (defScope s_places) := ⟨rfl, rfl, rfl, by decide +kernel, rfl, by decide +kernel, by decide +kernel⟩
theorem der_places {f : Addr} (b : Bt mg)  (cdv : Value) (A : Around) (outer : List Env) (s : Shared) (H : Hp) (E : XK) (hr : Room 0 (A.deeper (envOfC "places" (defScope s_places) s.heap.objs.size f cdv))) :
  PSs (cxOf CX0 P w K mg base N_places "places" (defScope s_places) f cdv A outer s H E).nox (defBody s_places) (t_places K C) := by
  have hu := hr.units
  have hu1 := hu_of hr
  have hu5 := hu65 hr
  exact (pss_one (ps_ret (pe_lc (own := [("place", 1), ("mark", 2)]) (g := (gTup K 2 (gCons (gName 1) (gCons (gName 2) gNil)))) (tt := (tTru K (tVar 2))) (te := (tVar 1)) rfl sc_places.nd (pi_enum (by rfl) b.enumerate (pa_cons (pv 0) pa_nil)) (blkOk_by (N := N_places) (sc := defScope s_places) (own := [("place", 1), ("mark", 2)]) (by decide +kernel)) (fun _ _ _ _ _ => (pg_tup rfl (pgs_cons (pg_name (i := 1) sc_places.nd rfl (.inl rfl)) (pgs_cons (pg_name (i := 2) sc_places.nd rfl (.inl rfl)) pgs_nil)))) (fun _ _ _ _ _ => (pts_one (pt_truth (pv 2) (by intro _; rfl)))) (fun _ _ _ _ _ => (pv 1)))))
theorem ok_places {f : Addr} {fd : FuncData} (F : Fun K "places" "places" s_places f fd) (b : Bt mg)  : FnOk P w K mg base CX0 1 f fd ["marks"] (sp_places K C) :=
  F.ok sc_places (fun vs H Q E h => by obtain ⟨i, B, w, hp, _⟩ := h; first | (obtain ⟨e, _⟩ := hp; exact congrArg List.length e) | (obtain ⟨_, e, _⟩ := hp; exact congrArg List.length e) | (obtain ⟨_, _, e, _⟩ := hp; exact congrArg List.length e) | (obtain ⟨_, _, _, e, _⟩ := hp; exact congrArg List.length e) | (obtain ⟨_, _, _, _, e, _⟩ := hp; exact congrArg List.length e) | (obtain ⟨_, _, _, _, _, e, _⟩ := hp; exact congrArg List.length e)) fun cdv A outer s H vs Q E hr h => ⟨_, der_places b  cdv A outer s H E hr, pure_places vs H Q E h⟩
abbrev s_light_cover : Stmt := top 21
theorem sc_light_cover : FnScope N_light_cover ["graph", "sets"] (defScope s_light_cover) := ⟨rfl, rfl, rfl, by decide +kernel, rfl, by decide +kernel, by decide +kernel⟩
theorem der_light_cover {f : Addr} (b : Bt mg) (D__is_basis : Df P w K mg base CX0 1 "_is_basis" ["one", "two", "three"] (sp__is_basis K C)) (D__seven : Df P w K mg base CX0 7 "_seven" ["graph", "sets"] (sp__seven K C)) (D_places : Df P w K mg base CX0 1 "places" ["marks"] (sp_places K C)) {g_MASKS : Addr} (m_MASKS : mg "MASKS" = some (.ref g_MASKS)) (v_MASKS : ∀ B, rep K B (.ref g_MASKS) mskT) (cdv : Value) (A : Around) (outer : List Env) (s : Shared) (H : Hp) (E : XK) (hr : Room 7 (A.deeper (envOfC "light_cover" (defScope s_light_cover) s.heap.objs.size f cdv))) :
  PSs (cxOf CX0 P w K mg base N_light_cover "light_cover" (defScope s_light_cover) f cdv A outer s H E).nox (defBody s_light_cover) (t_light_cover K C g_MASKS) := by
  have hu := hr.units
  have hu1 := hu_of hr
  have hu5 := hu65 hr
  exact (pss_cons (ps_setLc (i := 2) (own := [("marks", 8)]) (g := (gName 8)) (tt := tYes) (te := (tCall (sp_places K C) [] E0 (tCons (tVar 8) tNil))) rfl sc_light_cover.nd rfl rfl (sw_true rfl rfl rfl (by decide +kernel)) (pi_list (pe_callD D__seven (hr.mono (by decide)) rfl pass0 (pa_cons (pv 0) (pa_cons (pv 1) pa_nil)))) (blkOk_by (N := N_light_cover) (sc := defScope s_light_cover) (own := [("marks", 8)]) (by decide +kernel)) (fun _ _ _ _ _ => (pg_name (i := 8) sc_light_cover.nd rfl (.inl rfl))) (fun _ _ _ _ _ => pts_nil) (fun _ _ _ _ _ => (pe_callD D_places (hr.mono (by decide)) rfl pass0 (pa_cons (pv 8) pa_nil))))
    (pss_cons (ps_set (i := 3) sc_light_cover.nd rfl (.inl rfl) pe_non)
    (pss_cons (ps_for PassesOwn.never rfl (pi_range1 (by rfl) b.range (pa_cons pe_int pa_nil)) (pg_name (i := 4) sc_light_cover.nd rfl (.inl rfl)) (pss_one (ps_for PassesOwn.never rfl (pi_range1 (by rfl) b.range (pa_cons (pv 4) pa_nil)) (pg_name (i := 5) sc_light_cover.nd rfl (.inl rfl)) (pss_one (ps_for PassesOwn.never rfl (pi_range1 (by rfl) b.range (pa_cons (pv 5) pa_nil)) (pg_name (i := 6) sc_light_cover.nd rfl (.inl rfl)) (pss_one (ps_if (pt_truth (pe_callD D__is_basis (hr.mono (by decide)) rfl pass0 (pa_cons (pe_ix ix_tup (pe_glob rfl m_MASKS rfl) (pv 4) (fun _ _ => rfl)) (pa_cons (pe_ix ix_tup (pe_glob rfl m_MASKS rfl) (pv 5) (fun _ _ => rfl)) (pa_cons (pe_ix ix_tup (pe_glob rfl m_MASKS rfl) (pv 6) (fun _ _ => rfl)) pa_nil)))) (by intro _; rfl)) (pss_cons (ps_set (i := 7) sc_light_cover.nd rfl (.inl rfl) (pe_op op_add (pe_op op_add (pe_callB call_len_seq (by rfl) b.len PySem.boot_len (pa_cons (pe_ix ix_list (pv 2) (pv 4) (fun _ _ => rfl)) pa_nil)) (pe_callB call_len_seq (by rfl) b.len PySem.boot_len (pa_cons (pe_ix ix_list (pv 2) (pv 5) (fun _ _ => rfl)) pa_nil))) (pe_callB call_len_seq (by rfl) b.len PySem.boot_len (pa_cons (pe_ix ix_list (pv 2) (pv 6) (fun _ _ => rfl)) pa_nil))))
    (pss_one (ps_if (PW.pt (pw_or (pt_cmpR op_isN (pv 3) pe_non (nomark _)) (pw_or1 (pt_cmpR op_lt (pv 7) (pe_ix ix_tup (pv 3) pe_int (fun _ _ => rfl)) (nomark _))))) (pss_one (ps_set (i := 3) sc_light_cover.nd rfl (.inl rfl) (pe_tup (pa_cons (pv 7) (pa_cons (pv 4) (pa_cons (pv 5) (pa_cons (pv 6) pa_nil))))))) pss_nil))) pss_nil)))))))
    (pss_one (ps_ret (pe_tup (pa_cons (pe_ix ix_list (pv 2) (pe_ix ix_tup (pv 3) pe_int (fun _ _ => rfl)) (fun _ _ => rfl)) (pa_cons (pe_ix ix_list (pv 2) (pe_ix ix_tup (pv 3) pe_int (fun _ _ => rfl)) (fun _ _ => rfl)) (pa_cons (pe_ix ix_list (pv 2) (pe_ix ix_tup (pv 3) pe_int (fun _ _ => rfl)) (fun _ _ => rfl)) pa_nil)))))))))
theorem ok_light_cover {f : Addr} {fd : FuncData} (F : Fun K "light_cover" "light_cover" s_light_cover f fd) (b : Bt mg) (D__is_basis : Df P w K mg base CX0 1 "_is_basis" ["one", "two", "three"] (sp__is_basis K C)) (D__seven : Df P w K mg base CX0 7 "_seven" ["graph", "sets"] (sp__seven K C)) (D_places : Df P w K mg base CX0 1 "places" ["marks"] (sp_places K C)) {g_MASKS : Addr} (m_MASKS : mg "MASKS" = some (.ref g_MASKS)) (v_MASKS : ∀ B, rep K B (.ref g_MASKS) mskT) : FnOk P w K mg base CX0 8 f fd ["graph", "sets"] (sp_light_cover K C) :=
  F.ok sc_light_cover (fun vs H Q E h => by obtain ⟨i, B, w, hp, _⟩ := h; first | (obtain ⟨e, _⟩ := hp; exact congrArg List.length e) | (obtain ⟨_, e, _⟩ := hp; exact congrArg List.length e) | (obtain ⟨_, _, e, _⟩ := hp; exact congrArg List.length e) | (obtain ⟨_, _, _, e, _⟩ := hp; exact congrArg List.length e) | (obtain ⟨_, _, _, _, e, _⟩ := hp; exact congrArg List.length e) | (obtain ⟨_, _, _, _, _, e, _⟩ := hp; exact congrArg List.length e)) fun cdv A outer s H vs Q E hr h => ⟨_, der_light_cover b D__is_basis D__seven D_places m_MASKS v_MASKS cdv A outer s H E hr, pure_light_cover v_MASKS vs H Q E h⟩
abbrev s_law : Stmt := top 35
theorem sc_law : FnScope N_law ["script"] (defScope s_law) := ⟨rfl, rfl, rfl, by decide +kernel, rfl, by decide +kernel, by decide +kernel⟩
theorem der_law {f : Addr} (b : Bt mg) (D_Graph : Dc P w K mg base CX0 1 C "Graph" ["self", "vertices", "edges"] (sp_GraphD_initD K C)) (D__law_are_even : DfG P w K mg base CX0 2 "_law_are_even" ["many", "pairs", "sets", "count"] (sp__law_are_even K C)) (D__law_counts : Df P w K mg base CX0 1 "_law_counts" ["pairs", "sets"] (sp__law_counts K C)) (D__law_covered : Df P w K mg base CX0 3 "_law_covered" ["state", "count", "most"] (sp__law_covered K C)) (D__law_state : Df P w K mg base CX0 2 "_law_state" ["script", "start", "many"] (sp__law_state K C)) (D__law_sums : Df P w K mg base CX0 2 "_law_sums" ["pairs", "sets"] (sp__law_sums K C)) (D_light_cover : Df P w K mg base CX0 8 "light_cover" ["graph", "sets"] (sp_light_cover K C)) (cdv : Value) (A : Around) (hg0 : A.guards = some []) (outer : List Env) (s : Shared) (H : Hp) (E : XK) (hr : Room 8 (A.deeper (envOfC "law" (defScope s_law) s.heap.objs.size f cdv))) :
  PSs (cxOf CX0 P w K mg base N_law "law" (defScope s_law) f cdv A outer s H E).nox (defBody s_law) (t_law K C) := by
  have hu := hr.units
  have hu1 := hu_of hr
  have hu5 := hu65 hr
  have hgd : (A.deeper (envOfC "law" (defScope s_law) s.heap.objs.size f cdv)).guards = some [] := hg0
  exact (pss_cons (ps_set (i := 1) sc_law.nd rfl (.inl rfl) (pe_callD D__law_state (hr.mono (by decide)) rfl pass0 (pa_cons (pv 0) (pa_cons pe_int (pa_cons pe_int pa_nil)))))
    (pss_cons (ps_set (i := 2) sc_law.nd rfl (.inl rfl) (pe_callD D__law_covered (hr.mono (by decide)) rfl pass0 (pa_cons (pv 1) (pa_cons pe_int (pa_cons pe_int pa_nil)))))
    (pss_cons (ps_set (i := 3) sc_law.nd rfl (.inl rfl) (pe_ix ix_list (pv 2) pe_int (fun _ _ => rfl)))
    (pss_cons (ps_set (i := 4) sc_law.nd rfl (.inl rfl) (pe_ix ix_list (pv 2) pe_int (fun _ _ => rfl)))
    (pss_cons (ps_set (i := 5) sc_law.nd rfl (.inl rfl) (pe_ix ix_list (pv 2) pe_int (fun _ _ => rfl)))
    (pss_cons (ps_set (i := 6) sc_law.nd rfl (.inl rfl) (pe_makeD D_Graph (hr.mono (by decide)) rfl pass0 (pa_cons (pv 3) (pa_cons (pe_callTy call_list_of (by rfl) b.list (by decide +kernel) (pa_cons (pv 4) pa_nil)) pa_nil))))
    (pss_cons (ps_set (i := 7) sc_law.nd rfl (.inl rfl) (pe_callB (call_reprD hgd hu) (by rfl) b.repr (by decide +kernel) (pa_cons (pv 5) pa_nil)))
    (pss_cons (ps_set (i := 8) sc_law.nd rfl (.inl rfl) (pe_callD D_light_cover (hr.mono (by decide)) rfl pass0 (pa_cons (pv 6) (pa_cons (pv 5) pa_nil))))
    (pss_cons (ps_if (PW.pt (pw_or (pt_cmpR op_ne (pe_callB (call_reprD hgd hu) (by rfl) b.repr (by decide +kernel) (pa_cons (pv 5) pa_nil)) (pv 7) (nomark _)) (pw_or (pt_not (pt_truth (pe_callB call_isi (by rfl) b.isinstance (by decide +kernel) (pa_cons (pv 8) (pa_cons (pe_bltn (v := .ty "tuple") (by rfl) b.tuple (by decide +kernel) rfl) pa_nil))) (by intro _; rfl))) (pw_or1 (pt_not (pt_truth (pe_callGD D__law_are_even hgd (hr.mono (by decide)) rfl pass0 (pa_cons (pv 3) (pa_cons (pv 4) (pa_cons (pv 8) (pa_cons pe_int pa_nil))))) (by intro _; rfl))))))) (pss_one (ps_ret pe_bl)) pss_nil)
    (pss_cons (ps_set (i := 9) sc_law.nd rfl (.inr rfl) (pe_callD D__law_sums (hr.mono (by decide)) rfl pass0 (pa_cons (pv 4) (pa_cons (pv 5) pa_nil))))
    (pss_cons (ps_if (PW.pt (pw_or (pt_cmpR (op_neD hu) (pe_lc (own := [("row", 10)]) (g := (gName 10)) (tt := (tTest (tOp (rNotInD K) (tVar 10) (tVar 9)))) (te := (tVar 10)) rfl sc_law.nd (pi_tup (pv 8)) (blkOk_by (N := N_law) (sc := defScope s_law) (own := [("row", 10)]) (by decide +kernel)) (fun _ _ _ _ _ => (pg_name (i := 10) sc_law.nd rfl (.inl rfl))) (fun _ _ _ _ _ => (pts_one (pt_cmpR (op_notInD hu5) (pv 10) (pv 9) rfl))) (fun _ _ _ _ _ => (pv 10))) (pe_lst pa_nil) (nomark _)) (pw_or1 (pt_cmpR op_in_seq pe_int (pe_callD D__law_counts (hr.mono (by decide)) rfl pass0 (pa_cons (pv 4) (pa_cons (pv 8) pa_nil))) rfl)))) (pss_one (ps_ret pe_bl)) pss_nil)
    (pss_one (ps_ret (pe_cmpR op_le (pe_op op_mul pe_int (pe_op op_add (pe_op op_add (pe_callB call_len_seq (by rfl) b.len PySem.boot_len (pa_cons (pe_ix ix_tup (pv 8) pe_int (fun _ _ => rfl)) pa_nil)) (pe_callB call_len_seq (by rfl) b.len PySem.boot_len (pa_cons (pe_ix ix_tup (pv 8) pe_int (fun _ _ => rfl)) pa_nil))) (pe_callB call_len_seq (by rfl) b.len PySem.boot_len (pa_cons (pe_ix ix_tup (pv 8) pe_int (fun _ _ => rfl)) pa_nil)))) (pe_op op_mul pe_int (pe_callB call_len_seq (by rfl) b.len PySem.boot_len (pa_cons (pv 4) pa_nil))) (nomark _)))))))))))))))
theorem ok_law {f : Addr} {fd : FuncData} (F : Fun K "law" "law" s_law f fd) (b : Bt mg) (D_Graph : Dc P w K mg base CX0 1 C "Graph" ["self", "vertices", "edges"] (sp_GraphD_initD K C)) (D__law_are_even : DfG P w K mg base CX0 2 "_law_are_even" ["many", "pairs", "sets", "count"] (sp__law_are_even K C)) (D__law_counts : Df P w K mg base CX0 1 "_law_counts" ["pairs", "sets"] (sp__law_counts K C)) (D__law_covered : Df P w K mg base CX0 3 "_law_covered" ["state", "count", "most"] (sp__law_covered K C)) (D__law_state : Df P w K mg base CX0 2 "_law_state" ["script", "start", "many"] (sp__law_state K C)) (D__law_sums : Df P w K mg base CX0 2 "_law_sums" ["pairs", "sets"] (sp__law_sums K C)) (D_light_cover : Df P w K mg base CX0 8 "light_cover" ["graph", "sets"] (sp_light_cover K C)) : FnG P w K mg base CX0 9 f fd ["script"] (sp_law K C) :=
  fnX_of F sc_law (fun _ vs H Q E h => by obtain ⟨_, _, rfl, _⟩ := h; rfl) fun cdv A fr s H vs Q E hg hr h => ⟨_, (der_law b D_Graph D__law_are_even D__law_counts D__law_covered D__law_state D__law_sums D_light_cover cdv A hg fr s H E hr).nox, pure_law vs H Q E h⟩
end
theorem all_mk {l : PySem.W.OpenLaw} {w : World} {K : Fg} {h : Heap} {mg : Str → Option Value} {fa C : Addr} (X : K.In h) (G : h.Ns mainGlobals mg) (hfa : mg "law" = some (.ref fa))
    {f_GraphD_initD : Addr} {od_GraphD_initD an_GraphD_initD : Option Addr} {sl_GraphD_initD : Array (Option Value)} {oc_GraphD_initD kV_GraphD_initD dc_GraphD_initD pm_GraphD_initD cd_GraphD_initD ct_GraphD_initD : Value}
    {f__law_odd : Addr} {od__law_odd an__law_odd : Option Addr} {sl__law_odd : Array (Option Value)} {oc__law_odd kV__law_odd dc__law_odd pm__law_odd cd__law_odd ct__law_odd : Value}
    {f__law_are_even : Addr} {od__law_are_even an__law_are_even : Option Addr} {sl__law_are_even : Array (Option Value)} {oc__law_are_even kV__law_are_even dc__law_are_even pm__law_are_even cd__law_are_even ct__law_are_even : Value}
    {f__law_counts : Addr} {od__law_counts an__law_counts : Option Addr} {sl__law_counts : Array (Option Value)} {oc__law_counts kV__law_counts dc__law_counts pm__law_counts cd__law_counts ct__law_counts : Value}
    {f__law_next : Addr} {od__law_next an__law_next : Option Addr} {sl__law_next : Array (Option Value)} {oc__law_next kV__law_next dc__law_next pm__law_next cd__law_next ct__law_next : Value}
    {f__law_add_path : Addr} {od__law_add_path an__law_add_path : Option Addr} {sl__law_add_path : Array (Option Value)} {oc__law_add_path kV__law_add_path dc__law_add_path pm__law_add_path cd__law_add_path ct__law_add_path : Value}
    {f__law_shuffled : Addr} {od__law_shuffled an__law_shuffled : Option Addr} {sl__law_shuffled : Array (Option Value)} {oc__law_shuffled kV__law_shuffled dc__law_shuffled pm__law_shuffled cd__law_shuffled ct__law_shuffled : Value}
    {f__law_covered : Addr} {od__law_covered an__law_covered : Option Addr} {sl__law_covered : Array (Option Value)} {oc__law_covered kV__law_covered dc__law_covered pm__law_covered cd__law_covered ct__law_covered : Value}
    {f__law_cell : Addr} {od__law_cell an__law_cell : Option Addr} {sl__law_cell : Array (Option Value)} {oc__law_cell kV__law_cell dc__law_cell pm__law_cell cd__law_cell ct__law_cell : Value}
    {f__law_numbers : Addr} {od__law_numbers an__law_numbers : Option Addr} {sl__law_numbers : Array (Option Value)} {oc__law_numbers kV__law_numbers dc__law_numbers pm__law_numbers cd__law_numbers ct__law_numbers : Value}
    {f__law_state : Addr} {od__law_state an__law_state : Option Addr} {sl__law_state : Array (Option Value)} {oc__law_state kV__law_state dc__law_state pm__law_state cd__law_state ct__law_state : Value}
    {f__law_sums : Addr} {od__law_sums an__law_sums : Option Addr} {sl__law_sums : Array (Option Value)} {oc__law_sums kV__law_sums dc__law_sums pm__law_sums cd__law_sums ct__law_sums : Value}
    {f__is_basis : Addr} {od__is_basis an__is_basis : Option Addr} {sl__is_basis : Array (Option Value)} {oc__is_basis kV__is_basis dc__is_basis pm__is_basis cd__is_basis ct__is_basis : Value}
    {f_GraphD_lenD : Addr} {od_GraphD_lenD an_GraphD_lenD : Option Addr} {sl_GraphD_lenD : Array (Option Value)} {oc_GraphD_lenD kV_GraphD_lenD dc_GraphD_lenD pm_GraphD_lenD cd_GraphD_lenD ct_GraphD_lenD : Value}
    {f_marked_edges : Addr} {od_marked_edges an_marked_edges : Option Addr} {sl_marked_edges : Array (Option Value)} {oc_marked_edges kV_marked_edges dc_marked_edges pm_marked_edges cd_marked_edges ct_marked_edges : Value}
    {f_GraphD_iterD : Addr} {od_GraphD_iterD an_GraphD_iterD : Option Addr} {sl_GraphD_iterD : Array (Option Value)} {oc_GraphD_iterD kV_GraphD_iterD dc_GraphD_iterD pm_GraphD_iterD cd_GraphD_iterD ct_GraphD_iterD : Value}
    {f_Graph_vertices : Addr} {od_Graph_vertices an_Graph_vertices : Option Addr} {sl_Graph_vertices : Array (Option Value)} {oc_Graph_vertices kV_Graph_vertices dc_Graph_vertices pm_Graph_vertices cd_Graph_vertices ct_Graph_vertices : Value}
    {p_Graph_vertices : Addr} {rest_Graph_vertices : List Value}
    {f_odd_vertices : Addr} {od_odd_vertices an_odd_vertices : Option Addr} {sl_odd_vertices : Array (Option Value)} {oc_odd_vertices kV_odd_vertices dc_odd_vertices pm_odd_vertices cd_odd_vertices ct_odd_vertices : Value}
    {f_refuse_odd : Addr} {od_refuse_odd an_refuse_odd : Option Addr} {sl_refuse_odd : Array (Option Value)} {oc_refuse_odd kV_refuse_odd dc_refuse_odd pm_refuse_odd cd_refuse_odd ct_refuse_odd : Value}
    {f__checked : Addr} {od__checked an__checked : Option Addr} {sl__checked : Array (Option Value)} {oc__checked kV__checked dc__checked pm__checked cd__checked ct__checked : Value}
    {f_sum_of_marks : Addr} {od_sum_of_marks an_sum_of_marks : Option Addr} {sl_sum_of_marks : Array (Option Value)} {oc_sum_of_marks kV_sum_of_marks dc_sum_of_marks pm_sum_of_marks cd_sum_of_marks ct_sum_of_marks : Value}
    {f__seven : Addr} {od__seven an__seven : Option Addr} {sl__seven : Array (Option Value)} {oc__seven kV__seven dc__seven pm__seven cd__seven ct__seven : Value}
    {f_places : Addr} {od_places an_places : Option Addr} {sl_places : Array (Option Value)} {oc_places kV_places dc_places pm_places cd_places ct_places : Value}
    {f_light_cover : Addr} {od_light_cover an_light_cover : Option Addr} {sl_light_cover : Array (Option Value)} {oc_light_cover kV_light_cover dc_light_cover pm_light_cover cd_light_cover ct_light_cover : Value}
    {f_law : Addr} {od_law an_law : Option Addr} {sl_law : Array (Option Value)} {oc_law kV_law dc_law pm_law cd_law ct_law : Value}
    {g_MASKS h_0 h_1 h_2 h_3 h_4 h_5 h_6 : Addr} {dM d_0 d_1 d_2 d_3 d_4 d_5 d_6 : Option Addr} {nM m_0 m_1 m_2 m_3 m_4 m_5 m_6 : Nat} {sM s_0 s_1 s_2 s_3 s_4 s_5 s_6 : Array (Option Value)} {x_0_0 x_0_1 x_0_2   : Tok} {x_1_0 x_1_1 x_1_2   : Tok} {x_2_0 x_2_1 x_2_2   : Tok} {x_3_0 x_3_1 x_3_2   : Tok} {x_4_0 x_4_1 x_4_2   : Tok} {x_5_0 x_5_1 x_5_2   : Tok} {x_6_0 x_6_1 x_6_2   : Tok}
    (aC : PySem.W.nsIn K mainGlobals "Graph" = some (some (.ref C)))
    (a_GraphD_initD : PySem.W.findIn K (.ref C) "__init__" = some (some (.ref f_GraphD_initD)))
    (i_GraphD_initD : PySem.W.isFn K (.ref f_GraphD_initD) = true)
    (l_GraphD_initD : K.lookup f_GraphD_initD = some ⟨oc_GraphD_initD, od_GraphD_initD, .func (PySem.W.fnOf "__init__" "Graph.__init__" (defArgs s_GraphD_initD) (defBody s_GraphD_initD) (defScope s_GraphD_initD) .none kV_GraphD_initD dc_GraphD_initD pm_GraphD_initD an_GraphD_initD cd_GraphD_initD ct_GraphD_initD), sl_GraphD_initD⟩)
    (c_GraphD_initD : PySem.W.codeIn K cd_GraphD_initD "Graph.__init__" = true)
    (k_GraphD_initD : PySem.W.keepIn K (.ref f_GraphD_initD) = true)
    (a__law_odd : PySem.W.nsIn K mainGlobals "_law_odd" = some (some (.ref f__law_odd)))
    (l__law_odd : K.lookup f__law_odd = some ⟨oc__law_odd, od__law_odd, .func (PySem.W.fnOf "_law_odd" "_law_odd" (defArgs s__law_odd) (defBody s__law_odd) (defScope s__law_odd) .none kV__law_odd dc__law_odd pm__law_odd an__law_odd cd__law_odd ct__law_odd), sl__law_odd⟩)
    (c__law_odd : PySem.W.codeIn K cd__law_odd "_law_odd" = true)
    (k__law_odd : PySem.W.keepIn K (.ref f__law_odd) = true)
    (a__law_are_even : PySem.W.nsIn K mainGlobals "_law_are_even" = some (some (.ref f__law_are_even)))
    (l__law_are_even : K.lookup f__law_are_even = some ⟨oc__law_are_even, od__law_are_even, .func (PySem.W.fnOf "_law_are_even" "_law_are_even" (defArgs s__law_are_even) (defBody s__law_are_even) (defScope s__law_are_even) .none kV__law_are_even dc__law_are_even pm__law_are_even an__law_are_even cd__law_are_even ct__law_are_even), sl__law_are_even⟩)
    (c__law_are_even : PySem.W.codeIn K cd__law_are_even "_law_are_even" = true)
    (k__law_are_even : PySem.W.keepIn K (.ref f__law_are_even) = true)
    (a__law_counts : PySem.W.nsIn K mainGlobals "_law_counts" = some (some (.ref f__law_counts)))
    (l__law_counts : K.lookup f__law_counts = some ⟨oc__law_counts, od__law_counts, .func (PySem.W.fnOf "_law_counts" "_law_counts" (defArgs s__law_counts) (defBody s__law_counts) (defScope s__law_counts) .none kV__law_counts dc__law_counts pm__law_counts an__law_counts cd__law_counts ct__law_counts), sl__law_counts⟩)
    (c__law_counts : PySem.W.codeIn K cd__law_counts "_law_counts" = true)
    (k__law_counts : PySem.W.keepIn K (.ref f__law_counts) = true)
    (a__law_next : PySem.W.nsIn K mainGlobals "_law_next" = some (some (.ref f__law_next)))
    (l__law_next : K.lookup f__law_next = some ⟨oc__law_next, od__law_next, .func (PySem.W.fnOf "_law_next" "_law_next" (defArgs s__law_next) (defBody s__law_next) (defScope s__law_next) .none kV__law_next dc__law_next pm__law_next an__law_next cd__law_next ct__law_next), sl__law_next⟩)
    (c__law_next : PySem.W.codeIn K cd__law_next "_law_next" = true)
    (k__law_next : PySem.W.keepIn K (.ref f__law_next) = true)
    (a__law_add_path : PySem.W.nsIn K mainGlobals "_law_add_path" = some (some (.ref f__law_add_path)))
    (l__law_add_path : K.lookup f__law_add_path = some ⟨oc__law_add_path, od__law_add_path, .func (PySem.W.fnOf "_law_add_path" "_law_add_path" (defArgs s__law_add_path) (defBody s__law_add_path) (defScope s__law_add_path) .none kV__law_add_path dc__law_add_path pm__law_add_path an__law_add_path cd__law_add_path ct__law_add_path), sl__law_add_path⟩)
    (c__law_add_path : PySem.W.codeIn K cd__law_add_path "_law_add_path" = true)
    (k__law_add_path : PySem.W.keepIn K (.ref f__law_add_path) = true)
    (a__law_shuffled : PySem.W.nsIn K mainGlobals "_law_shuffled" = some (some (.ref f__law_shuffled)))
    (l__law_shuffled : K.lookup f__law_shuffled = some ⟨oc__law_shuffled, od__law_shuffled, .func (PySem.W.fnOf "_law_shuffled" "_law_shuffled" (defArgs s__law_shuffled) (defBody s__law_shuffled) (defScope s__law_shuffled) .none kV__law_shuffled dc__law_shuffled pm__law_shuffled an__law_shuffled cd__law_shuffled ct__law_shuffled), sl__law_shuffled⟩)
    (c__law_shuffled : PySem.W.codeIn K cd__law_shuffled "_law_shuffled" = true)
    (k__law_shuffled : PySem.W.keepIn K (.ref f__law_shuffled) = true)
    (a__law_covered : PySem.W.nsIn K mainGlobals "_law_covered" = some (some (.ref f__law_covered)))
    (l__law_covered : K.lookup f__law_covered = some ⟨oc__law_covered, od__law_covered, .func (PySem.W.fnOf "_law_covered" "_law_covered" (defArgs s__law_covered) (defBody s__law_covered) (defScope s__law_covered) .none kV__law_covered dc__law_covered pm__law_covered an__law_covered cd__law_covered ct__law_covered), sl__law_covered⟩)
    (c__law_covered : PySem.W.codeIn K cd__law_covered "_law_covered" = true)
    (k__law_covered : PySem.W.keepIn K (.ref f__law_covered) = true)
    (a__law_cell : PySem.W.nsIn K mainGlobals "_law_cell" = some (some (.ref f__law_cell)))
    (l__law_cell : K.lookup f__law_cell = some ⟨oc__law_cell, od__law_cell, .func (PySem.W.fnOf "_law_cell" "_law_cell" (defArgs s__law_cell) (defBody s__law_cell) (defScope s__law_cell) .none kV__law_cell dc__law_cell pm__law_cell an__law_cell cd__law_cell ct__law_cell), sl__law_cell⟩)
    (c__law_cell : PySem.W.codeIn K cd__law_cell "_law_cell" = true)
    (k__law_cell : PySem.W.keepIn K (.ref f__law_cell) = true)
    (a__law_numbers : PySem.W.nsIn K mainGlobals "_law_numbers" = some (some (.ref f__law_numbers)))
    (l__law_numbers : K.lookup f__law_numbers = some ⟨oc__law_numbers, od__law_numbers, .func (PySem.W.fnOf "_law_numbers" "_law_numbers" (defArgs s__law_numbers) (defBody s__law_numbers) (defScope s__law_numbers) .none kV__law_numbers dc__law_numbers pm__law_numbers an__law_numbers cd__law_numbers ct__law_numbers), sl__law_numbers⟩)
    (c__law_numbers : PySem.W.codeIn K cd__law_numbers "_law_numbers" = true)
    (k__law_numbers : PySem.W.keepIn K (.ref f__law_numbers) = true)
    (a__law_state : PySem.W.nsIn K mainGlobals "_law_state" = some (some (.ref f__law_state)))
    (l__law_state : K.lookup f__law_state = some ⟨oc__law_state, od__law_state, .func (PySem.W.fnOf "_law_state" "_law_state" (defArgs s__law_state) (defBody s__law_state) (defScope s__law_state) .none kV__law_state dc__law_state pm__law_state an__law_state cd__law_state ct__law_state), sl__law_state⟩)
    (c__law_state : PySem.W.codeIn K cd__law_state "_law_state" = true)
    (k__law_state : PySem.W.keepIn K (.ref f__law_state) = true)
    (a__law_sums : PySem.W.nsIn K mainGlobals "_law_sums" = some (some (.ref f__law_sums)))
    (l__law_sums : K.lookup f__law_sums = some ⟨oc__law_sums, od__law_sums, .func (PySem.W.fnOf "_law_sums" "_law_sums" (defArgs s__law_sums) (defBody s__law_sums) (defScope s__law_sums) .none kV__law_sums dc__law_sums pm__law_sums an__law_sums cd__law_sums ct__law_sums), sl__law_sums⟩)
    (c__law_sums : PySem.W.codeIn K cd__law_sums "_law_sums" = true)
    (k__law_sums : PySem.W.keepIn K (.ref f__law_sums) = true)
    (a__is_basis : PySem.W.nsIn K mainGlobals "_is_basis" = some (some (.ref f__is_basis)))
    (l__is_basis : K.lookup f__is_basis = some ⟨oc__is_basis, od__is_basis, .func (PySem.W.fnOf "_is_basis" "_is_basis" (defArgs s__is_basis) (defBody s__is_basis) (defScope s__is_basis) .none kV__is_basis dc__is_basis pm__is_basis an__is_basis cd__is_basis ct__is_basis), sl__is_basis⟩)
    (c__is_basis : PySem.W.codeIn K cd__is_basis "_is_basis" = true)
    (k__is_basis : PySem.W.keepIn K (.ref f__is_basis) = true)
    (a_GraphD_lenD : PySem.W.findIn K (.ref C) "__len__" = some (some (.ref f_GraphD_lenD)))
    (i_GraphD_lenD : PySem.W.isFn K (.ref f_GraphD_lenD) = true)
    (l_GraphD_lenD : K.lookup f_GraphD_lenD = some ⟨oc_GraphD_lenD, od_GraphD_lenD, .func (PySem.W.fnOf "__len__" "Graph.__len__" (defArgs s_GraphD_lenD) (defBody s_GraphD_lenD) (defScope s_GraphD_lenD) .none kV_GraphD_lenD dc_GraphD_lenD pm_GraphD_lenD an_GraphD_lenD cd_GraphD_lenD ct_GraphD_lenD), sl_GraphD_lenD⟩)
    (c_GraphD_lenD : PySem.W.codeIn K cd_GraphD_lenD "Graph.__len__" = true)
    (k_GraphD_lenD : PySem.W.keepIn K (.ref f_GraphD_lenD) = true)
    (a_marked_edges : PySem.W.nsIn K mainGlobals "marked_edges" = some (some (.ref f_marked_edges)))
    (l_marked_edges : K.lookup f_marked_edges = some ⟨oc_marked_edges, od_marked_edges, .func (PySem.W.fnOf "marked_edges" "marked_edges" (defArgs s_marked_edges) (defBody s_marked_edges) (defScope s_marked_edges) .none kV_marked_edges dc_marked_edges pm_marked_edges an_marked_edges cd_marked_edges ct_marked_edges), sl_marked_edges⟩)
    (c_marked_edges : PySem.W.codeIn K cd_marked_edges "marked_edges" = true)
    (k_marked_edges : PySem.W.keepIn K (.ref f_marked_edges) = true)
    (a_GraphD_iterD : PySem.W.findIn K (.ref C) "__iter__" = some (some (.ref f_GraphD_iterD)))
    (i_GraphD_iterD : PySem.W.isFn K (.ref f_GraphD_iterD) = true)
    (l_GraphD_iterD : K.lookup f_GraphD_iterD = some ⟨oc_GraphD_iterD, od_GraphD_iterD, .func (PySem.W.fnOf "__iter__" "Graph.__iter__" (defArgs s_GraphD_iterD) (defBody s_GraphD_iterD) (defScope s_GraphD_iterD) .none kV_GraphD_iterD dc_GraphD_iterD pm_GraphD_iterD an_GraphD_iterD cd_GraphD_iterD ct_GraphD_iterD), sl_GraphD_iterD⟩)
    (c_GraphD_iterD : PySem.W.codeIn K cd_GraphD_iterD "Graph.__iter__" = true)
    (k_GraphD_iterD : PySem.W.keepIn K (.ref f_GraphD_iterD) = true)
    (a_Graph_vertices : PySem.W.findIn K (.ref C) "vertices" = some (some (.ref p_Graph_vertices)))
    (g_Graph_vertices : PySem.W.specialIn K (.ref p_Graph_vertices) "__get__" = some (some (.builtin "property.__get__")))
    (t_Graph_vertices : PySem.W.takesIn K (.ref p_Graph_vertices) = some true)
    (r_Graph_vertices : PySem.W.recIn K p_Graph_vertices "property" = some (.ref f_Graph_vertices :: rest_Graph_vertices))
    (l_Graph_vertices : K.lookup f_Graph_vertices = some ⟨oc_Graph_vertices, od_Graph_vertices, .func (PySem.W.fnOf "vertices" "Graph.vertices" (defArgs s_Graph_vertices) (defBody s_Graph_vertices) (defScope s_Graph_vertices) .none kV_Graph_vertices dc_Graph_vertices pm_Graph_vertices an_Graph_vertices cd_Graph_vertices ct_Graph_vertices), sl_Graph_vertices⟩)
    (c_Graph_vertices : PySem.W.codeIn K cd_Graph_vertices "Graph.vertices" = true)
    (k_Graph_vertices : PySem.W.keepIn K (.ref f_Graph_vertices) = true)
    (a_odd_vertices : PySem.W.nsIn K mainGlobals "odd_vertices" = some (some (.ref f_odd_vertices)))
    (l_odd_vertices : K.lookup f_odd_vertices = some ⟨oc_odd_vertices, od_odd_vertices, .func (PySem.W.fnOf "odd_vertices" "odd_vertices" (defArgs s_odd_vertices) (defBody s_odd_vertices) (defScope s_odd_vertices) .none kV_odd_vertices dc_odd_vertices pm_odd_vertices an_odd_vertices cd_odd_vertices ct_odd_vertices), sl_odd_vertices⟩)
    (c_odd_vertices : PySem.W.codeIn K cd_odd_vertices "odd_vertices" = true)
    (k_odd_vertices : PySem.W.keepIn K (.ref f_odd_vertices) = true)
    (a_refuse_odd : PySem.W.nsIn K mainGlobals "refuse_odd" = some (some (.ref f_refuse_odd)))
    (l_refuse_odd : K.lookup f_refuse_odd = some ⟨oc_refuse_odd, od_refuse_odd, .func (PySem.W.fnOf "refuse_odd" "refuse_odd" (defArgs s_refuse_odd) (defBody s_refuse_odd) (defScope s_refuse_odd) .none kV_refuse_odd dc_refuse_odd pm_refuse_odd an_refuse_odd cd_refuse_odd ct_refuse_odd), sl_refuse_odd⟩)
    (c_refuse_odd : PySem.W.codeIn K cd_refuse_odd "refuse_odd" = true)
    (k_refuse_odd : PySem.W.keepIn K (.ref f_refuse_odd) = true)
    (a__checked : PySem.W.nsIn K mainGlobals "_checked" = some (some (.ref f__checked)))
    (l__checked : K.lookup f__checked = some ⟨oc__checked, od__checked, .func (PySem.W.fnOf "_checked" "_checked" (defArgs s__checked) (defBody s__checked) (defScope s__checked) .none kV__checked dc__checked pm__checked an__checked cd__checked ct__checked), sl__checked⟩)
    (c__checked : PySem.W.codeIn K cd__checked "_checked" = true)
    (k__checked : PySem.W.keepIn K (.ref f__checked) = true)
    (a_sum_of_marks : PySem.W.nsIn K mainGlobals "sum_of_marks" = some (some (.ref f_sum_of_marks)))
    (l_sum_of_marks : K.lookup f_sum_of_marks = some ⟨oc_sum_of_marks, od_sum_of_marks, .func (PySem.W.fnOf "sum_of_marks" "sum_of_marks" (defArgs s_sum_of_marks) (defBody s_sum_of_marks) (defScope s_sum_of_marks) .none kV_sum_of_marks dc_sum_of_marks pm_sum_of_marks an_sum_of_marks cd_sum_of_marks ct_sum_of_marks), sl_sum_of_marks⟩)
    (c_sum_of_marks : PySem.W.codeIn K cd_sum_of_marks "sum_of_marks" = true)
    (k_sum_of_marks : PySem.W.keepIn K (.ref f_sum_of_marks) = true)
    (a__seven : PySem.W.nsIn K mainGlobals "_seven" = some (some (.ref f__seven)))
    (l__seven : K.lookup f__seven = some ⟨oc__seven, od__seven, .func (PySem.W.fnOf "_seven" "_seven" (defArgs s__seven) (defBody s__seven) (defScope s__seven) .none kV__seven dc__seven pm__seven an__seven cd__seven ct__seven), sl__seven⟩)
    (c__seven : PySem.W.codeIn K cd__seven "_seven" = true)
    (k__seven : PySem.W.keepIn K (.ref f__seven) = true)
    (a_places : PySem.W.nsIn K mainGlobals "places" = some (some (.ref f_places)))
    (l_places : K.lookup f_places = some ⟨oc_places, od_places, .func (PySem.W.fnOf "places" "places" (defArgs s_places) (defBody s_places) (defScope s_places) .none kV_places dc_places pm_places an_places cd_places ct_places), sl_places⟩)
    (c_places : PySem.W.codeIn K cd_places "places" = true)
    (k_places : PySem.W.keepIn K (.ref f_places) = true)
    (a_light_cover : PySem.W.nsIn K mainGlobals "light_cover" = some (some (.ref f_light_cover)))
    (l_light_cover : K.lookup f_light_cover = some ⟨oc_light_cover, od_light_cover, .func (PySem.W.fnOf "light_cover" "light_cover" (defArgs s_light_cover) (defBody s_light_cover) (defScope s_light_cover) .none kV_light_cover dc_light_cover pm_light_cover an_light_cover cd_light_cover ct_light_cover), sl_light_cover⟩)
    (c_light_cover : PySem.W.codeIn K cd_light_cover "light_cover" = true)
    (k_light_cover : PySem.W.keepIn K (.ref f_light_cover) = true)
    (a_law : PySem.W.nsIn K mainGlobals "law" = some (some (.ref f_law)))
    (l_law : K.lookup f_law = some ⟨oc_law, od_law, .func (PySem.W.fnOf "law" "law" (defArgs s_law) (defBody s_law) (defScope s_law) .none kV_law dc_law pm_law an_law cd_law ct_law), sl_law⟩)
    (c_law : PySem.W.codeIn K cd_law "law" = true)
    (k_law : PySem.W.keepIn K (.ref f_law) = true)
    (pg : PySem.W.plainGet K C Str.empty = true)
    (hd : PySem.W.hasDictIn K C = true)
    (po : PySem.W.plainOver K C = true)
    (sa : PySem.W.findIn K (.ref C) "__setattr__" = some (some (.builtin "object.__setattr__")))
    (mk : PySem.W.makesIn K C = true)
    (kc : PySem.W.keepIn K (.ref C) = true)
    (n1 : PySem.W.findIn K (.ref C) "_many" = some none)
    (n2 : PySem.W.findIn K (.ref C) "_pairs" = some none)
    (n3 : PySem.W.findIn K (.ref C) "_at" = some none)
    (z_len : PySem.W.nsIn K mainGlobals "len" = some none)
    (z_range : PySem.W.nsIn K mainGlobals "range" = some none)
    (z_enumerate : PySem.W.nsIn K mainGlobals "enumerate" = some none)
    (z_zip : PySem.W.nsIn K mainGlobals "zip" = some none)
    (z_abs : PySem.W.nsIn K mainGlobals "abs" = some none)
    (z_int : PySem.W.nsIn K mainGlobals "int" = some none)
    (z_list : PySem.W.nsIn K mainGlobals "list" = some none)
    (z_tuple : PySem.W.nsIn K mainGlobals "tuple" = some none)
    (z_bool : PySem.W.nsIn K mainGlobals "bool" = some none)
    (z_repr : PySem.W.nsIn K mainGlobals "repr" = some none)
    (z_isinstance : PySem.W.nsIn K mainGlobals "isinstance" = some none)
    (z_sum : PySem.W.nsIn K mainGlobals "sum" = some none)
    (z_sorted : PySem.W.nsIn K mainGlobals "sorted" = some none)
    (z_iter : PySem.W.nsIn K mainGlobals "iter" = some none)
    (z_min : PySem.W.nsIn K mainGlobals "min" = some none)
    (z_max : PySem.W.nsIn K mainGlobals "max" = some none)
    (a_MASKS : PySem.W.nsIn K mainGlobals "MASKS" = some (some (.ref g_MASKS)))
    (l_MASKS : K.lookup g_MASKS = some ⟨.type "tuple", dM, .seq #[.ref h_0, .ref h_1, .ref h_2, .ref h_3, .ref h_4, .ref h_5, .ref h_6] nM, sM⟩)
    (l_m0 : K.lookup h_0 = some ⟨.type "tuple", d_0, .seq #[.int 1 x_0_0, .int 0 x_0_1, .int 0 x_0_2] m_0, s_0⟩)
    (l_m1 : K.lookup h_1 = some ⟨.type "tuple", d_1, .seq #[.int 0 x_1_0, .int 1 x_1_1, .int 0 x_1_2] m_1, s_1⟩)
    (l_m2 : K.lookup h_2 = some ⟨.type "tuple", d_2, .seq #[.int 0 x_2_0, .int 0 x_2_1, .int 1 x_2_2] m_2, s_2⟩)
    (l_m3 : K.lookup h_3 = some ⟨.type "tuple", d_3, .seq #[.int 1 x_3_0, .int 1 x_3_1, .int 0 x_3_2] m_3, s_3⟩)
    (l_m4 : K.lookup h_4 = some ⟨.type "tuple", d_4, .seq #[.int 1 x_4_0, .int 0 x_4_1, .int 1 x_4_2] m_4, s_4⟩)
    (l_m5 : K.lookup h_5 = some ⟨.type "tuple", d_5, .seq #[.int 0 x_5_0, .int 1 x_5_1, .int 1 x_5_2] m_5, s_5⟩)
    (l_m6 : K.lookup h_6 = some ⟨.type "tuple", d_6, .seq #[.int 1 x_6_0, .int 1 x_6_1, .int 1 x_6_2] m_6, s_6⟩) :
    ∃ (sp : Sp) (fd : FuncData), (∀ (H : Hp) (a : Addr) (ns : List Int), SqL K H a (ns.map V.int) → sp [.ref a] H (fun v _ => v = .bl true) E0) ∧ (∀ (s : Shared) (v : Value), BindsTo s fd ⟨[v], []⟩ [("script", v)]) ∧ ∀ base : Heap, K.In base → base.Ns mainGlobals mg → FnG l.prog w K mg base CX0 9 fa fd ["script"] sp := by
  have e := hfa.symm.trans (PySem.W.mg_of X G a_law)
  cases e
  have b : Bt mg := ⟨PySem.W.mg_none_of X G z_len, PySem.W.mg_none_of X G z_range, PySem.W.mg_none_of X G z_enumerate, PySem.W.mg_none_of X G z_zip, PySem.W.mg_none_of X G z_abs, PySem.W.mg_none_of X G z_int, PySem.W.mg_none_of X G z_list, PySem.W.mg_none_of X G z_tuple, PySem.W.mg_none_of X G z_bool, PySem.W.mg_none_of X G z_repr, PySem.W.mg_none_of X G z_isinstance, PySem.W.mg_none_of X G z_sum, PySem.W.mg_none_of X G z_sorted, PySem.W.mg_none_of X G z_iter, PySem.W.mg_none_of X G z_min, PySem.W.mg_none_of X G z_max⟩
  have T : TxG K C := ⟨⟨pg, hd, po, sa⟩, n1, n2, n3⟩
  have v_MASKS : ∀ B, rep K B (.ref g_MASKS) mskT := fun B => by
    have hs := sizeLine_eq
    refine ⟨g_MASKS, [.ref h_0, .ref h_1, .ref h_2, .ref h_3, .ref h_4, .ref h_5, .ref h_6], rfl, .inr ⟨_, _, _, l_MASKS, rfl, rfl, by show 7 ≤ sizeLine; omega, .cons rfl (.cons rfl (.cons rfl (.cons rfl (.cons rfl (.cons rfl (.cons rfl (.nil)))))))⟩, ?_⟩
    exact .cons ⟨h_0, [.int 1, .int 0, .int 0], rfl, .inr ⟨_, _, _, l_m0, rfl, rfl, by show 3 ≤ sizeLine; omega, .cons ⟨_, rfl⟩ (.cons ⟨_, rfl⟩ (.cons ⟨_, rfl⟩ .nil))⟩, .cons rfl (.cons rfl (.cons rfl .nil))⟩ (.cons ⟨h_1, [.int 0, .int 1, .int 0], rfl, .inr ⟨_, _, _, l_m1, rfl, rfl, by show 3 ≤ sizeLine; omega, .cons ⟨_, rfl⟩ (.cons ⟨_, rfl⟩ (.cons ⟨_, rfl⟩ .nil))⟩, .cons rfl (.cons rfl (.cons rfl .nil))⟩ (.cons ⟨h_2, [.int 0, .int 0, .int 1], rfl, .inr ⟨_, _, _, l_m2, rfl, rfl, by show 3 ≤ sizeLine; omega, .cons ⟨_, rfl⟩ (.cons ⟨_, rfl⟩ (.cons ⟨_, rfl⟩ .nil))⟩, .cons rfl (.cons rfl (.cons rfl .nil))⟩ (.cons ⟨h_3, [.int 1, .int 1, .int 0], rfl, .inr ⟨_, _, _, l_m3, rfl, rfl, by show 3 ≤ sizeLine; omega, .cons ⟨_, rfl⟩ (.cons ⟨_, rfl⟩ (.cons ⟨_, rfl⟩ .nil))⟩, .cons rfl (.cons rfl (.cons rfl .nil))⟩ (.cons ⟨h_4, [.int 1, .int 0, .int 1], rfl, .inr ⟨_, _, _, l_m4, rfl, rfl, by show 3 ≤ sizeLine; omega, .cons ⟨_, rfl⟩ (.cons ⟨_, rfl⟩ (.cons ⟨_, rfl⟩ .nil))⟩, .cons rfl (.cons rfl (.cons rfl .nil))⟩ (.cons ⟨h_5, [.int 0, .int 1, .int 1], rfl, .inr ⟨_, _, _, l_m5, rfl, rfl, by show 3 ≤ sizeLine; omega, .cons ⟨_, rfl⟩ (.cons ⟨_, rfl⟩ (.cons ⟨_, rfl⟩ .nil))⟩, .cons rfl (.cons rfl (.cons rfl .nil))⟩ (.cons ⟨h_6, [.int 1, .int 1, .int 1], rfl, .inr ⟨_, _, _, l_m6, rfl, rfl, by show 3 ≤ sizeLine; omega, .cons ⟨_, rfl⟩ (.cons ⟨_, rfl⟩ (.cons ⟨_, rfl⟩ .nil))⟩, .cons rfl (.cons rfl (.cons rfl .nil))⟩ (.nil)))))))
  have F_GraphD_initD := fun_mk (st := s_GraphD_initD) l_GraphD_initD c_GraphD_initD k_GraphD_initD
  have b_GraphD_initD := F_GraphD_initD.binds (ps := ["self", "vertices", "edges"]) fun _ _ _ _ _ _ us hl => match us, hl with | [_, _, _], _ => rfl
  have F__law_odd := fun_mk (st := s__law_odd) l__law_odd c__law_odd k__law_odd
  have b__law_odd := F__law_odd.binds (ps := ["many", "pairs", "edges"]) fun _ _ _ _ _ _ us hl => match us, hl with | [_, _, _], _ => rfl
  have F__law_are_even := fun_mk (st := s__law_are_even) l__law_are_even c__law_are_even k__law_are_even
  have b__law_are_even := F__law_are_even.binds (ps := ["many", "pairs", "sets", "count"]) fun _ _ _ _ _ _ us hl => match us, hl with | [_, _, _, _], _ => rfl
  have F__law_counts := fun_mk (st := s__law_counts) l__law_counts c__law_counts k__law_counts
  have b__law_counts := F__law_counts.binds (ps := ["pairs", "sets"]) fun _ _ _ _ _ _ us hl => match us, hl with | [_, _], _ => rfl
  have F__law_next := fun_mk (st := s__law_next) l__law_next c__law_next k__law_next
  have b__law_next := F__law_next.binds (ps := ["state", "many"]) fun _ _ _ _ _ _ us hl => match us, hl with | [_, _], _ => rfl
  have F__law_add_path := fun_mk (st := s__law_add_path) l__law_add_path c__law_add_path k__law_add_path
  have b__law_add_path := F__law_add_path.binds (ps := ["state", "built", "start", "goal", "bits"]) fun _ _ _ _ _ _ us hl => match us, hl with | [_, _, _, _, _], _ => rfl
  have F__law_shuffled := fun_mk (st := s__law_shuffled) l__law_shuffled c__law_shuffled k__law_shuffled
  have b__law_shuffled := F__law_shuffled.binds (ps := ["state", "many"]) fun _ _ _ _ _ _ us hl => match us, hl with | [_, _], _ => rfl
  have F__law_covered := fun_mk (st := s__law_covered) l__law_covered c__law_covered k__law_covered
  have b__law_covered := F__law_covered.binds (ps := ["state", "count", "most"]) fun _ _ _ _ _ _ us hl => match us, hl with | [_, _, _], _ => rfl
  have F__law_cell := fun_mk (st := s__law_cell) l__law_cell c__law_cell k__law_cell
  have b__law_cell := F__law_cell.binds (ps := ["script", "k"]) fun _ _ _ _ _ _ us hl => match us, hl with | [_, _], _ => rfl
  have F__law_numbers := fun_mk (st := s__law_numbers) l__law_numbers c__law_numbers k__law_numbers
  have b__law_numbers := F__law_numbers.binds (ps := ["cell", "many"]) fun _ _ _ _ _ _ us hl => match us, hl with | [_, _], _ => rfl
  have F__law_state := fun_mk (st := s__law_state) l__law_state c__law_state k__law_state
  have b__law_state := F__law_state.binds (ps := ["script", "start", "many"]) fun _ _ _ _ _ _ us hl => match us, hl with | [_, _, _], _ => rfl
  have F__law_sums := fun_mk (st := s__law_sums) l__law_sums c__law_sums k__law_sums
  have b__law_sums := F__law_sums.binds (ps := ["pairs", "sets"]) fun _ _ _ _ _ _ us hl => match us, hl with | [_, _], _ => rfl
  have F__is_basis := fun_mk (st := s__is_basis) l__is_basis c__is_basis k__is_basis
  have b__is_basis := F__is_basis.binds (ps := ["one", "two", "three"]) fun _ _ _ _ _ _ us hl => match us, hl with | [_, _, _], _ => rfl
  have F_GraphD_lenD := fun_mk (st := s_GraphD_lenD) l_GraphD_lenD c_GraphD_lenD k_GraphD_lenD
  have b_GraphD_lenD := F_GraphD_lenD.binds (ps := ["self"]) fun _ _ _ _ _ _ us hl => match us, hl with | [_], _ => rfl
  have F_marked_edges := fun_mk (st := s_marked_edges) l_marked_edges c_marked_edges k_marked_edges
  have b_marked_edges := F_marked_edges.binds (ps := ["graph", "edges"]) fun _ _ _ _ _ _ us hl => match us, hl with | [_, _], _ => rfl
  have F_GraphD_iterD := fun_mk (st := s_GraphD_iterD) l_GraphD_iterD c_GraphD_iterD k_GraphD_iterD
  have b_GraphD_iterD := F_GraphD_iterD.binds (ps := ["self"]) fun _ _ _ _ _ _ us hl => match us, hl with | [_], _ => rfl
  have F_Graph_vertices := fun_mk (st := s_Graph_vertices) l_Graph_vertices c_Graph_vertices k_Graph_vertices
  have b_Graph_vertices := F_Graph_vertices.binds (ps := ["self"]) fun _ _ _ _ _ _ us hl => match us, hl with | [_], _ => rfl
  have F_odd_vertices := fun_mk (st := s_odd_vertices) l_odd_vertices c_odd_vertices k_odd_vertices
  have b_odd_vertices := F_odd_vertices.binds (ps := ["graph", "marks"]) fun _ _ _ _ _ _ us hl => match us, hl with | [_, _], _ => rfl
  have F_refuse_odd := fun_mk (st := s_refuse_odd) l_refuse_odd c_refuse_odd k_refuse_odd
  have b_refuse_odd := F_refuse_odd.binds (ps := ["graph", "marks"]) fun _ _ _ _ _ _ us hl => match us, hl with | [_, _], _ => rfl
  have F__checked := fun_mk (st := s__checked) l__checked c__checked k__checked
  have b__checked := F__checked.binds (ps := ["graph", "sets"]) fun _ _ _ _ _ _ us hl => match us, hl with | [_, _], _ => rfl
  have F_sum_of_marks := fun_mk (st := s_sum_of_marks) l_sum_of_marks c_sum_of_marks k_sum_of_marks
  have b_sum_of_marks := F_sum_of_marks.binds (ps := ["one", "other"]) fun _ _ _ _ _ _ us hl => match us, hl with | [_, _], _ => rfl
  have F__seven := fun_mk (st := s__seven) l__seven c__seven k__seven
  have b__seven := F__seven.binds (ps := ["graph", "sets"]) fun _ _ _ _ _ _ us hl => match us, hl with | [_, _], _ => rfl
  have F_places := fun_mk (st := s_places) l_places c_places k_places
  have b_places := F_places.binds (ps := ["marks"]) fun _ _ _ _ _ _ us hl => match us, hl with | [_], _ => rfl
  have F_light_cover := fun_mk (st := s_light_cover) l_light_cover c_light_cover k_light_cover
  have b_light_cover := F_light_cover.binds (ps := ["graph", "sets"]) fun _ _ _ _ _ _ us hl => match us, hl with | [_, _], _ => rfl
  have F_law := fun_mk (st := s_law) l_law c_law k_law
  have b_law := F_law.binds (ps := ["script"]) fun _ _ _ _ _ _ us hl => match us, hl with | [_], _ => rfl
  refine ⟨sp_law K C, PySem.W.fnOf "law" "law" (defArgs s_law) (defBody s_law) (defScope s_law) .none kV_law dc_law pm_law an_law cd_law ct_law, fun H a ns hS => ⟨a, ns, rfl, hS, fun _ => rfl⟩, fun s v => .of_eq rfl, fun base _ _ => ?_⟩
  have D_Graph : Dc l.prog w K mg base CX0 1 C "Graph" ["self", "vertices", "edges"] (sp_GraphD_initD K C) := ⟨_, _, ⟨mk, a_GraphD_initD, i_GraphD_initD, kc⟩, ok_GraphD_initD F_GraphD_initD b T, PySem.W.mg_of X G aC, b_GraphD_initD⟩
  have D__law_odd : Df l.prog w K mg base CX0 1 "_law_odd" ["many", "pairs", "edges"] (sp__law_odd K C) := ⟨_, _, ok__law_odd F__law_odd b, PySem.W.mg_of X G a__law_odd, k__law_odd, b__law_odd⟩
  have D__law_are_even : DfG l.prog w K mg base CX0 2 "_law_are_even" ["many", "pairs", "sets", "count"] (sp__law_are_even K C) := ⟨_, _, ok__law_are_even F__law_are_even b D__law_odd, PySem.W.mg_of X G a__law_are_even, k__law_are_even, b__law_are_even⟩
  have D__law_counts : Df l.prog w K mg base CX0 1 "_law_counts" ["pairs", "sets"] (sp__law_counts K C) := ⟨_, _, ok__law_counts F__law_counts b, PySem.W.mg_of X G a__law_counts, k__law_counts, b__law_counts⟩
  have D__law_next : Df l.prog w K mg base CX0 1 "_law_next" ["state", "many"] (sp__law_next K C) := ⟨_, _, ok__law_next F__law_next b, PySem.W.mg_of X G a__law_next, k__law_next, b__law_next⟩
  have D__law_add_path : Df l.prog w K mg base CX0 2 "_law_add_path" ["state", "built", "start", "goal", "bits"] (sp__law_add_path K C) := ⟨_, _, ok__law_add_path F__law_add_path b D__law_next, PySem.W.mg_of X G a__law_add_path, k__law_add_path, b__law_add_path⟩
  have D__law_shuffled : Df l.prog w K mg base CX0 2 "_law_shuffled" ["state", "many"] (sp__law_shuffled K C) := ⟨_, _, ok__law_shuffled F__law_shuffled b D__law_next, PySem.W.mg_of X G a__law_shuffled, k__law_shuffled, b__law_shuffled⟩
  have D__law_covered : Df l.prog w K mg base CX0 3 "_law_covered" ["state", "count", "most"] (sp__law_covered K C) := ⟨_, _, ok__law_covered F__law_covered b D__law_add_path D__law_next D__law_shuffled, PySem.W.mg_of X G a__law_covered, k__law_covered, b__law_covered⟩
  have D__law_cell : Df l.prog w K mg base CX0 1 "_law_cell" ["script", "k"] (sp__law_cell K C) := ⟨_, _, ok__law_cell F__law_cell b, PySem.W.mg_of X G a__law_cell, k__law_cell, b__law_cell⟩
  have D__law_numbers : Df l.prog w K mg base CX0 1 "_law_numbers" ["cell", "many"] (sp__law_numbers K C) := ⟨_, _, ok__law_numbers F__law_numbers b, PySem.W.mg_of X G a__law_numbers, k__law_numbers, b__law_numbers⟩
  have D__law_state : Df l.prog w K mg base CX0 2 "_law_state" ["script", "start", "many"] (sp__law_state K C) := ⟨_, _, ok__law_state F__law_state b D__law_cell D__law_numbers, PySem.W.mg_of X G a__law_state, k__law_state, b__law_state⟩
  have D__law_sums : Df l.prog w K mg base CX0 2 "_law_sums" ["pairs", "sets"] (sp__law_sums K C) := ⟨_, _, ok__law_sums F__law_sums b D__law_counts, PySem.W.mg_of X G a__law_sums, k__law_sums, b__law_sums⟩
  have D__is_basis : Df l.prog w K mg base CX0 1 "_is_basis" ["one", "two", "three"] (sp__is_basis K C) := ⟨_, _, ok__is_basis F__is_basis b, PySem.W.mg_of X G a__is_basis, k__is_basis, b__is_basis⟩
  have D_Graph_len : Ds l.prog w K mg base CX0 1 C "__len__" (spLen C) := ⟨_, _, _, ⟨a_GraphD_lenD, i_GraphD_lenD⟩, ok_GraphD_lenD F_GraphD_lenD b T, b_GraphD_lenD⟩
  have D_marked_edges : Df l.prog w K mg base CX0 3 "marked_edges" ["graph", "edges"] (sp_marked_edges K C) := ⟨_, _, ok_marked_edges F_marked_edges b D_Graph_len, PySem.W.mg_of X G a_marked_edges, k_marked_edges, b_marked_edges⟩
  have D_Graph_iter : Di l.prog w K mg base CX0 1 C := ⟨_, _, _, ⟨a_GraphD_iterD, i_GraphD_iterD⟩, ok_GraphD_iterD F_GraphD_iterD b T, b_GraphD_iterD⟩
  have D_Graph_vertices : Dp' l.prog w K mg base CX0 1 C "vertices" (getSp C "_many") := ⟨_, _, _, ["self"], T.cl, ⟨a_Graph_vertices, g_Graph_vertices, t_Graph_vertices, _, r_Graph_vertices⟩, fn_getter l_Graph_vertices c_Graph_vertices sc_Graph_vertices rfl rfl T.cl T.n1, b_Graph_vertices⟩
  have D_odd_vertices : Df l.prog w K mg base CX0 4 "odd_vertices" ["graph", "marks"] (sp_odd_vertices K C) := ⟨_, _, ok_odd_vertices F_odd_vertices b D_Graph_iter D_Graph_vertices, PySem.W.mg_of X G a_odd_vertices, k_odd_vertices, b_odd_vertices⟩
  have D_refuse_odd : Df l.prog w K mg base CX0 5 "refuse_odd" ["graph", "marks"] (sp_refuse_odd K C) := ⟨_, _, ok_refuse_odd F_refuse_odd b D_odd_vertices, PySem.W.mg_of X G a_refuse_odd, k_refuse_odd, b_refuse_odd⟩
  have D__checked : Df l.prog w K mg base CX0 6 "_checked" ["graph", "sets"] (sp__checked K C) := ⟨_, _, ok__checked F__checked b D_Graph_len D_marked_edges D_refuse_odd, PySem.W.mg_of X G a__checked, k__checked, b__checked⟩
  have D_sum_of_marks : Df l.prog w K mg base CX0 1 "sum_of_marks" ["one", "other"] (sp_sum_of_marks K C) := ⟨_, _, ok_sum_of_marks F_sum_of_marks b, PySem.W.mg_of X G a_sum_of_marks, k_sum_of_marks, b_sum_of_marks⟩
  have D__seven : Df l.prog w K mg base CX0 7 "_seven" ["graph", "sets"] (sp__seven K C) := ⟨_, _, ok__seven F__seven b D_Graph_len D__checked D_sum_of_marks (PySem.W.mg_of X G a_MASKS) v_MASKS, PySem.W.mg_of X G a__seven, k__seven, b__seven⟩
  have D_places : Df l.prog w K mg base CX0 1 "places" ["marks"] (sp_places K C) := ⟨_, _, ok_places F_places b, PySem.W.mg_of X G a_places, k_places, b_places⟩
  have D_light_cover : Df l.prog w K mg base CX0 8 "light_cover" ["graph", "sets"] (sp_light_cover K C) := ⟨_, _, ok_light_cover F_light_cover b D__is_basis D__seven D_places (PySem.W.mg_of X G a_MASKS) v_MASKS, PySem.W.mg_of X G a_light_cover, k_light_cover, b_light_cover⟩
  exact ok_law F_law b D_Graph D__law_are_even D__law_counts D__law_covered D__law_state D__law_sums D_light_cover
end Nz
open PySem PySem.W PyProof.Rows in
set_option maxRecDepth 100000 in
set_option maxHeartbeats 0 in
theorem PySem.Challenge.cw_nowherezero_k43_light_covers_holds : PySem.Challenge.rw_nowherezero_k43_light_covers.Holds := by
  w_on; o_law; k_head; (case hw => w_witness2)
  k_fill
  refine Nz.walkG (l := PySem.Challenge.rw_nowherezero_k43_light_covers) (n := 63) (k := 9) (x := "script") rfl (by decide) rfl ⟨rfl, by decide, by decide⟩ (fun w h Y => PySem.W.kIn_of Y) ?F
  case F =>
    intro w mg fa h KX G hmg
    refine' Nz.all_mk KX G hmg ?aC ?a_GraphD_initD ?i_GraphD_initD ?l_GraphD_initD ?c_GraphD_initD ?k_GraphD_initD ?a__law_odd ?l__law_odd ?c__law_odd ?k__law_odd ?a__law_are_even ?l__law_are_even ?c__law_are_even ?k__law_are_even ?a__law_counts ?l__law_counts ?c__law_counts ?k__law_counts ?a__law_next ?l__law_next ?c__law_next ?k__law_next ?a__law_add_path ?l__law_add_path ?c__law_add_path ?k__law_add_path ?a__law_shuffled ?l__law_shuffled ?c__law_shuffled ?k__law_shuffled ?a__law_covered ?l__law_covered ?c__law_covered ?k__law_covered ?a__law_cell ?l__law_cell ?c__law_cell ?k__law_cell ?a__law_numbers ?l__law_numbers ?c__law_numbers ?k__law_numbers ?a__law_state ?l__law_state ?c__law_state ?k__law_state ?a__law_sums ?l__law_sums ?c__law_sums ?k__law_sums ?a__is_basis ?l__is_basis ?c__is_basis ?k__is_basis ?a_GraphD_lenD ?i_GraphD_lenD ?l_GraphD_lenD ?c_GraphD_lenD ?k_GraphD_lenD ?a_marked_edges ?l_marked_edges ?c_marked_edges ?k_marked_edges ?a_GraphD_iterD ?i_GraphD_iterD ?l_GraphD_iterD ?c_GraphD_iterD ?k_GraphD_iterD ?a_Graph_vertices ?g_Graph_vertices ?t_Graph_vertices ?r_Graph_vertices ?l_Graph_vertices ?c_Graph_vertices ?k_Graph_vertices ?a_odd_vertices ?l_odd_vertices ?c_odd_vertices ?k_odd_vertices ?a_refuse_odd ?l_refuse_odd ?c_refuse_odd ?k_refuse_odd ?a__checked ?l__checked ?c__checked ?k__checked ?a_sum_of_marks ?l_sum_of_marks ?c_sum_of_marks ?k_sum_of_marks ?a__seven ?l__seven ?c__seven ?k__seven ?a_places ?l_places ?c_places ?k_places ?a_light_cover ?l_light_cover ?c_light_cover ?k_light_cover ?a_law ?l_law ?c_law ?k_law ?pg ?hd ?po ?sa ?mk ?kc ?n1 ?n2 ?n3 ?z_len ?z_range ?z_enumerate ?z_zip ?z_abs ?z_int ?z_list ?z_tuple ?z_bool ?z_repr ?z_isinstance ?z_sum ?z_sorted ?z_iter ?z_min ?z_max ?a_MASKS ?l_MASKS ?l_m0 ?l_m1 ?l_m2 ?l_m3 ?l_m4 ?l_m5 ?l_m6
    (case aC => k_is)
    (case a_GraphD_initD => k_is)
    (case i_GraphD_initD => k_is)
    (case l_GraphD_initD => k_is)
    (case c_GraphD_initD => k_is)
    (case k_GraphD_initD => k_is)
    (case a__law_odd => k_is)
    (case l__law_odd => k_is)
    (case c__law_odd => k_is)
    (case k__law_odd => k_is)
    (case a__law_are_even => k_is)
    (case l__law_are_even => k_is)
    (case c__law_are_even => k_is)
    (case k__law_are_even => k_is)
    (case a__law_counts => k_is)
    (case l__law_counts => k_is)
    (case c__law_counts => k_is)
    (case k__law_counts => k_is)
    (case a__law_next => k_is)
    (case l__law_next => k_is)
    (case c__law_next => k_is)
    (case k__law_next => k_is)
    (case a__law_add_path => k_is)
    (case l__law_add_path => k_is)
    (case c__law_add_path => k_is)
    (case k__law_add_path => k_is)
    (case a__law_shuffled => k_is)
    (case l__law_shuffled => k_is)
    (case c__law_shuffled => k_is)
    (case k__law_shuffled => k_is)
    (case a__law_covered => k_is)
    (case l__law_covered => k_is)
    (case c__law_covered => k_is)
    (case k__law_covered => k_is)
    (case a__law_cell => k_is)
    (case l__law_cell => k_is)
    (case c__law_cell => k_is)
    (case k__law_cell => k_is)
    (case a__law_numbers => k_is)
    (case l__law_numbers => k_is)
    (case c__law_numbers => k_is)
    (case k__law_numbers => k_is)
    (case a__law_state => k_is)
    (case l__law_state => k_is)
    (case c__law_state => k_is)
    (case k__law_state => k_is)
    (case a__law_sums => k_is)
    (case l__law_sums => k_is)
    (case c__law_sums => k_is)
    (case k__law_sums => k_is)
    (case a__is_basis => k_is)
    (case l__is_basis => k_is)
    (case c__is_basis => k_is)
    (case k__is_basis => k_is)
    (case a_GraphD_lenD => k_is)
    (case i_GraphD_lenD => k_is)
    (case l_GraphD_lenD => k_is)
    (case c_GraphD_lenD => k_is)
    (case k_GraphD_lenD => k_is)
    (case a_marked_edges => k_is)
    (case l_marked_edges => k_is)
    (case c_marked_edges => k_is)
    (case k_marked_edges => k_is)
    (case a_GraphD_iterD => k_is)
    (case i_GraphD_iterD => k_is)
    (case l_GraphD_iterD => k_is)
    (case c_GraphD_iterD => k_is)
    (case k_GraphD_iterD => k_is)
    (case a_Graph_vertices => k_is)
    (case g_Graph_vertices => k_is)
    (case t_Graph_vertices => k_is)
    (case r_Graph_vertices => k_is)
    (case l_Graph_vertices => k_is)
    (case c_Graph_vertices => k_is)
    (case k_Graph_vertices => k_is)
    (case a_odd_vertices => k_is)
    (case l_odd_vertices => k_is)
    (case c_odd_vertices => k_is)
    (case k_odd_vertices => k_is)
    (case a_refuse_odd => k_is)
    (case l_refuse_odd => k_is)
    (case c_refuse_odd => k_is)
    (case k_refuse_odd => k_is)
    (case a__checked => k_is)
    (case l__checked => k_is)
    (case c__checked => k_is)
    (case k__checked => k_is)
    (case a_sum_of_marks => k_is)
    (case l_sum_of_marks => k_is)
    (case c_sum_of_marks => k_is)
    (case k_sum_of_marks => k_is)
    (case a__seven => k_is)
    (case l__seven => k_is)
    (case c__seven => k_is)
    (case k__seven => k_is)
    (case a_places => k_is)
    (case l_places => k_is)
    (case c_places => k_is)
    (case k_places => k_is)
    (case a_light_cover => k_is)
    (case l_light_cover => k_is)
    (case c_light_cover => k_is)
    (case k_light_cover => k_is)
    (case a_law => k_is)
    (case l_law => k_is)
    (case c_law => k_is)
    (case k_law => k_is)
    (case pg => k_is)
    (case hd => k_is)
    (case po => k_is)
    (case sa => k_is)
    (case mk => k_is)
    (case kc => k_is)
    (case n1 => k_is)
    (case n2 => k_is)
    (case n3 => k_is)
    (case z_len => k_is)
    (case z_range => k_is)
    (case z_enumerate => k_is)
    (case z_zip => k_is)
    (case z_abs => k_is)
    (case z_int => k_is)
    (case z_list => k_is)
    (case z_tuple => k_is)
    (case z_bool => k_is)
    (case z_repr => k_is)
    (case z_isinstance => k_is)
    (case z_sum => k_is)
    (case z_sorted => k_is)
    (case z_iter => k_is)
    (case z_min => k_is)
    (case z_max => k_is)
    (case a_MASKS => k_is)
    (case l_MASKS => k_is)
    (case l_m0 => k_is)
    (case l_m1 => k_is)
    (case l_m2 => k_is)
    (case l_m3 => k_is)
    (case l_m4 => k_is)
    (case l_m5 => k_is)
    (case l_m6 => k_is)
