import PyProof.Rows.All
import HandS.ForMost
import HandS.IsInst
import HandS.SlotsVar
import HandS.Small
import HandS.Style
import HandS.Flow
import HandS.Conv
import HandS.TupAny
import HandS.Star
import HandS.Wide
import HandS.Exc
import KE.GoesEnum
import PyProof.ReprRoads
import PySem.Challenge.RW_passedastold_k31_programs_run_line_by_li
import HandS.Slots
import KE.GoesZip
import HandS.Iter
import PyProof.CollectIter
import PyProof.WalksMore
import HandS.SlotsOwn
import HandS.RaiseMore
import PyProof.DictUpdate
import HandS.Text
import PyProof.Rows.StrDigitsNeg
import HandS.Walk
import PyProof.ReprLen
import PyProof.Rows.RegStrFacts
import HandS.Ends
set_option Elab.async false
set_option linter.all false
set_option maxRecDepth 100000
set_option maxHeartbeats 4000000
/-! A layer of our own over HandS: what stays, callees as one fact, calls by keywords alone, defs that know that nothing is being shown (repr), repr of data, great powers, enumerate of a tuple, an attribute with a slot as a target. -/
namespace L2.PL
open PySem PySem.Spec PyProof.Rows

/-! ### what stays -/
/-- all that was tracked, but at W, is as it was -/
def Old (W : List Addr) (H H' : Hp) : Prop := ∀ b o, b ∉ W → H b = some o → H' b = some o
theorem Old.refl (W : List Addr) (H : Hp) : Old W H H := fun _ _ _ h => h
theorem Old.trans {W : List Addr} {H H1 H2 : Hp} (a : Old W H H1) (b : Old W H1 H2) : Old W H H2 := fun c o n h => b c o n (a c o n h)
theorem Old.mono {W W' : List Addr} {H H' : Hp} (a : Old W H H') (h : ∀ x ∈ W, x ∈ W') : Old W' H H' := fun c o n e => a c o (fun m => n (h c m)) e
theorem Old.new {W : List Addr} {H H' : Hp} {p : Addr} {o : HO} (a : Old W H H') (n : H' p = none) : Old W H (upd H' p o) := fun c u nc e => by
  have e' := a c u nc e
  rw [upd_ne (ne_of_none e' n)]
  exact e'
theorem Old.new0 {W : List Addr} {H : Hp} {p : Addr} {o : HO} (n : H p = none) : Old W H (upd H p o) := (Old.refl W H).new n
theorem Old.put {W : List Addr} {H H' : Hp} {p : Addr} {o : HO} (a : Old W H H') (m : p ∈ W) : Old W H (upd H' p o) := fun c u nc e => by
  have q : c ≠ p := fun z => nc (by rw [z]; exact m)
  rw [upd_ne q]
  exact a c u nc e
/-- written where nothing stood at first -/
theorem Old.put0 {W : List Addr} {H H' : Hp} {p : Addr} {o : HO} (a : Old W H H') (m : H p = none) : Old W H (upd H' p o) := fun c u nc e => by
  rw [upd_ne (ne_of_none e m)]
  exact a c u nc e
theorem Old.free {W : List Addr} {H H' : Hp} (a : Old W H H') {p : Addr} (h : H' p = none) (n : p ∉ W) : H p = none := by
  cases q : H p with
  | none => rfl
  | some o =>
    rw [a p o n q] at h
    cases h
theorem Old.same {H H' : Hp} (a : Old [] H H') : Same H H' := fun b o e => a b o (by simp) e
/-- a step at W that stood not ahead: nothing of the old changed -/
theorem Old.drop {a : Addr} {W : List Addr} {H H1 H2 : Hp} (s : Old W H H1) (t : Old (a :: W) H1 H2) (n : H a = none) : Old W H H2 := fun b o nb e =>
  t b o (fun m => by
    rcases List.mem_cons.mp m with z | z
    · rw [z, n] at e; cases e
    · exact nb z) (s b o nb e)
/-- tuples and locked things stay -/
def Tk (H H' : Hp) : Prop := (∀ b xs, H b = some (.tup xs) → H' b = some (.tup xs)) ∧ ∀ b o u, H b = some (.frz o u) → H' b = some (.frz o u)
theorem Tk.refl (H : Hp) : Tk H H := ⟨fun _ _ h => h, fun _ _ _ h => h⟩
theorem Tk.trans {H H1 H2 : Hp} (a : Tk H H1) (b : Tk H1 H2) : Tk H H2 := ⟨fun c xs h => b.1 c xs (a.1 c xs h), fun c o u h => b.2 c o u (a.2 c o u h)⟩
theorem Tk.seq {K : PySem.W.Frag} {H H' : Hp} {a : Addr} {xs : List V} (e : Tk H H') (h : SqT K H a xs) : SqT K H' a xs := by
  rcases h with (h | ⟨o, h⟩) | h
  · exact .inl (.inl (e.1 _ _ h))
  · exact .inl (.inr ⟨o, e.2 _ _ _ h⟩)
  · exact .inr h
/-- what may change is no tuple -/
def NoTup (W : List Addr) (H : Hp) : Prop := ∀ a ∈ W, (∀ xs, H a ≠ some (.tup xs)) ∧ ∀ o u, H a ≠ some (.frz o u)
theorem Old.tk {W : List Addr} {H H' : Hp} (a : Old W H H') (n : NoTup W H) : Tk H H' :=
  ⟨fun b xs e => a b _ (fun m => (n b m).1 xs e) e, fun b o u e => a b _ (fun m => (n b m).2 o u e) e⟩
theorem NoTup.nil {H : Hp} : NoTup [] H := fun _ h => by simp at h
theorem NoTup.one {a : Addr} {H : Hp} {xs : List V} (h : H a = some (.lst xs)) : NoTup [a] H := fun b m => by
  have e : b = a := by simpa using m
  subst e
  exact ⟨fun ys q => (by rw [h] at q; cases q), fun o u q => (by rw [h] at q; cases q)⟩
theorem SqT.seq0 {K : PySem.W.Frag} {H H' : Hp} {a : Addr} {xs : List V} (h : SqT K H a xs) (e : Same H H') : SqT K H' a xs := by
  rcases h with (h | ⟨o, h⟩) | h
  · exact .inl (.inl (e _ _ h))
  · exact .inl (.inr ⟨o, e _ _ h⟩)
  · exact .inr h

/-! ### data of tuples -/
mutual
/-- tuples, ints, texts, .. alone -/
def tupOnly : PyData → Bool
  | .none => true
  | .bool _ => true
  | .int _ => true
  | .str _ => true
  | .list _ => false
  | .tuple ds => tupOnlyAll ds
  | .dict _ => false
def tupOnlyAll : List PyData → Bool
  | [] => true
  | d :: ds => tupOnly d && tupOnlyAll ds
end
mutual
theorem Dp.keep {K : PySem.W.Frag} {H H' : Hp} (t : Tk H H') : ∀ (d : PyData) (v : V), tupOnly d = true → Dp K H v d → Dp K H' v d
  | .none, _, _, h => by cases h; exact .non
  | .bool _, _, _, h => by cases h; exact .bl _
  | .int _, _, _, h => by cases h; exact .int _
  | .str _, _, _, h => by cases h; exact .str _
  | .list _, _, q, _ => by cases q
  | .tuple ds, _, q, h => by
    cases h with
    | tup hs ha => exact .tup (t.seq hs) (Dp.keepAll t ds _ q ha)
  | .dict _, _, q, _ => by cases q
theorem Dp.keepAll {K : PySem.W.Frag} {H H' : Hp} (t : Tk H H') : ∀ (ds : List PyData) (vs : List V), tupOnlyAll ds = true → DpAll K H vs ds → DpAll K H' vs ds
  | [], _, _, h => by cases h; exact .nil
  | d :: ds, _, q, h => by
    cases h with
    | cons h1 h2 =>
      have q' : (tupOnly d && tupOnlyAll ds) = true := q
      rw [Bool.and_eq_true] at q'
      exact .cons (Dp.keep t d _ q'.1 h1) (Dp.keepAll t ds _ q'.2 h2)
end
theorem DpAll.get {K : PySem.W.Frag} {H : Hp} : ∀ {vs : List V} {ds : List PyData} {i : Nat} {d : PyData}, DpAll K H vs ds → ds[i]? = some d → ∃ v, vs[i]? = some v ∧ Dp K H v d
  | _, _, _, _, .nil, e => by simp at e
  | _, _, 0, _, .cons h _, e => by simp at e; subst e; exact ⟨_, rfl, h⟩
  | _, _, i + 1, d, .cons _ t, e => by
    obtain ⟨v, h1, h2⟩ := DpAll.get (i := i) (d := d) t (by simpa using e)
    exact ⟨v, by simpa using h1, h2⟩
theorem DpAll.length {K : PySem.W.Frag} {H : Hp} : ∀ {vs : List V} {ds : List PyData}, DpAll K H vs ds → vs.length = ds.length
  | _, _, .nil => rfl
  | _, _, .cons _ t => by simp [DpAll.length t]
theorem DpAll.of {K : PySem.W.Frag} {H : Hp} : ∀ {vs : List V} {ds : List PyData}, vs.length = ds.length → (∀ (i : Nat) v d, vs[i]? = some v → ds[i]? = some d → Dp K H v d) → DpAll K H vs ds
  | [], [], _, _ => .nil
  | [], _ :: _, h, _ => by simp at h
  | _ :: _, [], h, _ => by simp at h
  | v :: vs, d :: ds, h, f => .cons (f 0 v d rfl rfl) (DpAll.of (by simpa using h) fun i x y e1 e2 => f (i + 1) x y (by simpa using e1) (by simpa using e2))
theorem DpAll.append {K : PySem.W.Frag} {H : Hp} : ∀ {vs ws : List V} {ds es : List PyData}, DpAll K H vs ds → DpAll K H ws es → DpAll K H (vs ++ ws) (ds ++ es)
  | _, _, _, _, .nil, h => h
  | _, _, _, _, .cons a t, h => .cons a (DpAll.append t h)
theorem Dp.ofInts {K : PySem.W.Frag} {H : Hp} : ∀ (ns : List Int), DpAll K H (ns.map V.int) (ns.map PyData.int)
  | [] => .nil
  | n :: ns => .cons (.int n) (Dp.ofInts ns)

/-! ### callees as one fact -/
structure Cal (P : Program) (w : World) (K : PySem.W.Frag) (mg : Str → Option Value) (base : Heap) (CX : CXT) (x : Str) (ps : List Str) (k : Nat) (sp : Sp) : Prop where
  ex : ∃ (f : Addr) (fd : FuncData), mg x = some (.ref f) ∧ PySem.W.keepIn K (.ref f) = true ∧ Binds K fd ps [] ∧ (∀ ks : List Str, True) ∧ FnOk P w K mg base CX k f fd ps sp
section
variable {X : Cx} {CX : CXT} {j k : Nat} {ps : List Str} {sp : Sp} {E : XK} {x : Str} {p pos : Pos} {e : Expr} {es : List Expr} {t : TA}
theorem pe_cal (C : Cal X.prog X.w X.K X.mg X.base CX x ps k sp) (hr : Room j X.A) (hg : Gl X x) (hx : Passes CX X E) (ha : PA X (e :: es) t) (hk : k ≤ j := by decide)
    (hdb : (x == ("__debug__" : Str)) = false := by decide) (he : starEach (e :: es) X.env = (false, eval e X.env) :: starEach es X.env := by rfl) (hpl : (backTo pos (starEach es X.env)).any (·.1) = false := by rfl) :
    PE X (.Call (.Name x p) (e :: es) [] pos) (tCall sp [] E t) := by
  obtain ⟨f, fd, hm, kp, hb, _, F⟩ := C.ex
  exact pe_call F (hr.mono hk) hg hm kp hb .nil hx ha hdb he hpl
theorem pe_cal0 (C : Cal X.prog X.w X.K X.mg X.base CX x ps k sp) (hr : Room j X.A) (hg : Gl X x) (hx : Passes CX X E) (hk : k ≤ j := by decide) (hdb : (x == ("__debug__" : Str)) = false := by decide) :
    PE X (.Call (.Name x p) [] [] pos) (tCall sp [] E tNil) := by
  obtain ⟨f, fd, hm, kp, hb, _, F⟩ := C.ex
  exact pe_call0 F (hr.mono hk) hg hm kp hb .nil hx hdb
end

/-! ### defs that are called where nothing is being shown -/
structure FnOkG (P : Program) (w : World) (K : PySem.W.Frag) (mg : Str → Option Value) (base : Heap) (CX : CXT) (k : Nat) (f : Addr) (fd : FuncData) (ps : List Str) (sp : Sp) : Prop where
  len : ∀ vs H Q E, sp vs H Q E → vs.length = ps.length
  run : ∀ (A : Around) (outer : List Env) (s : Shared) (H : Hp) (args : Args) (us : List Value) (vs : List V) (Q : VK) (E : XK), Room k A → A.guards = some [] → Env0 P w K mg base A outer s H → BindsTo s fd args (ps.zip us) → Vals vs us → sp vs H Q E →
    codeAny (model P w) A (.call (.ref f) args) (CR CX outer P w H s Q E) s
theorem FnOk.g {P : Program} {w : World} {K : PySem.W.Frag} {mg : Str → Option Value} {base : Heap} {CX : CXT} {k : Nat} {f : Addr} {fd : FuncData} {ps : List Str} {sp : Sp} (F : FnOk P w K mg base CX k f fd ps sp) : FnOkG P w K mg base CX k f fd ps sp :=
  ⟨F.len, fun A outer s H args us vs Q E hr _ => F.run A outer s H args us vs Q E hr⟩
theorem FnOkG.mono {P : Program} {w : World} {K : PySem.W.Frag} {mg : Str → Option Value} {base : Heap} {CX : CXT} {j k : Nat} {f : Addr} {fd : FuncData} {ps : List Str} {sp : Sp} (F : FnOkG P w K mg base CX j f fd ps sp) (h : j ≤ k) :
    FnOkG P w K mg base CX k f fd ps sp := ⟨F.len, fun A outer s H args us vs Q E hr => F.run A outer s H args us vs Q E (hr.mono h)⟩
structure CalG (P : Program) (w : World) (K : PySem.W.Frag) (mg : Str → Option Value) (base : Heap) (CX : CXT) (x : Str) (ps : List Str) (k : Nat) (sp : Sp) : Prop where
  ex : ∃ (f : Addr) (fd : FuncData), mg x = some (.ref f) ∧ PySem.W.keepIn K (.ref f) = true ∧ Binds K fd ps [] ∧ FnOkG P w K mg base CX k f fd ps sp
section
variable {X : Cx} {CX : CXT} {j k : Nat} {f : Addr} {fd : FuncData} {ps ks : List Str} {sp : Sp} {E : XK} {x : Str} {p pos : Pos} {e : Expr} {es : List Expr} {kws : List Keyword} {t tk : TA} {ds : List Value} {dvs : List V}
theorem run_fnG {pins : List (Addr × Obj)} {σ : L2.St} {H : Hp} {s : Shared} {Q : VK} {us : List Value} {vs : List V} (F : FnOkG X.prog X.w X.K X.mg X.base CX k f fd ps sp) (hr : Room k X.A) (hG : X.A.guards = some []) (hb : Binds X.K fd ps []) (hx : Passes CX X E)
    (I : Inv X pins σ H s) (r : Vals vs us) (h : sp vs H Q E) : wpAny (model X.prog X.w) X.A (call (.ref f) us) (EP X pins σ Q) X.xe s := by
  have hl : us.length = ps.length := by rw [← r.length]; exact F.len _ _ _ _ h
  have hb' : BindsTo s fd ⟨us, []⟩ (ps.zip us) := by
    have q := hb s us I.kIn (by rw [List.append_nil]; exact hl)
    rw [List.append_nil] at q
    exact q
  refine wpAny_call (codeAny_mono (F.run X.A X.stack s H ⟨us, []⟩ us vs Q E hr hG I.env0 hb' r h) fun r s' hq => ?_)
  cases r with
  | error e => exact hx pins σ H s e s' I hq
  | ok fl =>
    cases fl with
    | ret u => exact I.after hq
    | next => exact False.elim hq
    | brk => exact False.elim hq
    | cont => exact False.elim hq
theorem pe_calG (C : CalG X.prog X.w X.K X.mg X.base CX x ps k sp) (hr : Room j X.A) (hG : X.A.guards = some []) (hg : Gl X x) (hx : Passes CX X E) (ha : PA X (e :: es) t) (hk : k ≤ j := by decide)
    (hdb : (x == ("__debug__" : Str)) = false := by decide) (he : starEach (e :: es) X.env = (false, eval e X.env) :: starEach es X.env := by rfl) (hpl : (backTo pos (starEach es X.env)).any (·.1) = false := by rfl) :
    PE X (.Call (.Name x p) (e :: es) [] pos) (tCall sp [] E t) := by
  obtain ⟨f, fd, hm, kp, hb, F⟩ := C.ex
  refine ⟨fun pins s σ H Q I h => ?_⟩
  refine wpAny_Call_Name_kw (ld_glob I hg hm ?_ hdb)
  refine PySem.W.callWith_K (h₀ := X.base) I.ok.mod.kin kp (thn (ha.run pos pins s σ H _ I h) fun us s1 ⟨vs, H1, I1, r, q⟩ => ⟨I1.kIn, ?_⟩) he hpl
  refine run_fnG F (hr.mono hk) hG hb hx I1 r ?_
  have q' : sp (vs ++ []) H1 Q E := q
  rw [List.append_nil] at q'
  exact q'
/-- f(k = v, ..), no positional argument -/
theorem pe_callK0 {g : List Value → List Value → List Value} {gV : List V → List V → List V} (F : FnOk X.prog X.w X.K X.mg X.base CX k f fd ps sp) (hr : Room k X.A) (hg : Gl X x) (hm : X.mg x = some (.ref f)) (hk : PySem.W.keepIn X.K (.ref f) = true)
    (hb : KBinds X.K fd ps ks g gV) (hx : Passes CX X E) (hkw : PK X kws tk)
    (hall : (backToKw pos (keywordEach kws X.env)).all (·.1.isSome) = true := by rfl) (hks : (backToKw pos (keywordEach kws X.env)).filterMap (·.1) = ks := by rfl)
    (hdb : (x == ("__debug__" : Str)) = false := by decide)
    (hpl : ((backTo pos (starEach [] X.env)).any (·.1) || (backToKw pos (keywordEach kws X.env)).any (·.1.isNone)) = false := by rfl) :
    PE X (.Call (.Name x p) [] kws pos) (tCallK sp gV E tNil tk) := by
  refine ⟨fun pins s σ H Q I h => ?_⟩
  refine wpAny_Call_Name_kw (ld_glob I hg hm ?_ hdb)
  refine PySem.W.callWith_KW0 (h₀ := X.base) (first := []) I.ok.mod.kin hk hall ?_ hpl
  refine thn (hkw.run pos pins s σ H _ I h) fun ws s2 ⟨zs, H2, I2, rz, q2⟩ => ⟨I2.kIn, ?_⟩
  rw [hks]
  exact run_fnk F hr hb hx I2 .nil rz q2
end
section
variable {P : Program} {w : World} {K : PySem.W.Frag} {mg : Str → Option Value} {base : Heap}
theorem guards_deeper {A : Around} {env : Env} (h : A.guards = some []) : (A.deeper env).guards = some [] := by
  first | exact h | (simp [Around.deeper]; exact h)
/-- a def, by its body; nothing is being shown -/
theorem _root_.L2.Fun.okG {x qual : Str} {st : Stmt} {f : Addr} {fd : FuncData} {N ps : List Str} {k : Nat} {sp : Sp} (F : Fun K x qual st f fd) (S : FnScope N ps (defScope st)) (len : ∀ vs H Q E, sp vs H Q E → vs.length = ps.length)
    (hbody : ∀ (cdv : Value) (A : Around) (outer : List Env) (s : Shared) (H : Hp) (vs : List V) (Q : VK) (E : XK), Room k (A.deeper (envOfC qual (defScope st) s.heap.objs.size f cdv)) → (A.deeper (envOfC qual (defScope st) s.heap.objs.size f cdv)).guards = some [] → sp vs H Q E →
      ∃ t, PSs (cxOf CX0 P w K mg base N qual (defScope st) f cdv A outer s H E).nox (defBody st) t ∧ t { nx := fun _ H' => Q .non H', rt := Q } (start N vs) H) : FnOkG P w K mg base CX0 (k + 1) f fd ps sp := by
  obtain ⟨oc, od, kV, doc, pm, an, cdv, ct, osl, rfl, lk, hcd⟩ := F.ex
  refine ⟨len, fun A outer s H args us vs Q E hr hG e0 hb r hsp => ?_⟩
  have hl := len _ _ _ _ hsp
  have KX : K.In s.heap := e0.mod.kin.keeps fun b o e => (e0.bs b o e).1
  have lim : s.heap.NoLimit := e0.mod.nolimit.keeps fun b o e => (e0.bs b o e).1
  have hkind : ∀ y ∈ ps.zip us, (defScope st).names.lookup y.1 = some .local ∨ ((defScope st).names.lookup y.1 = some .cell ∧ ((cellsFrom (s.heap.objs.size + 1) (defScope st).names []).lookup y.1).isSome = true) := fun ⟨n, v⟩ hy => by
    rcases S.par n (List.of_mem_zip hy).1 with q | q
    · exact .inl q
    · exact .inr ⟨q, PySem.W.cellsFrom_some _ _ _ (.inl q)⟩
  refine codeAny_call_function hr.depth (KX _ _ lk) rfl S.co S.gen rfl (PySem.W.codeRec_of KX hcd) (hb _ _ _ _ ?_)
  refine wpAny_newFunctionEnv_cells S.kind hkind fun env he s1 x => ?_
  subst he
  refine ⟨lim.keeps x.toInCall.keep, codeAny_func ?_⟩
  obtain ⟨t, ht, hq⟩ := hbody cdv A outer s H vs Q E (hr.deeper _) (guards_deeper hG) hsp
  have I : Inv (cxOf CX0 P w K mg base N qual (defScope st) f cdv A outer s H E) [] (start N vs) H s1 := inv_start S hr.hd e0 hl r x
  refine wpAny_mono (ht.nox.run [] s1 (start N vs) H _ I hq) (fun fl s' hs => ?_) fun e s' hs => hs
  have fin : ∀ {σ' : St} {H' : Hp} {v : V} {u : Value}, Inv (cxOf CX0 P w K mg base N qual (defScope st) f cdv A outer s H E) [] σ' H' s' → RelV v u → Q v H' → CE outer P w H s Q u s' :=
    fun {σ' H' v u} J rv q => ⟨v, H', J.os, J.bare, J.base, J.hok, rv, q⟩
  cases fl with
  | ret u =>
    obtain ⟨v, σ', H', J, rv, q⟩ := hs
    exact fin J rv q
  | next =>
    obtain ⟨σ', H', J, q⟩ := hs
    exact fin (v := V.non) (u := Value.none) J rfl q
  | brk =>
    obtain ⟨_, _, _, q⟩ := hs
    exact False.elim q
  | cont =>
    obtain ⟨_, _, _, q⟩ := hs
    exact False.elim q
end
end L2.PL

namespace L2.PL
open PySem PySem.Spec PyProof.Rows
section
variable {X : Cx}
/-! ### repr of data -/
def rRepr (K : PySem.W.Frag) : List V → Hp → VK → Prop := fun xs H Q => ∃ a d, xs = [.ref a] ∧ Dp K H (.ref a) d ∧ d.showable = true ∧ d.hasDict = false ∧ d.depth ≤ 60 ∧ d.shown.length ≤ sizeLine ∧ Q (.str d.shown) H
theorem call_reprD (hG : X.A.guards = some []) (hu : X.A.units + 64 < cLine) : CallR X (.builtin "repr") (rRepr X.K) := by
  intro pins s σ H xs us Q I r h
  obtain ⟨a, d, rfl, hd, h1, h2, h3, h4, q⟩ := h
  obtain rfl := Vals.ref1 r
  obtain ⟨as, hr⟩ := Dp.reads I d _ _ hd rfl
  exact repr_of_reads' hr h1 (fun z => by rw [h2] at z; cases z) hG (by omega) (fun b o e => e) (fun h' u tk k => ⟨.str d.shown, H, I.kept (t' := tk) k, ⟨u, rfl⟩, q⟩) h4
/-! ### great powers -/
theorem op_powW : OpR X (binaryOp .Pow) (rI (fun i j => 0 ≤ j ∧ (Builtin.Int.intBits i : Int) * j ≤ 2 ^ 27) fun i j => .int (i ^ j.toNat)) := opI fun _ _ _ _ _ _ _ hc q => pow_int hc.1 hc.2 q
/-! ### o.f, f a slot, as a target -/
def gSlot (C : Addr) (i : Nat) (ta : TE) : TG := fun v σ H Q => ta σ H fun x H1 => ∃ a dx vs, x = .ref a ∧ SlAt H1 a C dx vs ∧ Q σ (upd H1 a (SlO C dx a (putS i v vs)))
theorem pg_slot {o : Expr} {f : Str} {pos : Pos} {C p : Addr} {i : Nat} {ta : TE} (c : SCls X.K C) (k : Slt X.K C f i p) (ha : PE X o ta) : PG X (.Attribute o f pos) (gSlot C i ta) := by
  refine ⟨fun pins s σ H v u Q I r h => ?_⟩
  rw [assign_Attribute]
  refine wpAny_bind (wpAny_holding (thn (ha.run pins s σ H _ I h) fun ov s1 ⟨x, H1, I1, r1, a, dx, vs, ex, ea, q⟩ => ?_))
  subst ex
  obtain rfl : ov = Value.ref a := r1
  refine wpAny_bind (wpAny_standAt (wpAny_bind (wpAny_holding (setslot_ok I1 ea c k r fun s2 I2 => ?_))))
  exact wpAny_release ⟨σ, _, I2, q⟩
end
end L2.PL

namespace L2.PL
open PySem PySem.Spec PyProof.Rows
/-! ### enumerate(a tuple) -/
def IteT (K : PySem.W.Frag) (a : Addr) : It :=
  ⟨fun i H => ∃ (xs : List V) (x : V), SqT K H a xs ∧ xs[i]? = some x, fun i H v H' => ∃ T x, v = .ref T ∧ H T = none ∧ H' = upd H T (.tup [.int (i : Nat), x]) ∧ ∀ xs, SqT K H a xs → xs[i]? = some x, fun i H => ∃ xs : List V, SqT K H a xs ∧ xs.length = i⟩
theorem tup_ne_iter {h : Heap} {it a : Addr} {i : Nat} {items : Array Value} (h1 : h.IsTupleIter it a i) (h2 : h.IsTuple a items) : a ≠ it := fun z => by
  obtain ⟨o, ho, hc, hd⟩ := h1
  obtain ⟨o2, ho2, hc2, n, hd2⟩ := h2
  rw [z, ho] at ho2
  cases ho2
  rw [hd] at hd2
  cases hd2
theorem tup_ne_enum {h : Heap} {e it a : Addr} {i : Int} {old : Value} {items : Array Value} (h1 : IsEnum h e it i old) (h2 : h.IsTuple a items) : e ≠ a := fun z => by
  obtain ⟨o2, ho2, hc2, n, hd2⟩ := h2
  have h1' : h.get? e = _ := h1
  rw [z, ho2] at h1'
  cases h1'
  cases hd2
theorem turn_enumT {P : Program} {w : World} {K : PySem.W.Frag} {elts : List Expr} {kk : Nat} {tpos : Pos} (a e it : Addr) :
    Turn P w K (.Tuple elts kk tpos) (IteT K a) [e, it] e (fun i h => (∃ old, IsEnum h e it ((i : Nat) : Int) old) ∧ h.IsTupleIter it a i ∧ e ≠ it) where
  mem := by simp
  obj := fun i h st b hb => by
    obtain ⟨⟨old, he⟩, ⟨o, ho, hc, hd⟩, _⟩ := st
    have e' : b = e ∨ b = it := by simpa using hb
    rcases e' with z | z
    · rw [z]; exact ⟨_, he, fun v q => nomatch q⟩
    · rw [z]; exact ⟨o, ho, fun v q => by rw [hd] at q; cases q⟩
  keep := fun i h h' st k => let ⟨⟨old, he⟩, hi, hne⟩ := st; ⟨⟨old, k e (by simp) _ he⟩, hi.at fun o q => k it (by simp) o q, hne⟩
  item := by
    intro X hP hw hK hc i pins s σ H E I hf st hg
    subst hP hw hK
    obtain ⟨⟨old, he⟩, hit, hne⟩ := st
    obtain ⟨xs, x, hq, hx⟩ := hg
    obtain ⟨its, rv, p, hz⟩ := I.tuple hq
    obtain ⟨u, hu, ru⟩ := rv.get hx
    have hel : e < s.heap.objs.size := Heap.lt_size he
    have hil : it < s.heap.objs.size := by obtain ⟨_, q, _⟩ := hit; exact Heap.lt_size q
    have hui : its.toArray[i]? = some u := by simpa using hu
    have hlt : i < its.toArray.size := (Array.getElem?_eq_some_iff.mp hui).1
    have D := Draws.tuple (prog := X.prog) (w := X.w) (A := X.A.in1) (I.ok.hd hc) it a (tup_ne_iter hit p) its.toArray
    have hef : e ∉ [it, a] := by
      intro hm
      have : e = it ∨ e = a := by simpa using hm
      rcases this with z | z
      · exact hne z
      · exact tup_ne_enum he p z
    refine wpAny_pyNext_enum_itemD D he ⟨hit, p⟩ hlt hne hef fun x' h' tk hx' ho hit' hT hsz hk => ?_
    have ex : x' = u := Option.some.inj (hx'.symm.trans hui)
    subst ex
    refine ⟨_, rfl, wpAny_letOwnedTupleGo_enum (s := { s with heap := h', toks := tk + 1 }) ho fun h'' he' sb => ?_⟩
    have hT2 : h''.get? s.heap.objs.size = some { cls := .type "tuple", data := .seq #[.int i tk, x'] } := (sb.2 _ (Nat.ne_of_gt hel)).trans hT
    have new : ObjOk X.prog X.w (upd H s.heap.objs.size (.tup [.int (i : Nat), x])) h'' s.heap.objs.size (.tup [.int (i : Nat), x]) :=
      ⟨by show 2 ≤ sizeLine; decide, [.int i tk, x'], .cons ⟨_, rfl⟩ (.cons ru .nil), ⟨_, hT2, rfl, _, rfl⟩⟩
    have I1 : Inv X pins σ (upd H s.heap.objs.size (.tup [.int (i : Nat), x])) { s with heap := h'', toks := tk + 1 } :=
      I.turnedNew (ch := [e, it]) (fun b ob hb q => (sb.2 b (fun z => hb (by simp [z]))).trans (hk b ob (fun z => hb (by simp [z])) (fun z => hb (by simp [z])) q)) hf (Nat.le_refl _) new
    refine ⟨.ref s.heap.objs.size, _, I1, rfl, ⟨_, x, rfl, I.hok.fresh (Nat.le_refl _), rfl, fun ys hy => by rw [I.tuple_inj hy hq]; exact hx⟩, ⟨⟨x', ?_⟩, hit'.1.at fun o q => (sb.2 it (Ne.symm hne)).trans q, hne⟩, fun b hb => ?_⟩
    · have e1 : ((i + 1 : Nat) : Int) = (i : Int) + 1 := by omega
      rw [e1]; exact he'
    · have hb' : b < s.heap.objs.size := by
        have e' : b = e ∨ b = it := by simpa using hb
        rcases e' with z | z
        · rw [z]; exact hel
        · rw [z]; exact hil
      rw [upd_ne (Nat.ne_of_lt hb')]
      exact (hf b hb).1
  done := by
    intro X hP hw hK hc i pins s σ H E I hf st hg
    subst hP hw hK
    obtain ⟨⟨old, he⟩, hit, hne⟩ := st
    obtain ⟨xs, hq, hx⟩ := hg
    obtain ⟨its, rv, p, hz⟩ := I.tuple hq
    obtain ⟨f0, f1, f2, f3, f4, f5⟩ := hf it (by simp)
    have hl := rv.length
    have ei : i = its.toArray.size := by simp; omega
    have D := Draws.tuple (prog := X.prog) (w := X.w) (A := X.A.in1) (I.ok.hd hc) it a (tup_ne_iter hit p) its.toArray
    refine wpAny_pyNext_enum_endD D he (by rw [← ei]; exact ⟨hit, p⟩) fun h' eb => ⟨rfl, I.turned (t' := s.toks) (fun b o hb q => eb b o hb q) f0 f1 f3 f4 f5⟩
  self := fun A i s Q E st h => let ⟨⟨_, he⟩, _⟩ := st; wpAny_pyIter_enum he h
theorem meets_enumerate_newT {v : Value} {o : Obj} {H : Heap → Prop} (B : Begins v o H) :
    Meets (Builtin.«enumerate.__new__» ⟨[.type "enumerate", v], []⟩) (fun _ R s => H s.heap ∧
      R (.ok (.ret (.ref (s.heap.push o).objs.size))) { s with heap := (s.heap.push o).push { cls := .type "enumerate", data := .fields #[.none, .bool false, .ref s.heap.objs.size, rawInt 0, .none, .none] } }) :=
  .of_wp fun prog w A R s h => by
    obtain ⟨hp, g, d, tk, os⟩ := s; obtain ⟨h1, h⟩ := h
    have hsub := sub_enumerate
    have q1 : ∀ {A' : Around} {E : Value → Shared → Prop} {Q : Value → Shared → Prop}, Q (.ref hp.objs.size) ⟨hp.push o, g, d, tk, os⟩ → wpAny (model prog w) A' (pyIter v) Q E ⟨hp, g, d, tk, os⟩ :=
      fun q => B.iter prog w _ _ ⟨hp, g, d, tk, os⟩ _ h1 q
    wp_walk using q1
    refine wpAny_stack_any fun st => wpAny_pure ?_
    split
    · rename_i c _ _ _ _ _
      cases (c == Value.type "enumerate")
      · wp_walk using q1
        exact ⟨_, rfl, h⟩
      · wp_walk using q1
        exact ⟨_, rfl, h⟩
    · wp_walk using q1
      exact ⟨_, rfl, h⟩
theorem enum_beginsT {prog : Program} {w : World} {A : Around} {E : Value → Shared → Prop} {s : Shared} {v : Value} {o : Obj} {H : Heap → Prop} {Q : Value → Shared → Prop} (B : Begins v o H) (h1 : H s.heap)
    (h : ∀ h', IsEnum h' (s.heap.objs.size + 1) s.heap.objs.size 0 .none → h'.get? s.heap.objs.size = some o → h'.objs.size = s.heap.objs.size + 2 →
      (∀ b o, s.heap.get? b = some o → h'.get? b = some o) → Q (.ref (s.heap.objs.size + 1)) { s with heap := h' }) :
    wpAny (model prog w) A (call (.type "enumerate") [v]) Q E s := by
  refine callType_new F.called_enumerate (by decide) (F.typeCall_enumerate_1 _) (F.newCall_enumerate_1 _) (fun obj => F.args_object_init_2 obj _) F.entry_enumerate_new
    (meets_enumerate_newT B) ⟨h1, ?_⟩
  have hz : (s.heap.push o).objs.size = s.heap.objs.size + 1 := Heap.size_push ..
  show _ ∧ _
  rw [hz]
  have he : IsEnum ((s.heap.push o).push { cls := .type "enumerate", data := .fields #[.none, .bool false, .ref s.heap.objs.size, rawInt 0, .none, .none] }) (s.heap.objs.size + 1) s.heap.objs.size 0 .none := by
    have := Heap.get?_push_size (s.heap.push o) (o := { cls := .type "enumerate", data := .fields #[.none, .bool false, .ref s.heap.objs.size, rawInt 0, .none, .none] }) rfl
    rw [hz] at this; exact this
  refine ⟨⟨_, he, rfl⟩, h _ he (Heap.get?_push_of_some _ (Heap.get?_push_size _ B.free)) (by rw [Heap.size_push, hz]) fun b o x => Heap.get?_push_of_some _ (Heap.get?_push_of_some _ x)⟩
def iEnumT (K : PySem.W.Frag) (ta : TA) : TI := fun σ H R => ta σ H fun vs H1 => ∃ a xs, vs = [.ref a] ∧ SqT K H1 a xs ∧ R (IteT K a) H1
theorem pi_enumT {X : Cx} {e : Expr} {ta : TA} {p pos tpos : Pos} {elts : List Expr} {kk : Nat} (hg : Gl X "enumerate") (hm : X.mg "enumerate" = none) (ha : PA X [e] ta) (hs : starEach [e] X.env = [(false, eval e X.env)] := by rfl) :
    PI X (.Tuple elts kk tpos) (.Call (.Name "enumerate" p) [e] [] pos) (iEnumT X.K ta) := by
  refine ⟨fun pins s σ H R I h => ?_⟩
  refine Call_ (ld_blt I hg hm boot_enumerate (PyProof.Rows.callWith_type1 (thn (ha.run pos pins s σ H _ I h) fun us s1 ⟨vs, H1, I1, r1, q1⟩ => ?_) hs rfl))
  obtain ⟨a, xs, ex, hq, q⟩ := q1
  subst ex
  cases r1 with
  | cons r rr =>
    cases rr
    cases r
    obtain ⟨its, rv, p', hz⟩ := I1.tuple hq
    refine enum_beginsT (begins_tuple a its.toArray) p' fun h' he hit hsz hk => wpAny_pyIter_enum he ?_
    have I2 : Inv X pins σ H1 { s1 with heap := h' } := I1.kept (t' := s1.toks) hk
    refine ⟨s1.heap.objs.size + 1, [s1.heap.objs.size + 1, s1.heap.objs.size], _, _, H1, rfl, I2, turn_enumT a (s1.heap.objs.size + 1) s1.heap.objs.size, ⟨⟨.none, he⟩, ⟨_, hit, rfl, rfl⟩, Nat.succ_ne_self _⟩, fun b hb => ?_, q⟩
    have e' : b = s1.heap.objs.size + 1 ∨ b = s1.heap.objs.size := by simpa using hb
    have hle : s1.heap.objs.size ≤ b := by
      rcases e' with z | z
      · rw [z]; exact Nat.le_add_right _ _
      · rw [z]; exact Nat.le_refl _
    exact I1.fpOk hle (I1.hok.fresh hle)
end L2.PL

namespace L2.PL
open PySem PySem.Spec PyProof.Rows
/-! ### built-in names -/
theorem bz_isinstance : bootBuiltins "isinstance" = some (.builtin "isinstance") := by decide +kernel
theorem bz_len : bootBuiltins "len" = some (.builtin "len") := by decide +kernel
theorem bz_all : bootBuiltins "all" = some (.builtin "all") := by decide +kernel
theorem bz_any : bootBuiltins "any" = some (.builtin "any") := by decide +kernel
theorem bz_min : bootBuiltins "min" = some (.builtin "min") := by decide +kernel
theorem bz_max : bootBuiltins "max" = some (.builtin "max") := by decide +kernel
theorem bz_abs : bootBuiltins "abs" = some (.builtin "abs") := by decide +kernel
theorem bz_sum : bootBuiltins "sum" = some (.builtin "sum") := by decide +kernel
theorem bz_repr : bootBuiltins "repr" = some (.builtin "repr") := by decide +kernel
theorem bz_sorted : bootBuiltins "sorted" = some (.builtin "sorted") := by decide +kernel
theorem bz_int : bootBuiltins "int" = some (.type "int") := by decide +kernel
theorem bz_bool : bootBuiltins "bool" = some (.type "bool") := by decide +kernel
theorem bz_str : bootBuiltins "str" = some (.type "str") := by decide +kernel
theorem bz_tuple : bootBuiltins "tuple" = some (.type "tuple") := by decide +kernel
theorem bz_list : bootBuiltins "list" = some (.type "list") := by decide +kernel
structure Bt (mg : Str → Option Value) : Prop where
  z_isinstance : mg "isinstance" = none
  z_len : mg "len" = none
  z_all : mg "all" = none
  z_any : mg "any" = none
  z_min : mg "min" = none
  z_max : mg "max" = none
  z_abs : mg "abs" = none
  z_sum : mg "sum" = none
  z_repr : mg "repr" = none
  z_sorted : mg "sorted" = none
  z_int : mg "int" = none
  z_bool : mg "bool" = none
  z_str : mg "str" = none
  z_tuple : mg "tuple" = none
  z_list : mg "list" = none
  z_range : mg "range" = none
  z_enumerate : mg "enumerate" = none
  z_zip : mg "zip" = none
theorem bt_of {K : PySem.W.Frag} {h : Heap} {mg : Str → Option Value} (X : K.In h) (G : h.Ns mainGlobals mg)
    (h : (["isinstance", "len", "all", "any", "min", "max", "abs", "sum", "repr", "sorted", "int", "bool", "str", "tuple", "list", "range", "enumerate", "zip"] : List Str).all (fun x => PySem.W.nsIn K mainGlobals x == some none) = true) : Bt mg := by
  have f : ∀ x ∈ (["isinstance", "len", "all", "any", "min", "max", "abs", "sum", "repr", "sorted", "int", "bool", "str", "tuple", "list", "range", "enumerate", "zip"] : List Str), mg x = none := fun x hx =>
    PySem.W.mg_none_of X G (by simpa using List.all_eq_true.mp h x hx)
  exact ⟨f _ (by simp), f _ (by simp), f _ (by simp), f _ (by simp), f _ (by simp), f _ (by simp), f _ (by simp), f _ (by simp), f _ (by simp), f _ (by simp), f _ (by simp), f _ (by simp), f _ (by simp), f _ (by simp), f _ (by simp), f _ (by simp), f _ (by simp), f _ (by simp)⟩

/-! ### a block cut behind a statement: what holds there is said once -/
def tCutP (t u : TS) : TS := fun D σ H => ∃ Mid : L2.St → Hp → Prop, t { D with nx := Mid } σ H ∧ ∀ σ' H', Mid σ' H' → u D σ' H'
theorem pss_cutP {X : Cx} {st : Stmt} {rest : List Stmt} {t u : TS} (h1 : PS X st t) (h2 : PSs X rest u) : PSs X (st :: rest) (tCutP t u) := by
  refine ⟨fun pins s σ H D I h => ?_⟩
  obtain ⟨Mid, ha, hb⟩ := h
  refine wpAny_execs_cons (thn (h1.run pins s σ H { D with nx := Mid } I ha) fun f s1 q => ?_)
  cases f with
  | next =>
    obtain ⟨σ', H', I', q⟩ := q
    exact h2.run pins s1 σ' H' D I' (hb σ' H' q)
  | ret v => exact q
  | brk => exact q
  | cont => exact q
/-! ### lists that stay -/
theorem Old.seqL {K : PySem.W.Frag} {W : List Addr} {H H' : Hp} {a : Addr} {xs : List V} (e : Old W H H') (h : SqL K H a xs) (n : a ∉ W) : SqL K H' a xs := by
  rcases h with (h | ⟨o, h⟩) | h
  · exact .inl (.inl (e _ _ n h))
  · exact .inl (.inr ⟨o, e _ _ n h⟩)
  · exact .inr h
/-! ### a pot of draws: [own digits, mixed number, count] -/
structure Pot (H : Hp) (a : Addr) (B : Nat) : Prop where
  ex : ∃ p0 p1 p2 : Int, H a = some (.lst [.int p0, .int p1, .int p2]) ∧ 0 ≤ p0 ∧ 0 ≤ p1 ∧ p1 < 2 ^ 61 ∧ 0 ≤ p2 ∧ p2 ≤ B
theorem Pot.notup {H : Hp} {a : Addr} {B : Nat} (p : Pot H a B) : NoTup [a] H := by
  obtain ⟨p0, p1, p2, h, _⟩ := p.ex
  exact NoTup.one h
theorem Pot.ne {H : Hp} {a b : Addr} {B : Nat} (p : Pot H a B) (h : H b = none) : a ≠ b := by
  obtain ⟨p0, p1, p2, e, _⟩ := p.ex
  exact ne_of_none e h
theorem Pot.old {H H' : Hp} {a : Addr} {B : Nat} {W : List Addr} (p : Pot H a B) (o : Old W H H') (n : a ∉ W) : Pot H' a B := by
  obtain ⟨p0, p1, p2, h, r⟩ := p.ex
  exact ⟨p0, p1, p2, o _ _ n h, r⟩
theorem Pot.mono {H : Hp} {a : Addr} {B C : Nat} (p : Pot H a B) (h : B ≤ C) : Pot H a C := by
  obtain ⟨p0, p1, p2, h1, h2, h3, h4, h5, h6⟩ := p.ex
  exact ⟨p0, p1, p2, h1, h2, h3, h4, h5, by omega⟩
/-! ### the draws' promises -/
/-- a draw: from 0 to u - 1; the pot goes on -/
def spTake : Sp := fun vs H Q _ => ∃ (a : Addr) (u : Int) (B : Nat), vs = [.ref a, .int u] ∧ Pot H a B ∧ 0 < u ∧ u < 1073741824 ∧ B ≤ 1000000 ∧
  ∀ H' d, 0 ≤ d → d < u → Old [a] H H' → Pot H' a (B + 1) → Q (.int d) H'
/-- one of a list -/
def spOf (K : PySem.W.Frag) : Sp := fun vs H Q _ => ∃ (a b : Addr) (xs : List V) (B : Nat), vs = [.ref a, .ref b] ∧ Pot H a B ∧ SqL K H b xs ∧ b ≠ a ∧ 0 < xs.length ∧ xs.length < 1000 ∧ B ≤ 1000000 ∧
  ∀ H' x, x ∈ xs → Old [a] H H' → Pot H' a (B + 1) → Q x H'
def spPot (K : PySem.W.Frag) : Sp := fun vs H Q _ => ∃ (a : Addr) (ns : List Int) (p : Int), vs = [.ref a, .int p] ∧ SqL K H a (ns.map V.int) ∧ ns.length ≤ 63 ∧ 0 ≤ p ∧ p ≤ 63 ∧
  ∀ H' q, Old [] H H' → H q = none → Pot H' q 0 → Q (.ref q) H'
def spCells (K : PySem.W.Frag) : Sp := fun vs H Q _ => ∃ (a : Addr) (ns : List Int) (m : Int), vs = [.ref a, .int m] ∧ SqL K H a (ns.map V.int) ∧ ns.length ≤ 63 ∧ 0 ≤ m ∧ m ≤ 63 ∧
  ∀ H' q (k : Nat), 1 ≤ k → k ≤ 63 → Old [] H H' → H q = none → H' q = some (.lst ((List.range k).map fun i => V.int ((i : Nat) : Int))) → Q (.ref q) H'
theorem fmod_pos {i j : Int} (h : 0 < j) : 0 ≤ i.fmod j ∧ i.fmod j < j := ⟨Int.fmod_nonneg_of_pos i h, Int.fmod_lt_of_pos i h⟩
end L2.PL

namespace L2.T31
open PySem PySem.Spec PyProof.Rows L2.PL
def topS (i : Nat) : Stmt := PySem.Challenge.pw_passedastold_k31_programs_run_line_by_li.main.body.getD i (.Pass ⟨0, 0, 0, 0⟩)
section
variable {P : Program} {w : World} {K : PySem.W.Frag} {mg : Str → Option Value} {base : Heap}
/-! _law_take: slots pot=0 upto=1 digit=2 prime=3 blend=4; cells [] -/
abbrev s_l_take : Stmt := topS 36
abbrev N_l_take : List Str := ["pot", "upto", "digit", "prime", "blend"]
theorem sc_l_take : FnScope N_l_take ["pot", "upto"] (defScope s_l_take) := ⟨rfl, rfl, rfl, by decide +kernel, rfl, by decide +kernel, by decide +kernel⟩
theorem ok_take {f : Addr} {fd : FuncData} (F : Fun K "_law_take" "_law_take" s_l_take f fd) (T : Bt mg) : FnOk P w K mg base CX0 1 f fd ["pot", "upto"] spTake := by
  refine F.ok sc_l_take (fun vs H Q E h => ?_) (fun cdv A outer s H vs Q E hr h => ?_)
  · obtain ⟨a, u, B, rfl, _⟩ := h
    rfl
  · obtain ⟨a, u, B, rfl, ⟨p0, p1, p2, hP, h0, h1, h1', h2, h2'⟩, hu, hu', hB, q⟩ := h
    refine ⟨_, (pss_cons (ps_if (pt_cmpR op_gt (pe_ix ix_list (pv 0) pe_int (fun _ _ => rfl)) pe_int (nomark _))
       (pss_cons (ps_set (i := 2) sc_l_take.nd rfl (.inl rfl) (pe_op op_modN (pe_callTy call_int1 (by rfl) T.z_int bz_int (pa_cons (pe_ix ix_list (pv 0) pe_int (fun _ _ => rfl)) pa_nil)) (pv 1)))
        (pss_cons (ps_asg (pe_op op_fdivN (pe_ix ix_list (pv 0) pe_int (fun _ _ => rfl)) (pv 1)) (pg_sub (pv 0) pe_int set_list))
        (pss_one (ps_ret (pv 2)))))
       pss_nil)
      (pss_cons (ps_asg (pe_op op_add (pe_ix ix_list (pv 0) pe_int (fun _ _ => rfl)) pe_int) (pg_sub (pv 0) pe_int set_list))
      (pss_cons (ps_set (i := 3) sc_l_take.nd rfl (.inl rfl) (pe_ix ix_list (pe_lst (pa_cons pe_int (pa_cons pe_int (pa_cons pe_int (pa_cons pe_int (pa_cons pe_int pa_nil)))))) (pe_op op_modN (pe_callTy call_int1 (by rfl) T.z_int bz_int (pa_cons (pe_ix ix_list (pv 0) pe_int (fun _ _ => rfl)) pa_nil)) pe_int) (fun _ _ => rfl)))
      (pss_cons (ps_set (i := 4) sc_l_take.nd rfl (.inl rfl) (pe_op op_modN (pe_callTy call_int1 (by rfl) T.z_int bz_int (pa_cons (pe_op op_pow (pe_callTy call_int1 (by rfl) T.z_int bz_int (pa_cons (pe_op op_add (pe_op op_add (pe_ix ix_list (pv 0) pe_int (fun _ _ => rfl)) (pe_op op_mul (pe_op op_mul pe_int (pe_ix ix_list (pv 0) pe_int (fun _ _ => rfl))) (pe_ix ix_list (pv 0) pe_int (fun _ _ => rfl)))) pe_int) pa_nil)) pe_int) pa_nil)) (pv 3)))
      (pss_cons (ps_set (i := 4) sc_l_take.nd rfl (.inl rfl) (pe_op op_modN (pe_callTy call_int1 (by rfl) T.z_int bz_int (pa_cons (pe_op op_mul (pv 4) (pe_op op_add (pe_op op_modN (pe_callTy call_int1 (by rfl) T.z_int bz_int (pa_cons (pv 4) pa_nil)) pe_int) (pe_op op_mul pe_int (pe_ix ix_list (pv 0) pe_int (fun _ _ => rfl))))) pa_nil)) pe_int))
      (pss_one (ps_ret (pe_op op_modN (pe_callTy call_int1 (by rfl) T.z_int bz_int (pa_cons (pe_op op_fdivN (pv 4) pe_int) pa_nil)) (pv 1))))))))), ?_⟩
    refine ⟨.ref a, rfl, a, _, 0, .int p0, rfl, rfl, SqL.of hP, rfl, p0, 0, rfl, rfl, _, rfl, ite2 (fun c => ?_) (fun c => ?_)⟩
    · have c : 0 < p0 := of_decide_eq_true c
      refine ⟨.ref a, rfl, a, _, 0, .int p0, rfl, rfl, SqL.of hP, rfl, .inl ⟨p0, rfl, ?_⟩⟩
      refine ⟨.int u, rfl, p0, u, rfl, rfl, by omega, ?_⟩
      refine ⟨.ref a, rfl, a, _, 0, .int p0, rfl, rfl, SqL.of hP, rfl, .int u, rfl, p0, u, rfl, rfl, ⟨by omega, by omega⟩, ?_⟩
      refine ⟨.ref a, rfl, a, _, 0, 0, rfl, rfl, hP, rfl, ?_⟩
      refine ⟨_, rfl, q _ _ (fmod_pos hu).1 (fmod_pos hu).2 ((Old.refl _ _).put (by simp)) ⟨p0.fdiv u, p1, p2, upd_same, ?_, h1, h1', h2, by omega⟩⟩
      exact Int.fdiv_nonneg (by omega) (by omega)
    · have hq2 : (Old [a] H (upd H a (.lst [.int p0, .int p1, .int (p2 + 1)]))) := (Old.refl _ _).put (by simp)
      refine ⟨.ref a, rfl, a, _, 2, .int p2, rfl, rfl, SqL.of hP, rfl, p2, 1, rfl, rfl, .ref a, rfl, a, _, 2, 2, rfl, rfl, hP, rfl, ?_⟩
      -- prime
      refine ⟨by show 5 ≤ sizeLine; decide, fun p hp => ?_⟩
      have npa : a ≠ p := ne_of_none (H := upd H a (.lst ([V.int p0, .int p1, .int p2].set 2 (.int (p2 + 1))))) upd_same hp
      have hP2 : (upd (upd H a (.lst ([V.int p0, .int p1, .int p2].set 2 (.int (p2 + 1))))) p (.lst [.int 2147483647, .int 2147483629, .int 2147483587, .int 2147483579, .int 2147483563])) a = some (.lst [.int p0, .int p1, .int (p2 + 1)]) := by
        rw [upd_ne npa]; exact upd_same
      obtain ⟨m0, m1⟩ := fmod_pos (i := p2 + 1) (j := 5) (by decide)
      obtain ⟨pr, hpr, l1, l2⟩ : ∃ pr : Int, atI [V.int 2147483647, .int 2147483629, .int 2147483587, .int 2147483579, .int 2147483563] ((p2 + 1).fmod 5) = some (.int pr) ∧ 0 < pr ∧ pr < 2147483648 := by
        generalize (p2 + 1).fmod 5 = i at m0 m1
        have : i = 0 ∨ i = 1 ∨ i = 2 ∨ i = 3 ∨ i = 4 := by omega
        rcases this with rfl | rfl | rfl | rfl | rfl
        · exact ⟨_, rfl, by decide, by decide⟩
        · exact ⟨_, rfl, by decide, by decide⟩
        · exact ⟨_, rfl, by decide, by decide⟩
        · exact ⟨_, rfl, by decide, by decide⟩
        · exact ⟨_, rfl, by decide, by decide⟩
      refine ⟨.ref a, rfl, a, _, 2, .int (p2 + 1), rfl, rfl, SqL.of hP2, rfl, .inl ⟨p2 + 1, rfl, p2 + 1, 5, rfl, rfl, (by show (5 : Int) ≠ 0; decide), p, _, _, .int pr, rfl, rfl, SqL.of upd_same, hpr, ?_⟩⟩
      -- blend
      refine ⟨.ref a, rfl, a, _, 1, .int p1, rfl, rfl, SqL.of hP2, rfl, .ref a, rfl, a, _, 2, .int (p2 + 1), rfl, rfl, SqL.of hP2, rfl, 91193, p2 + 1, rfl, rfl, .inl ⟨by decide, by decide⟩,
        .ref a, rfl, a, _, 2, .int (p2 + 1), rfl, rfl, SqL.of hP2, rfl, _, p2 + 1, rfl, rfl, .inr ⟨by omega, by omega⟩, _, _, rfl, rfl, _, 3203, rfl, rfl, .inl ⟨_, rfl, _, 3, rfl, rfl, ⟨by decide, by decide, ?_⟩, .inl ⟨_, rfl, ?_⟩⟩⟩
      · show (p1 + 91193 * (p2 + 1) * (p2 + 1) + 3203).natAbs < 2 ^ 64
        have hx : p2 + 1 ≤ 1000001 := by omega
        have hx0 : 0 ≤ p2 + 1 := by omega
        have hm : (p2 + 1) * (p2 + 1) ≤ 1000001 * 1000001 := Int.mul_le_mul hx hx hx0 (by decide)
        have hm0 : 0 ≤ (p2 + 1) * (p2 + 1) := Int.mul_nonneg hx0 hx0
        rw [Int.mul_assoc]
        generalize (p2 + 1) * (p2 + 1) = m at hm hm0
        omega
      · generalize (p1 + 91193 * (p2 + 1) * (p2 + 1) + 3203) ^ (3 : Int).toNat = big
        obtain ⟨b0, b1⟩ := fmod_pos (i := big) l1
        refine ⟨.int pr, rfl, _, pr, rfl, rfl, by omega, ?_⟩
        dsimp only
        generalize big.fmod pr = bl at b0 b1 ⊢
        -- blend again
        refine ⟨.int bl, rfl, .int bl, rfl, .inl ⟨bl, rfl, _, 12391, rfl, rfl, (by show (12391 : Int) ≠ 0; decide), .ref a, rfl, a, _, 2, .int (p2 + 1), rfl, rfl, SqL.of hP2, rfl, 307, p2 + 1, rfl, rfl, .inl ⟨by decide, by decide⟩, _, _, rfl, rfl,
          bl, _, rfl, rfl, .inl ⟨by omega, by omega⟩, .inl ⟨_, rfl, _, _, rfl, rfl, (by show (2305843009213693907 : Int) ≠ 0; decide), ?_⟩⟩⟩
        dsimp only
        generalize (bl * (bl.fmod 12391 + 307 * (p2 + 1))).fmod 2305843009213693907 = z
        refine ⟨.int z, rfl, _, 181, rfl, rfl, ⟨by decide, by decide⟩, .inl ⟨_, rfl, .int u, rfl, _, u, rfl, rfl, by omega, ?_⟩⟩
        refine q _ _ (fmod_pos hu).1 (fmod_pos hu).2 (((Old.refl _ _).put (by simp)).new hp) ⟨p0, p1, p2 + 1, hP2, h0, h1, h1', by omega, by omega⟩
/-! _law_of: slots pot=0 some=1; cells [] -/
abbrev s_l_of : Stmt := topS 37
abbrev N_l_of : List Str := ["pot", "some"]
theorem sc_l_of : FnScope N_l_of ["pot", "some"] (defScope s_l_of) := ⟨rfl, rfl, rfl, by decide +kernel, rfl, by decide +kernel, by decide +kernel⟩
theorem ok_of {f : Addr} {fd : FuncData} (F : Fun K "_law_of" "_law_of" s_l_of f fd) (T : Bt mg) (C_l_take : Cal P w K mg base CX0 "_law_take" ["pot", "upto"] 1 spTake) : FnOk P w K mg base CX0 2 f fd ["pot", "some"] (spOf K) := by
  refine F.ok sc_l_of (fun vs H Q E h => ?_) (fun cdv A outer s H vs Q E hr h => ?_)
  · obtain ⟨a, b, xs, B, rfl, _⟩ := h
    rfl
  · obtain ⟨a, b, xs, B, rfl, hP, hb, nab, l0, l1, hB, q⟩ := h
    refine ⟨_, (pss_one (ps_ret (pe_ix ix_list (pv 1) (pe_cal C_l_take hr (by rfl) pass0 (pa_cons (pv 0) (pa_cons (pe_callB call_len_seq (by rfl) T.z_len bz_len (pa_cons (pv 1) pa_nil)) pa_nil))) (fun _ _ => rfl)))), ?_⟩
    refine ⟨.ref b, rfl, .ref a, rfl, .ref b, rfl, b, xs, rfl, .inl hb, a, xs.length, B, rfl, hP, by omega, by omega, hB, fun H' d d0 d1 o p => ?_⟩
    have hb' : SqL K H' b xs := o.seqL hb (by simp; exact nab)
    obtain ⟨j, rfl⟩ : ∃ j : Nat, d = (j : Int) := ⟨d.toNat, by omega⟩
    have hj : j < xs.length := by omega
    exact ⟨b, xs, _, xs[j], rfl, rfl, hb', atI_nat (List.getElem?_eq_getElem hj), q _ _ (List.getElem_mem hj) o p⟩
/-! _law_cells: slots script=0 most=1; cells [] -/
abbrev s_l_cells : Stmt := topS 38
abbrev N_l_cells : List Str := ["script", "most"]
theorem sc_l_cells : FnScope N_l_cells ["script", "most"] (defScope s_l_cells) := ⟨rfl, rfl, rfl, by decide +kernel, rfl, by decide +kernel, by decide +kernel⟩
theorem ok_cells {f : Addr} {fd : FuncData} (F : Fun K "_law_cells" "_law_cells" s_l_cells f fd) (T : Bt mg) : FnOk P w K mg base CX0 1 f fd ["script", "most"] (spCells K) := by
  refine F.ok sc_l_cells (fun vs H Q E h => ?_) (fun cdv A outer s H vs Q E hr h => ?_)
  · obtain ⟨a, ns, m, rfl, _⟩ := h
    rfl
  · obtain ⟨a, ns, m, rfl, ha, hl, m0, m1, q⟩ := h
    refine ⟨_, (pss_one (ps_ret (pe_listRg rfl (by rfl) T.z_list (prg_1 (by rfl) T.z_range (pe_callB (call_max2 rfl) (by rfl) T.z_max bz_max (pa_cons pe_int (pa_cons (pe_callB (call_min2 rfl) (by rfl) T.z_min bz_min (pa_cons (pv 1) (pa_cons (pe_callB call_len_seq (by rfl) T.z_len bz_len (pa_cons (pv 0) pa_nil)) pa_nil))) pa_nil))))))), ?_⟩
    refine ⟨.int m, rfl, .ref a, rfl, a, _, rfl, .inl ha, m, _, rfl, 1, _, rfl, _, rfl, ?_⟩
    have hlen : (ns.map V.int).length ≤ 63 := by rw [List.length_map]; exact hl
    obtain ⟨k, e, k1, k2⟩ : ∃ k : Nat, (if (if (((ns.map V.int).length : Nat) : Int) < m then (((ns.map V.int).length : Nat) : Int) else m) > 1 then (if (((ns.map V.int).length : Nat) : Int) < m then (((ns.map V.int).length : Nat) : Int) else m) else 1) = (k : Int) ∧ 1 ≤ k ∧ k ≤ 63 := by
      generalize (ns.map V.int).length = z at hlen
      refine ⟨(if (if (z : Int) < m then (z : Int) else m) > 1 then (if (z : Int) < m then (z : Int) else m) else 1).toNat, ?_, ?_, ?_⟩
      · split <;> split <;> omega
      · split <;> split <;> omega
      · split <;> split <;> omega
    rw [e]
    refine ⟨RgOk.of_le (by decide) (by omega) (by decide) (by omega), fun p hp => ?_⟩
    refine q _ p k k1 k2 (Old.new0 hp) hp ?_
    rw [upd_same]
    show some (HO.lst ((List.range ((k : Int) - 0).toNat).map fun i => V.int (0 + (i : Nat)))) = _
    rw [show ((k : Int) - 0).toNat = k by omega]
    have : (fun i : Nat => V.int (0 + (i : Int))) = fun i : Nat => V.int (i : Int) := by funext i; rw [Int.zero_add]
    rw [this]
/-! _law_pot: slots script=0 place=1 cell=2 own=3 small=4; cells [] -/
abbrev s_l_pot : Stmt := topS 35
abbrev N_l_pot : List Str := ["script", "place", "cell", "own", "small"]
theorem sc_l_pot : FnScope N_l_pot ["script", "place"] (defScope s_l_pot) := ⟨rfl, rfl, rfl, by decide +kernel, rfl, by decide +kernel, by decide +kernel⟩
theorem cut1n (xs : List V) : cutV xs none (some 1) = xs.take 1 := by
  unfold cutV
  rw [show HT.sIx xs.length xs.length (some 1) = min 1 xs.length from HT.sIx_nat xs.length xs.length 1, HT.sIx_none, List.drop_zero]
  cases xs with
  | nil => rfl
  | cons x r =>
    rw [show min 1 (x :: r).length - 0 = 1 by simp only [List.length_cons]; omega]
theorem ok_pot {f : Addr} {fd : FuncData} (F : Fun K "_law_pot" "_law_pot" s_l_pot f fd) (T : Bt mg) : FnOk P w K mg base CX0 1 f fd ["script", "place"] (spPot K) := by
  refine F.ok sc_l_pot (fun vs H Q E h => ?_) (fun cdv A outer s H vs Q E hr h => ?_)
  · obtain ⟨a, ns, p, rfl, _⟩ := h
    rfl
  · obtain ⟨a, ns, p, rfl, ha, hl, p0, p1, q⟩ := h
    refine ⟨_, (pss_cutP (ps_set (i := 2) sc_l_pot.nd rfl (.inl rfl) (pe_ifExp (pt_cmpR op_lt (pv 1) (pe_callB call_len_seq (by rfl) T.z_len bz_len (pa_cons (pv 0) pa_nil)) (nomark _)) (pe_ix ix_list (pv 0) (pv 1) (fun _ _ => rfl)) (pe_op op_add (pe_op op_add (pe_op op_modN (pe_callTy call_int1 (by rfl) T.z_int bz_int (pa_cons (pe_callB (cr_sum rfl) (by rfl) T.z_sum bz_sum (pa_cons (pe_slice sl_list (pv 0) po_none (po_some pe_int)) pa_nil)) pa_nil)) pe_int) (pe_op op_mul pe_int (pv 1))) pe_int)))
      (pss_cons (ps_set (i := 3) sc_l_pot.nd rfl (.inl rfl) (pe_op op_mul (pe_op op_modN (pe_callTy call_int1 (by rfl) T.z_int bz_int (pa_cons (pe_callB call_abs (by rfl) T.z_abs bz_abs (pa_cons (pv 2) pa_nil)) pa_nil)) (pe_op op_powW (pe_op op_pow pe_int pe_int) pe_int)) (pe_callTy call_int1 (by rfl) T.z_int bz_int (pa_cons (pe_cmpR op_ge (pe_callB call_abs (by rfl) T.z_abs bz_abs (pa_cons (pv 2) pa_nil)) (pe_op op_pow pe_int pe_int) (nomark _)) pa_nil))))
      (pss_cons (ps_set (i := 4) sc_l_pot.nd rfl (.inl rfl) (pe_op op_modN (pe_callTy call_int1 (by rfl) T.z_int bz_int (pa_cons (pv 2) pa_nil)) pe_int))
      (pss_one (ps_ret (pe_lst (pa_cons (pv 3) (pa_cons (pe_op op_modN (pe_callTy call_int1 (by rfl) T.z_int bz_int (pa_cons (pe_op op_add (pe_op op_add (pe_op op_mul (pv 4) pe_int) (pe_op op_mul (pe_op op_mul pe_int (pv 1)) (pv 1))) pe_int) pa_nil)) pe_int) (pa_cons pe_int pa_nil))))))))), ?_⟩
    refine ⟨fun σ H1 => Old [] H H1 ∧ ∃ c : Int, σ = [some (.ref a), some (.int p), some (.int c), none, none], ?_, ?_⟩
    · -- what the cell is
      refine ⟨.int p, rfl, .ref a, rfl, a, _, rfl, .inl ha, p, _, rfl, rfl, _, rfl, ite2 (fun c => ?_) (fun c => ?_)⟩
      · have c : p < (((ns.map V.int).length : Nat) : Int) := of_decide_eq_true c
        obtain ⟨j, rfl⟩ : ∃ j : Nat, p = (j : Int) := ⟨p.toNat, by omega⟩
        have hj : j < ns.length := by rw [List.length_map] at c; omega
        have g : (ns.map V.int)[j]? = some (.int ns[j]) := by rw [List.getElem?_map, List.getElem?_eq_getElem hj]; rfl
        exact ⟨.ref a, rfl, _, rfl, a, _, _, _, rfl, rfl, ha, atI_nat g, Old.refl _ _, ns[j], rfl⟩
      · refine ⟨.ref a, rfl, ?_⟩
        refine ⟨1, rfl, a, _, rfl, ha, fun b hb => ?_⟩
        refine ⟨b, ns.take 1, rfl, SqL.of (by rw [upd_same, cut1n, List.map_take]), .inl ⟨_, rfl, _, _, rfl, rfl, (by show (1000033 : Int) ≠ 0; decide), .int p, rfl, 4271, p, rfl, rfl, .inl ⟨by decide, by decide⟩, _, _, rfl, rfl, _, _, rfl, rfl, ?_⟩⟩
        exact ⟨Old.new0 hb, _, rfl⟩
    · rintro σ H1 ⟨o, c, rfl⟩
      have hb60 : (Builtin.Int.intBits ((10 : Int) ^ (60 : Int).toNat) : Int) * 5 ≤ 2 ^ 27 := by decide +kernel
      refine ⟨.int c, rfl, c, rfl, .inl ⟨_, rfl, 10, 60, rfl, rfl, ⟨by decide, by decide, by decide⟩, _, 5, rfl, rfl, ⟨by decide, hb60⟩, _, _, rfl, rfl, (by show ((10 : Int) ^ (60 : Int).toNat) ^ (5 : Int).toNat ≠ 0; decide +kernel), ?_⟩⟩
      refine ⟨.int c, rfl, c, rfl, 10, 18, rfl, rfl, ⟨by decide, by decide, by decide⟩, _, _, rfl, rfl, .inr ⟨_, rfl, _, _, rfl, rfl, ?_, ?_⟩⟩
      · refine .inr ?_
        generalize decide ((10 : Int) ^ (18 : Int).toNat ≤ if c < 0 then -c else c) = bb
        cases bb <;> decide
      · dsimp only
        generalize hown : ((if c < 0 then -c else c).fmod (((10 : Int) ^ (60 : Int).toNat) ^ (5 : Int).toNat)) * (if decide ((10 : Int) ^ (18 : Int).toNat ≤ if c < 0 then -c else c) = true then 1 else 0) = own
        have own0 : 0 ≤ own := by
          rw [← hown]
          refine Int.mul_nonneg (fmod_pos (by decide +kernel)).1 ?_
          generalize decide ((10 : Int) ^ (18 : Int).toNat ≤ if c < 0 then -c else c) = bb
          cases bb <;> decide
        refine ⟨.int c, rfl, .inl ⟨c, rfl, c, _, rfl, rfl, (by show (2305843009213693951 : Int) ≠ 0; decide), ?_⟩⟩
        dsimp only
        obtain ⟨s0, s1⟩ := fmod_pos (i := c) (j := 2305843009213693951) (by decide)
        generalize c.fmod 2305843009213693951 = small at s0 s1 ⊢
        refine ⟨.int own, rfl, .int small, rfl, small, _, rfl, rfl, .inr ⟨by decide, by decide⟩, .int p, rfl, 9887, p, rfl, rfl, .inl ⟨by decide, by decide⟩, .int p, rfl, _, p, rfl, rfl, .inr ⟨by omega, by omega⟩, _, _, rfl, rfl, _, _, rfl, rfl, .inl ⟨_, rfl, _, _, rfl, rfl, (by show (2305843009213693921 : Int) ≠ 0; decide), ?_⟩⟩
        dsimp only
        obtain ⟨z0, z1⟩ := fmod_pos (i := small * 78787 + 9887 * p * p + 2917) (j := 2305843009213693921) (by decide)
        generalize (small * 78787 + 9887 * p * p + 2917).fmod 2305843009213693921 = mix at z0 z1 ⊢
        refine ⟨(by show 3 ≤ sizeLine; decide), fun r nr => q _ r (o.new nr) (o.free nr (by simp)) ⟨own, mix, 0, upd_same, own0, z0, by omega, by decide, by decide⟩⟩
end
end L2.T31

namespace L2.PL
open PySem PySem.Spec PyProof.Rows
/-! ### kinds of values -/
theorem kit_int_int {K : PySem.W.Frag} : PySem.W.kitOne K (.type "int") (.type "int") = some true := kit_ty (by decide +kernel)
theorem kit_int_bool {K : PySem.W.Frag} : PySem.W.kitOne K (.type "int") (.type "bool") = some false := kit_ty (by decide +kernel)
theorem kit_tup_tup {K : PySem.W.Frag} : PySem.W.kitOne K (.type "tuple") (.type "tuple") = some true := kit_ty (by decide +kernel)
theorem tyx_int {K : PySem.W.Frag} {H : Hp} (i : Int) : TyX K H (.int i) (.type "int") := .base (.int i)
theorem tyx_tup {K : PySem.W.Frag} {H : Hp} {a : Addr} {xs : List V} (h : SqT K H a xs) : TyX K H (.ref a) (.type "tuple") := by
  rcases h with (h | ⟨o, h⟩) | ⟨o, its, n, h, c, _⟩
  · exact .base (.tup h)
  · exact .fTuple h
  · exact .kTuple h c
/-! ### data told -/
section
variable {K : PySem.W.Frag} {H : Hp}
theorem dp_int {v : V} {i : Int} (h : Dp K H v (.int i)) : v = .int i := by cases h; rfl
theorem dp_tup {v : V} {ds : List PyData} (h : Dp K H v (.tuple ds)) : ∃ a xs, v = .ref a ∧ SqT K H a xs ∧ DpAll K H xs ds := by
  cases h with
  | tup h1 h2 => exact ⟨_, _, rfl, h1, h2⟩
theorem dp_ints : ∀ {ns : List Int} {xs : List V}, DpAll K H xs (ns.map PyData.int) → xs = ns.map V.int
  | [], _, h => by cases h; rfl
  | n :: ns, _, h => by
    cases h with
    | cons h1 h2 => rw [dp_int h1, dp_ints h2]; rfl
theorem dp_intTup {v : V} {ns : List Int} (h : Dp K H v (.tuple (ns.map PyData.int))) : ∃ a, v = .ref a ∧ SqT K H a (ns.map V.int) := by
  obtain ⟨a, xs, e, h1, h2⟩ := dp_tup h
  rw [dp_ints h2] at h1
  exact ⟨a, e, h1⟩
end
section
variable {X : Cx}
theorem pe_gI {x : Str} {i : Int} {pos : Pos} (hg : Gl X x) (hm : ∃ t, X.mg x = some (.int i t)) (hd : (x == ("__debug__" : Str)) = false := by decide) : PE X (.Name x pos) (tC (.int i)) := by
  obtain ⟨t, h⟩ := hm
  exact pe_glob hg h ⟨_, rfl⟩ hd
theorem pe_gS {x y : Str} {pos : Pos} (hg : Gl X x) (hm : ∃ t, X.mg x = some (.str y t)) (hd : (x == ("__debug__" : Str)) = false := by decide) : PE X (.Name x pos) (tC (.str y)) := by
  obtain ⟨t, h⟩ := hm
  exact pe_glob hg h ⟨_, rfl⟩ hd
end
end L2.PL

namespace L2.PL
open PySem PySem.Spec PyProof.Rows
/-! rules whose reading names K, not the context: within a comprehension's block -/
section
variable {X : Cx} {K : PySem.W.Frag}
theorem ix_listK (h : X.K = K := by rfl) : IxR X (rIxL K) := by subst h; exact ix_list
theorem ix_tupK (h : X.K = K := by rfl) : IxR X (rIxT K) := by subst h; exact ix_tup
theorem cr_allK (hc : X.calm = true) (h : X.K = K := by rfl) : CallR X (.builtin "all") (rAll K) := by subst h; exact cr_all hc
theorem cr_anyK (hc : X.calm = true) (h : X.K = K := by rfl) : CallR X (.builtin "any") (rAny K) := by subst h; exact cr_any hc
theorem cr_sumK (hc : X.calm = true) (h : X.K = K := by rfl) : CallR X (.builtin "sum") (rSum K) := by subst h; exact cr_sum hc
theorem call_isiK2 (h : X.K = K := by rfl) : CallR X (.builtin "isinstance") (rIsi K) := by subst h; exact call_isi
theorem call_len_seqK (h : X.K = K := by rfl) : CallR X (.builtin "len") (fun xs H Q => ∃ p ys, xs = [.ref p] ∧ (SqL K H p ys ∨ SqT K H p ys) ∧ Q (.int ys.length) H) := by subst h; exact call_len_seq
theorem call_list_ofK (h : X.K = K := by rfl) : CallR X (.type "list") (fun xs H Q => ∃ p ys, xs = [.ref p] ∧ (SqL K H p ys ∨ SqT K H p ys) ∧ ∀ l, H l = none → Q (.ref l) (upd H l (.lst ys))) := by subst h; exact call_list_of
theorem call_tuple_ofK (h : X.K = K := by rfl) : CallR X (.type "tuple") (fun xs H Q => ∃ p ys, xs = [.ref p] ∧ ((SqL K H p ys ∧ ∀ l, H l = none → Q (.ref l) (upd H l (.tup ys))) ∨ (SqT K H p ys ∧ Q (.ref p) H))) := by subst h; exact call_tuple_of
theorem op_in_seqK (h : X.K = K := by rfl) : OpR X (compareOp .In) (rIn K false) := by subst h; exact op_in_seq
theorem op_notIn_seqK (h : X.K = K := by rfl) : OpR X (compareOp .NotIn) (rIn K true) := by subst h; exact op_notIn_seq
theorem op_catAK (h : X.K = K := by rfl) : OpR X (binaryOp .Add) (rCatA K) := by subst h; exact op_catA
theorem op_eqDK (hu : X.A.units + 64 < cLine) (h : X.K = K := by rfl) : OpR X (compareOp .Eq) (rEqD K) := by subst h; exact op_eqD hu
theorem op_neDK (hu : X.A.units + 64 < cLine) (h : X.K = K := by rfl) : OpR X (compareOp .NotEq) (rNeD K) := by subst h; exact op_neD hu
theorem call_reprDK (hG : X.A.guards = some []) (hu : X.A.units + 64 < cLine) (h : X.K = K := by rfl) : CallR X (.builtin "repr") (rRepr K) := by subst h; exact call_reprD hG hu
theorem sl_listK (h : X.K = K := by rfl) : SlR X (rSlL K) := by subst h; exact sl_list
theorem pi_listK {tg l : Expr} {tl : TE} (hl : PE X l tl) (h : X.K = K := by rfl) : PI X tg l (iList K tl) := by subst h; exact pi_list hl
theorem pi_tupK {tg l : Expr} {tl : TE} (hl : PE X l tl) (h : X.K = K := by rfl) : PI X tg l (iTup K tl) := by subst h; exact pi_tup hl
end
end L2.PL

/-! plain mathematics of bounds on differences: no program in sight -/
namespace PD
abbrev Bd := Nat × Nat × Int
abbrev Mx := Nat → Nat → Option Int

/-- values of bounds -/
def Vals (B : List Bd) (v : Nat → Int) : Prop := ∀ b ∈ B, v b.1 - v b.2.1 ≤ b.2.2
def Feas (B : List Bd) : Prop := ∃ v, Vals B v

def omin : Option Int → Option Int → Option Int
  | none, b => b
  | a, none => a
  | some a, some b => some (if b < a then b else a)
def oadd : Option Int → Option Int → Option Int
  | some a, some b => some (a + b)
  | _, _ => none
/-- a ≤ b, none being without end -/
def ole (a : Option Int) (b : Option Int) : Prop := ∀ y, b = some y → ∃ x, a = some x ∧ x ≤ y
theorem ole_refl (a : Option Int) : ole a a := fun y h => ⟨y, h, Int.le_refl _⟩
theorem ole_trans {a b c : Option Int} (h : ole a b) (k : ole b c) : ole a c := fun y e => by
  obtain ⟨z, e1, l1⟩ := k y e
  obtain ⟨x, e2, l2⟩ := h z e1
  exact ⟨x, e2, by omega⟩
theorem omin_l (a b : Option Int) : ole (omin a b) a := fun y h => by
  subst h
  cases b with
  | none => exact ⟨y, rfl, Int.le_refl _⟩
  | some z =>
    refine ⟨_, rfl, ?_⟩
    split <;> omega
theorem omin_r (a b : Option Int) : ole (omin a b) b := fun y h => by
  subst h
  cases a with
  | none => exact ⟨y, rfl, Int.le_refl _⟩
  | some z =>
    refine ⟨_, rfl, ?_⟩
    split <;> omega
/-- what is told by a minimum is told by one of both -/
theorem omin_cases (a b : Option Int) : omin a b = a ∨ omin a b = b := by
  cases a with
  | none => exact .inr rfl
  | some x =>
    cases b with
    | none => exact .inl rfl
    | some y =>
      show some (if y < x then y else x) = some x ∨ some (if y < x then y else x) = some y
      split
      · exact .inr rfl
      · exact .inl rfl
theorem omin_le {a b c : Option Int} (h : ole a c ∨ ole b c) : ole (omin a b) c := by
  rcases h with h | h
  · exact ole_trans (omin_l a b) h
  · exact ole_trans (omin_r a b) h
theorem ole_omin {a b c : Option Int} (h : ole a b) (k : ole a c) : ole a (omin b c) := by
  rcases omin_cases b c with e | e <;> rw [e] <;> assumption
theorem oadd_mono {a b c d : Option Int} (h : ole a c) (k : ole b d) : ole (oadd a b) (oadd c d) := fun y e => by
  cases c with
  | none => cases e
  | some c =>
    cases d with
    | none => cases e
    | some d =>
      obtain ⟨x, rfl, l1⟩ := h c rfl
      obtain ⟨z, rfl, l2⟩ := k d rfl
      have e' : c + d = y := Option.some.inj e
      exact ⟨x + z, rfl, by omega⟩
theorem oadd_assoc (a b c : Option Int) : oadd (oadd a b) c = oadd a (oadd b c) := by
  cases a <;> cases b <;> cases c <;> simp [oadd, Int.add_assoc]
theorem omin_eq_l {a b : Option Int} (h : ole a b) : omin a b = a := by
  cases a with
  | none =>
    cases b with
    | none => rfl
    | some y => obtain ⟨x, e, _⟩ := h y rfl; cases e
  | some x =>
    cases b with
    | none => rfl
    | some y =>
      obtain ⟨z, e, l⟩ := h y rfl
      have e : x = z := Option.some.inj e
      show some (if y < x then y else x) = some x
      rw [if_neg (by omega)]

/-- not below nought -/
def Non (a : Option Int) : Prop := ∀ d, a = some d → 0 ≤ d
theorem oadd_non_l {a b : Option Int} (h : Non a) : ole b (oadd a b) := fun y e => by
  cases a with
  | none => cases e
  | some x =>
    cases b with
    | none => cases e
    | some z =>
      have e' : x + z = y := Option.some.inj e
      have := h x rfl
      exact ⟨z, rfl, by omega⟩
theorem oadd_non_r {a b : Option Int} (h : Non b) : ole a (oadd a b) := fun y e => by
  cases a with
  | none => cases e
  | some x =>
    cases b with
    | none => cases e
    | some z =>
      have e' : x + z = y := Option.some.inj e
      have := h z rfl
      exact ⟨x, rfl, by omega⟩
theorem Non.of_ole {a b : Option Int} (h : Non a) (k : ole a b) : Non b := fun y e => by
  obtain ⟨x, e1, l⟩ := k y e
  have := h x e1
  omega

/-- one middle, exactly -/
def F (M : Mx) (k : Nat) : Mx := fun x y => omin (M x y) (oadd (M x k) (M k y))

/-- what one middle's turns do, whatever their sequence: exactly F where no ring below nought goes round at the middle -/
structure Mid (n : Nat) (M : Mx) (k : Nat) (M' : Mx) : Prop where
  mono : ∀ x y, x < n → y < n → ole (M' x y) (M x y)
  exact : Non (M k k) → ∀ x y, x < n → y < n → M' x y = F M k x y

def Closed (n k : Nat) (M : Mx) : Prop := ∀ m x y, m < k → x < n → y < n → ole (M x y) (oadd (M x m) (M m y))

theorem closed_step {n k : Nat} {M : Mx} (hk : k < n) (c : Closed n k M) (h : Non (M k k)) : Closed n (k + 1) (F M k) := by
  intro m x y hm hx hy
  have row : ∀ z, z < n → F M k k z = M k z := fun z _ => omin_eq_l (oadd_non_l h)
  have col : ∀ z, z < n → F M k z k = M z k := fun z _ => omin_eq_l (oadd_non_r h)
  by_cases e : m = k
  · subst e
    rw [col x hx, row y hy]
    exact omin_r _ _
  · have hm' : m < k := by omega
    have hmn : m < n := by omega
    have a1 := c m x y hm' hx hy
    have a2 := c m x k hm' hx hk
    have a3 := c m k y hm' hk hy
    have a4 := c m k k hm' hk hk
    -- the four ways
    show ole (F M k x y) (oadd (omin (M x m) (oadd (M x k) (M k m))) (omin (M m y) (oadd (M m k) (M k y))))
    have L1 : ole (F M k x y) (M x y) := omin_l _ _
    have L2 : ole (F M k x y) (oadd (M x k) (M k y)) := omin_r _ _
    rcases omin_cases (M x m) (oadd (M x k) (M k m)) with e1 | e1 <;> rw [e1] <;>
      rcases omin_cases (M m y) (oadd (M m k) (M k y)) with e2 | e2 <;> rw [e2]
    · exact ole_trans L1 a1
    · rw [← oadd_assoc]
      exact ole_trans L2 (oadd_mono a2 (ole_refl _))
    · rw [oadd_assoc]
      exact ole_trans L2 (oadd_mono (ole_refl _) a3)
    · refine ole_trans L2 ?_
      rw [oadd_assoc, ← oadd_assoc (M k m)]
      refine oadd_mono (ole_refl _) ?_
      refine ole_trans (oadd_non_l (h.of_ole a4)) (ole_refl _)

/-- the matrices of a run: M 0 the bounds, then middle after middle -/
structure Run (n : Nat) (B : List Bd) (S : Nat → Mx) (t : Nat) : Prop where
  /-- at first: the least c of each two variables -/
  low : ∀ b ∈ B, ole (S 0 b.1 b.2.1) (some b.2.2)
  got : ∀ x y c, S 0 x y = some c → (x = y ∧ c = 0) ∨ (x, y, c) ∈ B
  mid : ∀ k, k < t → Mid n (S k) k (S (k + 1))
section
variable {n t : Nat} {B : List Bd} {S : Nat → Mx}
theorem Run.mono (R : Run n B S t) : ∀ {j k : Nat}, j ≤ k → k ≤ t → ∀ x y, x < n → y < n → ole (S k x y) (S j x y) := by
  intro j k h
  induction h with
  | refl => exact fun _ x y _ _ => ole_refl _
  | step h ih =>
    rename_i m
    intro ht x y hx hy
    exact ole_trans ((R.mid m (by omega)).mono x y hx hy) (ih (by omega) x y hx hy)
/-- every number told is so of all values -/
def Sound (n : Nat) (B : List Bd) (M : Mx) : Prop := ∀ v, Vals B v → ∀ x y a, x < n → y < n → M x y = some a → v x - v y ≤ a
theorem Sound.non {M : Mx} (s : Sound n B M) (f : Feas B) : ∀ x, x < n → Non (M x x) := fun x hx d e => by
  obtain ⟨v, hv⟩ := f
  have := s v hv x x d hx hx e
  omega
theorem sound_F {M : Mx} {k : Nat} (hk : k < n) (s : Sound n B M) : Sound n B (F M k) := fun v hv x y a hx hy e => by
  rcases omin_cases (M x y) (oadd (M x k) (M k y)) with e1 | e1
  · exact s v hv x y a hx hy (e1.symm.trans e)
  · have e2 : oadd (M x k) (M k y) = some a := e1.symm.trans e
    cases h1 : M x k with
    | none => rw [h1] at e2; cases e2
    | some p =>
      cases h2 : M k y with
      | none => rw [h1, h2] at e2; cases e2
      | some q =>
        rw [h1, h2] at e2
        have e3 : p + q = a := Option.some.inj e2
        have := s v hv x k p hx hk h1
        have := s v hv k y q hk hy h2
        omega
theorem Run.sound0 (R : Run n B S t) : Sound n B (S 0) := fun v hv x y a _ _ e => by
  rcases R.got x y a e with ⟨rfl, rfl⟩ | hm
  · omega
  · exact hv _ hm
theorem Run.sound (R : Run n B S t) (f : Feas B) (ht : t ≤ n) : ∀ k, k ≤ t → Sound n B (S k) := by
  intro k
  induction k with
  | zero => exact fun _ => R.sound0
  | succ k ih =>
    intro hk
    have s := ih (by omega)
    have hkn : k < n := by omega
    intro v hv x y a hx hy e
    rw [(R.mid k (by omega)).exact (s.non f k hkn) x y hx hy] at e
    exact sound_F hkn s v hv x y a hx hy e
/-- values: nothing goes round below nought, at any time -/
theorem Run.non (R : Run n B S t) (f : Feas B) (ht : t ≤ n) {k : Nat} (hk : k ≤ t) : ∀ x, x < n → Non (S k x x) := (R.sound f ht k hk).non f
theorem closed_congr {k : Nat} {M M' : Mx} (hk : k ≤ n) (c : Closed n k M) (e : ∀ x y, x < n → y < n → M' x y = M x y) : Closed n k M' := fun m x y hm hx hy => by
  rw [e x y hx hy, e x m hx (by omega), e m y (by omega) hy]
  exact c m x y hm hx hy
/-- nothing goes round below nought at the end: closed -/
theorem Run.closed (R : Run n B S n) (h : ∀ x, x < n → Non (S n x x)) : ∀ k, k ≤ n → Closed n k (S k) := by
  intro k
  induction k with
  | zero => intro _ m _ _ hm; omega
  | succ k ih =>
    intro hk
    have c := ih (by omega)
    have hn : Non (S k k k) := (h k (by omega)).of_ole (R.mono (by omega : k ≤ n) (Nat.le_refl n) k k (by omega) (by omega))
    exact closed_congr hk (closed_step (by omega) c hn) ((R.mid k (by omega)).exact hn)

/-! values out of a closed matrix -/
/-- the least of 0 and of what is told in x's row -/
def pot (M : Mx) : Nat → Nat → Int
  | 0, _ => 0
  | k + 1, x => match M x k with
    | none => pot M k x
    | some a => if a < pot M k x then a else pot M k x
theorem pot_le0 (M : Mx) : ∀ k x, pot M k x ≤ 0
  | 0, _ => Int.le_refl _
  | k + 1, x => by
    have := pot_le0 M k x
    unfold pot
    split
    · exact this
    · split <;> omega
theorem pot_le (M : Mx) : ∀ k x z a, z < k → M x z = some a → pot M k x ≤ a
  | 0, _, _, _, h, _ => by omega
  | k + 1, x, z, a, h, e => by
    unfold pot
    by_cases hz : z = k
    · subst hz
      rw [e]
      show (if a < pot M z x then a else pot M z x) ≤ a
      split <;> omega
    · have := pot_le M k x z a (by omega) e
      split
      · exact this
      · split <;> omega
theorem pot_is (M : Mx) : ∀ k x, pot M k x = 0 ∨ ∃ z a, z < k ∧ M x z = some a ∧ pot M k x = a
  | 0, _ => .inl rfl
  | k + 1, x => by
    have ih := pot_is M k x
    have up : (pot M k x = 0 ∨ ∃ z a, z < k ∧ M x z = some a ∧ pot M k x = a) → (pot M k x = 0 ∨ ∃ z a, z < k + 1 ∧ M x z = some a ∧ pot M k x = a) := by
      rintro (h | ⟨z, a, h1, h2, h3⟩)
      · exact .inl h
      · exact .inr ⟨z, a, by omega, h2, h3⟩
    unfold pot
    split
    · exact up ih
    · rename_i a e
      split
      · exact .inr ⟨k, a, by omega, e, rfl⟩
      · exact up ih
/-- closed: values -/
theorem feas_of_closed {M : Mx} (hB : ∀ b ∈ B, b.1 < n ∧ b.2.1 < n) (low : ∀ b ∈ B, ole (M b.1 b.2.1) (some b.2.2)) (c : Closed n n M) : Feas B := by
  refine ⟨pot M n, fun b hb => ?_⟩
  obtain ⟨x, y, d⟩ := b
  obtain ⟨hx, hy⟩ := hB _ hb
  obtain ⟨p, e1, l1⟩ := low _ hb d rfl
  show pot M n x - pot M n y ≤ d
  have l1 : p ≤ d := l1
  rcases pot_is M n y with h | ⟨z, a, hz, ha, h⟩
  · have := pot_le M n x y p hy e1
    omega
  · have hx : x < n := hx
    have hy : y < n := hy
    have e1 : M x y = some p := e1
    obtain ⟨q, e2, l2⟩ := c y x z hy hx hz (p + a) (by rw [e1, ha]; rfl)
    have := pot_le M n x z q hz e2
    omega
theorem Run.feas (R : Run n B S n) (hB : ∀ b ∈ B, b.1 < n ∧ b.2.1 < n) (h : ∀ x, x < n → Non (S n x x)) : Feas B := by
  refine feas_of_closed hB (fun b hb => ?_) (R.closed h n (Nat.le_refl n))
  exact ole_trans (R.mono (Nat.zero_le n) (Nat.le_refl n) _ _ (hB b hb).1 (hB b hb).2) (R.low b hb)
end

/-- two runs that begin alike but on the middle line end so -/
theorem runs_alike {n t : Nat} {B : List Bd} {S T : Nat → Mx} (R : Run n B S t) (Q : Run n B T t) (ht : t ≤ n) (f : Feas B) (h0 : ∀ x y, x < n → y < n → x ≠ y → S 0 x y = T 0 x y) :
    ∀ k, k ≤ t → ∀ x y, x < n → y < n → x ≠ y → S k x y = T k x y := by
  intro k
  induction k with
  | zero => exact fun _ => h0
  | succ k ih =>
    intro hk x y hx hy hne
    have ih := ih (by omega)
    have hkn : k < n := by omega
    have nS := R.non f ht (k := k) (by omega) k hkn
    have nT := Q.non f ht (k := k) (by omega) k hkn
    rw [(R.mid k (by omega)).exact nS x y hx hy, (Q.mid k (by omega)).exact nT x y hx hy]
    show omin (S k x y) (oadd (S k x k) (S k k y)) = omin (T k x y) (oadd (T k x k) (T k k y))
    rw [ih x y hx hy hne]
    by_cases e1 : x = k
    · subst e1
      rw [ih x y hx hy hne, omin_eq_l (oadd_non_l nS), omin_eq_l (oadd_non_l nT)]
    · by_cases e2 : y = k
      · subst e2
        rw [ih x y hx hy hne, omin_eq_l (oadd_non_r nS), omin_eq_l (oadd_non_r nT)]
      · rw [ih x k hx hkn e1, ih k y hkn hy (Ne.symm e2)]
end PD
namespace PD
/-! ### the least c of the first i bounds from x to y -/
def minTo (B : List Bd) (x y : Nat) : Nat → Option Int
  | 0 => none
  | i + 1 => match B[i]? with
    | none => minTo B x y i
    | some b => if b.1 = x ∧ b.2.1 = y then omin (minTo B x y i) (some b.2.2) else minTo B x y i
theorem minTo_low (B : List Bd) (x y : Nat) : ∀ i j c, j < i → B[j]? = some (x, y, c) → ole (minTo B x y i) (some c)
  | 0, _, _, h, _ => absurd h (Nat.not_lt_zero _)
  | i + 1, j, c, h, e => by
    show ole (match B[i]? with | none => minTo B x y i | some b => if b.1 = x ∧ b.2.1 = y then omin (minTo B x y i) (some b.2.2) else minTo B x y i) (some c)
    by_cases hj : j = i
    · subst hj
      rw [e]
      show ole (if x = x ∧ y = y then omin (minTo B x y j) (some c) else minTo B x y j) (some c)
      rw [if_pos ⟨rfl, rfl⟩]
      exact omin_r _ _
    · have ih := minTo_low B x y i j c (by omega) e
      cases B[i]? with
      | none => exact ih
      | some b =>
        show ole (if b.1 = x ∧ b.2.1 = y then omin (minTo B x y i) (some b.2.2) else minTo B x y i) (some c)
        split
        · exact omin_le (.inl ih)
        · exact ih
theorem minTo_got (B : List Bd) (x y : Nat) : ∀ i c, minTo B x y i = some c → (x, y, c) ∈ B
  | 0, _, h => by cases h
  | i + 1, c, h => by
    have h : (match B[i]? with | none => minTo B x y i | some b => if b.1 = x ∧ b.2.1 = y then omin (minTo B x y i) (some b.2.2) else minTo B x y i) = some c := h
    cases e : B[i]? with
    | none => rw [e] at h; exact minTo_got B x y i c h
    | some b =>
      rw [e] at h
      have h : (if b.1 = x ∧ b.2.1 = y then omin (minTo B x y i) (some b.2.2) else minTo B x y i) = some c := h
      split at h
      · rename_i hxy
        rcases omin_cases (minTo B x y i) (some b.2.2) with q | q
        · exact minTo_got B x y i c (q.symm.trans h)
        · have q2 : b.2.2 = c := Option.some.inj (q.symm.trans h)
          have : (x, y, c) = b := by rw [← hxy.1, ← hxy.2, ← q2]
          rw [this]
          exact List.mem_of_getElem? e
      · exact minTo_got B x y i c h
theorem omin_assoc (a b c : Option Int) : omin (omin a b) c = omin a (omin b c) := by
  cases a with
  | none => rfl
  | some a =>
    cases b with
    | none => rfl
    | some b =>
      cases c with
      | none => rfl
      | some c =>
        show some (if c < (if b < a then b else a) then c else (if b < a then b else a)) = some (if (if c < b then c else b) < a then (if c < b then c else b) else a)
        congr 1
        split <;> split <;> (try split) <;> omega
/-- the matrix with which both begin: d on the middle line -/
def start0 (B : List Bd) (d : Option Int) : Mx := fun x y => omin (if x = y then d else none) (minTo B x y B.length)

/-! ### a part of the turns of one middle -/
structure MidP (n : Nat) (M : Mx) (k : Nat) (D : Nat → Nat → Prop) (M' : Mx) : Prop where
  mono : ∀ x y, x < n → y < n → ole (M' x y) (M x y)
  exact : Non (M k k) → ∀ x y, x < n → y < n → (D x y → M' x y = F M k x y) ∧ (¬ D x y → M' x y = M x y)
theorem MidP.zero {n k : Nat} {M : Mx} {D : Nat → Nat → Prop} (h : ∀ x y, ¬ D x y) : MidP n M k D M :=
  ⟨fun _ _ _ _ => ole_refl _, fun _ x y _ _ => ⟨fun d => absurd d (h x y), fun _ => rfl⟩⟩
theorem MidP.step {n k x y : Nat} {M M' M'' : Mx} {D D' : Nat → Nat → Prop} (p : MidP n M k D M') (hk : k < n) (hx : x < n) (hy : y < n) (hD : ¬ D x y) (hD' : ∀ a b, D' a b ↔ D a b ∨ (a = x ∧ b = y))
    (h1 : M'' x y = omin (M' x y) (oadd (M' x k) (M' k y))) (h2 : ∀ a b, ¬ (a = x ∧ b = y) → M'' a b = M' a b) : MidP n M k D' M'' := by
  refine ⟨fun a b ha hb => ?_, fun hn a b ha hb => ?_⟩
  · by_cases e : a = x ∧ b = y
    · obtain ⟨rfl, rfl⟩ := e
      rw [h1]
      exact omin_le (.inl (p.mono a b ha hb))
    · rw [h2 a b e]; exact p.mono a b ha hb
  · have row : ∀ z, z < n → M' k z = M k z := fun z hz => by
      by_cases d : D k z
      · rw [((p.exact hn) k z hk hz).1 d]; exact omin_eq_l (oadd_non_l hn)
      · exact ((p.exact hn) k z hk hz).2 d
    have col : ∀ z, z < n → M' z k = M z k := fun z hz => by
      by_cases d : D z k
      · rw [((p.exact hn) z k hz hk).1 d]; exact omin_eq_l (oadd_non_r hn)
      · exact ((p.exact hn) z k hz hk).2 d
    by_cases e : a = x ∧ b = y
    · obtain ⟨rfl, rfl⟩ := e
      refine ⟨fun _ => ?_, fun d => absurd ((hD' a b).mpr (.inr ⟨rfl, rfl⟩)) d⟩
      rw [h1, row b hb, col a ha, ((p.exact hn) a b ha hb).2 hD]
      rfl
    · rw [h2 a b e]
      have q := (p.exact hn) a b ha hb
      refine ⟨fun d => q.1 (((hD' a b).mp d).resolve_right e), fun d => q.2 fun z => d ((hD' a b).mpr (.inl z))⟩
/-- all that is left is nothing -/
theorem MidP.mid {n k : Nat} {M M' : Mx} {D : Nat → Nat → Prop} (p : MidP n M k D M') (h : ∀ x y, x < n → y < n → ¬ D x y → M x k = none ∨ M k y = none) : Mid n M k M' := by
  refine ⟨p.mono, fun hn x y hx hy => ?_⟩
  by_cases d : D x y
  · exact ((p.exact hn) x y hx hy).1 d
  · rw [((p.exact hn) x y hx hy).2 d]
    have : oadd (M x k) (M k y) = none := by
      rcases h x y hx hy d with e | e <;> rw [e]
      · rfl
      · cases M x k <;> rfl
    show M x y = omin (M x y) (oadd (M x k) (M k y))
    rw [this]
    cases M x y <;> rfl
/-! ### runs made longer -/
theorem Run.zero {n : Nat} {B : List Bd} {S : Nat → Mx} (low : ∀ b ∈ B, ole (S 0 b.1 b.2.1) (some b.2.2)) (got : ∀ x y c, S 0 x y = some c → (x = y ∧ c = 0) ∨ (x, y, c) ∈ B) : Run n B S 0 := ⟨low, got, fun _ h => absurd h (Nat.not_lt_zero _)⟩
theorem Run.more {n t : Nat} {B : List Bd} {S : Nat → Mx} {M : Mx} (R : Run n B S t) (m : Mid n (S t) t M) : Run n B (fun k => if k = t + 1 then M else S k) (t + 1) := by
  refine ⟨fun b hb => R.low b hb, fun x y c e => R.got x y c e, fun k hk => ?_⟩
  by_cases e : k = t
  · subst e
    show Mid n (if k = k + 1 then M else S k) k (if k + 1 = k + 1 then M else S (k + 1))
    rw [if_neg (by omega), if_pos rfl]
    exact m
  · show Mid n (if k = t + 1 then M else S k) k (if k + 1 = t + 1 then M else S (k + 1))
    rw [if_neg (by omega), if_neg (by omega)]
    exact R.mid k (by omega)
theorem start0_low {B : List Bd} {d : Option Int} : ∀ b ∈ B, ole (start0 B d b.1 b.2.1) (some b.2.2) := fun b hb => by
  obtain ⟨x, y, c⟩ := b
  obtain ⟨j, hj, e⟩ := List.mem_iff_getElem.mp hb
  exact omin_le (.inr (minTo_low B x y _ j c hj (by rw [List.getElem?_eq_getElem hj, e])))
theorem start0_got {B : List Bd} {d : Option Int} (hd : d = none ∨ d = some 0) : ∀ x y c, start0 B d x y = some c → (x = y ∧ c = 0) ∨ (x, y, c) ∈ B := fun x y c h => by
  rcases omin_cases (if x = y then d else none) (minTo B x y B.length) with q | q
  · have q2 := q.symm.trans h
    split at q2
    · rename_i e
      rcases hd with rfl | rfl
      · cases q2
      · exact .inl ⟨e, (Option.some.inj q2).symm⟩
    · cases q2
  · exact .inr (minTo_got B x y _ c (q.symm.trans h))
theorem start0_off {B : List Bd} {d e : Option Int} {x y : Nat} (h : x ≠ y) : start0 B d x y = start0 B e x y := by
  unfold start0
  rw [if_neg h, if_neg h]
end PD

namespace PD
/-! ### holes -/
theorem fits : ∀ (n : Nat) (l : List Nat), l.Nodup → (∀ x ∈ l, x < n) → l.length ≤ n
  | 0, l, _, h => by
    cases l with
    | nil => exact Nat.le_refl _
    | cons a r => exact absurd (h a List.mem_cons_self) (Nat.not_lt_zero _)
  | n + 1, l, d, h => by
    have ih := fits n (l.erase n) (d.erase n) fun x hx => by
      have h1 := h x (List.mem_of_mem_erase hx)
      have h2 : x ≠ n := fun e => by
        subst e
        exact (List.Nodup.not_mem_erase d) hx
      omega
    have := List.length_erase (a := n) (l := l)
    split at this <;> omega
theorem twice {n : Nat} (f : Nat → Nat) (h : ∀ i, i ≤ n → f i < n) : ∃ i j, i < j ∧ j ≤ n ∧ f i = f j := by
  by_cases d : ((List.range (n + 1)).map f).Nodup
  · have := fits n _ d fun x hx => by
      obtain ⟨i, hi, rfl⟩ := List.mem_map.mp hx
      exact h i (by have := List.mem_range.mp hi; omega)
    simp at this
    omega
  · rw [List.Nodup, List.pairwise_iff_getElem] at d
    have : ∃ i j, i < j ∧ j ≤ n ∧ f i = f j := Classical.byContradiction fun hn => d fun i j hi hj hij => by
      intro e
      simp at hi hj
      rw [List.getElem_map, List.getElem_map, List.getElem_range, List.getElem_range] at e
      exact hn ⟨i, j, hij, by omega, e⟩
    exact this

def set1 {α : Type} (f : Nat → α) (x : Nat) (v : α) : Nat → α := fun z => if z = x then v else f z
theorem set1_same {α : Type} (f : Nat → α) (x : Nat) (v : α) : set1 f x v x = v := if_pos rfl
theorem set1_ne {α : Type} {f : Nat → α} {x z : Nat} {v : α} (h : z ≠ x) : set1 f x v z = f z := if_neg h

/-! ### laps over all bounds: heights, by which bound they came down last; beside: in which lap (t), by what chain (hist) -/
structure RB where
  h : Nat → Int
  by_ : Nat → Option Nat
  last : Option Nat
  t : Nat → Nat
  hist : Nat → List (Nat × Int)
def rbStep (k : Nat) (b : Bd) (i : Nat) (s : RB) : RB :=
  if s.h b.2.1 + b.2.2 < s.h b.1 then
    ⟨set1 s.h b.1 (s.h b.2.1 + b.2.2), set1 s.by_ b.1 (some i), some b.1, set1 s.t b.1 k, set1 s.hist b.1 ((b.1, s.h b.2.1 + b.2.2) :: s.hist b.2.1)⟩
  else s
def lapTo (B : List Bd) (k : Nat) (s : RB) : Nat → RB
  | 0 => { s with last := none }
  | i + 1 => match B[i]? with
    | none => lapTo B k s i
    | some b => rbStep k b i (lapTo B k s i)
def rb0 : RB := ⟨fun _ => 0, fun _ => none, none, fun _ => 0, fun x => [(x, 0)]⟩
def laps (B : List Bd) : Nat → RB
  | 0 => rb0
  | k + 1 => lapTo B (k + 1) (laps B k) B.length

def Step2 (B : List Bd) (u w : Nat × Int) : Prop := ∃ c, (u.1, w.1, c) ∈ B ∧ u.2 = w.2 + c
inductive Chn (B : List Bd) : List (Nat × Int) → Prop
  | one (u : Nat × Int) : Chn B [u]
  | cons {u w : Nat × Int} {r : List (Nat × Int)} : Step2 B u w → Chn B (w :: r) → Chn B (u :: w :: r)
/-- what holds in lap k behind i bounds -/
structure GI (n : Nat) (B : List Bd) (k i : Nat) (s : RB) : Prop where
  head : ∀ x, ∃ r, s.hist x = (x, s.h x) :: r
  chn : ∀ x, Chn B (s.hist x)
  above : ∀ x, ∀ u ∈ s.hist x, s.h u.1 ≤ u.2
  strict : ∀ x, (s.hist x).Pairwise fun u w => u.1 = w.1 → u.2 < w.2
  long : ∀ x, s.t x + 1 ≤ (s.hist x).length
  small : ∀ x, x < n → ∀ u ∈ s.hist x, u.1 < n
  sat : ∀ j b, B[j]? = some b → (s.t b.2.1 + 2 ≤ k ∨ (s.t b.2.1 + 1 ≤ k ∧ j < i)) → s.h b.1 ≤ s.h b.2.1 + b.2.2
  le : ∀ x, s.t x ≤ k
  lst : ∀ x, s.last = some x → s.t x = k ∧ x < n
  by1 : ∀ x, 1 ≤ s.t x → ∃ j b, s.by_ x = some j ∧ B[j]? = some b ∧ b.1 = x ∧ s.t x ≤ s.t b.2.1 + 1
  by0 : ∀ x j, s.by_ x = some j → ∃ b, B[j]? = some b ∧ b.1 = x
section
variable {n : Nat} {B : List Bd} (hB : ∀ b ∈ B, b.1 < n ∧ b.2.1 < n)
include hB
theorem gi_step {k i : Nat} {s : RB} {b : Bd} (hb : B[i]? = some b) (g : GI n B k i s) : GI n B k (i + 1) (rbStep k b i s) := by
  obtain ⟨x, y, c⟩ := b
  have hm : (x, y, c) ∈ B := List.mem_of_getElem? hb
  obtain ⟨hx, hy⟩ : x < n ∧ y < n := hB _ hm
  unfold rbStep
  by_cases hlt : s.h y + c < s.h x
  · rw [if_pos (show s.h (x, y, c).2.1 + (x, y, c).2.2 < s.h (x, y, c).1 from hlt)]
    show GI n B k (i + 1) ⟨set1 s.h x (s.h y + c), set1 s.by_ x (some i), some x, set1 s.t x k, set1 s.hist x ((x, s.h y + c) :: s.hist y)⟩
    -- y changed in this lap or in the one ahead
    have ty : k ≤ s.t y + 1 := by
      apply Classical.byContradiction
      intro hn
      have := g.sat i _ hb (.inl (by show s.t y + 2 ≤ k; omega))
      have this : s.h x ≤ s.h y + c := this
      omega
    have down : ∀ z, set1 s.h x (s.h y + c) z ≤ s.h z := fun z => by
      by_cases e : z = x
      · subst e; rw [set1_same]; omega
      · rw [set1_ne e]; omega
    have tup : ∀ z, s.t z ≤ set1 s.t x k z := fun z => by
      by_cases e : z = x
      · subst e; rw [set1_same]; exact g.le z
      · rw [set1_ne e]; omega
    refine ⟨fun z => ?_, fun z => ?_, fun z u hu => ?_, fun z => ?_, fun z => ?_, fun z hz u hu => ?_, fun j b hj hc => ?_, fun z => ?_, fun z e => ?_, fun z hz => ?_, fun z j e => ?_⟩
    · by_cases e : z = x
      · subst e
        exact ⟨s.hist y, by show set1 s.hist z _ z = (z, set1 s.h z _ z) :: _; rw [set1_same, set1_same]⟩
      · obtain ⟨r, hr⟩ := g.head z
        exact ⟨r, by show set1 s.hist x _ z = (z, set1 s.h x _ z) :: _; rw [set1_ne e, set1_ne e]; exact hr⟩
    · show Chn B (set1 s.hist x _ z)
      by_cases e : z = x
      · subst e
        rw [set1_same]
        have h1 := g.chn y
        obtain ⟨r, hr⟩ := g.head y
        rw [hr] at h1 ⊢
        exact .cons ⟨c, hm, rfl⟩ h1
      · rw [set1_ne e]; exact g.chn z
    · have hu : u ∈ set1 s.hist x ((x, s.h y + c) :: s.hist y) z := hu
      show set1 s.h x (s.h y + c) u.1 ≤ u.2
      by_cases e : z = x
      · subst e
        rw [set1_same] at hu
        rcases List.mem_cons.mp hu with rfl | hu
        · rw [set1_same]; exact Int.le_refl _
        · exact Int.le_trans (down _) (g.above y u hu)
      · rw [set1_ne e] at hu
        exact Int.le_trans (down _) (g.above z u hu)
    · show (set1 s.hist x _ z).Pairwise _
      by_cases e : z = x
      · subst e
        rw [set1_same]
        refine List.Pairwise.cons (fun w hw e => ?_) (g.strict y)
        have := g.above y w hw
        have e : z = w.1 := e
        rw [← e] at this
        show s.h y + c < w.2
        omega
      · rw [set1_ne e]; exact g.strict z
    · show set1 s.t x k z + 1 ≤ (set1 s.hist x _ z).length
      by_cases e : z = x
      · subst e
        rw [set1_same, set1_same, List.length_cons]
        have := g.long y
        omega
      · rw [set1_ne e, set1_ne e]; exact g.long z
    · have hu : u ∈ set1 s.hist x ((x, s.h y + c) :: s.hist y) z := hu
      by_cases e : z = x
      · subst e
        rw [set1_same] at hu
        rcases List.mem_cons.mp hu with rfl | hu
        · exact hz
        · exact g.small y hy u hu
      · rw [set1_ne e] at hu
        exact g.small z hz u hu
    · obtain ⟨x', y', c'⟩ := b
      have hc : set1 s.t x k y' + 2 ≤ k ∨ (set1 s.t x k y' + 1 ≤ k ∧ j < i + 1) := hc
      show set1 s.h x (s.h y + c) x' ≤ set1 s.h x (s.h y + c) y' + c'
      have ey : y' ≠ x := fun e => by
        rw [e, set1_same] at hc
        omega
      rw [set1_ne ey] at hc
      rw [set1_ne ey]
      by_cases ej : j = i
      · subst ej
        rw [hb] at hj
        cases hj
        rw [set1_same]; omega
      · exact Int.le_trans (down x') (g.sat j _ hj (by
          show s.t y' + 2 ≤ k ∨ (s.t y' + 1 ≤ k ∧ j < i)
          omega))
    · show set1 s.t x k z ≤ k
      by_cases e : z = x
      · subst e; rw [set1_same]; omega
      · rw [set1_ne e]; exact g.le z
    · have e : x = z := Option.some.inj e
      subst e
      exact ⟨set1_same .., hx⟩
    · have hz : 1 ≤ set1 s.t x k z := hz
      show ∃ j b, set1 s.by_ x (some i) z = some j ∧ B[j]? = some b ∧ b.1 = z ∧ set1 s.t x k z ≤ set1 s.t x k b.2.1 + 1
      by_cases e : z = x
      · subst e
        refine ⟨i, _, set1_same .., hb, rfl, ?_⟩
        rw [set1_same]
        have := tup y
        show k ≤ set1 s.t z k y + 1
        omega
      · rw [set1_ne e] at hz
        obtain ⟨j, b, h1, h2, h3, h4⟩ := g.by1 z hz
        refine ⟨j, b, by rw [set1_ne e]; exact h1, h2, h3, ?_⟩
        rw [set1_ne e]
        have := tup b.2.1
        omega
    · have e : set1 s.by_ x (some i) z = some j := e
      by_cases ez : z = x
      · subst ez
        rw [set1_same] at e
        cases e
        exact ⟨_, hb, rfl⟩
      · rw [set1_ne ez] at e
        exact g.by0 z j e
  · rw [if_neg (show ¬ s.h (x, y, c).2.1 + (x, y, c).2.2 < s.h (x, y, c).1 from hlt)]
    refine ⟨g.head, g.chn, g.above, g.strict, g.long, g.small, fun j b hj hc => ?_, g.le, g.lst, g.by1, g.by0⟩
    by_cases ej : j = i
    · subst ej
      rw [hb] at hj
      cases hj
      show s.h x ≤ s.h y + c
      omega
    · exact g.sat j b hj (by omega)
theorem gi_lap {k : Nat} {s : RB} (g : GI n B k 0 { s with last := none }) : ∀ i, GI n B k i (lapTo B k s i)
  | 0 => g
  | i + 1 => by
    have ih := gi_lap g i
    show GI n B k (i + 1) (match B[i]? with | none => lapTo B k s i | some b => rbStep k b i (lapTo B k s i))
    cases e : B[i]? with
    | some b => exact gi_step hB e ih
    | none =>
      show GI n B k (i + 1) (lapTo B k s i)
      refine ⟨ih.head, ih.chn, ih.above, ih.strict, ih.long, ih.small, fun j b hj hc => ?_, ih.le, ih.lst, ih.by1, ih.by0⟩
      refine ih.sat j b hj ?_
      have h1 := List.getElem?_eq_none_iff.mp e
      obtain ⟨h2, _⟩ := List.getElem?_eq_some_iff.mp hj
      omega
omit hB in
theorem gi_next {k : Nat} {s : RB} (g : GI n B k B.length s) : GI n B (k + 1) 0 { s with last := none } :=
  ⟨g.head, g.chn, g.above, g.strict, g.long, g.small, fun j b hj hc => by
    obtain ⟨h2, _⟩ := List.getElem?_eq_some_iff.mp hj
    exact g.sat j b hj (by have : s.t b.2.1 + 2 ≤ k + 1 ∨ (s.t b.2.1 + 1 ≤ k + 1 ∧ j < 0) := hc; omega), fun x => Nat.le_succ_of_le (g.le x), fun x e => (by cases e), g.by1, g.by0⟩
omit hB in
theorem gi0 : GI n B 0 B.length rb0 :=
  ⟨fun x => ⟨[], rfl⟩, fun x => .one _, fun x u hu => by
    have : u = (x, (0 : Int)) := by simpa [rb0] using hu
    subst this; exact Int.le_refl _, fun x => List.pairwise_singleton .., fun x => Nat.le_refl _, fun x hx u hu => by
    have : u = (x, (0 : Int)) := by simpa [rb0] using hu
    subst this; exact hx, fun j b hj hc => by
      have : (0 : Nat) + 2 ≤ 0 ∨ ((0 : Nat) + 1 ≤ 0 ∧ j < B.length) := hc
      omega, fun x => Nat.le_refl _, fun x e => (by cases e), fun x h => (by have : 1 ≤ 0 := h; omega), fun x j e => (by cases e)⟩
theorem gi_laps : ∀ k, GI n B k B.length (laps B k)
  | 0 => gi0
  | k + 1 => gi_lap hB (gi_next (gi_laps k)) B.length

omit hB in
theorem chn_down {v : Nat → Int} (hv : Vals B v) : ∀ {l : List (Nat × Int)} {u : Nat × Int}, Chn B (u :: l) → ∀ w ∈ l, w.2 - v w.1 ≤ u.2 - v u.1
  | [], _, _, w, hw => by cases hw
  | w' :: r, u, h, w, hw => by
    cases h with
    | cons s h =>
      obtain ⟨c, hm, e⟩ := s
      have h1 : v u.1 - v w'.1 ≤ c := hv _ hm
      have h2 : w'.2 - v w'.1 ≤ u.2 - v u.1 := by omega
      rcases List.mem_cons.mp hw with rfl | hw
      · exact h2
      · exact Int.le_trans (chn_down hv h w hw) h2
omit hB in
theorem chn_nodup {v : Nat → Int} (hv : Vals B v) : ∀ {l : List (Nat × Int)}, Chn B l → (l.Pairwise fun u w => u.1 = w.1 → u.2 < w.2) → (l.map (·.1)).Nodup
  | [], _, _ => List.nodup_nil
  | u :: l, h, p => by
    have p' := List.pairwise_cons.mp p
    rw [List.map_cons, List.nodup_cons]
    refine ⟨fun hm => ?_, ?_⟩
    · obtain ⟨w, hw, e⟩ := List.mem_map.mp hm
      have h1 := p'.1 w hw e.symm
      have h2 := chn_down hv h w hw
      rw [e] at h2
      omega
    · cases h with
      | one => exact List.nodup_nil
      | cons _ h => exact chn_nodup hv h p'.2
/-- values: in lap n nothing comes down -/
theorem laps_none (f : Feas B) : (laps B n).last = none := by
  obtain ⟨v, hv⟩ := f
  cases e : (laps B n).last with
  | none => rfl
  | some x =>
    have g := gi_laps hB n
    obtain ⟨h1, h2⟩ := g.lst x e
    have := fits n _ (chn_nodup hv (g.chn x) (g.strict x)) fun z hz => by
      obtain ⟨u, hu, rfl⟩ := List.mem_map.mp hz
      exact g.small x h2 u hu
    rw [List.length_map] at this
    have := g.long x
    omega
omit hB in
/-- nothing came down: all bounds are so -/
theorem lap_still {k : Nat} {s : RB} : ∀ {i : Nat}, (lapTo B k s i).last = none → (lapTo B k s i) = { s with last := none } ∧ ∀ j b, j < i → B[j]? = some b → s.h b.1 ≤ s.h b.2.1 + b.2.2
  | 0, _ => ⟨rfl, fun _ _ h => absurd h (Nat.not_lt_zero _)⟩
  | i + 1, e => by
    have e : (match B[i]? with | none => lapTo B k s i | some b => rbStep k b i (lapTo B k s i)).last = none := e
    show (match B[i]? with | none => lapTo B k s i | some b => rbStep k b i (lapTo B k s i)) = _ ∧ _
    cases hb : B[i]? with
    | none =>
      rw [hb] at e
      obtain ⟨h1, h2⟩ := lap_still (i := i) e
      refine ⟨h1, fun j b hj hjb => h2 j b ?_ hjb⟩
      obtain ⟨h3, _⟩ := List.getElem?_eq_some_iff.mp hjb
      have := List.getElem?_eq_none_iff.mp hb
      omega
    | some b =>
      rw [hb] at e
      have e : (rbStep k b i (lapTo B k s i)).last = none := e
      show rbStep k b i (lapTo B k s i) = _ ∧ _
      unfold rbStep at e ⊢
      by_cases hlt : (lapTo B k s i).h b.2.1 + b.2.2 < (lapTo B k s i).h b.1
      · rw [if_pos hlt] at e; cases e
      · rw [if_neg hlt] at e ⊢
        obtain ⟨h1, h2⟩ := lap_still (i := i) e
        refine ⟨h1, fun j b' hj hjb => ?_⟩
        by_cases ej : j = i
        · subst ej
          rw [hb] at hjb
          cases hjb
          rw [h1] at hlt
          have hlt : ¬ s.h b.2.1 + b.2.2 < s.h b.1 := hlt
          omega
        · exact h2 j b' (by omega) hjb
omit hB in
theorem feas_of_none {k : Nat} (e : (laps B (k + 1)).last = none) : Feas B := by
  obtain ⟨_, h⟩ := lap_still (B := B) (k := k + 1) (s := laps B k) (i := B.length) e
  refine ⟨(laps B k).h, fun b hb => ?_⟩
  obtain ⟨j, hj, e⟩ := List.mem_iff_getElem.mp hb
  have := h j b hj (by rw [List.getElem?_eq_getElem hj, e])
  omega

/-! ### the way back along by -/
def nxt (B : List Bd) (s : RB) (x : Nat) : Nat := match s.by_ x with
  | none => x
  | some j => match B[j]? with
    | none => x
    | some b => b.2.1
def iter (f : Nat → Nat) : Nat → Nat → Nat
  | 0, x => x
  | k + 1, x => f (iter f k x)
omit hB in
theorem iter_add (f : Nat → Nat) (x : Nat) : ∀ (m k : Nat), iter f (k + m) x = iter f k (iter f m x)
  | m, 0 => by rw [Nat.zero_add]; rfl
  | m, k + 1 => by
    rw [show k + 1 + m = (k + m) + 1 by omega]
    show f (iter f (k + m) x) = f (iter f k (iter f m x))
    rw [iter_add f x m k]
/-- a bound's number at which one goes on -/
def HasBy (B : List Bd) (s : RB) (n x : Nat) : Prop := ∃ j b, s.by_ x = some j ∧ B[j]? = some b ∧ b.1 = x ∧ b.2.1 < n ∧ nxt B s x = b.2.1
/-- something came down in lap n: n steps back one is in a ring -/
theorem back {x : Nat} (e : (laps B n).last = some x) :
    (∀ k, HasBy B (laps B n) n (iter (nxt B (laps B n)) k x)) ∧ ∃ d, 1 ≤ d ∧ d ≤ n ∧ iter (nxt B (laps B n)) d (iter (nxt B (laps B n)) n x) = iter (nxt B (laps B n)) n x := by
  have g := gi_laps hB n
  generalize hs : laps B n = s at *
  obtain ⟨h1, hxn⟩ := g.lst x e
  have has : ∀ z, 1 ≤ s.t z → HasBy B s n z ∧ s.t z ≤ s.t (nxt B s z) + 1 := fun z hz => by
    obtain ⟨j, b, q1, q2, q3, q4⟩ := g.by1 z hz
    have q5 : nxt B s z = b.2.1 := by
      unfold nxt
      rw [q1]
      show (match B[j]? with | none => z | some b => b.2.1) = _
      rw [q2]
    exact ⟨⟨j, b, q1, q2, q3, (hB b (List.mem_of_getElem? q2)).2, q5⟩, by rw [q5]; exact q4⟩
  have tt : ∀ k, k ≤ n → n ≤ s.t (iter (nxt B s) k x) + k ∧ iter (nxt B s) k x < n := by
    intro k
    induction k with
    | zero => intro _; exact ⟨by show n ≤ s.t x + 0; omega, hxn⟩
    | succ k ih =>
      intro hk
      obtain ⟨a1, a2⟩ := ih (by omega)
      obtain ⟨⟨j, b, _, _, _, h5, h6⟩, h7⟩ := has (iter (nxt B s) k x) (by omega)
      refine ⟨?_, ?_⟩
      · show n ≤ s.t (nxt B s (iter (nxt B s) k x)) + (k + 1)
        omega
      · show nxt B s (iter (nxt B s) k x) < n
        rw [h6]; exact h5
  obtain ⟨i, j, hij, hjn, heq⟩ := twice (fun k => iter (nxt B s) k x) (n := n) fun k hk => (tt k hk).2
  have heq : iter (nxt B s) i x = iter (nxt B s) j x := heq
  -- from i on it goes round
  have per : ∀ r, iter (nxt B s) (r + i) x = iter (nxt B s) (r + j) x := fun r => by rw [iter_add, iter_add, heq]
  have red : ∀ m, ∃ m', m' < j ∧ iter (nxt B s) m x = iter (nxt B s) m' x := by
    intro m
    induction m using Nat.strongRecOn with
    | _ m ih =>
      by_cases hm : m < j
      · exact ⟨m, hm, rfl⟩
      · obtain ⟨m', h1, h2⟩ := ih (m - j + i) (by omega)
        refine ⟨m', h1, ?_⟩
        rw [← h2, per (m - j)]
        rw [show m - j + j = m by omega]
  refine ⟨fun k => ?_, j - i, by omega, by omega, ?_⟩
  · obtain ⟨m', hm, e'⟩ := red k
    rw [e']
    have := (tt m' (by omega)).1
    exact (has _ (by omega)).1
  · rw [← iter_add]
    have := per (n - i)
    rw [show n - i + i = n by omega] at this
    rw [this]
    rw [show j - i + n = n - i + j by omega]
end
theorem lapTo_len {B : List Bd} {k : Nat} {s : RB} {i : Nat} (h : B.length ≤ i) : lapTo B k s i = lapTo B k s B.length := by
  induction h with
  | refl => rfl
  | step h ih =>
    rename_i m
    show (match B[m]? with | none => lapTo B k s m | some b => rbStep k b m (lapTo B k s m)) = _
    rw [List.getElem?_eq_none (by omega)]
    exact ih
theorem lapTo_step {B : List Bd} {k : Nat} {s : RB} {i : Nat} {b : Bd} (h : B[i]? = some b) : lapTo B k s (i + 1) = rbStep k b i (lapTo B k s i) := by
  show (match B[i]? with | none => lapTo B k s i | some b => rbStep k b i (lapTo B k s i)) = _
  rw [h]

/-! ### going over all bounds until nothing moves -/
def mvStep (b : Bd) (s : (Nat → Int) × Bool) : (Nat → Int) × Bool := if s.1 b.2.1 + b.2.2 < s.1 b.1 then (set1 s.1 b.1 (s.1 b.2.1 + b.2.2), true) else s
def mvTo (B : List Bd) (h : Nat → Int) : Nat → (Nat → Int) × Bool
  | 0 => (h, false)
  | i + 1 => match B[i]? with
    | none => mvTo B h i
    | some b => mvStep b (mvTo B h i)
theorem mvTo_step {B : List Bd} {h : Nat → Int} {i : Nat} {b : Bd} (e : B[i]? = some b) : mvTo B h (i + 1) = mvStep b (mvTo B h i) := by
  show (match B[i]? with | none => mvTo B h i | some b => mvStep b (mvTo B h i)) = _
  rw [e]
/-- the sum of n heights -/
def sumTo (h : Nat → Int) : Nat → Int
  | 0 => 0
  | i + 1 => sumTo h i + h i
theorem sumTo_le {f g : Nat → Int} : ∀ n, (∀ x, x < n → f x ≤ g x) → sumTo f n ≤ sumTo g n
  | 0, _ => Int.le_refl _
  | n + 1, h => by
    have := sumTo_le n fun x hx => h x (by omega)
    have := h n (by omega)
    show sumTo f n + f n ≤ sumTo g n + g n
    omega
theorem sumTo_lt {f g : Nat → Int} : ∀ n, (∀ x, x < n → f x ≤ g x) → (∃ x, x < n ∧ f x < g x) → sumTo f n < sumTo g n
  | 0, _, ⟨x, h, _⟩ => absurd h (Nat.not_lt_zero _)
  | n + 1, h, ⟨x, hx, hl⟩ => by
    have h1 := sumTo_le n fun x hx => h x (by omega)
    have h2 := h n (by omega)
    show sumTo f n + f n < sumTo g n + g n
    by_cases e : x = n
    · subst e; omega
    · have := sumTo_lt n (fun x hx => h x (by omega)) ⟨x, by omega, hl⟩
      omega
/-- heights above values: they stay above, and fall where something moves -/
structure Ab (n : Nat) (v h : Nat → Int) (m : Int) : Prop where
  ab : ∀ x, x < n → v x + m ≤ h x
theorem mvTo_ok {n : Nat} {B : List Bd} {v h : Nat → Int} {m : Int} (hB : ∀ b ∈ B, b.1 < n ∧ b.2.1 < n) (hv : Vals B v) (a : Ab n v h m) : ∀ i, Ab n v (mvTo B h i).1 m ∧ (∀ x, x < n → (mvTo B h i).1 x ≤ h x) ∧ ((mvTo B h i).2 = true → ∃ x, x < n ∧ (mvTo B h i).1 x < h x) ∧
    ((mvTo B h i).2 = false → (mvTo B h i).1 = h ∧ ∀ j b, j < i → B[j]? = some b → h b.1 ≤ h b.2.1 + b.2.2)
  | 0 => ⟨a, fun _ _ => Int.le_refl _, fun e => (by cases e), fun _ => ⟨rfl, fun _ _ h => absurd h (Nat.not_lt_zero _)⟩⟩
  | i + 1 => by
    obtain ⟨h1, h2, h3, h4⟩ := mvTo_ok hB hv a i
    cases e : B[i]? with
    | none =>
      have q : mvTo B h (i + 1) = mvTo B h i := by
        show (match B[i]? with | none => mvTo B h i | some b => mvStep b (mvTo B h i)) = _
        rw [e]
      rw [q]
      refine ⟨h1, h2, h3, fun z => ⟨(h4 z).1, fun j b hj hb => (h4 z).2 j b ?_ hb⟩⟩
      obtain ⟨p, _⟩ := List.getElem?_eq_some_iff.mp hb
      have := List.getElem?_eq_none_iff.mp e
      omega
    | some b =>
      rw [mvTo_step e]
      obtain ⟨x, y, c⟩ := b
      have hm : (x, y, c) ∈ B := List.mem_of_getElem? e
      obtain ⟨hx, hy⟩ : x < n ∧ y < n := hB _ hm
      have hvb : v x - v y ≤ c := hv _ hm
      generalize mvTo B h i = s at *
      unfold mvStep
      by_cases hlt : s.1 y + c < s.1 x
      · rw [if_pos (show s.1 (x, y, c).2.1 + (x, y, c).2.2 < s.1 (x, y, c).1 from hlt)]
        refine ⟨⟨fun z hz => ?_⟩, fun z hz => ?_, fun _ => ⟨x, hx, ?_⟩, fun z => (by cases z)⟩
        · show v z + m ≤ set1 s.1 x (s.1 y + c) z
          by_cases ez : z = x
          · subst ez
            rw [set1_same]
            have := h1.ab y hy
            omega
          · rw [set1_ne ez]; exact h1.ab z hz
        · show set1 s.1 x (s.1 y + c) z ≤ h z
          by_cases ez : z = x
          · subst ez
            rw [set1_same]
            have := h2 z hz
            omega
          · rw [set1_ne ez]; exact h2 z hz
        · show set1 s.1 x (s.1 y + c) x < h x
          rw [set1_same]
          have := h2 x hx
          omega
      · rw [if_neg (show ¬ s.1 (x, y, c).2.1 + (x, y, c).2.2 < s.1 (x, y, c).1 from hlt)]
        refine ⟨h1, h2, h3, fun z => ?_⟩
        obtain ⟨q1, q2⟩ := h4 z
        refine ⟨q1, fun j b hj hb => ?_⟩
        by_cases ej : j = i
        · subst ej
          rw [e] at hb
          cases hb
          rw [q1] at hlt
          show h x ≤ h y + c
          omega
        · exact q2 j b (by omega) hb
/-- nought lies above values, shifted -/
theorem shift (v : Nat → Int) : ∀ n : Nat, ∃ m : Int, ∀ x, x < n → v x + m ≤ 0
  | 0 => ⟨0, fun _ h => absurd h (Nat.not_lt_zero _)⟩
  | n + 1 => by
    obtain ⟨m, h⟩ := shift v n
    refine ⟨if m ≤ -v n then m else -v n, fun x hx => ?_⟩
    by_cases e : x = n
    · subst e; split <;> omega
    · have := h x (by omega)
      split <;> omega
end PD

namespace L2.PL
open PySem PySem.Spec PyProof.Rows
/-! ### rows told by a function -/
def rowG (n : Nat) (g : Nat → V) : List V := (List.range n).map g
theorem rowG_len (n : Nat) (g : Nat → V) : (rowG n g).length = n := by simp [rowG]
theorem rowG_get {n : Nat} {g : Nat → V} {j : Nat} (h : j < n) : (rowG n g)[j]? = some (g j) := by
  unfold rowG
  rw [List.getElem?_map, List.getElem?_range h]
  rfl
theorem rowG_at {n : Nat} {g : Nat → V} {j : Nat} (h : j < n) : atI (rowG n g) (j : Int) = some (g j) := atI_nat (rowG_get h)
theorem rowG_ix {n : Nat} {g : Nat → V} {j : Nat} (h : j < n) : ixN (rowG n g).length (j : Int) = some j := by
  unfold ixN
  rw [if_pos (by omega), if_pos (by rw [rowG_len]; omega)]
  simp
theorem rowG_set {n : Nat} {g : Nat → V} {y : Nat} {v : V} (h : y < n) : (rowG n g).set y v = rowG n (PD.set1 g y v) := by
  apply List.ext_getElem?
  intro j
  by_cases hj : j < n
  · by_cases e : j = y
    · subst e
      rw [List.getElem?_set_self (by rw [rowG_len]; exact h), rowG_get h, PD.set1_same]
    · rw [List.getElem?_set_ne (Ne.symm e), rowG_get hj, rowG_get hj, PD.set1_ne e]
  · rw [List.getElem?_eq_none (by rw [List.length_set, rowG_len]; omega), List.getElem?_eq_none (by rw [rowG_len]; omega)]
theorem rowG_const (n : Nat) (v : V) : (List.replicate n [v]).flatten = rowG n fun _ => v := by
  induction n with
  | zero => rfl
  | succ n ih =>
    rw [List.replicate_succ', List.flatten_append, ih]
    unfold rowG
    rw [List.range_succ, List.map_append]
    rfl
theorem set1_comp {α : Type} (f : Nat → α) (g : α → V) (x : Nat) (a : α) : PD.set1 (fun z => g (f z)) x (g a) = fun z => g (PD.set1 f x a z) := by
  funext z
  unfold PD.set1
  split <;> rfl
/-! ### lists of data -/
theorem canLay_ints : ∀ ns : List Int, PyData.canLayAll0 (ns.map PyData.int) = true
  | [] => rfl
  | n :: ns => by
    show (PyData.canLay0 (.int n) && PyData.canLayAll0 (ns.map PyData.int)) = true
    rw [canLay_ints ns]; rfl
theorem depth_ints : ∀ ns : List Int, PyData.depthAll (ns.map PyData.int) = 0
  | [] => rfl
  | n :: ns => by
    show max 0 (PyData.depthAll (ns.map PyData.int)) = 0
    rw [depth_ints ns]; rfl
theorem shaped_ints (ns : List Int) : SeqAt.shaped (.list (ns.map PyData.int)) = true := by
  unfold SeqAt.shaped
  rw [show (PyData.list (ns.map PyData.int)).canLay0 = PyData.canLayAll0 (ns.map PyData.int) from rfl, canLay_ints,
    show (PyData.list (ns.map PyData.int)).depth = PyData.depthAll (ns.map PyData.int) + 1 from rfl, depth_ints]
  rfl
theorem eqv_nil (ns : List Int) : PyData.eqv (.list (ns.map PyData.int)) (.list []) = ns.isEmpty := by
  cases ns with
  | nil => simp [PyData.eqv, PyData.eqvAll]
  | cons a r => simp [PyData.eqv, PyData.eqvAll]
theorem shaped_nil : SeqAt.shaped (.list []) = true := shaped_ints []
end L2.PL

namespace L2.PL
open PySem PySem.Spec PyProof.Rows
/-! ### instances with slots -/
section
variable {X : Cx} {K : PySem.W.Frag}
theorem pe_slK {e : Expr} {ta : TE} {f : Str} {pos : Pos} (he : PE X e ta) (h : X.K = K := by rfl) (hb : attributeBase e f X.env (eval e X.env) = eval e X.env := by rfl) : PE X (.Attribute e f pos) (SlX.tSl K ta f) := by
  subst h; exact SlX.pe_sl he hb
/-- o.f as a target -/
def gSl (K : PySem.W.Frag) (ta : TE) (f : Str) : TG := fun v σ H Q => ta σ H fun x H1 => ∃ a C dx p vs i, x = .ref a ∧ SlX.Slt H1 a C dx vs ∧ SlX.SCls K C ∧ SlX.Slot1 K C f p i ∧ Q σ (SlX.slH H1 a C dx (SlX.putS i v vs))
theorem pg_sl {o : Expr} {f : Str} {pos : Pos} {ta : TE} (ha : PE X o ta) : PG X (.Attribute o f pos) (gSl X.K ta f) := by
  refine ⟨fun pins s σ H v u Q I r h => ?_⟩
  rw [assign_Attribute]
  refine wpAny_bind (wpAny_holding (thn (ha.run pins s σ H _ I h) fun ov s1 ⟨x, H1, I1, r1, a, C, dx, p, vs, i, ex, hs, c, t, q⟩ => ?_))
  subst ex
  obtain rfl : ov = Value.ref a := r1
  refine wpAny_bind (wpAny_standAt (wpAny_bind (wpAny_holding (SlX.setslot_ok I1 hs c t r fun s2 I2 => ?_))))
  exact wpAny_release ⟨σ, _, I2, q⟩
theorem pe_methS {CX : CXT} {k j : Nat} {C g : Addr} {fd : FuncData} {ps : List Str} {sp : Sp} {E : XK} {pl : Sem Bool} {o e : Expr} {es : List Expr} {m : Str} {ta : TE} {t : TA} {pos apos : Pos} (he : PE X o ta) (c : SlX.SCls X.K C) (hm : Meth X.K C m g)
    (F : FnOk X.prog X.w X.K X.mg X.base CX k g fd ps sp) (hr : Room j X.A) (hb : Binds X.K fd ps []) (hx : Passes CX X E) (ha : PA X (e :: es) t) (hk : k ≤ j := by decide)
    (hst : starEach (e :: es) X.env = (false, eval e X.env) :: starEach es X.env := by rfl) (hpl : (backTo pos (starEach es X.env)).any (·.1) = false := by rfl)
    (ht : eval (.Call (.Attribute o m apos) (e :: es) [] pos) X.env = (do
      let ov ← eval o X.env
      standAt apos.atName
      let (f, first) ← holding [ov] (getMethod ov m pl)
      callWith pos f first (backTo pos (starEach (e :: es) X.env)) (backToKw pos (keywordEach [] X.env))) := by rfl) :
    PE X (.Call (.Attribute o m apos) (e :: es) [] pos) (SlX.tMethSl C sp E ta t) := by
  refine ⟨fun pins s σ H Q I h => ?_⟩
  refine PySem.W.methodCall_KW (pl := pl) (thn (he.run pins s σ H _ I h) fun u s1 ⟨x, H1, I1, rx, a, dx, vs, ex, hsl, q⟩ => ?_) ht
  subst ex
  obtain rfl : u = Value.ref a := rx
  refine SlX.getmethsl_ok I1 hsl c hm ?_
  refine PySem.W.callWith_K (first := [.ref a]) (h₀ := X.base) I.ok.mod.kin hm.kp (thn (ha.run pos pins s1 σ H1 _ I1 q) fun us s2 ⟨vs, H2, I2, r, q2⟩ => ⟨I2.kIn, ?_⟩) hst hpl
  refine run_fn (us := .ref a :: us) (vs := .ref a :: vs) F (hr.mono hk) hb .nil hx I2 (.cons rfl r) ?_
  rw [List.append_nil]
  exact q2
end
theorem Slt.same {H H' : Hp} {a C dx : Addr} {vs : List (Option V)} (s : Same H H') (h : SlX.Slt H a C dx vs) : SlX.Slt H' a C dx vs := by
  rcases h with ⟨h1, h2⟩ | ⟨h1, h2⟩
  · exact .inl ⟨s _ _ h1, h2⟩
  · exact .inr ⟨s _ _ h1, s _ _ h2⟩
/-- a store into an instance that is new -/
theorem Old.slot {W : List Addr} {H H' : Hp} {a C dx : Addr} {vs : List (Option V)} (o : Old W H H') (h1 : H a = none) (h2 : H dx = none) : Old W H (SlX.slH H' a C dx vs) := (o.put0 h2).put0 h1
/-! ### dicts with pairs of numbers as keys -/
def k2 (x y : Nat) : List Key := [.inl (x : Int), .inl (y : Int)]
theorem k2_inj {x y a b : Nat} (h : k2 x y = k2 a b) : x = a ∧ y = b := by
  unfold k2 at h
  simp only [List.cons.injEq, Sum.inl.injEq, and_true] at h
  omega
structure KvIs (n : Nat) (kvs : List (List Key × V)) (S : Nat → Nat → Option V) : Prop where
  val : ∀ x y, valV kvs (k2 x y) = S x y
  nd : (kvs.map (·.1)).Nodup
  key : ∀ k ∈ kvs.map (·.1), ∃ x y, x < n ∧ y < n ∧ k = k2 x y
theorem KvIs.nil (n : Nat) : KvIs n [] fun _ _ => none := ⟨fun _ _ => rfl, List.nodup_nil, fun k h => by simp at h⟩
theorem keys_putK {κ : Type} [DecidableEq κ] {kvs : List (κ × V)} {k : κ} {v : V} : (putK kvs k v).map (·.1) = if (kvs.any fun kv => decide (kv.1 = k)) = true then kvs.map (·.1) else kvs.map (·.1) ++ [k] := by
  unfold putK
  split
  · rw [List.map_map]
    apply List.map_congr_left
    intro p _
    show (if p.1 = k then (p.1, v) else p).1 = p.1
    split <;> rfl
  · rw [List.map_append]; rfl
theorem KvIs.put {n : Nat} {kvs : List (List Key × V)} {S : Nat → Nat → Option V} (h : KvIs n kvs S) {x y : Nat} (hx : x < n) (hy : y < n) (v : V) : KvIs n (putK kvs (k2 x y) v) fun a b => if a = x ∧ b = y then some v else S a b := by
  refine ⟨fun a b => ?_, ?_, ?_⟩
  · rw [valV_put, h.val]
    by_cases e : a = x ∧ b = y
    · obtain ⟨rfl, rfl⟩ := e
      rw [if_pos rfl, if_pos ⟨rfl, rfl⟩]
    · rw [if_neg (fun z => e (k2_inj z)), if_neg e]
  · rw [keys_putK]
    split
    · exact h.nd
    · rename_i hn
      rw [List.nodup_append]
      refine ⟨h.nd, by simp, fun a ha b hb => ?_⟩
      have eb : b = k2 x y := by simpa using hb
      subst eb
      intro e
      subst e
      apply hn
      obtain ⟨p, hp, e⟩ := List.mem_map.mp ha
      exact List.any_eq_true.mpr ⟨p, hp, decide_eq_true e⟩
  · rw [keys_putK]
    intro k hk
    split at hk
    · exact h.key k hk
    · rcases List.mem_append.mp hk with hk | hk
      · exact h.key k hk
      · have : k = k2 x y := by simpa using hk
        exact ⟨x, y, hx, hy, this⟩
theorem inj_len {α : Type} (m : Nat) (f : α → Nat) : ∀ (l : List α), l.Nodup → (∀ a ∈ l, f a < m) → (∀ a ∈ l, ∀ b ∈ l, f a = f b → a = b) → l.length ≤ m := fun l nd hf inj => by
  have := PD.fits m (l.map f) (by
    rw [List.Nodup, List.pairwise_map]
    exact List.Pairwise.imp_of_mem (fun ha hb hne e => hne (inj _ ha _ hb e)) nd) (fun x hx => by
      obtain ⟨a, ha, rfl⟩ := List.mem_map.mp hx
      exact hf a ha)
  rw [List.length_map] at this
  exact this
theorem KvIs.len {n : Nat} {kvs : List (List Key × V)} {S : Nat → Nat → Option V} (h : KvIs n kvs S) : kvs.length ≤ n * n := by
  have := inj_len (n * n) (fun k : List Key => match k with | [.inl x, .inl y] => x.toNat * n + y.toNat | _ => 0) (kvs.map (·.1)) h.nd (fun k hk => by
    obtain ⟨x, y, hx, hy, rfl⟩ := h.key k hk
    show ((x : Int)).toNat * n + ((y : Int)).toNat < n * n
    rw [Int.toNat_natCast, Int.toNat_natCast]
    have : (x + 1) * n ≤ n * n := Nat.mul_le_mul_right n hx
    rw [Nat.succ_mul] at this
    omega) (fun k hk k' hk' e => by
    obtain ⟨x, y, hx, hy, rfl⟩ := h.key k hk
    obtain ⟨a, b, ha, hb, rfl⟩ := h.key k' hk'
    have e : ((x : Int)).toNat * n + ((y : Int)).toNat = ((a : Int)).toNat * n + ((b : Int)).toNat := e
    rw [Int.toNat_natCast, Int.toNat_natCast, Int.toNat_natCast, Int.toNat_natCast] at e
    have h1 : (x * n + y) / n = x := by rw [Nat.mul_comm, Nat.mul_add_div (by omega), Nat.div_eq_of_lt hy, Nat.add_zero]
    have h2 : (a * n + b) / n = a := by rw [Nat.mul_comm, Nat.mul_add_div (by omega), Nat.div_eq_of_lt hb, Nat.add_zero]
    have e1 : x = a := by rw [← h1, ← h2, e]
    subst e1
    have e2 : y = b := by omega
    rw [e2])
  rw [List.length_map] at this
  exact this
end L2.PL

namespace L2.PL
open PySem PySem.Spec PyProof.Rows
/-! ### methods, classes and keyword calls as one fact -/
structure MtC (P : Program) (w : World) (K : PySem.W.Frag) (mg : Str → Option Value) (base : Heap) (CX : CXT) (C : Addr) (m : Str) (ps : List Str) (k : Nat) (sp : Sp) : Prop where
  ex : ∃ (g : Addr) (fd : FuncData), Meth K C m g ∧ Binds K fd ps [] ∧ FnOk P w K mg base CX k g fd ps sp
structure MkC (P : Program) (w : World) (K : PySem.W.Frag) (mg : Str → Option Value) (base : Heap) (CX : CXT) (x : Str) (C : Addr) (ps : List Str) (k : Nat) (sp : Sp) : Prop where
  ex : ∃ (g : Addr) (fd : FuncData), mg x = some (.ref C) ∧ Mk K C g ∧ Binds K fd ps [] ∧ FnOk P w K mg base CX k g fd ps sp
structure CalK (P : Program) (w : World) (K : PySem.W.Frag) (mg : Str → Option Value) (base : Heap) (CX : CXT) (x : Str) (ps : List Str) (k : Nat) (sp : Sp) : Prop where
  ex : ∃ (f : Addr) (fd : FuncData), mg x = some (.ref f) ∧ PySem.W.keepIn K (.ref f) = true ∧ KBinds K fd ps ps (fun us ws => us ++ ws) (fun us ws => us ++ ws) ∧ FnOk P w K mg base CX k f fd ps sp
section
variable {X : Cx} {CX : CXT} {j k : Nat} {C : Addr} {ps : List Str} {sp : Sp} {E : XK} {pl : Sem Bool} {o e : Expr} {es : List Expr} {kws : List Keyword} {x m : Str} {ta : TE} {t tk : TA} {p pos apos : Pos}
theorem pe_metC (M : MtC X.prog X.w X.K X.mg X.base CX C m ps k sp) (he : PE X o ta) (c : SlX.SCls X.K C) (hr : Room j X.A) (hx : Passes CX X E) (ha : PA X (e :: es) t) (hk : k ≤ j := by decide)
    (hst : starEach (e :: es) X.env = (false, eval e X.env) :: starEach es X.env := by rfl) (hpl : (backTo pos (starEach es X.env)).any (·.1) = false := by rfl)
    (ht : eval (.Call (.Attribute o m apos) (e :: es) [] pos) X.env = (do
      let ov ← eval o X.env
      standAt apos.atName
      let (f, first) ← holding [ov] (getMethod ov m pl)
      callWith pos f first (backTo pos (starEach (e :: es) X.env)) (backToKw pos (keywordEach [] X.env))) := by rfl) :
    PE X (.Call (.Attribute o m apos) (e :: es) [] pos) (SlX.tMethSl C sp E ta t) := by
  obtain ⟨g, fd, hm, hb, F⟩ := M.ex
  exact pe_methS he c hm F hr hb hx ha hk hst hpl ht
theorem pe_makC (M : MkC X.prog X.w X.K X.mg X.base CX x C ps k sp) (hr : Room j X.A) (hg : Gl X x) (hx : Passes CX X E) (ha : PA X (e :: es) t) (hk : k + 1 ≤ j := by decide)
    (hdb : (x == ("__debug__" : Str)) = false := by decide) (he : starEach (e :: es) X.env = (false, eval e X.env) :: starEach es X.env := by rfl) (hpl : (backTo pos (starEach es X.env)).any (·.1) = false := by rfl) :
    PE X (.Call (.Name x p) (e :: es) [] pos) (tMake C sp [] E t) := by
  obtain ⟨g, fd, hm, mk, hb, F⟩ := M.ex
  exact pe_make mk F (hr.mono hk) hg hm hb .nil hx ha hdb he hpl
theorem pe_calK (M : CalK X.prog X.w X.K X.mg X.base CX x ps k sp) (hr : Room j X.A) (hg : Gl X x) (hx : Passes CX X E) (hkw : PK X kws tk) (hk : k ≤ j := by decide)
    (hall : (backToKw pos (keywordEach kws X.env)).all (·.1.isSome) = true := by rfl) (hks : (backToKw pos (keywordEach kws X.env)).filterMap (·.1) = ps := by rfl)
    (hdb : (x == ("__debug__" : Str)) = false := by decide)
    (hpl : ((backTo pos (starEach [] X.env)).any (·.1) || (backToKw pos (keywordEach kws X.env)).any (·.1.isNone)) = false := by rfl) :
    PE X (.Call (.Name x p) [] kws pos) (L2.tCallK sp (fun us ws => us ++ ws) E tNil tk) := by
  obtain ⟨f, fd, hm, kp, hb, F⟩ := M.ex
  exact pe_callK0 F (hr.mono hk) hg hm kp hb hx hkw hall hks hdb hpl
end
/-- how a keyword alone binds -/
theorem kbinds1 {K : PySem.W.Frag} {x qual p : Str} {st : Stmt} {f : Addr} {fd : FuncData} (F : Fun K x qual st f fd)
    (h1 : ∀ (kV doc pm : Value) (an : Option Addr) (cdv ct u : Value), bindArgs (PySem.W.fnOf x qual (defArgs st) (defBody st) (defScope st) .none kV doc pm an cdv ct) ⟨[u], []⟩ = pure [(p, u)])
    (h2 : ∀ (kV doc pm : Value) (an : Option Addr) (cdv ct u : Value), bindArgs (PySem.W.fnOf x qual (defArgs st) (defBody st) (defScope st) .none kV doc pm an cdv ct) ⟨[], [(p, u)]⟩ = pure [(p, u)]) :
    KBinds K fd [p] [p] (fun us ws => us ++ ws) (fun us ws => us ++ ws) := by
  obtain ⟨oc, od, kV, doc, pm, an, cdv, ct, osl, rfl, lk, hcd⟩ := F.ex
  refine ⟨fun s us ws _ hl => ?_, fun r z => r.append z⟩
  match us, ws, hl with
  | [u], [], _ => exact .of_eq (h1 ..)
  | [], [u], _ => exact .of_eq (h2 ..)
  | [_], _ :: _, hl => simp at hl
  | [], [], hl => simp at hl
  | [], _ :: _ :: _, hl => simp at hl
  | _ :: _ :: _, _, hl => simp at hl
end L2.PL

namespace L2.PL
open PySem PySem.Spec PyProof.Rows
/-! ### zip of a text (of signs below 128) and a list -/
def ItzS (K : PySem.W.Frag) (x : Str) (b : Addr) : It :=
  ⟨fun i H => ∃ (c : Nat) (ys : List V) (y : V), x.cps[i]? = some c ∧ SqL K H b ys ∧ ys[i]? = some y,
    fun i H v H' => ∃ T c y, v = .ref T ∧ H T = none ∧ H' = upd H T (.tup [.str ⟨#[c]⟩, y]) ∧ x.cps[i]? = some c ∧ ∀ ys, SqL K H b ys → ys[i]? = some y,
    fun i H => ∃ ys : List V, SqL K H b ys ∧ i ≤ x.cps.size ∧ i ≤ ys.length ∧ (i = x.cps.size ∨ i = ys.length)⟩
/-- where the parts of such a zip stand, made at n -/
theorem zipSep {n b : Addr} (h : b < n) : ZipSep2 (n + 4) (n + 2) (n + 3) n (n + 1) [n] [n + 1, b] := by
  have h : (b : Nat) < n := h
  refine ⟨?_, ?_, ?_, ?_, by simp, ?_, ?_, ?_, by simp, ?_, ?_, ?_, ?_⟩ <;> simp <;> (try constructor) <;> (first | exact Nat.ne_of_lt (by omega) | exact Nat.ne_of_gt (by omega) | exact Nat.ne_of_gt (Nat.lt_add_right 4 h) | exact Nat.ne_of_gt (Nat.lt_add_right 3 h))
theorem turn_zipS {P : Program} {w : World} {K : PySem.W.Frag} {elts : List Expr} {kk : Nat} {tpos : Pos} {z TI TO i1 i2 b : Addr} {x : Str} {t : Tok} (D : ZipSep2 z TI TO i1 i2 [i1] [i2, b]) (hb : b ≠ i2) :
    Turn P w K (.Tuple elts kk tpos) (ItzS K x b) [z, TI, TO, i1, i2] z (fun i h => IsZip h z TI TO .none ∧ IsTupOf2 h TI (.ref i1) (.ref i2) ∧ (∃ x y, IsTupOf2 h TO x y) ∧ h.IsStrIter i1 "str_ascii_iterator" x t i ∧ h.IsListIter i2 b i) where
  mem := by simp
  obj := fun i h st c hc => by
    obtain ⟨hz, hTI, ⟨x, y, hTO⟩, ⟨o1, e1, _, d1⟩, ⟨o2, e2, _, d2⟩⟩ := st
    simp only [List.mem_cons, List.not_mem_nil, or_false] at hc
    rcases hc with rfl | rfl | rfl | rfl | rfl
    · exact ⟨_, hz, fun v q => nomatch q⟩
    · exact ⟨_, hTI, fun v q => nomatch q⟩
    · exact ⟨_, hTO, fun v q => nomatch q⟩
    · exact ⟨o1, e1, fun v q => by rw [d1] at q; cases q⟩
    · exact ⟨o2, e2, fun v q => by rw [d2] at q; cases q⟩
  keep := fun i h h' st k => by
    obtain ⟨hz, hTI, ⟨x, y, hTO⟩, ⟨o1, e1, r1⟩, h2⟩ := st
    exact ⟨k z (by simp) _ hz, k TI (by simp) _ hTI, ⟨x, y, k TO (by simp) _ hTO⟩, ⟨o1, k i1 (by simp) o1 e1, r1⟩, h2.at fun o q => k i2 (by simp) o q⟩
  item := by
    intro X hP hw hK hc i pins s σ H E I hf st hg
    subst hP hw hK
    obtain ⟨hz, hTI, ⟨x0, y0, hTO⟩, h1, h2⟩ := st
    obtain ⟨c, ys, y, hx, hq, hy⟩ := hg
    obtain ⟨its, rv, p, _⟩ := I.list hq
    obtain ⟨u, hu, ru⟩ := rv.get hy
    have l := rv.length
    have lt1 : i < x.cps.size := (Array.getElem?_eq_some_iff.mp hx).1
    have lt2 : i < its.toArray.size := by have := (List.getElem?_eq_some_iff.mp hy).1; simp; omega
    have D1 := Draws.strAscii (prog := X.prog) (w := X.w) (A := X.A.in1) (I.ok.hd hc) i1 x t
    have D2 := Draws.list (prog := X.prog) (w := X.w) (A := X.A.in1) (I.ok.hd hc) i2 b hb its.toArray
    have hzl : z < s.heap.objs.size := Heap.lt_size hz
    refine wpAny_pyNext_zipD2_item D D1 D2 hz hTI hTO h1 ⟨h2, p.isList⟩ lt1 lt2 fun x1 x2 h' tk q1 q2 z' TO' h1' h2' hT hsz hk => ?_
    obtain ⟨c', tc, hc', rfl⟩ := q1
    rw [hx] at hc'
    cases hc'
    have e2 : x2 = u := by
      have : its[i]? = some x2 := by simpa using q2
      rw [hu] at this
      exact (Option.some.inj this).symm
    subst e2
    refine ⟨_, rfl, wpAny_letOwnedTupleGo_zip (s := { s with heap := h', toks := tk }) z' fun h'' z'' sb => ?_⟩
    have hT2 : h''.get? s.heap.objs.size = some { cls := .type "tuple", data := .seq #[.str ⟨#[c]⟩ tc, x2] } := (sb.2 _ (Nat.ne_of_gt hzl)).trans hT
    have new : ObjOk X.prog X.w (upd H s.heap.objs.size (.tup [.str ⟨#[c]⟩, y])) h'' s.heap.objs.size (.tup [.str ⟨#[c]⟩, y]) :=
      ⟨by show 2 ≤ sizeLine; decide, [.str ⟨#[c]⟩ tc, x2], .cons ⟨tc, rfl⟩ (.cons ru .nil), ⟨_, hT2, rfl, _, rfl⟩⟩
    have I1 : Inv X pins σ (upd H s.heap.objs.size (.tup [.str ⟨#[c]⟩, y])) { s with heap := h'', toks := tk } :=
      I.turnedNew (t' := tk) (ch := [z, TI, TO, i1, i2]) (fun d o n q => by
        simp only [List.mem_cons, List.not_mem_nil, or_false, not_or] at n
        exact (sb.2 d n.1).trans (hk d o n.1 n.2.2.1 n.2.2.2.1 n.2.2.2.2 q)) hf (Nat.le_refl _) new
    refine ⟨.ref s.heap.objs.size, _, I1, rfl, ⟨_, c, y, rfl, I.hok.fresh (Nat.le_refl _), rfl, hx, fun l hl => by rw [I.list_inj hl hq]; exact hy⟩, ⟨z'', ?_, ⟨.str ⟨#[c]⟩ tc, x2, ?_⟩, ?_, ?_⟩, fun d hd => ?_⟩
    · exact (sb.2 _ D.TIz).trans (hk _ _ D.TIz D.TITO D.TIi1 D.TIi2 hTI)
    · exact (sb.2 _ D.TOz).trans TO'
    · obtain ⟨o1, e1, r1⟩ := h1'
      exact ⟨o1, (sb.2 _ D.zi1.symm).trans e1, r1⟩
    · exact h2'.1.at fun o q => (sb.2 _ D.zi2.symm).trans q
    · have hlt : d < s.heap.objs.size := by
        simp only [List.mem_cons, List.not_mem_nil, or_false] at hd
        rcases hd with rfl | rfl | rfl | rfl | rfl
        · exact hzl
        · exact Heap.lt_size hTI
        · exact Heap.lt_size hTO
        · obtain ⟨_, e1, _⟩ := h1; exact Heap.lt_size e1
        · obtain ⟨_, e2, _⟩ := h2; exact Heap.lt_size e2
      rw [upd_ne (Nat.ne_of_lt hlt)]
      exact (hf d hd).1
  done := by
    intro X hP hw hK hc i pins s σ H E I hf st hg
    subst hP hw hK
    obtain ⟨hz, hTI, ⟨x0, y0, hTO⟩, h1, h2⟩ := st
    obtain ⟨ys, hq, le1, le2, hend⟩ := hg
    obtain ⟨its, rv, p, _⟩ := I.list hq
    have l := rv.length
    have D1 := Draws.strAscii (prog := X.prog) (w := X.w) (A := X.A.in1) (I.ok.hd hc) i1 x t
    have D2 := Draws.list (prog := X.prog) (w := X.w) (A := X.A.in1) (I.ok.hd hc) i2 b hb its.toArray
    have hsz : its.toArray.size = ys.length := by simp [l]
    refine wpAny_pyNext_zipD2_end D D1 D2 hz hTI hTO h1 ⟨h2, p.isList⟩ le1 (by omega) (by omega) fun h' tk hk => ⟨rfl, I.turnedL (t' := tk) (ch := [z, TI, TO, i1, i2]) (fun d o n q => ?_) hf⟩
    simp only [List.mem_cons, List.not_mem_nil, or_false, not_or] at n
    exact hk d o n.1 n.2.2.1 n.2.2.2.1 n.2.2.2.2 q
  self := fun A i s Q E st h => wpAny_pyIter_zip st.1 h
abbrev zsA (h : Heap) (x : Str) (t : Tok) : Heap := h.push { cls := .type "str_ascii_iterator", data := .fields #[.str x t, .int 0 0] }
abbrev zsB (h : Heap) (x : Str) (t : Tok) (b : Addr) : Heap := (zsA h x t).push { cls := .type "list_iterator", data := .fields #[.ref b, .int 0 0] }
abbrev zsC (h : Heap) (x : Str) (t : Tok) (b : Addr) : Heap := (zsB h x t b).push { cls := .type "tuple", data := .seq #[.ref h.objs.size, .ref (zsA h x t).objs.size] }
abbrev zsD (h : Heap) (x : Str) (t : Tok) (b : Addr) : Heap := (zsC h x t b).push { cls := .type "tuple", data := .seq #[.none, .none] }
abbrev zsE (h : Heap) (x : Str) (t : Tok) (b : Addr) : Heap := (zsD h x t b).push { cls := .type "zip", data := .fields #[.none, .bool false, .bool false, .ref (zsB h x t b).objs.size, .ref (zsC h x t b).objs.size] }
theorem meets_zipS (x : Str) (t : Tok) (b : Addr) (ys : Array Value) (ha : x.cps.all (· < 128) = true) :
    Meets (Builtin.«zip.__new__» ⟨[.type "zip", .str x t, .ref b], []⟩) (fun _ R s => s.heap.IsList b ys ∧ R (.ok (.ret (.ref (zsD s.heap x t b).objs.size))) { s with heap := zsE s.heap x t b }) :=
  .of_wp fun prog w A R s h => by
    obtain ⟨hp, g, d, tk, os⟩ := s
    obtain ⟨hl, h⟩ := h
    have hsub := sub_zip
    have hL : Heap.IsList (Shared.heap ⟨zsA hp x t, g, d, tk, os⟩) b ys := Heap.IsList.push hl _
    have hI : ∀ {A : Around} {E : Value → Shared → Prop} {Q : Value → Shared → Prop}, Q (.ref hp.objs.size) ⟨zsA hp x t, g, d, tk, os⟩ → wpAny (model prog w) A (pyIter (.str x t)) Q E ⟨hp, g, d, tk, os⟩ := fun q => wpAny_pyIter_ascii ha q
    wp_walk using hI, wpAny_pyIter_list hL
    exact ⟨_, rfl, h⟩
theorem call_zipS {prog : Program} {w : World} {A : Around} {E : Value → Shared → Prop} {s : Shared} {x : Str} {t : Tok} {b : Addr} {ys : Array Value} {Q : Value → Shared → Prop} (ha : x.cps.all (· < 128) = true) (hl : s.heap.IsList b ys)
    (h : ∀ h', IsZip h' (s.heap.objs.size + 4) (s.heap.objs.size + 2) (s.heap.objs.size + 3) .none → IsTupOf2 h' (s.heap.objs.size + 2) (.ref s.heap.objs.size) (.ref (s.heap.objs.size + 1)) → IsTupOf2 h' (s.heap.objs.size + 3) .none .none →
      h'.IsStrIter s.heap.objs.size "str_ascii_iterator" x t 0 → h'.IsListIter (s.heap.objs.size + 1) b 0 → (∀ c o, s.heap.get? c = some o → h'.get? c = some o) → Q (.ref (s.heap.objs.size + 4)) { s with heap := h' }) :
    wpAny (model prog w) A (call (.type "zip") [.str x t, .ref b]) Q E s := by
  refine callType_new PySem.F.called_zip (by decide) (PySem.F.typeCall_zip_2 _ _) (PySem.F.newCall_zip_2 _ _) (fun obj => PySem.F.args_object_init_3 obj _ _) PySem.F.entry_zip_new (meets_zipS x t b ys ha) ⟨hl, ?_⟩
  have zA : (zsA s.heap x t).objs.size = s.heap.objs.size + 1 := Heap.size_push ..
  have zB : (zsB s.heap x t b).objs.size = s.heap.objs.size + 2 := by rw [Heap.size_push, zA]
  have zC : (zsC s.heap x t b).objs.size = s.heap.objs.size + 3 := by rw [Heap.size_push, zB]
  have zD : (zsD s.heap x t b).objs.size = s.heap.objs.size + 4 := by rw [Heap.size_push, zC]
  have up : ∀ {c : Addr} {o : Obj}, (zsA s.heap x t).get? c = some o → (zsE s.heap x t b).get? c = some o := fun e => Heap.get?_push_of_some _ (Heap.get?_push_of_some _ (Heap.get?_push_of_some _ (Heap.get?_push_of_some _ e)))
  have gE : (zsE s.heap x t b).get? (zsD s.heap x t b).objs.size = some _ := Heap.get?_push_size _ rfl
  have gD : (zsE s.heap x t b).get? (zsC s.heap x t b).objs.size = some _ := Heap.get?_push_of_some _ (Heap.get?_push_size _ rfl)
  have gC : (zsE s.heap x t b).get? (zsB s.heap x t b).objs.size = some _ := Heap.get?_push_of_some _ (Heap.get?_push_of_some _ (Heap.get?_push_size _ rfl))
  have gB : (zsE s.heap x t b).get? (zsA s.heap x t).objs.size = some _ := Heap.get?_push_of_some _ (Heap.get?_push_of_some _ (Heap.get?_push_of_some _ (Heap.get?_push_size _ rfl)))
  have gA : (zsE s.heap x t b).get? s.heap.objs.size = some _ := up (Heap.get?_push_size _ rfl)
  have kp : ∀ c o, s.heap.get? c = some o → (zsE s.heap x t b).get? c = some o := fun c o e => up (Heap.get?_push_of_some _ e)
  have iA : (zsE s.heap x t b).IsStrIter s.heap.objs.size "str_ascii_iterator" x t 0 := ⟨_, gA, rfl, rfl⟩
  rw [zA] at gB
  have iB : (zsE s.heap x t b).IsListIter (s.heap.objs.size + 1) b 0 := ⟨_, gB, rfl, rfl⟩
  show _ ∧ _
  rw [zB, zC, zD] at gE
  rw [zC] at gD
  rw [zA, zB] at gC
  rw [zD]
  exact ⟨⟨_, gE, rfl⟩, h _ gE gC gD iA iB kp⟩
def iZipS (K : PySem.W.Frag) (ta : TA) : TI := fun σ H R => ta σ H fun vs H1 => ∃ x b ys, vs = [.str x, .ref b] ∧ x.cps.all (· < 128) = true ∧ SqL K H1 b ys ∧ R (ItzS K x b) H1
theorem pi_zipS {X : Cx} {e e2 : Expr} {ta : TA} {p pos tpos : Pos} {elts : List Expr} {kk : Nat} (hg : Gl X "zip") (hm : X.mg "zip" = none) (ha : PA X [e, e2] ta)
    (hs : starEach [e, e2] X.env = (false, eval e X.env) :: starEach [e2] X.env := by rfl) (hpl : (backTo pos (starEach [e2] X.env)).any (·.1) = false := by rfl) :
    PI X (.Tuple elts kk tpos) (.Call (.Name "zip" p) [e, e2] [] pos) (iZipS X.K ta) := by
  constructor
  intro pins s σ H R I h
  refine Call_ (ld_blt I hg hm PyProof.Rows.boot_zip (PyProof.Rows.callWith_type1 (thn (ha.run pos pins s σ H _ I h) fun us s1 w1 => ?_) hs hpl))
  obtain ⟨vs, H1, I1, r1, q1⟩ := w1
  obtain ⟨x, b, ys, ex, hx, hq, q⟩ := q1
  subst ex
  rcases r1 with _ | ⟨r, r1⟩
  rcases r1 with _ | ⟨r', r1⟩
  cases r1
  · obtain ⟨t, rfl⟩ := r
    cases r'
    obtain ⟨its, rv, p1, _⟩ := I1.list hq
    have lb : b < s1.heap.objs.size := p1.lt
    refine call_zipS hx p1.isList fun h' hz hTI hTO h1 h2 hk => wpAny_pyIter_zip hz ?_
    have I2 : Inv X pins σ H1 { s1 with heap := h' } := I1.kept (t' := s1.toks) hk
    refine ⟨s1.heap.objs.size + 4, [s1.heap.objs.size + 4, s1.heap.objs.size + 2, s1.heap.objs.size + 3, s1.heap.objs.size, s1.heap.objs.size + 1], _, _, H1, rfl, I2, turn_zipS (zipSep lb) (Nat.ne_of_lt (Nat.lt_succ_of_lt lb)), ⟨hz, hTI, ⟨_, _, hTO⟩, h1, h2⟩, fun c hcm => ?_, q⟩
    have hle : s1.heap.objs.size ≤ c := by
      simp only [List.mem_cons, List.not_mem_nil, or_false] at hcm
      rcases hcm with rfl | rfl | rfl | rfl | rfl <;> first | exact Nat.le_refl _ | exact Nat.le_add_right _ _
    exact I1.fpOk hle (I1.hok.fresh hle)
end L2.PL

namespace L2.PL
open PySem PySem.Spec PyProof.Rows
/-! ### a, b, *rest = a tuple -/
/-- a walk that has come to its k-th turn -/
theorem walks_from {prog : Program} {w : World} {A : Around} {I : Addr} {fp wr : List Addr} {n : Nat} {P : Nat → Value → Prop} {St : Nat → Heap → Prop} (W : Walks prog w A I fp wr n P St) {k : Nat} (hk : k ≤ n) :
    Walks prog w A I fp wr (n - k) (fun i v => P (k + i) v) (fun i h => St (k + i) h) where
  sub := W.sub
  frame := fun i h h' st q => W.frame (k + i) h h' st q
  item := fun i s Q E hi st hQ => W.item (k + i) s Q E (by omega) st fun v h' tk p st' q => hQ v h' tk p (by rw [show k + (i + 1) = k + i + 1 by omega]; exact st') q
  done := fun s Q E st hQ => W.done s Q E (by rw [show k + (n - k) = n by omega] at st; exact st) hQ
  self := fun i s Q E st hQ => W.self (k + i) s Q E st hQ
section
variable {prog : Program} {w : World} {A : Around} {E : Value → Shared → Prop} {s : Shared}
theorem unpackItems_star {t : Addr} {items : Array Value} {k : Nat} {Q : List Value → Shared → Prop} (hh : A.handled = none) (ht : Heap.IsTuple s.heap t items) (hk : k ≤ items.size) (hsz : items.size ≤ sizeLine)
    (hQ : ∀ (h' : Heap) (tk : Nat), (∀ b o, s.heap.get? b = some o → h'.get? b = some o) → Q (items.toList.take k ++ [.ref h'.objs.size]) { s with heap := h'.push { cls := .type "list", data := .seq (items.toList.drop k).toArray }, toks := tk }) :
    wpAny (model prog w) A (unpackItems (.ref t) (k + 1) (some k)) Q E s := by
  have hlt : t ≠ s.heap.objs.size := by obtain ⟨o, ho, _⟩ := ht; exact Nat.ne_of_lt (Heap.lt_size ho)
  have htl : t < s.heap.objs.size := by obtain ⟨o, ho, _⟩ := ht; exact Heap.lt_size ho
  unfold unpackItems
  refine wpAny_bind ?_
  unfold notIterableAtAll
  refine wpAny_bind (wpAny_specialOf ht.typeIs PySem.F.slot_tuple_iter.lookup ?_)
  refine wpAny_pure ?_
  simp only [Bool.false_eq_true, if_false]
  refine wpAny_bind (wpAny_holding (wpAny_pyIter_tuple ht ?_))
  refine wpAny_bind (wpAny_holding (wpAny_draw_tuple hlt k 0 _ _ ⟨_, Heap.get?_push_size _ rfl, rfl, rfl⟩ (ht.push _) (by omega) fun h₁ hit₁ hs₁ => ?_))
  have hfirst : List.take k (List.drop 0 items.toList) = items.toList.take k := by rw [List.drop_zero]
  rw [hfirst]
  have hlen : (items.toList.take k).length = k := by rw [List.length_take]; simp; omega
  rw [if_neg (by rw [hlen]; omega)]
  have ht₁ : Heap.IsTuple h₁ t items := (ht.push _).extBut hs₁.extBut hlt
  rw [Nat.zero_add] at hit₁
  have W := walks_from (Walks.tuple (prog := prog) (w := w) (A := A.in1) hh s.heap.objs.size t hlt items) hk
  have sz1 : h₁.objs.size = s.heap.objs.size + 1 := by rw [hs₁.1, Heap.size_push]
  refine wpAny_bind (wpAny_holding ?_)
  refine wpAny_collect_iter (T := "tuple_iterator") (.inr (.inr (.inr rfl))) W.toS (fun i s' st => let ⟨o, e, c, _⟩ := st.1; ⟨o, e, c⟩) ⟨hit₁, ht₁⟩ (fun b hb => ?_) (by simp) (fun s' acc mv hacc => ?_) (by omega)
  · simp only [List.mem_cons, List.not_mem_nil, or_false] at hb
    show b < h₁.objs.size
    rw [sz1]
    rcases hb with rfl | rfl
    · exact Nat.lt_succ_self _
    · exact Nat.lt_succ_of_lt htl
  have eacc : acc.toList = items.toList.drop k := by
    apply List.ext_getElem?
    intro j
    by_cases hj : j < acc.size
    · have e1 : acc.toList[j]? = some acc[j] := by simp [hj]
      have := hacc.2 j acc[j] (by simp [hj])
      rw [e1, List.getElem?_drop, ← this]
      simp
    · have h1 := hacc.1
      rw [List.getElem?_eq_none (by simp; omega), List.getElem?_eq_none (by simp; omega)]
  obtain ⟨hp, hg, hd, hos, htk⟩ := mv
  rw [if_neg (by omega)]
  have e0 : k + 1 - 1 - k = 0 := by omega
  have hold : ∀ b o, s.heap.get? b = some o → s'.heap.get? b = some o := fun b o e => hp b o (by
    simp only [List.mem_cons, List.not_mem_nil, or_false]
    exact Nat.ne_of_lt (Heap.lt_size e)) (hs₁.extBut b o (Nat.ne_of_lt (Heap.lt_size e)) (Heap.get?_push_of_some _ e))
  simp only [e0, Nat.sub_zero]
  rw [List.take_length, List.drop_length, eacc]
  simp only [List.append_nil]
  refine wpAny_bind (wpAny_newList (wpAny_pure ?_) (by simp; omega))
  obtain ⟨heap', gens', drawn', tk', os'⟩ := s'
  cases hg
  cases hd
  cases hos
  exact hQ _ tk' hold
end
/-- the first k of a tuple into names, what is left into a new list -/
def gStar (K : PySem.W.Frag) (k : Nat) (t : TGs) : TG := fun v σ H Q => ∃ a xs, v = .ref a ∧ SqT K H a xs ∧ k ≤ xs.length ∧ ∀ p, H p = none → t (xs.take k ++ [.ref p]) σ (upd H p (.lst (xs.drop k))) Q
section
variable {X : Cx}
theorem pgs_star {e : Expr} {p : Pos} {t : TG} (h1 : PG X e t) (hs : (assignEach [.Starred e p] X.env).map (·.2) = [assign e X.env] := by rfl) : PGs X [.Starred e p] (gCons t gNil) := by
  refine ⟨fun pins s σ H vs us Q I r h => ?_⟩
  obtain ⟨v, vr, e1, h⟩ := h
  subst e1
  cases r with
  | cons r rr =>
    rw [hs]
    refine assignInOrder_cons (thn (h1.run pins s σ H _ _ _ I r h) fun _ s1 w1 => ?_)
    obtain ⟨σ1, H1, I1, e2, q1⟩ := w1
    subst e2
    cases rr
    exact assignInOrder_nil ⟨σ1, H1, I1, q1⟩
theorem pg_star {es : List Expr} {k i : Nat} {pos : Pos} {t : TGs} (hc : X.calm = true) (h : PGs X es t) (hn : (assignEach es X.env).length = k + 1 := by rfl) (hst : (assignEach es X.env).findIdx? (·.1) = some k := by rfl) : PG X (.Tuple es i pos) (gStar X.K k t) := by
  refine ⟨fun pins s σ H v u Q I r hw => ?_⟩
  obtain ⟨a, xs, e1, hq, hl, hw⟩ := hw
  subst e1
  cases r
  obtain ⟨its, rv, ht, hz⟩ := I.tuple hq
  have len := rv.length
  rw [assign_Tuple]
  refine wpAny_bind (wpAny_standAt ?_)
  unfold unpack
  rw [hn, hst]
  refine wpAny_bind (wpAny_holding (unpackItems_star (I.ok.hd hc) ht (by simp; omega) (by simp; omega) fun h' tk hk => ?_))
  have I1 : Inv X pins σ H { s with heap := h', toks := tk } := I.kept (t' := tk) hk
  have rd : Vals (xs.drop k) (its.drop k) := rv.drop k
  have rt : Vals (xs.take k) (its.take k) := rv.take k
  have e1 : its.toArray.toList = its := by simp
  rw [e1]
  have I2 : Inv X pins σ (upd H h'.objs.size (.lst (xs.drop k))) { s with heap := h'.push { cls := .type "list", data := .seq (its.drop k).toArray }, toks := tk } := by
    refine I1.laid (t' := tk) (fun b u e => Heap.get?_push_of_some _ e) (Nat.le_refl _) ?_
    exact ⟨by rw [List.length_drop]; omega, its.drop k, _, rd, Heap.get?_push_size _ rfl⟩
  have fr : H h'.objs.size = none := I1.hok.fresh (Nat.le_refl _)
  have r1 : Vals [V.ref h'.objs.size] [Value.ref h'.objs.size] := .cons rfl .nil
  exact h.run pins _ σ _ _ _ Q I2 (rt.append r1) (hw _ fr)
end
end L2.PL

namespace L2.PL
open PySem PySem.Spec PyProof.Rows
/-! ### d.get of a written dict with text keys -/
structure KDo (K : PySem.W.Frag) (w : World) (a : Addr) (x : Str) (o : Option V) : Prop where
  ex : ∃ es n, K.lookup a = some ⟨.type "dict", none, .dict es n, #[]⟩ ∧ PySem.W.KeysLit w.params es.toList ∧ ∃ r : Option Value, PySem.W.nsIn K a x = some r ∧ (o = none ∧ r = none ∨ ∃ v u, o = some v ∧ r = some u ∧ RelV v u)
  low : (a == sysModules) = false
theorem KDo.hit {K : PySem.W.Frag} {w : World} {a : Addr} {x : Str} {es : Array DictEntry} {n : Nat} {u : Value} {v : V} (h : K.lookup a = some ⟨.type "dict", none, .dict es n, #[]⟩) (k : PySem.W.KeysLit w.params es.toList) (low : (a == sysModules) = false) (e : PySem.W.nsIn K a x = some (some u)) (r : RelV v u) : KDo K w a x (some v) :=
  ⟨⟨es, n, h, k, _, e, .inr ⟨v, u, rfl, rfl, r⟩⟩, low⟩
theorem KDo.miss {K : PySem.W.Frag} {w : World} {a : Addr} {x : Str} {es : Array DictEntry} {n : Nat} (h : K.lookup a = some ⟨.type "dict", none, .dict es n, #[]⟩) (k : PySem.W.KeysLit w.params es.toList) (low : (a == sysModules) = false) (e : PySem.W.nsIn K a x = some none) : KDo K w a x none :=
  ⟨⟨es, n, h, k, _, e, .inl ⟨rfl, rfl⟩⟩, low⟩
/-- a is a written dict -/
def IsKD (K : PySem.W.Frag) (a : Addr) : Prop := ∃ es n, K.lookup a = some ⟨.type "dict", none, .dict es n, #[]⟩
theorem KDo.is {K : PySem.W.Frag} {w : World} {a : Addr} {x : Str} {o : Option V} (k : KDo K w a x o) : IsKD K a := let ⟨⟨es, n, h, _⟩, _⟩ := k; ⟨es, n, h⟩
def tKGet1 (K : PySem.W.Frag) (w : World) (td ty : TE) : TE := fun σ H Q => td σ H fun x H1 => ∃ a, x = .ref a ∧ IsKD K a ∧ ty σ H1 fun y H2 => ∃ z o, y = .str z ∧ KDo K w a z o ∧ Q (o.getD .non) H2
def tKGet2 (K : PySem.W.Frag) (w : World) (td ty tx : TE) : TE := fun σ H Q => td σ H fun x H1 => ∃ a, x = .ref a ∧ IsKD K a ∧ ty σ H1 fun y H2 => tx σ H2 fun d H3 => ∃ z o, y = .str z ∧ KDo K w a z o ∧ Q (o.getD d) H3
section
variable {X : Cx} {o e f : Expr} {apos cpos : Pos} {td ty tx : TE}
theorem kd_at {pins : List (Addr × Obj)} {σ : L2.St} {H : Hp} {s : Shared} {a : Addr} (I : Inv X pins σ H s) (k : IsKD X.K a) : s.TypeIs (.ref a) "dict" ∧ ∀ b, Value.ref a = .ref b → ∃ ob, s.heap.get? b = some ob ∧ ob.dict = none := by
  obtain ⟨es, n, h⟩ := k
  have g := I.kIn _ _ h
  refine ⟨⟨_, g, rfl⟩, fun b q => ?_⟩
  cases q
  exact ⟨_, g, rfl⟩
theorem KDo.out {P : Program} {w : World} {K : PySem.W.Frag} {h : Heap} {a : Addr} {z : Str} {ov : Option V} (X : K.In h) (k : KDo K w a z ov) :
    ∃ g : Str → Option Value, h.MapOf (strKind P w) a g ∧ ∀ (d : V) (u : Value), RelV d u → RelV (ov.getD d) ((g z).getD u) := by
  obtain ⟨⟨es, n, lk, kl, r, e, c⟩, _⟩ := k
  refine ⟨_, PySem.W.mapOf_K (prog := P) (w := w) X lk kl, fun d u rd => ?_⟩
  have q := PySem.W.find_K lk e
  show RelV _ ((findBy Value.isStrOf es z).getD u)
  rw [q]
  rcases c with ⟨rfl, rfl⟩ | ⟨v, w', rfl, rfl, r⟩
  · exact rd
  · exact r
theorem pe_kget1 (ho : PE X o td) (he : PE X e ty) (m : M1 X o "get" apos e cpos) : PE X (.Call (.Attribute o "get" apos) [e] [] cpos) (tKGet1 X.K X.w td ty) := by
  constructor
  intro pins s σ H Q I h
  refine wpAny_Call_method m.base m.few m.line PySem.F.plainAttrs_dict PySem.F.slot_dict_get PySem.F.type_dict_get (thn (ho.run pins s σ H _ I h) fun u s1 w1 => ?_)
  obtain ⟨x, H1, I1, rx, a, ex, kd, q1⟩ := w1
  subst ex
  obtain rfl : u = Value.ref a := rx
  refine ⟨(kd_at I1 kd).1, (kd_at I1 kd).2, ?_⟩
  rw [m.trees]
  refine Calls.callWith_builtin rfl (Calls.evalArgs_plain (Calls.spliced_cons (thn (he.run pins s1 σ H1 _ I1 q1) fun iv s2 w2 => Calls.spliced_nil ?_)))
  obtain ⟨y, H2, I2, ry, z, ov, ey, k, q2⟩ := w2
  subst ey
  obtain ⟨t, rfl⟩ := ry
  obtain ⟨g, mo, val⟩ := KDo.out (P := X.prog) I2.kIn k
  refine call_meetsIn PySem.F.slot_dict_get (kd_at I2 kd).1 PySem.F.entry_dict_get (PySem.F.args_dict_get_2 _ _) (meets_dict_get (strKind X.prog X.w) a (strKind_is X.prog X.w z t) k.low) ⟨g, mo, ?_⟩
  exact ⟨_, H2, I2.tok _, val .non .none rfl, q2⟩
theorem pe_kget2 (ho : PE X o td) (he : PE X e ty) (hf : PE X f tx) (m : M2 X o "get" apos e f cpos) : PE X (.Call (.Attribute o "get" apos) [e, f] [] cpos) (tKGet2 X.K X.w td ty tx) := by
  constructor
  intro pins s σ H Q I h
  refine wpAny_Call_method m.base m.few m.line PySem.F.plainAttrs_dict PySem.F.slot_dict_get PySem.F.type_dict_get (thn (ho.run pins s σ H _ I h) fun u s1 w1 => ?_)
  obtain ⟨x, H1, I1, rx, a, ex, kd, q1⟩ := w1
  subst ex
  obtain rfl : u = Value.ref a := rx
  refine ⟨(kd_at I1 kd).1, (kd_at I1 kd).2, ?_⟩
  rw [m.trees]
  refine Calls.callWith_builtin rfl (Calls.evalArgs_plain (Calls.spliced_cons (thn (he.run pins s1 σ H1 _ I1 q1) fun iv s2 w2 => ?_)))
  obtain ⟨y, H2, I2, ry, q2⟩ := w2
  refine Calls.spliced_cons (thn (hf.run pins s2 σ H2 _ I2 q2) fun fv s3 w3 => Calls.spliced_nil ?_)
  obtain ⟨d, H3, I3, rd, z, ov, ey, k, q3⟩ := w3
  subst ey
  obtain ⟨t, rfl⟩ := ry
  obtain ⟨g, mo, val⟩ := KDo.out (P := X.prog) I3.kIn k
  refine call_meetsIn PySem.F.slot_dict_get (kd_at I3 kd).1 PySem.F.entry_dict_get (PySem.F.args_dict_get_3 _ _ _) (meets_dict_get_default (strKind X.prog X.w) a (strKind_is X.prog X.w z t) k.low fv) ⟨g, mo, ?_⟩
  exact ⟨_, H3, I3.tok _, val d fv rd, q3⟩
/-! ### str of a number or a text -/
theorem call_str_any : CallR X (.type "str") (fun xs H Q => (∃ i : Int, xs = [.int i] ∧ i.natAbs.log2 < 1920 ∧ Q (.str (toString i)) H) ∨ ∃ a, xs = [.str a] ∧ Q (.str a) H) := by
  intro pins s σ H xs us Q I r h
  rcases h with h | h
  · exact call_str_int pins s σ H xs us Q I r h
  · exact SkE.call_str_str pins s σ H xs us Q I r h
/-! ### d.update(d2) -/
def tDUpd (td te : TE) : TE := fun σ H Q => td σ H fun x H1 => ∃ a, x = .ref a ∧ IsD H1 a ∧ te σ H1 fun y H2 => ∃ (b : Addr) (kvs ls : List (Key × V)), y = .ref b ∧ a ≠ b ∧ H2 a = some (.dK kvs) ∧ H2 b = some (.dK ls) ∧ kvs.length + ls.length ≤ sizeLine ∧ Q .non (upd H2 a (.dK (mergeK kvs ls)))
theorem pe_dupd (ho : PE X o td) (he : PE X e ty) (m : M1 X o "update" apos e cpos) : PE X (.Call (.Attribute o "update" apos) [e] [] cpos) (tDUpd td ty) := by
  constructor
  intro pins s σ H Q I h
  refine wpAny_Call_method m.base m.few m.line PySem.F.plainAttrs_dict PySem.F.slot_dict_update PySem.F.type_dict_update (thn (ho.run pins s σ H _ I h) fun u s1 w1 => ?_)
  obtain ⟨x, H1, I1, rx, a, ex, d, q1⟩ := w1
  subst ex
  obtain rfl : u = Value.ref a := rx
  obtain ⟨t1, t2, _⟩ := isD_at I1 d
  refine ⟨t1, t2, ?_⟩
  rw [m.trees]
  refine Calls.callWith_builtin rfl (Calls.evalArgs_plain (Calls.spliced_cons (thn (he.run pins s1 σ H1 _ I1 q1) fun iv s2 w2 => Calls.spliced_nil ?_)))
  obtain ⟨y, H2, I2, ry, b, kvs, ls, ey, hne, ha, hb, hsz, q2⟩ := w2
  subst ey
  obtain rfl : iv = Value.ref b := ry
  obtain ⟨z1, l1, vs, r1, d1⟩ := dk_of I2.hok ha
  obtain ⟨z2, l2, ws, r2, d2⟩ := dk_of I2.hok hb
  refine call_meetsIn PySem.F.slot_dict_update d1.typeIs PySem.F.entry_dict_update (PySem.F.args_dict_update_2 _ _) (meets_dict_update (mixKind X.prog X.w) a b hne l2) ⟨vs, ws, d1, d2, ?_, fun h' dd _ hs => ?_⟩
  · rw [← r1.length, ← r2.length]; exact hsz
  · have hz : (mergeK kvs ls).length ≤ sizeLine := Nat.le_trans (length_mergeK ls kvs) hsz
    have he : ∃ q, h'.get? a = some q := let ⟨q, _, _, hq, _⟩ := dd; ⟨q, hq⟩
    exact ⟨.non, _, d_write I2 (by rw [ha]; exact True.intro) hs he (dk_new hz l1 (r2.merge r1) dd), rfl, q2⟩
end
/-! ### a property of a class with slots, as one fact -/
structure PrC (P : Program) (w : World) (K : PySem.W.Frag) (mg : Str → Option Value) (base : Heap) (CX : CXT) (C : Addr) (f : Str) (k : Nat) (sp : Sp) : Prop where
  ex : ∃ p g rest, PySem.W.findIn K (.ref C) f = some (some (.ref p)) ∧ PySem.W.specialIn K (.ref p) "__get__" = some (some (.builtin "property.__get__")) ∧ PySem.W.takesIn K (.ref p) = some true ∧ PySem.W.recIn K p "property" = some (.ref g :: rest) ∧ FnR P w K mg base CX k g sp
section
variable {X : Cx} {e : Expr} {f : Str} {pos : Pos} {ta : TE} {C : Addr} {j k : Nat} {sp : Sp}
theorem pe_prC (M : PrC X.prog X.w X.K X.mg X.base CX0 C f k sp) (he : PE X e ta) (c : SlX.SCls X.K C) (hr : Room j X.A) (hk : k + 1 ≤ j := by decide) (hb : attributeBase e f X.env (eval e X.env) = eval e X.env := by rfl) : PE X (.Attribute e f pos) (SlX.tPropSl C sp E0 ta) := by
  obtain ⟨p, g, rest, h1, h2, h3, h4, F⟩ := M.ex
  exact SlX.pe_propSl he c h1 h2 h3 ⟨rest, h4⟩ F (hr.mono hk) (fun _ _ _ _ h => h) hb
/-! ### two arguments by keywords, in the other sequence -/
def swp {α : Type} : List α → List α → List α
  | [], [a, b] => [b, a]
  | _, _ => []
structure CalW (P : Program) (w : World) (K : PySem.W.Frag) (mg : Str → Option Value) (base : Heap) (CX : CXT) (x : Str) (ps : List Str) (k : Nat) (sp : Sp) : Prop where
  ex : ∃ (f : Addr) (fd : FuncData), mg x = some (.ref f) ∧ PySem.W.keepIn K (.ref f) = true ∧ KBinds K fd ps ps.reverse swp swp ∧ FnOk P w K mg base CX k f fd ps sp
theorem pe_calW {CX : CXT} {ps : List Str} {E : XK} {kws : List Keyword} {x : Str} {tk : TA} {p : Pos} (M : CalW X.prog X.w X.K X.mg X.base CX x ps k sp) (hr : Room j X.A) (hg : Gl X x) (hx : Passes CX X E) (hkw : PK X kws tk) (hk : k ≤ j := by decide)
    (hall : (backToKw pos (keywordEach kws X.env)).all (·.1.isSome) = true := by rfl) (hks : (backToKw pos (keywordEach kws X.env)).filterMap (·.1) = ps.reverse := by rfl)
    (hdb : (x == ("__debug__" : Str)) = false := by decide)
    (hpl : ((backTo pos (starEach [] X.env)).any (·.1) || (backToKw pos (keywordEach kws X.env)).any (·.1.isNone)) = false := by rfl) :
    PE X (.Call (.Name x p) [] kws pos) (L2.tCallK sp swp E tNil tk) := by
  obtain ⟨f, fd, hm, kp, hb, F⟩ := M.ex
  exact pe_callK0 F (hr.mono hk) hg hm kp hb hx hkw hall hks hdb hpl
end
theorem kbinds2 {K : PySem.W.Frag} {x qual p q : Str} {st : Stmt} {f : Addr} {fd : FuncData} (F : Fun K x qual st f fd)
    (h : ∀ (kV doc pm : Value) (an : Option Addr) (cdv ct u v : Value), bindArgs (PySem.W.fnOf x qual (defArgs st) (defBody st) (defScope st) .none kV doc pm an cdv ct) ⟨[], [(q, v), (p, u)]⟩ = pure [(p, u), (q, v)]) :
    KBinds K fd [p, q] [q, p] swp swp := by
  obtain ⟨oc, od, kV, doc, pm, an, cdv, ct, osl, rfl, lk, hcd⟩ := F.ex
  refine ⟨fun s us ws _ hl => ?_, fun {vs us zs ws} r z => ?_⟩
  · match us, ws, hl with
    | [], [v, u], _ => exact .of_eq (h ..)
    | _ :: _, _, hl => simp [swp] at hl
    | [], [], hl => simp [swp] at hl
    | [], [_], hl => simp [swp] at hl
    | [], _ :: _ :: _ :: _, hl => simp [swp] at hl
  · cases r with
    | nil =>
      cases z with
      | nil => exact .nil
      | cons a z =>
        cases z with
        | nil => exact .nil
        | cons b z =>
          cases z with
          | nil => exact .cons b (.cons a .nil)
          | cons c z => exact .nil
    | cons a r => exact .nil
end L2.PL

/-! programs as plain data: instructions, their texts, their run -/
namespace L2.PR
open PySem PySem.Spec PyProof.Rows L2.PL
abbrev tl (x : Str) : List Nat := x.cps.toList
def rg (r : Nat) : Str := ⟨#[97 + r]⟩
theorem rg_inj {r s : Nat} (h : rg r = rg s) : r = s := by
  have h1 : #[97 + r] = #[97 + s] := congrArg Str.cps h
  have h2 := congrArg (fun a => a[0]?) h1
  simp at h2
  exact h2
def num (i : Int) : Str := Str.ofString (toString i)
theorem num_nat (n : Nat) : tl (num (n : Int)) = TL.numL n := TL.tl_num n
theorem num_neg {i : Int} (h : i < 0) : tl (num i) = 45 :: TL.numL i.natAbs := by
  unfold num
  rw [toString_neg h]
  have e : (0 - i : Int) = ((i.natAbs : Nat) : Int) := by omega
  rw [e]
  have t : tl (Str.ofString ("-" ++ toString ((i.natAbs : Nat) : Int))) = ("-" ++ toString ((i.natAbs : Nat) : Int)).toList.map Char.toNat := TL.tl_ofString _
  rw [t, String.toList_append, List.map_append]
  have t2 : tl (Str.ofString (toString ((i.natAbs : Nat) : Int))) = (toString ((i.natAbs : Nat) : Int)).toList.map Char.toNat := TL.tl_ofString _
  rw [← t2, show tl (Str.ofString (toString ((i.natAbs : Nat) : Int))) = TL.numL i.natAbs from TL.tl_num _]
  rfl
inductive Arg where
  | r (i : Nat)
  | n (i : Int)
  | l (g : Nat)
def Arg.txt : Arg → Str
  | .r i => rg i
  | .n i => num i
  | .l g => num (g : Int)
def Arg.v : Arg → V
  | .r i => .str (rg i)
  | .n i => .int i
  | .l g => .int (g : Int)
def Arg.d : Arg → PyData
  | .r i => .str (rg i)
  | .n i => .int i
  | .l g => .int (g : Int)
def Arg.kind : Arg → Nat
  | .r _ => 114
  | .n _ => 110
  | .l _ => 108
/-- sound as the number-th line's -/
def Arg.ok (number : Nat) : Arg → Prop
  | .r i => i < 6
  | .n i => -9999 ≤ i ∧ i ≤ 9999
  | .l g => number < g ∧ g ≤ 200
inductive Ins where
  | set (r : Nat) (n : Int)
  | copy (r s : Nat)
  | add (r : Nat) (n : Int)
  | length (r : Nat)
  | load (r s : Nat) (n : Int)
  | jump (l : Nat)
  | less (r s : Nat) (n : Int) (l : Nat)
  | atmost (r : Nat) (n : Int) (l : Nat)
  | same (r : Nat) (n : Int) (l : Nat)
  | pass
  | drop
def word : Ins → Str
  | .set .. => "set"
  | .copy .. => "copy"
  | .add .. => "add"
  | .length .. => "length"
  | .load .. => "load"
  | .jump .. => "jump"
  | .less .. => "less"
  | .atmost .. => "atmost"
  | .same .. => "same"
  | .pass => "pass"
  | .drop => "drop"
def args : Ins → List Arg
  | .set r n => [.r r, .n n]
  | .copy r s => [.r r, .r s]
  | .add r n => [.r r, .n n]
  | .length r => [.r r]
  | .load r s n => [.r r, .r s, .n n]
  | .jump l => [.l l]
  | .less r s n l => [.r r, .r s, .n n, .l l]
  | .atmost r n l => [.r r, .n n, .l l]
  | .same r n l => [.r r, .n n, .l l]
  | .pass => []
  | .drop => []
def insV (i : Ins) : List V := .str (word i) :: (args i).map Arg.v
def insD (i : Ins) : PyData := .tuple (.str (word i) :: (args i).map Arg.d)
def insOk (number : Nat) (i : Ins) : Prop := ∀ a ∈ args i, a.ok number
def linesD (is : List Ins) : PyData := .tuple (is.map insD)
/-! ### texts -/
def wordsS (i : Ins) : List Str := word i :: (args i).map Arg.txt
def lineS (i : Ins) : Str := Txt.join " " (wordsS i)
def progS (is : List Ins) : Str := Txt.join "\n" (is.map lineS)
theorem num_free (i : Int) {s : Nat} (h : s < 45) : s ∉ tl (num i) := by
  by_cases c : i < 0
  · rw [num_neg c]
    intro m
    rcases List.mem_cons.mp m with m | m
    · omega
    · exact TL.numL_free (.inl (by omega)) m
  · obtain ⟨n, rfl⟩ : ∃ n : Nat, i = (n : Int) := ⟨i.toNat, by omega⟩
    rw [num_nat]
    exact TL.numL_free (.inl (by omega))
theorem arg_free (a : Arg) {s : Nat} (h : s < 45) : s ∉ tl a.txt := by
  cases a with
  | r i =>
    intro m
    have m : s ∈ [97 + i] := m
    simp at m
    omega
  | n i => exact num_free i h
  | l g => exact num_free _ h
theorem word_free (i : Ins) {s : Nat} (h : s = 10 ∨ s = 32) : s ∉ tl (word i) := by
  rcases h with rfl | rfl <;> cases i <;> simp only [word] <;> decide +kernel
theorem words_free (i : Ins) {s : Nat} (h : s = 10 ∨ s = 32) : ∀ p ∈ wordsS i, s ∉ tl p := by
  intro p hp
  rcases List.mem_cons.mp hp with rfl | hp
  · exact word_free i h
  · obtain ⟨a, _, rfl⟩ := List.mem_map.mp hp
    exact arg_free a (by omega)
theorem line_split (i : Ins) : Txt.split (lineS i) " " = wordsS i :=
  TL.split_join (y := " ") (s := 32) (S := []) (by decide +kernel) (by decide +kernel) (by simp [wordsS]) (words_free i (.inr rfl))
theorem joinL_free {s : Nat} {S : List Nat} (h : s ∉ S) : ∀ {ps : List (List Nat)}, (∀ p ∈ ps, s ∉ p) → s ∉ TL.joinL S ps
  | [], _ => by intro m; cases m
  | [p], hp => hp p (.head _)
  | p :: q :: r, hp => by
    show s ∉ p ++ (S ++ TL.joinL S (q :: r))
    rw [List.mem_append, List.mem_append]
    rintro (m | m | m)
    · exact hp p (.head _) m
    · exact h m
    · exact joinL_free h (fun x hx => hp x (.tail _ hx)) m
theorem line_free (i : Ins) : 10 ∉ tl (lineS i) := by
  unfold lineS
  rw [TL.join_eq]
  have := TL.tl_join " " (wordsS i)
  rw [show tl (Str.join " " (wordsS i)) = TL.tl (Str.join " " (wordsS i)) from rfl, this]
  refine joinL_free (by decide +kernel) fun p hp => ?_
  obtain ⟨x, hx, rfl⟩ := List.mem_map.mp hp
  exact words_free i (.inl rfl) x hx
theorem prog_split {is : List Ins} (h : is ≠ []) : Txt.split (progS is) "\n" = is.map lineS :=
  TL.split_join (y := "\n") (s := 10) (S := []) (by decide +kernel) (by decide +kernel) (by simp [h]) fun p hp => by
    obtain ⟨i, _, rfl⟩ := List.mem_map.mp hp
    exact line_free i
/-! ### how long -/
theorem num_len {i : Int} (h1 : -9999 ≤ i) (h2 : i ≤ 9999) : (tl (num i)).length ≤ 5 := by
  by_cases c : i < 0
  · rw [num_neg c]
    have := TL.numL_len (n := i.natAbs) (k := 4) (by decide) (by omega)
    simp; omega
  · obtain ⟨n, rfl⟩ : ∃ n : Nat, i = (n : Int) := ⟨i.toNat, by omega⟩
    rw [num_nat]
    have := TL.numL_len (n := n) (k := 4) (by decide) (by omega)
    omega
/-! ### the run -/
abbrev Mem := Nat → Option Int
def put (m : Mem) (r : Nat) (v : Int) : Mem := fun x => if x = r then some v else m x
/-- places and registers that must be set -/
def needs : Ins → List (Nat × Nat)
  | .copy _ s => [(2, s)]
  | .add r _ => [(1, r)]
  | .load _ s _ => [(2, s)]
  | .less r s _ _ => [(1, r), (2, s)]
  | .atmost r _ _ => [(1, r)]
  | .same r _ _ => [(1, r)]
  | _ => []
def unset (i : Ins) (m : Mem) : Bool := (needs i).any fun p => (m p.2).isNone
inductive Told where
  | passed (at_ : Nat)
  | dropped (at_ : Nat)
  | unset (at_ : Nat)
  | beyond (at_ : Nat)
  | end_ (at_ : Nat)
def toldV : Told → List V
  | .passed a => [.str "pass", .int (a : Int)]
  | .dropped a => [.str "drop", .int (a : Int)]
  | .unset a => [.str "wrong", .int (a : Int), .str "unset"]
  | .beyond a => [.str "wrong", .int (a : Int), .str "beyond"]
  | .end_ a => [.str "wrong", .int (a : Int), .str "end"]
def toldL : Told → List PyData
  | .passed a => [.str "pass", .int (a : Int)]
  | .dropped a => [.str "drop", .int (a : Int)]
  | .unset a => [.str "wrong", .int (a : Int), .str "unset"]
  | .beyond a => [.str "wrong", .int (a : Int), .str "beyond"]
  | .end_ a => [.str "wrong", .int (a : Int), .str "end"]
inductive Step where
  | stop (t : Told)
  | go (at_ : Nat) (m : Mem)
def val (m : Mem) (r : Nat) : Int := (m r).getD 0
/-- does a jump go to its goal -/
def goes (m : Mem) : Ins → Bool
  | .jump _ => true
  | .less r s n _ => decide (val m r - val m s ≤ n)
  | .atmost r n _ => decide (val m r ≤ n)
  | .same r n _ => decide (val m r = n)
  | _ => false
/-- a store: none where a load is beyond -/
def stores (pk : List Int) (m : Mem) : Ins → Option Mem
  | .set r n => some (put m r n)
  | .copy r s => some (put m r (val m s))
  | .add r n => some (put m r (val m r + n))
  | .length r => some (put m r (pk.length : Int))
  | .load r s n => if 0 ≤ val m s + n ∧ val m s + n < (pk.length : Int) then some (put m r (pk.getD (val m s + n).toNat 0)) else none
  | _ => none
def goal : Ins → Nat
  | .jump l => l
  | .less _ _ _ l => l
  | .atmost _ _ l => l
  | .same _ _ l => l
  | _ => 0
def isEnd : Ins → Bool
  | .pass => true
  | .drop => true
  | _ => false
def isJump : Ins → Bool
  | .jump _ => true
  | .less .. => true
  | .atmost .. => true
  | .same .. => true
  | _ => false
def step (pk : List Int) (a : Nat) (m : Mem) (i : Ins) : Step :=
  match i with
  | .pass => .stop (.passed a)
  | .drop => .stop (.dropped a)
  | i => if unset i m = true then .stop (.unset a)
    else if isJump i = true then .go (if goes m i = true then goal i else a + 1) m
    else match stores pk m i with
      | some m' => .go (a + 1) m'
      | none => .stop (.beyond a)
def exec (is : List Ins) (pk : List Int) : Nat → Nat → Mem → List Nat → List Nat × Told
  | 0, _, _, came => (came, .end_ is.length)
  | F + 1, a, m, came => match is[a]? with
    | none => (came, .end_ is.length)
    | some i => match step pk a m i with
      | .stop t => (came ++ [a], t)
      | .go a' m' => exec is pk F a' m' (came ++ [a])
/-- what run and trace tell -/
def run (is : List Ins) (pk : List Int) : List Nat × Told := exec is pk (is.length + 1) 0 (fun _ => none) []
/-! ### a memory as a dict -/
structure MemIs (kvs : List (Key × V)) (m : Mem) : Prop where
  val : ∀ r, valV kvs (.inr (rg r)) = (m r).map V.int
theorem MemIs.nil : MemIs [] fun _ => none := ⟨fun _ => rfl⟩
theorem MemIs.put {kvs : List (Key × V)} {m : Mem} (h : MemIs kvs m) (r : Nat) (v : Int) : MemIs (putK kvs (.inr (rg r)) (.int v)) (put m r v) := by
  refine ⟨fun x => ?_⟩
  rw [valV_put, h.val]
  unfold PR.put
  by_cases e : x = r
  · subst e
    rw [if_pos rfl, if_pos rfl]; rfl
  · rw [if_neg e, if_neg (fun z => e (rg_inj (Sum.inr.inj z)))]
end L2.PR
namespace L2.PR
open PySem PySem.Spec PyProof.Rows L2.PL
theorem joinL_len (S : List Nat) : ∀ ps : List (List Nat), (TL.joinL S ps).length ≤ (ps.map fun p => p.length + S.length).sum
  | [] => Nat.le_refl _
  | [p] => by show p.length ≤ p.length + S.length + 0; omega
  | p :: q :: r => by
    have := joinL_len S (q :: r)
    show (p ++ (S ++ TL.joinL S (q :: r))).length ≤ p.length + S.length + ((q :: r).map fun p => p.length + S.length).sum
    rw [List.length_append, List.length_append]
    omega
theorem sum_le {α : Type} (f : α → Nat) (c : Nat) : ∀ l : List α, (∀ a ∈ l, f a ≤ c) → (l.map f).sum ≤ l.length * c
  | [], _ => Nat.zero_le _
  | a :: l, h => by
    have h1 := h a (.head _)
    have h2 := sum_le f c l fun b hb => h b (.tail _ hb)
    rw [List.map_cons, List.sum_cons, List.length_cons, Nat.succ_mul]
    omega
theorem join_len (y : Str) (ps : List Str) (c : Nat) (h : ∀ p ∈ ps, (tl p).length ≤ c) : (Txt.join y ps).length ≤ ps.length * (c + (tl y).length) := by
  have e : (Txt.join y ps).length = (tl (Txt.join y ps)).length := TL.len_tl _
  have t : tl (Txt.join y ps) = TL.joinL (tl y) (ps.map tl) := by rw [TL.join_eq]; exact TL.tl_join y ps
  rw [e, t]
  refine Nat.le_trans (joinL_len _ _) ?_
  rw [List.map_map]
  exact sum_le _ _ ps fun p hp => by have := h p hp; show (tl p).length + (tl y).length ≤ _; omega
theorem args_len (i : Ins) : (args i).length ≤ 4 := by cases i <;> simp [args]
theorem word_len (i : Ins) : (tl (word i)).length ≤ 6 := by cases i <;> simp only [word] <;> decide +kernel
theorem words_len {i : Ins} {number : Nat} (ok : insOk number i) : ∀ p ∈ wordsS i, (tl p).length ≤ 6 := by
  intro p hp
  rcases List.mem_cons.mp hp with rfl | hp
  · exact word_len i
  · obtain ⟨a, ha, rfl⟩ := List.mem_map.mp hp
    have k := ok a ha
    cases a with
    | r i => show ([97 + i] : List Nat).length ≤ 6; simp
    | n i => exact Nat.le_trans (num_len k.1 k.2) (by decide)
    | l g =>
      have k : number < g ∧ g ≤ 200 := k
      exact Nat.le_trans (num_len (i := (g : Int)) (by omega) (by omega)) (by decide)
theorem line_len {i : Ins} {number : Nat} (ok : insOk number i) : (lineS i).length ≤ 35 := by
  have h := join_len " " (wordsS i) 6 (words_len ok)
  have e : (tl (" " : Str)).length = 1 := by decide +kernel
  rw [e] at h
  have l : (wordsS i).length ≤ 5 := by
    show ((args i).map Arg.txt).length + 1 ≤ 5
    rw [List.length_map]
    have := args_len i
    omega
  have : (wordsS i).length * (6 + 1) ≤ 5 * (6 + 1) := Nat.mul_le_mul_right _ l
  exact Nat.le_trans h this
theorem insV_flat (i : Ins) : ((args i).map Arg.v).all flatV = true := by
  rw [List.all_eq_true]
  intro v hv
  obtain ⟨a, _, rfl⟩ := List.mem_map.mp hv
  cases a <;> rfl
theorem insV_in (i : Ins) : inV .non ((args i).map Arg.v) = false := by
  unfold inV
  rw [List.any_eq_false]
  intro v hv
  obtain ⟨a, _, rfl⟩ := List.mem_map.mp hv
  cases a <;> (intro z; cases z)
end L2.PR
namespace L2.PR
open PySem PySem.Spec PyProof.Rows L2.PL
theorem prog_len {is : List Ins} (h : is.length ≤ 200) (ok : ∀ (k : Nat) i, is[k]? = some i → insOk k i) : (progS is).length ≤ 7200 := by
  have := join_len "\n" (is.map lineS) 35 (fun p hp => by
    obtain ⟨i, hi, rfl⟩ := List.mem_map.mp hp
    obtain ⟨k, hk, e⟩ := List.mem_iff_getElem.mp hi
    have := line_len (ok k i (by rw [List.getElem?_eq_getElem hk, e]))
    have e2 : (lineS i).length = (tl (lineS i)).length := TL.len_tl _
    omega)
  have e : (tl ("\n" : Str)).length = 1 := by decide +kernel
  rw [e, List.length_map] at this
  have : is.length * (35 + 1) ≤ 200 * (35 + 1) := Nat.mul_le_mul_right _ h
  unfold progS
  omega
end L2.PR

namespace L2.PL
open PySem PySem.Spec PyProof.Rows
theorem walk_zipS {K : PySem.W.Frag} {x : Str} {b : Addr} {ys : List V} (hl : x.cps.size = ys.length) : Walk (ItzS K x b) ys.length (fun H => SqL K H b ys) (fun i H v H' => ∃ T c y, v = .ref T ∧ H T = none ∧ H' = upd H T (.tup [.str ⟨#[c]⟩, y]) ∧ x.cps[i]? = some c ∧ ys[i]? = some y) := by
  refine ⟨fun i H hi q => ⟨x.cps[i]'(by omega), ys, ys[i], by simp [hl ▸ hi], q, by simp [hi]⟩, fun H q => ⟨ys, q, by omega, Nat.le_refl _, .inr rfl⟩, fun i H v H' hi q y => ?_⟩
  obtain ⟨T, c, z, h1, h2, h3, h4, h5⟩ := y
  exact ⟨T, c, z, h1, h2, h3, h4, h5 ys q⟩
section
variable {X : Cx}
theorem pe_gR {x : Str} {d : Addr} {pos : Pos} (hg : Gl X x) (hm : X.mg x = some (.ref d)) (hd : (x == ("__debug__" : Str)) = false := by decide) : PE X (.Name x pos) (tC (.ref d)) := pe_glob hg hm rfl hd
end
section
variable {X : Cx} {K : PySem.W.Frag} {o e : Expr} {to te : TE}
def rJoinK (K : PySem.W.Frag) : V → List V → Hp → VK → Prop := fun x xs H Q => ∃ a p, ∃ ys : List Str, x = .str a ∧ xs = [.ref p] ∧ (SqL K H p (ys.map V.str) ∨ SqT K H p (ys.map V.str)) ∧ (ys.map (·.length)).sum + ys.length * a.length ≤ 16777216 ∧ Q (.str (Txt.join a ys)) H
theorem pe_joinK {apos pos : Pos} (ho : PE X o to) (he : PE X e te) (h : X.K = K := by rfl) (hs : starEach [e] X.env = [(false, eval e X.env)] := by rfl) (hbase : attributeBase o "join" X.env (eval o X.env) = eval o X.env := by rfl) (hline : (apos.endLine == pos.line) = true := by rfl) :
    PE X (.Call (.Attribute o "join" apos) [e] [] pos) (tM1 (rJoinK K) to te) := by
  subst h
  exact pe_join ho he hs hbase hline
end
/-- two texts, told apart or not -/
theorem sT {a b : Str} (h : a = b) : V.bl (decide (V.str a = V.str b)) = .bl true := by rw [h, decide_eq_true rfl]
theorem sF {a b : Str} (h : a ≠ b) : V.bl (decide (V.str a = V.str b)) = .bl false := by
  rw [decide_eq_false]
  intro e
  exact h (V.str.inj e)
theorem snT {a b : Str} (h : a ≠ b) : V.bl (!decide (V.str a = V.str b)) = .bl true := by
  rw [decide_eq_false fun e => h (V.str.inj e)]; rfl
theorem snF {a b : Str} (h : a = b) : V.bl (!decide (V.str a = V.str b)) = .bl false := by rw [h, decide_eq_true rfl]; rfl
theorem kit_str_str {K : PySem.W.Frag} : PySem.W.kitOne K (.type "str") (.type "str") = some true := kit_ty (by decide +kernel)
theorem tyx_str {K : PySem.W.Frag} {H : Hp} (x : Str) : TyX K H (.str x) (.type "str") := .base (.str x)
/-! ### pieces of texts -/
theorem cut_to1 (z : Str) : (cutS z none (some 1)).cps.toList = z.cps.toList.take 1 := by
  show ((z.cps.toList.drop (HT.sIx z.length 0 none)).take (HT.sIx z.length z.length (some 1) - HT.sIx z.length 0 none)) = _
  rw [HT.sIx_none, show (1 : Int) = ((1 : Nat) : Int) from rfl, HT.sIx_nat, List.drop_zero, Nat.sub_zero]
  have : z.length = z.cps.toList.length := by simp [Str.length]
  rw [this]
  cases z.cps.toList with
  | nil => rfl
  | cons a r => simp
theorem cut_from1 (z : Str) : (cutS z (some 1) none).cps.toList = z.cps.toList.drop 1 := by
  show ((z.cps.toList.drop (HT.sIx z.length 0 (some 1))).take (HT.sIx z.length z.length none - HT.sIx z.length 0 (some 1))) = _
  rw [HT.sIx_none, show (1 : Int) = ((1 : Nat) : Int) from rfl, HT.sIx_nat]
  have : z.length = z.cps.toList.length := by simp [Str.length]
  rw [this]
  cases z.cps.toList with
  | nil => rfl
  | cons a r => simp
theorem cutV_from1 (xs : List V) : cutV xs (some 1) none = xs.drop 1 := by
  show (xs.drop (HT.sIx xs.length 0 (some 1))).take (HT.sIx xs.length xs.length none - HT.sIx xs.length 0 (some 1)) = _
  rw [HT.sIx_none, show (1 : Int) = ((1 : Nat) : Int) from rfl, HT.sIx_nat]
  cases xs with
  | nil => rfl
  | cons a r => simp
end L2.PL

namespace L2.T31
open PySem PySem.Spec PyProof.Rows L2.PL
/-- what the text says of its constants -/
structure Cst (mg : Str → Option Value) : Prop where
  g_FIGURES : ∃ t, mg "FIGURES" = some (.str "0123456789" t)
  g_MOST_CELLS : ∃ t, mg "MOST_CELLS" = some (.int 24 t)
  g_MOST_CELL : ∃ t, mg "MOST_CELL" = some (.int 255 t)
  g_MOST_LINES : ∃ t, mg "MOST_LINES" = some (.int 200 t)
  g_MOST_NUMBER : ∃ t, mg "MOST_NUMBER" = some (.int 9999 t)
  g_REGISTERS : ∃ t, mg "REGISTERS" = some (.str "abcdef" t)
  g_WRONG : ∃ t, mg "WRONG" = some (.str "wrong" t)
  g_UNSET : ∃ t, mg "UNSET" = some (.str "unset" t)
  g_BEYOND : ∃ t, mg "BEYOND" = some (.str "beyond" t)
  g_END : ∃ t, mg "END" = some (.str "end" t)
structure Tx (mg : Str → Option Value) : Prop extends Bt mg, Cst mg
structure TxF (mg : Str → Option Value) (dF : Addr) : Prop extends Tx mg where
  g_FORMS : mg "FORMS" = some (.ref dF)
structure TxN (mg : Str → Option Value) (dN : Addr) : Prop extends Tx mg where
  g_NEEDS : mg "NEEDS" = some (.ref dN)
/-- the kinds of an instruction's words -/
def kindsS (i : PR.Ins) : Str := ⟨((PR.args i).map PR.Arg.kind).toArray⟩
structure Frm (K : PySem.W.Frag) (w : World) (mg : Str → Option Value) (dF : Addr) : Prop where
  g_FORMS : mg "FORMS" = some (.ref dF)
  at_ : ∀ i, KDo K w dF (PR.word i) (some (.str (kindsS i)))
structure Nds (K : PySem.W.Frag) (w : World) (mg : Str → Option Value) (dN : Addr) : Prop where
  g_NEEDS : mg "NEEDS" = some (.ref dN)
  at_ : ∀ i, (PR.needs i = [] ∧ KDo K w dN (PR.word i) none) ∨ ∃ ta, KDo K w dN (PR.word i) (some (.ref ta)) ∧ ∀ H, SqT K H ta ((PR.needs i).map fun p => V.int (p.1 : Int))
def spNumIn : Sp := fun vs H Q _ => ∃ (x : Str) (lo hi : Int) (n : Nat), vs = [.str x, .int lo, .int hi] ∧ PR.tl x = TL.numL n ∧ n < 10 ^ 9 ∧ lo ≤ (n : Int) ∧ (n : Int) ≤ hi ∧ ∀ H', Old [] H H' → Q (.int (n : Int)) H'
def spSigned : Sp := fun vs H Q _ => ∃ (i lo hi : Int), vs = [.str (PR.num i), .int lo, .int hi] ∧ -9999 ≤ i ∧ i ≤ 9999 ∧ lo ≤ i ∧ i ≤ hi ∧ ∀ H', Old [] H H' → Q (.int i) H'
theorem head_pos : ∀ n : Nat, 0 < n → ∀ c, (TL.numL n).head? = some c → c ≠ 48 := by
  intro n
  induction n using Nat.strongRecOn with
  | _ n ih =>
    intro hn c hc
    by_cases h : n < 10
    · rw [TL.numL_lt h] at hc
      simp at hc
      omega
    · rw [TL.numL_step (by omega)] at hc
      refine ih (n / 10) (by omega) (by omega) c ?_
      rw [List.head?_append] at hc
      cases e : (TL.numL (n / 10)).head? with
      | none => exact absurd (List.head?_eq_none_iff.mp e) (TL.numL_ne _)
      | some d => rw [e] at hc; exact hc
section
variable {P : Program} {w : World} {K : PySem.W.Frag} {mg : Str → Option Value} {base : Heap}
/-! number_in: slots word=0 low=1 high=2 sign=3; cells [] -/
abbrev s_number_in : Stmt := topS 7
abbrev N_number_in : List Str := ["word", "low", "high", "sign"]
theorem sc_number_in : FnScope N_number_in ["word", "low", "high"] (defScope s_number_in) := ⟨rfl, rfl, rfl, by decide +kernel, rfl, by decide +kernel, by decide +kernel⟩
theorem ok_number_in {f : Addr} {fd : FuncData} (F : Fun K "number_in" "number_in" s_number_in f fd) (T : Tx mg) : FnOk P w K mg base CX0 1 f fd ["word", "low", "high"] spNumIn := by
  refine F.ok sc_number_in (fun vs H Q E h => ?_) (fun cdv A outer s H vs Q E hr h => ?_)
  · obtain ⟨x, lo, hi, n, rfl, _⟩ := h
    rfl
  · obtain ⟨x, lo, hi, n, rfl, hx, hn, h1, h2, q⟩ := h
    have hlen : (PR.tl x).length ≤ 9 := by rw [hx]; exact TL.numL_len (by decide) hn
    have hlx : x.length = (PR.tl x).length := TL.len_tl x
    have hne : PR.tl x ≠ [] := by rw [hx]; exact TL.numL_ne n
    have hxe : x = PR.num (n : Int) := TL.ext_tl (hx.trans (PR.num_nat n).symm)
    have hdig : ∀ c ∈ PR.tl x, 48 ≤ c ∧ c ≤ 57 := by rw [hx]; exact TL.numL_digits n
    have hsz : x.cps.size = (PR.tl x).length := by simp [PR.tl]
    refine ⟨_, (pss_cons (ps_if (PW.pt (pw_or (pt_cmpR op_eq (pv 0) pe_str (nomark _)) (pw_or (pt_cmpR op_gt (pe_callB call_len_str (by rfl) T.z_len bz_len (pa_cons (pv 0) pa_nil)) pe_int (nomark _)) (pw_or1 (pt_not (pt_val (pe_callB (cr_all rfl) (by rfl) T.z_all bz_all (pa_cons (pe_lc (own := [("sign", 3)]) (g := gName 3) (tt := tYes) rfl sc_number_in.nd (pi_str (pv 0)) (blkOk_by (N := N_number_in) (sc := defScope s_number_in) (by decide +kernel)) (fun _ _ _ _ _ => (pg_name (i := 3) sc_number_in.nd rfl (Or.inl rfl))) (fun _ _ _ _ _ => pts_nil) (fun _ _ _ _ _ => (pe_cmpR op_in_sign (pv 3) (pe_gS (by rfl) T.g_FIGURES) (by rfl)))) pa_nil))))))))
       (pss_one (ps_ret pe_non))
       pss_nil)
      (pss_cons (ps_if (PW.pt (pw_or (PW.pt (pw_and (pt_cmpR op_eq (pe_ix ix_str (pv 0) pe_int (fun _ _ => rfl)) pe_str (nomark _)) (pw_and1 (pt_cmpR op_ne (pv 0) pe_str (nomark _))))) (pw_or1 (pt_not (pt_chain op_le op_le (pv 1) (pe_callTy call_int_str (by rfl) T.z_int bz_int (pa_cons (pv 0) pa_nil)) (pv 2))))))
       (pss_one (ps_ret pe_non))
       pss_nil)
      (pss_one (ps_ret (pe_callTy call_int_str (by rfl) T.z_int bz_int (pa_cons (pv 0) pa_nil)))))), ?_⟩
    have h1' := h1
    have h2' := h2
    have hx0 : x ≠ "" := fun z => hne (by rw [z]; rfl)
    have hint : intText? x = some (n : Int) := by rw [hxe]; exact TL.int_num (Nat.le_trans (by rw [← hx]; exact hlen) (by decide))
    have hz : x.length ≤ sizeLine := Nat.le_trans (by rw [hlx]; exact hlen) (by decide)
    refine ⟨.str x, rfl, rfl, false, sF hx0, iteF ?_⟩
    refine ⟨.str x, rfl, x, rfl, hz, (x.length : Int), 9, rfl, rfl, false, congrArg V.bl (decide_eq_false (by rw [hlx]; omega)), iteF ?_⟩
    refine ⟨.str x, rfl, x, rfl, fun D nD => ?_⟩
    refine lc_it walk_str (fun i H' => Old [] H H' ∧ H' D = some (.lst ((List.replicate i true).map V.bl))) ⟨Old.new0 nD, upd_same⟩ (fun _ _ _ _ => trivial) ?_ ?_
    · rintro i v H1 H2 hi ⟨o1, h1⟩ ⟨rfl, c, hc, rfl⟩
      have hm : c ∈ PR.tl x := by
        have : x.cps.toList[i]? = some c := by simpa using hc
        exact List.mem_of_getElem? this
      have hcd := hdig c hm
      have hin : c ∈ ("0123456789" : Str).cps.toList := by
        have e : ("0123456789" : Str).cps.toList = [48, 49, 50, 51, 52, 53, 54, 55, 56, 57] := by decide +kernel
        rw [e]
        simp only [List.mem_cons, List.not_mem_nil, or_false]
        omega
      refine ⟨rfl, .str ⟨#[c]⟩, rfl, c, _, rfl, rfl, _, h1, ?_, o1.put0 nD, ?_⟩
      · rw [List.length_map, List.length_replicate]
        exact Nat.lt_of_lt_of_le (Nat.lt_of_lt_of_le hi (by rw [hsz]; exact hlen)) (by decide)
      · rw [upd_same, List.replicate_succ', List.map_append, decide_eq_true hin]; rfl
    rintro H1 ⟨o1, h1d⟩
    refine ⟨D, _, rfl, SqL.of h1d, true, congrArg V.bl (by rw [List.all_eq_true]; intro b hb; rw [(List.mem_replicate.mp hb).2]; rfl), iteF ?_⟩
    obtain ⟨c, hc⟩ : ∃ c, (PR.tl x).head? = some c := by
      cases e : (PR.tl x).head? with
      | none => exact absurd (List.head?_eq_none_iff.mp e) hne
      | some c => exact ⟨c, rfl⟩
    have hat : atI x.cps.toList 0 = some c := atI_nat (j := 0) (by rw [← List.head?_eq_getElem?]; exact hc)
    by_cases h0 : n = 0
    · subst h0
      have x0 : x = "0" := by rw [hxe]; decide +kernel
      have hc48 : c = 48 := by
        rw [hx, TL.numL_lt (by decide)] at hc
        simpa using hc.symm
      refine ⟨.str x, rfl, x, 0, c, rfl, rfl, hz, hat, rfl, true, sT (by rw [hc48]; decide +kernel), iteT ?_⟩
      refine ⟨.str x, rfl, rfl, false, snF x0, iteF ?_⟩
      refine ⟨.int lo, rfl, .str x, rfl, x, _, rfl, hint, Nat.le_trans (by rw [hlx]; exact hlen) (by decide), lo, _, rfl, rfl, true, congrArg V.bl (decide_eq_true h1'), iteT ?_⟩
      refine ⟨.int hi, rfl, _, hi, rfl, rfl, true, congrArg V.bl (decide_eq_true h2'), iteF ?_⟩
      exact ⟨.str x, rfl, x, _, rfl, hint, Nat.le_trans (by rw [hlx]; exact hlen) (by decide), q _ o1⟩
    · have hc48 : c ≠ 48 := by
        rw [hx] at hc
        exact head_pos n (by omega) c hc
      refine ⟨.str x, rfl, x, 0, c, rfl, rfl, hz, hat, rfl, false, sF (fun z => hc48 ?_), iteF (iteF ?_)⟩
      · have z2 : #[c] = ("0" : Str).cps := congrArg Str.cps z
        have e : ("0" : Str).cps = #[48] := by decide +kernel
        rw [e] at z2
        simpa using z2
      refine ⟨.int lo, rfl, .str x, rfl, x, _, rfl, hint, Nat.le_trans (by rw [hlx]; exact hlen) (by decide), lo, _, rfl, rfl, true, congrArg V.bl (decide_eq_true h1'), iteT ?_⟩
      refine ⟨.int hi, rfl, _, hi, rfl, rfl, true, congrArg V.bl (decide_eq_true h2'), iteF ?_⟩
      exact ⟨.str x, rfl, x, _, rfl, hint, Nat.le_trans (by rw [hlx]; exact hlen) (by decide), q _ o1⟩
/-! signed_in: slots word=0 low=1 high=2 found=3; cells [] -/
abbrev s_signed_in : Stmt := topS 8
abbrev N_signed_in : List Str := ["word", "low", "high", "found"]
theorem sc_signed_in : FnScope N_signed_in ["word", "low", "high"] (defScope s_signed_in) := ⟨rfl, rfl, rfl, by decide +kernel, rfl, by decide +kernel, by decide +kernel⟩
theorem ok_signed_in {f : Addr} {fd : FuncData} (F : Fun K "signed_in" "signed_in" s_signed_in f fd) (T : Tx mg) (C_number_in : Cal P w K mg base CX0 "number_in" ["word", "low", "high"] 1 spNumIn) : FnOk P w K mg base CX0 2 f fd ["word", "low", "high"] spSigned := by
  refine F.ok sc_signed_in (fun vs H Q E h => ?_) (fun cdv A outer s H vs Q E hr h => ?_)
  · obtain ⟨i, lo, hi, rfl, _⟩ := h
    rfl
  · obtain ⟨i, lo, hi, rfl, i1, i2, h1, h2, q⟩ := h
    refine ⟨_, (pss_cons (ps_if (pt_cmpR op_ne (pe_slice sl_str (pv 0) po_none (po_some pe_int)) pe_str (nomark _))
       (pss_one (ps_ret (pe_cal C_number_in hr (by rfl) pass0 (pa_cons (pv 0) (pa_cons (pe_callB (call_max2 rfl) (by rfl) T.z_max bz_max (pa_cons (pv 1) (pa_cons pe_int pa_nil))) (pa_cons (pv 2) pa_nil))))))
       pss_nil)
      (pss_cons (ps_set (i := 3) sc_signed_in.nd rfl (.inl rfl) (pe_cal C_number_in hr (by rfl) pass0 (pa_cons (pe_slice sl_str (pv 0) (po_some pe_int) po_none) (pa_cons pe_int (pa_cons (pe_callB (call_max2 rfl) (by rfl) T.z_max bz_max (pa_cons (pe_un un_neg (pv 1)) (pa_cons pe_int pa_nil))) pa_nil)))))
      (pss_one (ps_ret (pe_ifExp (pt_cmpR op_isN (pv 3) pe_non (nomark _)) pe_non (pe_un un_neg (pv 3))))))), ?_⟩
    have hz : ∀ j : Int, -9999 ≤ j → j ≤ 9999 → (PR.num j).length ≤ sizeLine := fun j a b => by
      have e : (PR.num j).length = (PR.tl (PR.num j)).length := TL.len_tl _
      rw [e]; exact Nat.le_trans (PR.num_len a b) (by decide)
    have hcut := cut_to1 (PR.num i)
    have edash : ("-" : Str).cps.toList = [45] := by decide +kernel
    by_cases c : i < 0
    · have e1 : cutS (PR.num i) none (some 1) = "-" := TL.ext_tl (by
        show (cutS (PR.num i) none (some 1)).cps.toList = ("-" : Str).cps.toList
        rw [hcut, edash]
        have := PR.num_neg c
        show (PR.tl (PR.num i)).take 1 = [45]
        rw [this]; rfl)
      refine ⟨.str (PR.num i), rfl, 1, rfl, _, rfl, hz i i1 i2, rfl, false, snF e1, iteF ?_⟩
      have e2 : PR.tl (cutS (PR.num i) (some 1) none) = TL.numL i.natAbs := by
        show (cutS (PR.num i) (some 1) none).cps.toList = _
        rw [cut_from1]
        show (PR.tl (PR.num i)).drop 1 = _
        rw [PR.num_neg c]; rfl
      refine ⟨.str (PR.num i), rfl, 1, rfl, _, rfl, hz i i1 i2, .int lo, rfl, lo, rfl, -lo, 0, rfl, _, 1, _, i.natAbs, rfl, e2, by omega, by omega, ?_, fun H1 o1 => ?_⟩
      · show ((i.natAbs : Nat) : Int) ≤ if (0 : Int) > -lo then 0 else -lo
        split <;> omega
      · refine ⟨.int ((i.natAbs : Nat) : Int), rfl, rfl, false, rfl, iteF ?_⟩
        refine ⟨.int ((i.natAbs : Nat) : Int), rfl, _, rfl, ?_⟩
        have e3 : (-((i.natAbs : Nat) : Int)) = i := by omega
        dsimp only
        rw [e3]
        exact q H1 o1
    · obtain ⟨n, rfl⟩ : ∃ n : Nat, i = (n : Int) := ⟨i.toNat, by omega⟩
      have e1 : cutS (PR.num (n : Int)) none (some 1) ≠ "-" := fun z => by
        have z2 : (cutS (PR.num (n : Int)) none (some 1)).cps.toList = [45] := by rw [z, edash]
        rw [hcut] at z2
        have z3 : (PR.tl (PR.num (n : Int))).take 1 = [45] := z2
        rw [PR.num_nat] at z3
        have : 45 ∈ TL.numL n := List.mem_of_mem_take (by rw [z3]; exact .head _)
        exact TL.numL_free (.inl (by decide)) this
      refine ⟨.str (PR.num (n : Int)), rfl, 1, rfl, _, rfl, hz _ i1 i2, rfl, true, snT e1, iteT ?_⟩
      refine ⟨.str (PR.num (n : Int)), rfl, .int lo, rfl, lo, 0, rfl, .int hi, rfl, _, _, hi, n, rfl, PR.num_nat n, by omega, ?_, h2, q⟩
      show (if (0 : Int) > lo then 0 else lo) ≤ (n : Int)
      split <;> omega
end
end L2.T31

namespace L2.T31
open PySem PySem.Spec PyProof.Rows L2.PL
def spWordIn : Sp := fun vs H Q _ => ∃ (a : PR.Arg) (number : Nat), vs = [.str ⟨#[a.kind]⟩, .str a.txt, .int (number : Int)] ∧ a.ok number ∧ ∀ H', Old [] H H' → Q a.v H'
def spInsIn : Sp := fun vs H Q _ => ∃ (i : PR.Ins) (number : Nat), vs = [.str (PR.lineS i), .int (number : Int)] ∧ PR.insOk number i ∧ ∀ H' t, Old [] H H' → H' t = some (.tup (PR.insV i)) → Q (.ref t) H'
section
variable {P : Program} {w : World} {K : PySem.W.Frag} {mg : Str → Option Value} {base : Heap}
/-! word_in: slots kind=0 word=1 number=2; cells [] -/
abbrev s_word_in : Stmt := topS 24
abbrev N_word_in : List Str := ["kind", "word", "number"]
theorem sc_word_in : FnScope N_word_in ["kind", "word", "number"] (defScope s_word_in) := ⟨rfl, rfl, rfl, by decide +kernel, rfl, by decide +kernel, by decide +kernel⟩
theorem ok_word_in {f : Addr} {fd : FuncData} (F : Fun K "word_in" "word_in" s_word_in f fd) (T : Tx mg) (C_number_in : Cal P w K mg base CX0 "number_in" ["word", "low", "high"] 1 spNumIn) (C_signed_in : Cal P w K mg base CX0 "signed_in" ["word", "low", "high"] 2 spSigned) : FnOk P w K mg base CX0 3 f fd ["kind", "word", "number"] spWordIn := by
  refine F.ok sc_word_in (fun vs H Q E h => ?_) (fun cdv A outer s H vs Q E hr h => ?_)
  · obtain ⟨a, number, rfl, _⟩ := h
    rfl
  · obtain ⟨a, number, rfl, ok, q⟩ := h
    refine ⟨_, (pss_cons (ps_if (pt_cmpR op_eq (pv 0) pe_str (nomark _))
       (pss_one (ps_ret (pe_ifExp (PW.pt (pw_and (pt_cmpR op_eq (pe_callB call_len_str (by rfl) T.z_len bz_len (pa_cons (pv 1) pa_nil)) pe_int (nomark _)) (pw_and1 (pt_cmpR op_in_sign (pv 1) (pe_gS (by rfl) T.g_REGISTERS) (by rfl))))) (pv 1) pe_non)))
       pss_nil)
      (pss_cons (ps_if (pt_cmpR op_eq (pv 0) pe_str (nomark _))
       (pss_one (ps_ret (pe_cal C_signed_in hr (by rfl) pass0 (pa_cons (pv 1) (pa_cons (pe_un un_neg (pe_gI (by rfl) T.g_MOST_NUMBER)) (pa_cons (pe_gI (by rfl) T.g_MOST_NUMBER) pa_nil))))))
       pss_nil)
      (pss_one (ps_ret (pe_cal C_number_in hr (by rfl) pass0 (pa_cons (pv 1) (pa_cons (pe_op op_add (pv 2) pe_int) (pa_cons (pe_gI (by rfl) T.g_MOST_LINES) pa_nil)))))))), ?_⟩
    have er : ("r" : Str) = ⟨#[114]⟩ := by decide +kernel
    have en : ("n" : Str) = ⟨#[110]⟩ := by decide +kernel
    cases a with
    | r i =>
      refine ⟨.str ⟨#[114]⟩, rfl, rfl, true, sT er.symm, iteT ?_⟩
      have ok : i < 6 := ok
      have e : ("abcdef" : Str).cps.toList = [97, 98, 99, 100, 101, 102] := by decide +kernel
      refine ⟨.str (PR.rg i), rfl, _, rfl, (by show 1 ≤ sizeLine; decide), rfl, true, congrArg V.bl (decide_eq_true rfl), iteT ?_⟩
      refine ⟨.str (PR.rg i), rfl, 97 + i, "abcdef", rfl, rfl, true, congrArg V.bl (decide_eq_true ?_), iteT ⟨_, rfl, q H (Old.refl _ _)⟩⟩
      rw [e]
      simp only [List.mem_cons, List.not_mem_nil, or_false]
      omega
    | n i =>
      refine ⟨.str ⟨#[110]⟩, rfl, rfl, false, sF (by rw [er]; decide), iteF ?_⟩
      refine ⟨.str ⟨#[110]⟩, rfl, rfl, true, sT en.symm, iteT ?_⟩
      refine ⟨.str (PR.num i), rfl, 9999, rfl, i, -9999, 9999, rfl, ok.1, ok.2, ok.1, ok.2, q⟩
    | l g =>
      refine ⟨.str ⟨#[108]⟩, rfl, rfl, false, sF (by rw [er]; decide), iteF ?_⟩
      refine ⟨.str ⟨#[108]⟩, rfl, rfl, false, sF (by rw [en]; decide), iteF ?_⟩
      have ok : number < g ∧ g ≤ 200 := ok
      refine ⟨.str (PR.num (g : Int)), rfl, .int (number : Int), rfl, (number : Int), 1, rfl, rfl, _, _, 200, g, rfl, PR.num_nat g, by omega, by omega, by omega, q⟩
/-! instruction_in: slots line=0 number=1 words=2 kinds=3 found=4 kind=5 word=6; cells ['number'] -/
abbrev s_instruction_in : Stmt := topS 25
abbrev N_instruction_in : List Str := ["line", "number", "words", "kinds", "found", "kind", "word"]
theorem sc_instruction_in : FnScope N_instruction_in ["line", "number"] (defScope s_instruction_in) := ⟨rfl, rfl, rfl, by decide +kernel, rfl, by decide +kernel, by decide +kernel⟩
theorem ok_instruction_in {f : Addr} {fd : FuncData} {dF : Addr} (F : Fun K "instruction_in" "instruction_in" s_instruction_in f fd) (T₀ : Tx mg) (Fm : Frm K w mg dF) (C_word_in : Cal P w K mg base CX0 "word_in" ["kind", "word", "number"] 3 spWordIn) : FnOk P w K mg base CX0 4 f fd ["line", "number"] spInsIn := by
  have T : TxF mg dF := ⟨T₀, Fm.g_FORMS⟩
  refine F.ok sc_instruction_in (fun vs H Q E h => ?_) (fun cdv A outer s H vs Q E hr h => ?_)
  · obtain ⟨i, number, rfl, _⟩ := h
    rfl
  · obtain ⟨i, number, rfl, ok, q⟩ := h
    refine ⟨_, (pss_cons (ps_set (i := 2) sc_instruction_in.nd rfl (.inl rfl) (pe_split (pv 0) pe_str))
      (pss_cons (ps_set (i := 3) sc_instruction_in.nd rfl (.inl rfl) (pe_kget1 (pe_gR (by rfl) T.g_FORMS) (pe_ix ix_list (pv 2) pe_int (fun _ _ => rfl)) ⟨by rfl, by rfl, by rfl, by rfl⟩))
      (pss_cons (ps_if (PW.pt (pw_or (pt_cmpR op_isN (pv 3) pe_non (nomark _)) (pw_or1 (pt_cmpR op_ne (pe_callB call_len_str (by rfl) T.z_len bz_len (pa_cons (pv 3) pa_nil)) (pe_op op_sub (pe_callB call_len_seq (by rfl) T.z_len bz_len (pa_cons (pv 2) pa_nil)) pe_int) (nomark _)))))
       (pss_one (ps_ret pe_non))
       pss_nil)
      (pss_cons (ps_setLc (i := 4) (own := [("kind", 5), ("word", 6)]) (g := gTup K 2 (gCons (gName 5) (gCons (gName 6) gNil))) (tt := tYes) rfl sc_instruction_in.nd rfl rfl (sw_true rfl rfl rfl (by decide +kernel)) (pi_zipS (by rfl) T.z_zip (pa_cons (pv 3) (pa_cons (pe_slice sl_list (pv 2) (po_some pe_int) po_none) pa_nil))) (blkOk_by (N := N_instruction_in) (sc := defScope s_instruction_in) (by decide +kernel)) (fun _ _ _ _ _ => (pg_tup (by rfl) (pgs_cons (pg_name (i := 5) sc_instruction_in.nd rfl (Or.inl rfl)) (pgs_cons (pg_name (i := 6) sc_instruction_in.nd rfl (Or.inl rfl)) pgs_nil)))) (fun _ _ _ _ _ => pts_nil) (fun _ _ _ _ _ => (pe_cal C_word_in hr (by rfl) pass0 (pa_cons (pv 5) (pa_cons (pv 6) (pa_cons (pv 1) pa_nil))))))
      (pss_one (ps_ret (pe_ifExp (pt_cmpR op_in_seq pe_non (pv 4) (by rfl)) pe_non (pe_tup (pa_cons (pe_ix ix_list (pv 2) pe_int (fun _ _ => rfl)) (StX.pa_star (pv 4) pa_nil)))))))))), ?_⟩
    have hu := hu_of hr
    have hsp : ((" " : Str).length == 0) = false := by decide +kernel
    have hll := PR.line_len ok
    have hal := PR.args_len i
    refine ⟨.str (PR.lineS i), rfl, ⟨_, rfl⟩, _, " ", rfl, rfl, hsp, Nat.le_trans (Nat.add_le_add_right hll 2) (by decide), fun ws nws => ?_⟩
    rw [PR.line_split]
    have o1 : Old [] H (upd H ws (.lst ((PR.wordsS i).map V.str))) := Old.new0 nws
    have h1 : (upd H ws (.lst ((PR.wordsS i).map V.str))) ws = some (.lst ((PR.wordsS i).map V.str)) := upd_same
    generalize upd H ws (.lst ((PR.wordsS i).map V.str)) = H1 at o1 h1 ⊢
    clear nws
    refine ⟨dF, rfl, (Fm.at_ i).is, .ref ws, rfl, ws, _, 0, .str (PR.word i), rfl, rfl, SqL.of h1, atI_nat (j := 0) rfl, PR.word i, _, rfl, Fm.at_ i, ?_⟩
    have hks : (kindsS i).length = (PR.args i).length := by simp [kindsS, Str.length]
    refine ⟨.str (kindsS i), rfl, rfl, false, rfl, iteF ?_⟩
    refine ⟨.str (kindsS i), rfl, _, rfl, by rw [hks]; exact Nat.le_trans hal (by decide), .ref ws, rfl, ws, _, rfl, .inl (SqL.of h1), _, 1, rfl, rfl, rfl, false, ?_, iteF ?_⟩
    · have e : ((kindsS i).length : Int) = (((PR.wordsS i).map V.str).length : Int) - 1 := by
        rw [hks, List.length_map]
        show ((PR.args i).length : Int) = ((((PR.args i).map PR.Arg.txt).length + 1 : Nat) : Int) - 1
        rw [List.length_map]; omega
      dsimp only
      rw [e, decide_eq_true rfl]; rfl
    -- the words behind the first
    refine ⟨.str (kindsS i), rfl, .ref ws, rfl, 1, rfl, ws, _, rfl, SqL.of h1, fun b nb => ?_⟩
    have ecut : cutV ((PR.wordsS i).map V.str) (some 1) none = (PR.args i).map fun a => V.str a.txt := by
      rw [cutV_from1]
      show ((PR.args i).map PR.Arg.txt).map V.str = _
      rw [List.map_map]; rfl
    rw [ecut]
    have o2 : Old [] H1 (upd H1 b (.lst ((PR.args i).map fun a => V.str a.txt))) := Old.new0 nb
    have h2 : (upd H1 b (.lst ((PR.args i).map fun a => V.str a.txt))) b = some (.lst ((PR.args i).map fun a => V.str a.txt)) := upd_same
    generalize upd H1 b (.lst ((PR.args i).map fun a => V.str a.txt)) = H2 at o2 h2 ⊢
    clear nb
    have hall : (kindsS i).cps.all (· < 128) = true := by
      show (((PR.args i).map PR.Arg.kind).toArray).all (· < 128) = true
      rw [List.all_toArray, List.all_eq_true]
      intro c hc
      obtain ⟨a, _, rfl⟩ := List.mem_map.mp hc
      cases a <;> rfl
    refine ⟨kindsS i, b, _, rfl, hall, SqL.of h2, fun D nD => ?_⟩
    refine lc_it (walk_zipS (by rw [List.length_map]; exact hks)) (fun j H' => Old [] H2 H' ∧ H' D = some (.lst (((PR.args i).take j).map PR.Arg.v))) ⟨Old.new0 nD, upd_same⟩ (fun j H' _ h => SqL.of (h.1 _ _ (by simp) h2)) ?_ ?_
    · rintro j v H3 H4 hj ⟨o3, h3⟩ ⟨t, c, y, rfl, nt, rfl, hc, hy⟩
      rw [List.length_map] at hj
      have ea : (PR.args i)[j]? = some (PR.args i)[j] := List.getElem?_eq_getElem hj
      have hm : (PR.args i)[j] ∈ PR.args i := List.getElem_mem hj
      have hca : c = (PR.args i)[j].kind := by
        have : ((PR.args i).map PR.Arg.kind)[j]? = some c := by simpa [kindsS] using hc
        rw [List.getElem?_map, ea] at this
        exact (Option.some.inj this).symm
      rw [List.getElem?_map, ea] at hy
      have hya : y = .str (PR.args i)[j].txt := (Option.some.inj hy).symm
      subst hca hya
      have etake : (PR.args i).take (j + 1) = (PR.args i).take j ++ [(PR.args i)[j]] := List.take_succ_eq_append_getElem hj
      rw [etake]
      generalize (PR.args i)[j] = a at hm ⊢
      have nDt : D ≠ t := ne_of_none h3 nt
      refine ⟨t, _, rfl, SqT.of upd_same, rfl, _, _, rfl, _, _, rfl, rfl, rfl, ?_⟩
      refine ⟨.str ⟨#[a.kind]⟩, rfl, .str a.txt, rfl, .int (number : Int), rfl, a, number, rfl, ok a hm, fun H5 o5 => ?_⟩
      have o35 : Old [] H3 H5 := (Old.new0 nt).trans o5
      refine ⟨_, o35 _ _ (by simp) h3, ?_, (o3.trans o35).put0 nD, ?_⟩
      · rw [List.length_map, List.length_take]
        exact Nat.lt_of_le_of_lt (Nat.le_trans (Nat.min_le_right _ _) hal) (by decide)
      · rw [upd_same, List.map_append]; rfl
    rintro H3 ⟨o3, h3⟩
    rw [List.length_map, List.take_length] at h3
    have o03 := (o1.trans o2).trans o3
    have hw3 : H3 ws = some (.lst ((PR.wordsS i).map V.str)) := o3 _ _ (by simp) (o2 _ _ (by simp) h1)
    refine ⟨.ref D, rfl, D, _, rfl, .inl (SqL.of h3), rfl, PR.insV_flat i, false, ?_, iteF ?_⟩
    · show V.bl (if false = true then _ else inV .non ((PR.args i).map PR.Arg.v)) = _
      rw [if_neg (by decide), PR.insV_in]
    refine ⟨.ref ws, rfl, ws, _, 0, .str (PR.word i), rfl, rfl, SqL.of hw3, atI_nat (j := 0) rfl, .ref D, rfl, D, _, rfl, .inr (SqL.of h3), ?_, fun t nt => ?_⟩
    · show ((PR.args i).map PR.Arg.v ++ []).length + 1 ≤ sizeLine
      rw [List.append_nil, List.length_map]
      exact Nat.le_trans (Nat.succ_le_succ hal) (by decide)
    · refine q _ t (o03.new nt) ?_
      rw [upd_same, List.append_nil]; rfl
end
end L2.T31

namespace L2.T31
open PySem PySem.Spec PyProof.Rows L2.PL
/-- what the text says of Program -/
structure PrT (K : PySem.W.Frag) (C p0 p1 : Addr) : Prop where
  c : SlX.SCls K C
  s0 : SlX.Slot1 K C "own_lines" p0 0
  s1 : SlX.Slot1 K C "own_text" p1 1
/-- lines that may stand in a text -/
structure Lns (is : List PR.Ins) : Prop where
  ne : is ≠ []
  len : is.length ≤ 200
  ok : ∀ (k : Nat) i, is[k]? = some i → PR.insOk k i
def spRead (K : PySem.W.Frag) : Sp := fun vs H Q _ => ∃ (is : List PR.Ins), vs = [.str (PR.progS is)] ∧ Lns is ∧ ∀ H' t, Old [] H H' → Dp K H' (.ref t) (PR.linesD is) → Q (.ref t) H'
def spPrInit (K : PySem.W.Frag) (C : Addr) : Sp := fun vs H Q _ => ∃ (H0 : Hp) (a dx : Addr) (is : List PR.Ins), vs = [.ref a, .str (PR.progS is)] ∧ Lns is ∧ Old [] H0 H ∧ H0 a = none ∧ H0 dx = none ∧ dx ≠ a ∧ H a = some (.ins C dx []) ∧ H dx = some (.own a) ∧
  ∀ H' t, Old [] H0 H' → SlX.Slt H' a C dx [some (.ref t), some (.str (PR.progS is))] → Dp K H' (.ref t) (PR.linesD is) → Q .non H'
/-- p is the program of these lines -/
structure ProgAt (K : PySem.W.Frag) (C : Addr) (H : Hp) (p : Addr) (is : List PR.Ins) : Prop where
  ex : ∃ dx t, SlX.Slt H p C dx [some (.ref t), some (.str (PR.progS is))] ∧ Dp K H (.ref t) (PR.linesD is)
def spLines (K : PySem.W.Frag) (C : Addr) : Sp := fun vs H Q _ => ∃ (p dx : Addr) (v u : V), vs = [.ref p] ∧ SlX.Slt H p C dx [some v, some u] ∧ Q v H
theorem arg_dp {K : PySem.W.Frag} {H : Hp} : ∀ as : List PR.Arg, DpAll K H (as.map PR.Arg.v) (as.map PR.Arg.d)
  | [] => .nil
  | a :: as => .cons (by cases a with | r i => exact .str _ | n i => exact .int _ | l g => exact .int _) (arg_dp as)
theorem ins_dp {K : PySem.W.Frag} {H : Hp} {t : Addr} {i : PR.Ins} (h : H t = some (.tup (PR.insV i))) : Dp K H (.ref t) (PR.insD i) := .tup (SqT.of h) (.cons (.str _) (arg_dp _))
theorem insD_only (i : PR.Ins) : tupOnly (PR.insD i) = true := by
  cases i <;> rfl
theorem linesA_only (is : List PR.Ins) : tupOnlyAll (is.map PR.insD) = true := by
  induction is with
  | nil => rfl
  | cons i is ih =>
    show (tupOnly (PR.insD i) && tupOnlyAll (is.map PR.insD)) = true
    rw [insD_only, ih]; rfl
theorem linesD_only (is : List PR.Ins) : tupOnly (PR.linesD is) = true := linesA_only is
theorem ProgAt.keep {K : PySem.W.Frag} {C : Addr} {H H' : Hp} {p : Addr} {is : List PR.Ins} (h : ProgAt K C H p is) (o : Same H H') : ProgAt K C H' p is := by
  obtain ⟨dx, t, s, d⟩ := h.ex
  have oo : Old [] H H' := fun b u _ e => o b u e
  exact ⟨dx, t, Slt.same o s, PL.Dp.keep (oo.tk NoTup.nil) _ _ (linesD_only is) d⟩
theorem tk_of {G G' : Hp} {l : Addr} (h : ∀ b, b ≠ l → G' b = G b) (n : (∀ xs, G l ≠ some (.tup xs)) ∧ ∀ o u, G l ≠ some (.frz o u)) : Tk G G' := by
  refine ⟨fun b xs e => ?_, fun b o u e => ?_⟩
  · rw [h b (fun z => by rw [z] at e; exact n.1 _ e)]; exact e
  · rw [h b (fun z => by rw [z] at e; exact n.2 _ _ e)]; exact e
/-- no tuple, and not locked -/
def NT (o : Option HO) : Prop := (∀ xs, o ≠ some (.tup xs)) ∧ ∀ p u, o ≠ some (.frz p u)
theorem tk_slot {H : Hp} {a C dx : Addr} {vs : List (Option V)} (h1 : NT (H a)) (h2 : NT (H dx)) : Tk H (SlX.slH H a C dx vs) := by
  have st : ∀ b, (∀ o, H b = some o → ((∃ xs, o = .tup xs) ∨ ∃ p u, o = .frz p u) → SlX.slH H a C dx vs b = some o) := by
    intro b o e ho
    have n1 : b ≠ a := fun z => by
      rw [z] at e
      rcases ho with ⟨xs, rfl⟩ | ⟨p, u, rfl⟩
      · exact h1.1 _ e
      · exact h1.2 _ _ e
    have n2 : b ≠ dx := fun z => by
      rw [z] at e
      rcases ho with ⟨xs, rfl⟩ | ⟨p, u, rfl⟩
      · exact h2.1 _ e
      · exact h2.2 _ _ e
    rw [SlX.slH_ne n1 n2]; exact e
  exact ⟨fun b xs e => st b _ e (.inl ⟨xs, rfl⟩), fun b o u e => st b _ e (.inr ⟨o, u, rfl⟩)⟩
theorem nt_slO {a C dx : Addr} {vs : List (Option V)} : NT (some (SlX.SlO a C dx vs)) := ⟨fun xs z => (by unfold SlX.SlO at z; cases z), fun p u z => (by unfold SlX.SlO at z; cases z)⟩
theorem nt_xd : NT (some (HO.xd [])) := ⟨fun xs z => (nomatch z), fun p u z => (nomatch z)⟩
section
variable {P : Program} {w : World} {K : PySem.W.Frag} {mg : Str → Option Value} {base : Heap}
/-! read_lines: slots text=0 found=1 number=2 line=3 instruction=4; cells [] -/
abbrev s_read_lines : Stmt := topS 26
abbrev N_read_lines : List Str := ["text", "found", "number", "line", "instruction"]
theorem sc_read_lines : FnScope N_read_lines ["text"] (defScope s_read_lines) := ⟨rfl, rfl, rfl, by decide +kernel, rfl, by decide +kernel, by decide +kernel⟩
theorem ok_read_lines {f : Addr} {fd : FuncData} (F : Fun K "read_lines" "read_lines" s_read_lines f fd) (T : Tx mg) (C_instruction_in : Cal P w K mg base CX0 "instruction_in" ["line", "number"] 4 spInsIn) : FnOk P w K mg base CX0 5 f fd ["text"] (spRead K) := by
  refine F.ok sc_read_lines (fun vs H Q E h => ?_) (fun cdv A outer s H vs Q E hr h => ?_)
  · obtain ⟨is, rfl, _⟩ := h
    rfl
  · obtain ⟨is, rfl, L, q⟩ := h
    refine ⟨_, (pss_cons (ps_if (pt_not (pt_val (pe_callB call_isi (by rfl) T.z_isinstance bz_isinstance (pa_cons (pv 0) (pa_cons (pe_bltn (v := .ty "str") (by rfl) T.z_str bz_str rfl) pa_nil)))))
       pss_never
       pss_nil)
      (pss_cons (ps_set (i := 1) sc_read_lines.nd rfl (.inl rfl) (pe_lst pa_nil))
      (pss_cons (ps_for PassesOwn.never rfl (pi_enum (by rfl) T.z_enumerate (pa_cons (pe_split (pv 0) pe_str) pa_nil)) (pg_tup (by rfl) (pgs_cons (pg_name (i := 2) sc_read_lines.nd rfl (Or.inl rfl)) (pgs_cons (pg_name (i := 3) sc_read_lines.nd rfl (Or.inl rfl)) pgs_nil)))
       (pss_cons (ps_set (i := 4) sc_read_lines.nd rfl (.inl rfl) (pe_ifExp (pt_cmpR op_lt (pv 2) (pe_gI (by rfl) T.g_MOST_LINES) (nomark _)) (pe_cal C_instruction_in hr (by rfl) pass0 (pa_cons (pv 3) (pa_cons (pv 2) pa_nil))) pe_non))
        (pss_cons (ps_if (pt_cmpR op_isN (pv 4) pe_non (nomark _))
         pss_never
         pss_nil)
        (pss_one (ps_expr (pe_bm PySem.F.plainAttrs_list PySem.F.slot_list_append PySem.F.type_list_append mt_append (pv 1) (pa_cons (pv 4) pa_nil)))))))
      (pss_one (ps_ret (pe_callTy call_tuple_of (by rfl) T.z_tuple bz_tuple (pa_cons (pv 1) pa_nil))))))), ?_⟩
    have hlen := PR.prog_len L.len L.ok
    have hsp : (("\n" : Str).length == 0) = false := by decide +kernel
    refine ⟨.str _, rfl, .str _, .ty "str", _, _, true, rfl, .ty _, tyx_str _, kit_str_str, true, rfl, iteF ?_⟩
    refine ⟨Nat.zero_le _, fun fd nfd => ?_⟩
    have oA : Old [] H (upd H fd (.lst [])) := Old.new0 nfd
    have hA : (upd H fd (.lst [])) fd = some (.lst []) := upd_same
    generalize upd H fd (.lst []) = HA at oA hA ⊢
    refine ⟨.str (PR.progS is), rfl, ⟨_, rfl⟩, _, "\n", rfl, rfl, hsp, Nat.le_trans (Nat.add_le_add_right hlen 2) (by decide), fun ls nls => ?_⟩
    rw [PR.prog_split L.ne]
    have nfl : fd ≠ ls := ne_of_none hA nls
    have oB : Old [] H (upd HA ls (.lst ((is.map PR.lineS).map V.str))) := oA.new nls
    have hB : (upd HA ls (.lst ((is.map PR.lineS).map V.str))) fd = some (.lst []) := by rw [upd_ne nfl]; exact hA
    have hL : (upd HA ls (.lst ((is.map PR.lineS).map V.str))) ls = some (.lst ((is.map PR.lineS).map V.str)) := upd_same
    generalize upd HA ls (.lst ((is.map PR.lineS).map V.str)) = HB at oB hB hL ⊢
    have hls0 : H ls = none := oA.free nls (by simp)
    clear nls hA oA HA
    have hlen2 : ((is.map PR.lineS).map V.str).length = is.length := by rw [List.length_map, List.length_map]
    refine ⟨ls, _, rfl, SqL.of hL, ?_⟩
    refine for_it (walk_enum (K := K) (a := ls) (xs := (is.map PR.lineS).map V.str)) (fun j σ H' => ∃ (y2 y3 y4 : Option V) (rs : List V), σ = [some (.str (PR.progS is)), some (.ref fd), y2, y3, y4] ∧ Old [] H H' ∧ H' ls = some (.lst ((is.map PR.lineS).map V.str)) ∧ H' fd = some (.lst rs) ∧ DpAll K H' rs ((is.take j).map PR.insD))
      ⟨none, none, none, [], rfl, oB, hL, hB, .nil⟩ (fun j σ H' _ ⟨_, _, _, _, _, _, h, _⟩ => SqL.of h) ?_ ?_
    · rintro j v σ H1 H2 hj ⟨y2, y3, y4, rs, rfl, o1, h1, hf1, hd1⟩ ⟨t, x, y, rfl, nt, rfl, hx, hy⟩
      rw [hlen2] at hj
      cases hx
      have ei : is[j]? = some is[j] := List.getElem?_eq_getElem hj
      have hy : ((is.map PR.lineS).map V.str)[j]? = some y := hy
      rw [List.getElem?_map, List.getElem?_map, ei] at hy
      have ey : y = .str (PR.lineS is[j]) := (Option.some.inj hy).symm
      subst ey
      have ok := L.ok j is[j] ei
      rw [List.take_succ_eq_append_getElem hj, List.map_append]
      have hrl : rs.length = j := by rw [PL.DpAll.length hd1, List.length_map, List.length_take]; omega
      generalize is[j] = i at ok ⊢
      have L2' := L.len
      refine ⟨t, _, rfl, SqT.of upd_same, rfl, _, _, rfl, _, _, rfl, rfl, ?_⟩
      refine ⟨.int (j : Int), rfl, _, 200, rfl, rfl, true, congrArg V.bl (decide_eq_true (by omega)), iteT ?_⟩
      refine ⟨.str (PR.lineS i), rfl, .int (j : Int), rfl, i, j, rfl, ok, fun H3 u o3 hu => ?_⟩
      have o13 : Old [] H1 H3 := (Old.new0 nt).trans o3
      refine ⟨.ref u, rfl, rfl, _, rfl, iteF ?_⟩
      have hf3 := o13 _ _ (by simp) hf1
      have tkA : Tk H1 H3 := o13.tk NoTup.nil
      have tkB : Tk H3 (upd H3 fd (.lst (rs ++ [.ref u]))) := Old.tk (W := [fd]) ((Old.refl _ _).put (by simp)) (NoTup.one hf3)
      refine ⟨.ref fd, rfl, .inl ⟨rfl, _, SqL.of hf3⟩, .ref u, rfl, fd, rs, .ref u, rfl, rfl, hf3, ?_, _, _, _, _, rfl, (o1.trans o13).put0 nfd, ?_, upd_same, ?_⟩
      · rw [hrl]; exact Nat.lt_of_lt_of_le (Nat.lt_of_lt_of_le hj L2') (by decide)
      · rw [upd_ne nfl.symm]; exact o13 _ _ (by simp) h1
      · refine PL.DpAll.append (PL.Dp.keepAll (tkA.trans tkB) _ _ (linesA_only _) hd1) (.cons (PL.Dp.keep tkB _ _ (insD_only i) (ins_dp hu)) .nil)
    · rintro σ H1 ⟨y2, y3, y4, rs, rfl, o1, h1, hf1, hd1⟩
      rw [hlen2, List.take_length] at hd1
      refine ⟨.ref fd, rfl, fd, rs, rfl, .inl ⟨SqL.of hf1, fun t nt => ?_⟩⟩
      refine q _ t (o1.new nt) (.tup (SqT.of upd_same) (PL.Dp.keepAll ((Old.new0 nt).tk NoTup.nil) _ _ (linesA_only is) hd1))
/-! Program.__init__: slots self=0 text=1; cells [] -/
abbrev s_Pr_init : Stmt := inClass (topS 27) 1
abbrev N_Pr_init : List Str := ["self", "text"]
theorem sc_Pr_init : FnScope N_Pr_init ["self", "text"] (defScope s_Pr_init) := ⟨rfl, rfl, rfl, by decide +kernel, rfl, by decide +kernel, by decide +kernel⟩
theorem ok_pr_init {f C p0 p1 : Addr} {fd : FuncData} (F : Fun K "__init__" "Program.__init__" s_Pr_init f fd) (T : Tx mg) (T_Program : PrT K C p0 p1) (C_read_lines : Cal P w K mg base CX0 "read_lines" ["text"] 5 (spRead K)) : FnOk P w K mg base CX0 6 f fd ["self", "text"] (spPrInit K C) := by
  refine F.ok sc_Pr_init (fun vs H Q E h => ?_) (fun cdv A outer s H vs Q E hr h => ?_)
  · obtain ⟨H0, a, dx, is, rfl, _⟩ := h
    rfl
  · obtain ⟨H0, a, dx, is, rfl, L, o0, ha0, hx0, ndx, hai, hdx, q⟩ := h
    refine ⟨_, (pss_cons (ps_asg (pe_cal C_read_lines hr (by rfl) pass0 (pa_cons (pv 1) pa_nil)) (pg_sl (pv 0)))
      (pss_one (ps_asg (pv 1) (pg_sl (pv 0))))), ?_⟩
    have T0 := T_Program
    have s0 : SlX.Slt H a C dx [] := .inl ⟨hai, rfl⟩
    refine ⟨.str _, rfl, is, rfl, L, fun H1 t o1 ht => ?_⟩
    have s1 := Slt.same o1.same s0
    refine ⟨.ref a, rfl, a, C, dx, p0, _, 0, rfl, s1, T0.c, T0.s0, ?_⟩
    have oB : Old [] H0 (SlX.slH H1 a C dx (SlX.putS 0 (.ref t) [])) := (o0.trans o1).slot ha0 hx0
    have sB : SlX.Slt (SlX.slH H1 a C dx (SlX.putS 0 (.ref t) [])) a C dx [some (.ref t)] := SlX.slH_slt ndx
    have hB : Dp K (SlX.slH H1 a C dx (SlX.putS 0 (.ref t) [])) (.ref t) (PR.linesD is) := by
      refine PL.Dp.keep (tk_slot ?_ ?_) _ _ (linesD_only is) ht
      · rw [o1 _ _ (by simp) hai]; exact ⟨fun xs z => (nomatch z), fun p u z => (nomatch z)⟩
      · rw [o1 _ _ (by simp) hdx]; exact ⟨fun xs z => (nomatch z), fun p u z => (nomatch z)⟩
    have eA : (SlX.slH H1 a C dx (SlX.putS 0 (.ref t) [])) a = some (SlX.SlO a C dx (SlX.putS 0 (.ref t) [])) := upd_same
    have eX : (SlX.slH H1 a C dx (SlX.putS 0 (.ref t) [])) dx = some (.xd []) := by unfold SlX.slH; rw [upd_ne ndx, upd_same]
    generalize SlX.slH H1 a C dx (SlX.putS 0 (.ref t) []) = H2 at oB sB hB eA eX ⊢
    refine ⟨.str (PR.progS is), rfl, .ref a, rfl, a, C, dx, p1, _, 1, rfl, sB, T0.c, T0.s1, ?_⟩
    refine q _ t (oB.slot ha0 hx0) (SlX.slH_slt ndx) ?_
    exact PL.Dp.keep (tk_slot (by rw [eA]; exact nt_slO) (by rw [eX]; exact nt_xd)) _ _ (linesD_only is) hB
/-! Program.lines: slots self=0; cells [] -/
abbrev s_Pr_lines : Stmt := inClass (topS 27) 3
abbrev N_Pr_lines : List Str := ["self"]
theorem sc_Pr_lines : FnScope N_Pr_lines ["self"] (defScope s_Pr_lines) := ⟨rfl, rfl, rfl, by decide +kernel, rfl, by decide +kernel, by decide +kernel⟩
theorem ok_pr_lines {f C p0 p1 : Addr} {fd : FuncData} (F : Fun K "lines" "Program.lines" s_Pr_lines f fd) (T_Program : PrT K C p0 p1) : FnOk P w K mg base CX0 1 f fd ["self"] (spLines K C) := by
  refine F.ok sc_Pr_lines (fun vs H Q E h => ?_) (fun cdv A outer s H vs Q E hr h => ?_)
  · obtain ⟨p, dx, v, u, rfl, _⟩ := h
    rfl
  · obtain ⟨p, dx, v, u, rfl, sl, q⟩ := h
    refine ⟨_, (pss_one (ps_ret (SlX.pe_sl (pv 0)))), ?_⟩
    exact ⟨.ref p, rfl, p, C, dx, p0, _, 0, v, rfl, sl, T_Program.c, T_Program.s0, rfl, q⟩
end
end L2.T31

namespace L2.T31
open PySem PySem.Spec PyProof.Rows L2.PL
def spIsInt : Sp := fun vs H Q _ => ∃ i lo hi : Int, vs = [.int i, .int lo, .int hi] ∧ Q (.bl (decide (lo ≤ i) && decide (i ≤ hi))) H
/-- a packet -/
structure PkOk (pk : List Int) : Prop where
  l1 : 1 ≤ pk.length
  l2 : pk.length ≤ 24
  ok : ∀ c ∈ pk, 0 ≤ c ∧ c ≤ 255
def pkD (pk : List Int) : PyData := .tuple (pk.map .int)
theorem pkA_only (pk : List Int) : tupOnlyAll (pk.map PyData.int) = true := by
  induction pk with
  | nil => rfl
  | cons i is ih =>
    show (true && tupOnlyAll (is.map PyData.int)) = true
    rw [ih]; rfl
theorem pkD_only (pk : List Int) : tupOnly (pkD pk) = true := pkA_only pk
def spIsPk (K : PySem.W.Frag) : Sp := fun vs H Q _ => ∃ (v : V) (pk : List Int), vs = [v] ∧ Dp K H v (pkD pk) ∧ PkOk pk ∧ ∀ H', Old [] H H' → Q (.bl true) H'
def spLookPk (K : PySem.W.Frag) : Sp := fun vs H Q _ => ∃ (v : V) (pk : List Int), vs = [v] ∧ Dp K H v (pkD pk) ∧ PkOk pk ∧ ∀ H', Old [] H H' → Q .non H'
def spIsUnset (K : PySem.W.Frag) : Sp := fun vs H Q _ => ∃ (t kd : Addr) (i : PR.Ins) (kvs : List (Key × V)) (m : PR.Mem), vs = [.ref t, .ref kd] ∧ SqT K H t (PR.insV i) ∧ H kd = some (.dK kvs) ∧ PR.MemIs kvs m ∧ ∀ H', Old [] H H' → Q (.bl (PR.unset i m)) H'
def spGoes (K : PySem.W.Frag) : Sp := fun vs H Q _ => ∃ (t kd : Addr) (i : PR.Ins) (kvs : List (Key × V)) (m : PR.Mem), vs = [.ref t, .ref kd] ∧ SqT K H t (PR.insV i) ∧ H kd = some (.dK kvs) ∧ PR.MemIs kvs m ∧ PR.isJump i = true ∧ PR.unset i m = false ∧ Q (.bl (PR.goes m i)) H
def spPut (K : PySem.W.Frag) : Sp := fun vs H Q _ => ∃ (t kd : Addr) (p : V) (i : PR.Ins) (kvs : List (Key × V)) (m : PR.Mem) (pk : List Int), vs = [.ref t, .ref kd, p] ∧ SqT K H t (PR.insV i) ∧ H kd = some (.dK kvs) ∧ PR.MemIs kvs m ∧ kvs.length < 1000 ∧ Dp K H p (pkD pk) ∧ pk.length ≤ 24 ∧
  PR.isJump i = false ∧ PR.isEnd i = false ∧ PR.unset i m = false ∧ (PR.stores pk m i = none → ∀ H', Old [] H H' → Q (.bl false) H') ∧
  (∀ m', PR.stores pk m i = some m' → ∀ H' kvs', Old [kd] H H' → H' kd = some (.dK kvs') → PR.MemIs kvs' m' → kvs'.length ≤ kvs.length + 1 → Q (.bl true) H')
theorem needs_at : ∀ i, ∀ p ∈ PR.needs i, (PR.insV i)[p.1]? = some (.str (PR.rg p.2)) := by
  intro i p hp
  cases i <;> simp only [PR.needs, List.mem_cons, List.not_mem_nil, or_false] at hp
  case copy r s => subst hp; rfl
  case add r n => subst hp; rfl
  case load r s n => subst hp; rfl
  case less r s n l => rcases hp with rfl | rfl <;> rfl
  case atmost r n l => subst hp; rfl
  case same r n l => subst hp; rfl
theorem val_of {i : PR.Ins} {m : PR.Mem} (h : PR.unset i m = false) : ∀ p ∈ PR.needs i, m p.2 = some (PR.val m p.2) := by
  intro p hp
  unfold PR.unset at h
  have := List.any_eq_false.mp h p hp
  unfold PR.val
  cases e : m p.2 with
  | none => rw [e] at this; exact absurd rfl this
  | some v => rfl
section
variable {P : Program} {w : World} {K : PySem.W.Frag} {mg : Str → Option Value} {base : Heap}
/-! is_int: slots value=0 low=1 high=2; cells [] -/
abbrev s_is_int : Stmt := topS 6
abbrev N_is_int : List Str := ["value", "low", "high"]
theorem sc_is_int : FnScope N_is_int ["value", "low", "high"] (defScope s_is_int) := ⟨rfl, rfl, rfl, by decide +kernel, rfl, by decide +kernel, by decide +kernel⟩
theorem ok_is_int {f : Addr} {fd : FuncData} (F : Fun K "is_int" "is_int" s_is_int f fd) (T : Bt mg) : FnOk P w K mg base CX0 1 f fd ["value", "low", "high"] spIsInt := by
  refine F.ok sc_is_int (fun vs H Q E h => ?_) (fun cdv A outer s H vs Q E hr h => ?_)
  · obtain ⟨i, lo, hi, rfl, _⟩ := h
    rfl
  · obtain ⟨i, lo, hi, rfl, q⟩ := h
    refine ⟨_, (pss_one (ps_ret (pe_and (pe_callB call_isi (by rfl) T.z_isinstance bz_isinstance (pa_cons (pv 0) (pa_cons (pe_bltn (v := .ty "int") (by rfl) T.z_int bz_int rfl) pa_nil))) (pe_and (pe_not (pe_callB call_isi (by rfl) T.z_isinstance bz_isinstance (pa_cons (pv 0) (pa_cons (pe_bltn (v := .ty "bool") (by rfl) T.z_bool bz_bool rfl) pa_nil)))) (pe_one (pe_chain op_le op_le (pv 1) (pv 0) (pv 2))))))), ?_⟩
    refine ⟨.int i, rfl, .int i, .ty "int", _, _, true, rfl, .ty _, tyx_int i, kit_int_int, true, rfl, iteT ?_⟩
    refine ⟨.int i, rfl, .int i, .ty "bool", _, _, false, rfl, .ty _, tyx_int i, kit_int_bool, false, rfl, true, rfl, iteT ?_⟩
    refine ⟨.int lo, rfl, .int i, rfl, lo, i, rfl, rfl, _, rfl, ite2 (fun c => ?_) (fun c => ?_)⟩
    · refine ⟨.int hi, rfl, i, hi, rfl, rfl, ?_⟩
      rw [c] at q
      exact q
    · rw [Bool.not_eq_true] at c
      rw [c] at q
      exact q
/-! is_packet: slots value=0 cell=1; cells [] -/
abbrev s_is_packet : Stmt := topS 12
abbrev N_is_packet : List Str := ["value", "cell"]
theorem sc_is_packet : FnScope N_is_packet ["value"] (defScope s_is_packet) := ⟨rfl, rfl, rfl, by decide +kernel, rfl, by decide +kernel, by decide +kernel⟩
theorem ok_is_packet {f : Addr} {fd : FuncData} (F : Fun K "is_packet" "is_packet" s_is_packet f fd) (T : Tx mg) (C_is_int : Cal P w K mg base CX0 "is_int" ["value", "low", "high"] 1 spIsInt) : FnOk P w K mg base CX0 2 f fd ["value"] (spIsPk K) := by
  refine F.ok sc_is_packet (fun vs H Q E h => ?_) (fun cdv A outer s H vs Q E hr h => ?_)
  · obtain ⟨v, pk, rfl, _⟩ := h
    rfl
  · obtain ⟨v, pk, rfl, hd, ok, q⟩ := h
    obtain ⟨a, rfl, ha⟩ := dp_intTup hd
    have l1 := ok.l1
    have l2 := ok.l2
    refine ⟨_, (pss_cons (ps_if (PW.pt (pw_or (pt_not (pt_val (pe_callB call_isi (by rfl) T.z_isinstance bz_isinstance (pa_cons (pv 0) (pa_cons (pe_bltn (v := .ty "tuple") (by rfl) T.z_tuple bz_tuple rfl) pa_nil))))) (pw_or1 (pt_not (pt_chain op_le op_le pe_int (pe_callB call_len_seq (by rfl) T.z_len bz_len (pa_cons (pv 0) pa_nil)) (pe_gI (by rfl) T.g_MOST_CELLS))))))
       (pss_one (ps_ret pe_bl))
       pss_nil)
      (pss_one (ps_ret (pe_callB (cr_all rfl) (by rfl) T.z_all bz_all (pa_cons (pe_lc (own := [("cell", 1)]) (g := gName 1) (tt := tYes) rfl sc_is_packet.nd (pi_tup (pv 0)) (blkOk_by (N := N_is_packet) (sc := defScope s_is_packet) (by decide +kernel)) (fun _ _ _ _ _ => (pg_name (i := 1) sc_is_packet.nd rfl (Or.inl rfl))) (fun _ _ _ _ _ => pts_nil) (fun _ _ _ _ _ => (pe_cal C_is_int hr (by rfl) pass0 (pa_cons (pv 1) (pa_cons pe_int (pa_cons (pe_gI (by rfl) T.g_MOST_CELL) pa_nil)))))) pa_nil))))), ?_⟩
    refine ⟨.ref a, rfl, .ref a, .ty "tuple", _, _, true, rfl, .ty _, tyx_tup ha, kit_tup_tup, true, rfl, iteF ?_⟩
    refine ⟨.ref a, rfl, a, _, rfl, .inr ha, 1, _, rfl, rfl, true, congrArg V.bl (decide_eq_true (by rw [List.length_map]; omega)), iteT ?_⟩
    refine ⟨_, 24, rfl, rfl, true, congrArg V.bl (decide_eq_true (by rw [List.length_map]; omega)), iteF ?_⟩
    refine ⟨.ref a, rfl, a, rfl, ⟨_, ha⟩, fun D hD => ?_⟩
    refine lc_tup (K := K) (a := a) (xs := pk.map V.int) (fun i H' => Old [] H H' ∧ H' D = some (.lst ((List.replicate i true).map V.bl))) ⟨Old.new0 hD, upd_same⟩ (fun i H' _ h => (h.1.tk NoTup.nil).seq ha) ?_ ?_
    · rintro i y H1 hy ⟨o1, h1⟩
      have hi : i < pk.length := by have := (List.getElem?_eq_some_iff.mp hy).1; rw [List.length_map] at this; exact this
      rw [List.getElem?_map, List.getElem?_eq_getElem hi] at hy
      have ey : y = .int pk[i] := (Option.some.inj hy).symm
      subst ey
      have hc := ok.ok pk[i] (List.getElem_mem hi)
      generalize pk[i] = c at hc ⊢
      refine ⟨rfl, .int c, rfl, c, 0, 255, rfl, ?_⟩
      rw [show (decide ((0 : Int) ≤ c) && decide (c ≤ (255 : Int))) = true by simp; omega]
      refine ⟨_, h1, ?_, o1.put0 hD, ?_⟩
      · rw [List.length_map, List.length_replicate]; exact Nat.lt_of_lt_of_le (Nat.lt_of_lt_of_le hi l2) (by decide)
      · rw [upd_same, List.replicate_succ', List.map_append]; rfl
    · rintro H1 ⟨o1, h1⟩
      refine ⟨D, _, rfl, SqL.of h1, ?_⟩
      have e : (List.replicate (pk.map V.int).length true).all id = true := by
        rw [List.all_eq_true]
        intro b hb
        rw [(List.mem_replicate.mp hb).2]; rfl
      rw [e]
      exact q H1 o1
/-! look_at_packet: slots packet=0; cells [] -/
abbrev s_look_at_packet : Stmt := topS 13
abbrev N_look_at_packet : List Str := ["packet"]
theorem sc_look_at_packet : FnScope N_look_at_packet ["packet"] (defScope s_look_at_packet) := ⟨rfl, rfl, rfl, by decide +kernel, rfl, by decide +kernel, by decide +kernel⟩
theorem ok_look_at_packet {f : Addr} {fd : FuncData} (F : Fun K "look_at_packet" "look_at_packet" s_look_at_packet f fd) (C_is_packet : Cal P w K mg base CX0 "is_packet" ["value"] 2 (spIsPk K)) : FnOk P w K mg base CX0 3 f fd ["packet"] (spLookPk K) := by
  refine F.ok sc_look_at_packet (fun vs H Q E h => ?_) (fun cdv A outer s H vs Q E hr h => ?_)
  · obtain ⟨v, pk, rfl, _⟩ := h
    rfl
  · obtain ⟨v, pk, rfl, hd, ok, q⟩ := h
    refine ⟨_, (pss_one (ps_if (pt_not (pt_val (pe_cal C_is_packet hr (by rfl) pass0 (pa_cons (pv 0) pa_nil))))
       pss_never
       pss_nil)), ?_⟩
    exact ⟨v, rfl, v, pk, rfl, hd, ok, fun H1 o1 => ⟨true, rfl, iteF (q H1 o1)⟩⟩
/-! is_unset: slots instruction=0 known=1 at=2; cells ['instruction', 'known'] -/
abbrev s_is_unset : Stmt := topS 28
abbrev N_is_unset : List Str := ["instruction", "known", "at"]
theorem sc_is_unset : FnScope N_is_unset ["instruction", "known"] (defScope s_is_unset) := ⟨rfl, rfl, rfl, by decide +kernel, rfl, by decide +kernel, by decide +kernel⟩
theorem ok_is_unset {f : Addr} {fd : FuncData} {dN : Addr} (F : Fun K "is_unset" "is_unset" s_is_unset f fd) (T₀ : Tx mg) (Nd : Nds K w mg dN) : FnOk P w K mg base CX0 1 f fd ["instruction", "known"] (spIsUnset K) := by
  have T : TxN mg dN := ⟨T₀, Nd.g_NEEDS⟩
  refine F.ok sc_is_unset (fun vs H Q E h => ?_) (fun cdv A outer s H vs Q E hr h => ?_)
  · obtain ⟨t, kd, i, kvs, m, rfl, _⟩ := h
    rfl
  · obtain ⟨t, kd, i, kvs, m, rfl, ht, hk, mem, q⟩ := h
    have hu := hu_of hr
    refine ⟨_, (pss_one (ps_ret (pe_callB (cr_any rfl) (by rfl) T.z_any bz_any (pa_cons (pe_lc (own := [("at", 2)]) (g := gName 2) (tt := tYes) rfl sc_is_unset.nd (pi_tup (pe_kget2 (pe_gR (by rfl) T.g_NEEDS) (pe_ix ix_tup (pv 0) pe_int (fun _ _ => rfl)) (pe_tup pa_nil) ⟨by rfl, by rfl, by rfl, by rfl⟩)) (blkOk_by (N := N_is_unset) (sc := defScope s_is_unset) (by decide +kernel)) (fun _ _ _ _ _ => (pg_name (i := 2) sc_is_unset.nd rfl (Or.inl rfl))) (fun _ _ _ _ _ => pts_nil) (fun _ _ _ _ _ => (pe_cmp (pc_dnotin hu (pe_ix (ix_tupK (K := K)) (pv 0) (pv 2) (fun _ _ => rfl)) (pv 1)) rfl))) pa_nil)))), ?_⟩
    have isk : IsKD K dN := by
      rcases Nd.at_ i with ⟨_, k⟩ | ⟨ta, k, _⟩
      · exact k.is
      · exact k.is
    refine ⟨dN, rfl, isk, .ref t, rfl, t, _, 0, .str (PR.word i), rfl, rfl, ht, atI_nat (j := 0) rfl, Nat.zero_le _, fun p np => ?_⟩
    have o1 : Old [] H (upd H p (.tup [])) := Old.new0 np
    have hp1 : (upd H p (.tup [])) p = some (.tup []) := upd_same
    generalize upd H p (.tup []) = H1 at o1 hp1 ⊢
    clear np
    obtain ⟨o, tt, kd', hv, hsq⟩ : ∃ (o : Option V) (tt : Addr), KDo K w dN (PR.word i) o ∧ o.getD (.ref p) = .ref tt ∧ ∀ H', Old [] H1 H' → SqT K H' tt ((PR.needs i).map fun p => V.int (p.1 : Int)) := by
      rcases Nd.at_ i with ⟨e, k⟩ | ⟨ta, k, hs⟩
      · refine ⟨none, p, k, rfl, fun H' o' => ?_⟩
        rw [e]
        exact (o'.tk NoTup.nil).seq (SqT.of hp1)
      · exact ⟨_, ta, k, rfl, fun H' _ => hs H'⟩
    refine ⟨PR.word i, o, rfl, kd', ?_⟩
    rw [hv]
    refine ⟨tt, rfl, ⟨_, hsq H1 (Old.refl _ _)⟩, fun D nD => ?_⟩
    refine lc_tup (K := K) (a := tt) (xs := (PR.needs i).map fun p => V.int (p.1 : Int)) (fun j H' => Old [] H1 H' ∧ H' D = some (.lst ((((PR.needs i).take j).map fun p => (m p.2).isNone).map V.bl))) ⟨Old.new0 nD, upd_same⟩ (fun j H' _ h => hsq H' h.1) ?_ ?_
    · rintro j y H2 hy ⟨o2, h2⟩
      have hj : j < (PR.needs i).length := by have := (List.getElem?_eq_some_iff.mp hy).1; rw [List.length_map] at this; exact this
      rw [List.getElem?_map, List.getElem?_eq_getElem hj] at hy
      have ey : y = .int ((PR.needs i)[j].1 : Int) := (Option.some.inj hy).symm
      subst ey
      have hm := List.getElem_mem hj
      have hn := needs_at i _ hm
      rw [List.take_succ_eq_append_getElem hj]
      generalize (PR.needs i)[j] = pr at hn ⊢
      have ht2 := ((o1.trans o2).tk NoTup.nil).seq ht
      have hk2 := (o1.trans o2) _ _ (by simp) hk
      refine ⟨rfl, .ref t, rfl, .int (pr.1 : Int), rfl, t, _, (pr.1 : Int), .str (PR.rg pr.2), rfl, rfl, ht2, atI_nat hn, .ref kd, rfl, kd, _, rfl, DGet.k (k := .inr (PR.rg pr.2)) hk2, ?_⟩
      rw [mem.val]
      refine ⟨_, h2, ?_, o2.put0 nD, ?_⟩
      · rw [List.length_map, List.length_map, List.length_take]
        have : (PR.needs i).length ≤ 2 := by cases i <;> simp [PR.needs]
        exact Nat.lt_of_le_of_lt (Nat.le_trans (Nat.min_le_right _ _) this) (by decide)
      · have e : (!((m pr.2).map V.int).isSome) = (m pr.2).isNone := by cases m pr.2 <;> rfl
        rw [upd_same, List.map_append, List.map_append, e]; rfl
    · rintro H2 ⟨o2, h2⟩
      rw [List.length_map, List.take_length] at h2
      refine ⟨D, _, rfl, SqL.of h2, ?_⟩
      have e : (((PR.needs i).map fun p => (m p.2).isNone).any id) = PR.unset i m := by
        unfold PR.unset
        rw [List.any_map]; rfl
      rw [e]
      exact q H2 (o1.trans o2)
/-! does_go: slots instruction=0 known=1 word=2; cells [] -/
abbrev s_does_go : Stmt := topS 29
abbrev N_does_go : List Str := ["instruction", "known", "word"]
theorem sc_does_go : FnScope N_does_go ["instruction", "known"] (defScope s_does_go) := ⟨rfl, rfl, rfl, by decide +kernel, rfl, by decide +kernel, by decide +kernel⟩
theorem ok_does_go {f : Addr} {fd : FuncData} (F : Fun K "does_go" "does_go" s_does_go f fd) (T : Tx mg) : FnOk P w K mg base CX0 1 f fd ["instruction", "known"] (spGoes K) := by
  refine F.ok sc_does_go (fun vs H Q E h => ?_) (fun cdv A outer s H vs Q E hr h => ?_)
  · obtain ⟨t, kd, i, kvs, m, rfl, _⟩ := h
    rfl
  · obtain ⟨t, kd, i, kvs, m, rfl, ht, hk, mem, hj, hun, q⟩ := h
    have hu := hu_of hr
    refine ⟨_, (pss_cons (ps_set (i := 2) sc_does_go.nd rfl (.inl rfl) (pe_ix ix_tup (pv 0) pe_int (fun _ _ => rfl)))
      (pss_cons (ps_if (pt_cmpR op_eq (pv 2) pe_str (nomark _))
       (pss_one (ps_ret (pe_cmpR op_le (pe_op op_sub (pe_dget hu (pv 1) (pe_ix ix_tup (pv 0) pe_int (fun _ _ => rfl)) (fun _ _ => rfl)) (pe_dget hu (pv 1) (pe_ix ix_tup (pv 0) pe_int (fun _ _ => rfl)) (fun _ _ => rfl))) (pe_ix ix_tup (pv 0) (pe_un un_neg pe_int) (fun _ _ => rfl)) (nomark _))))
       pss_nil)
      (pss_cons (ps_if (pt_cmpR op_eq (pv 2) pe_str (nomark _))
       (pss_one (ps_ret (pe_cmpR op_le (pe_dget hu (pv 1) (pe_ix ix_tup (pv 0) pe_int (fun _ _ => rfl)) (fun _ _ => rfl)) (pe_ix ix_tup (pv 0) pe_int (fun _ _ => rfl)) (nomark _))))
       pss_nil)
      (pss_one (ps_ret (pe_or (pe_cmpR op_eq (pv 2) pe_str (nomark _)) (pe_one (pe_cmpR op_eq (pe_dget hu (pv 1) (pe_ix ix_tup (pv 0) pe_int (fun _ _ => rfl)) (fun _ _ => rfl)) (pe_ix ix_tup (pv 0) pe_int (fun _ _ => rfl)) (nomark _))))))))), ?_⟩
    have get : ∀ p ∈ PR.needs i, DGet H kd (.str (PR.rg p.2)) (some (.int (PR.val m p.2))) := fun p hp => by
      have := DGet.k (k := .inr (PR.rg p.2)) hk
      rw [mem.val, val_of hun p hp] at this
      exact this
    have ix : ∀ (k : Nat) (v : V), (PR.insV i)[k]? = some v → atI (PR.insV i) (k : Int) = some v := fun k v h => atI_nat h
    refine ⟨.ref t, rfl, t, _, 0, .str (PR.word i), rfl, rfl, ht, atI_nat (j := 0) rfl, ?_⟩
    cases i with
    | jump l =>
      refine ⟨.str "jump", rfl, rfl, false, sF (by decide +kernel), iteF ?_⟩
      refine ⟨.str "jump", rfl, rfl, false, sF (by decide +kernel), iteF ?_⟩
      refine ⟨.str "jump", rfl, rfl, true, sT rfl, iteT q⟩
    | less r s n l =>
      refine ⟨.str "less", rfl, rfl, true, sT rfl, iteT ?_⟩
      refine ⟨.ref kd, rfl, .ref t, rfl, t, _, 1, .str (PR.rg r), rfl, rfl, ht, atI_nat (j := 1) rfl, kd, _, rfl, get (1, r) (.head _), .ref kd, rfl, .ref t, rfl, t, _, 2, .str (PR.rg s), rfl, rfl, ht, atI_nat (j := 2) rfl, kd, _, rfl, get (2, s) (.tail _ (.head _)), _, _, rfl, rfl, ?_⟩
      refine ⟨.ref t, rfl, 2, rfl, t, _, -2, .int n, rfl, rfl, ht, rfl, _, n, rfl, rfl, q⟩
    | atmost r n l =>
      refine ⟨.str "atmost", rfl, rfl, false, sF (by decide +kernel), iteF ?_⟩
      refine ⟨.str "atmost", rfl, rfl, true, sT rfl, iteT ?_⟩
      exact ⟨.ref kd, rfl, .ref t, rfl, t, _, 1, .str (PR.rg r), rfl, rfl, ht, atI_nat (j := 1) rfl, kd, _, rfl, get (1, r) (.head _), .ref t, rfl, t, _, 2, .int n, rfl, rfl, ht, atI_nat (j := 2) rfl, _, n, rfl, rfl, q⟩
    | same r n l =>
      refine ⟨.str "same", rfl, rfl, false, sF (by decide +kernel), iteF ?_⟩
      refine ⟨.str "same", rfl, rfl, false, sF (by decide +kernel), iteF ?_⟩
      refine ⟨.str "same", rfl, rfl, false, sF (by decide +kernel), iteF ?_⟩
      refine ⟨.ref kd, rfl, .ref t, rfl, t, _, 1, .str (PR.rg r), rfl, rfl, ht, atI_nat (j := 1) rfl, kd, _, rfl, get (1, r) (.head _), .ref t, rfl, t, _, 2, .int n, rfl, rfl, ht, atI_nat (j := 2) rfl, rfl, ?_⟩
      have e : decide (V.int (PR.val m r) = V.int n) = decide (PR.val m r = n) := by
        rw [decide_eq_decide]
        exact ⟨fun z => V.int.inj z, fun z => congrArg V.int z⟩
      rw [e]
      exact q
    | set r n => cases hj
    | copy r s => cases hj
    | add r n => cases hj
    | length r => cases hj
    | load r s n => cases hj
    | pass => cases hj
    | drop => cases hj
/-! put: slots instruction=0 known=1 packet=2 word=3 register=4 rest=5 place=6; cells [] -/
abbrev s_put : Stmt := topS 30
abbrev N_put : List Str := ["instruction", "known", "packet", "word", "register", "rest", "place"]
theorem sc_put : FnScope N_put ["instruction", "known", "packet"] (defScope s_put) := ⟨rfl, rfl, rfl, by decide +kernel, rfl, by decide +kernel, by decide +kernel⟩
theorem ok_put {f : Addr} {fd : FuncData} (F : Fun K "put" "put" s_put f fd) (T : Tx mg) : FnOk P w K mg base CX0 1 f fd ["instruction", "known", "packet"] (spPut K) := by
  refine F.ok sc_put (fun vs H Q E h => ?_) (fun cdv A outer s H vs Q E hr h => ?_)
  · obtain ⟨t, kd, p, i, kvs, m, pk, rfl, _⟩ := h
    rfl
  · obtain ⟨t, kd, p, i, kvs, m, pk, rfl, ht, hk, mem, hkl, hp, hpl, hj, he, hun, q0, q1⟩ := h
    obtain ⟨pa, rfl, hpa⟩ := dp_intTup hp
    have hu := hu_of hr
    refine ⟨_, (pss_cons (ps_asg (pv 0) (pg_star (by rfl) (pgs_cons (pg_name (i := 3) sc_put.nd rfl (Or.inl rfl)) (pgs_cons (pg_name (i := 4) sc_put.nd rfl (Or.inl rfl)) (pgs_star (pg_name (i := 5) sc_put.nd rfl (Or.inl rfl)))))))
      (pss_cons (ps_if (pt_cmpR op_eq (pv 3) pe_str (nomark _))
       (pss_cons (ps_set (i := 6) sc_put.nd rfl (.inl rfl) (pe_op op_add (pe_dget hu (pv 1) (pe_ix ix_list (pv 5) pe_int (fun _ _ => rfl)) (fun _ _ => rfl)) (pe_ix ix_list (pv 5) pe_int (fun _ _ => rfl))))
        (pss_cons (ps_if (pt_not (pt_chain op_le op_lt pe_int (pv 6) (pe_callB call_len_seq (by rfl) T.z_len bz_len (pa_cons (pv 2) pa_nil))))
         (pss_one (ps_ret pe_bl))
         pss_nil)
        (pss_one (ps_asg (pe_ix ix_tup (pv 2) (pv 6) (fun _ _ => rfl)) (pg_sub (pv 1) (pv 4) (set_dict hu))))))
       (pss_one (ps_if (pt_cmpR op_eq (pv 3) pe_str (nomark _))
         (pss_one (ps_asg (pe_ix ix_list (pv 5) pe_int (fun _ _ => rfl)) (pg_sub (pv 1) (pv 4) (set_dict hu))))
         (pss_one (ps_if (pt_cmpR op_eq (pv 3) pe_str (nomark _))
           (pss_one (ps_asg (pe_dget hu (pv 1) (pe_ix ix_list (pv 5) pe_int (fun _ _ => rfl)) (fun _ _ => rfl)) (pg_sub (pv 1) (pv 4) (set_dict hu))))
           (pss_one (ps_if (pt_cmpR op_eq (pv 3) pe_str (nomark _))
             (pss_one (ps_daug hu (pv 1) (pv 4) (pe_ix ix_list (pv 5) pe_int (fun _ _ => rfl)) in_add (by intros; rfl)))
             (pss_one (ps_asg (pe_callB call_len_seq (by rfl) T.z_len bz_len (pa_cons (pv 2) pa_nil)) (pg_sub (pv 1) (pv 4) (set_dict hu)))))))))))
      (pss_one (ps_ret pe_bl)))), ?_⟩
    have main : ∀ (r : Nat) (v : Int) (m' : PR.Mem) (G : Hp), PR.stores pk m i = some m' → m' = PR.put m r v → Old [] H G → G kd = some (.dK kvs) → Q (.bl true) (upd G kd (.dK (putK kvs (.inr (PR.rg r)) (.int v)))) := fun r v m' G hs e oG hG => by
      subst e
      refine q1 _ hs _ _ ((oG.mono (fun x h => by simp at h)).put (by simp)) upd_same (mem.put r v) ?_
      exact length_putK _ _ _
    have get : ∀ {G : Hp}, G kd = some (.dK kvs) → ∀ p ∈ PR.needs i, DGet G kd (.str (PR.rg p.2)) (some (.int (PR.val m p.2))) := fun hG p hp => by
      have := DGet.k (k := .inr (PR.rg p.2)) hG
      rw [mem.val, val_of hun p hp] at this
      exact this
    have hsz : kvs.length < sizeLine := Nat.lt_trans hkl (by decide)
    cases i with
    | load r s n =>
      refine ⟨.ref t, rfl, t, _, rfl, ht, (by show 2 ≤ _; simp [PR.insV, PR.args]), fun rs nrs => ⟨_, _, rfl, _, _, rfl, _, _, rfl, rfl, ?_⟩⟩
      have hk1 : (upd H rs (.lst [.str (PR.rg s), .int n])) kd = some (.dK kvs) := by rw [upd_ne (ne_of_none hk nrs)]; exact hk
      have o1 : Old [] H (upd H rs (.lst [.str (PR.rg s), .int n])) := Old.new0 nrs
      have hr1 : (upd H rs (.lst [.str (PR.rg s), .int n])) rs = some (.lst [.str (PR.rg s), .int n]) := upd_same
      have hpa1 : SqT K (upd H rs (.lst [.str (PR.rg s), .int n])) pa (pk.map V.int) := (o1.tk NoTup.nil).seq hpa
      change tSeq _ _ _ _ (upd H rs (.lst [.str (PR.rg s), .int n]))
      generalize upd H rs (.lst [.str (PR.rg s), .int n]) = G at hk1 o1 hr1 hpa1 ⊢
      refine ⟨.str "load", rfl, rfl, true, sT rfl, iteT ?_⟩
      refine ⟨.ref kd, rfl, .ref rs, rfl, rs, _, 0, .str (PR.rg s), rfl, rfl, SqL.of hr1, atI_nat (j := 0) rfl, kd, _, rfl, get hk1 (2, s) (.head _), .ref rs, rfl, rs, _, 1, .int n, rfl, rfl, SqL.of hr1, atI_nat (j := 1) rfl, _, n, rfl, rfl, ?_⟩
      have hst : PR.stores pk m (.load r s n) = if 0 ≤ PR.val m s + n ∧ PR.val m s + n < (pk.length : Int) then some (PR.put m r (pk.getD (PR.val m s + n).toNat 0)) else none := rfl
      dsimp only
      generalize hpl' : PR.val m s + n = place at hst ⊢
      by_cases c1 : 0 ≤ place
      · by_cases c2 : place < (pk.length : Int)
        · refine ⟨.int place, rfl, 0, place, rfl, rfl, true, congrArg V.bl (decide_eq_true c1), iteT ?_⟩
          refine ⟨.ref pa, rfl, pa, _, rfl, .inr hpa1, place, _, rfl, rfl, true, congrArg V.bl (decide_eq_true (by rw [List.length_map]; exact c2)), iteF ?_⟩
          obtain ⟨k, rfl⟩ : ∃ k : Nat, place = (k : Int) := ⟨place.toNat, by omega⟩
          have hkp : k < pk.length := by omega
          refine ⟨.ref pa, rfl, .int (k : Int), rfl, pa, _, (k : Int), .int pk[k], rfl, rfl, hpa1, atI_nat (by rw [List.getElem?_map, List.getElem?_eq_getElem hkp]; rfl), ?_⟩
          refine ⟨.ref kd, rfl, .str (PR.rg r), rfl, kd, _, rfl, DPut.k (k := .inr (PR.rg r)) hk1 hsz, ?_⟩
          rw [if_pos ⟨c1, c2⟩] at hst
          refine main r pk[k] _ G hst ?_ o1 hk1
          rw [Int.toNat_natCast, List.getD_eq_getElem?_getD, List.getElem?_eq_getElem hkp]; rfl
        · refine ⟨.int place, rfl, 0, place, rfl, rfl, true, congrArg V.bl (decide_eq_true c1), iteT ?_⟩
          refine ⟨.ref pa, rfl, pa, _, rfl, .inr hpa1, place, _, rfl, rfl, false, congrArg V.bl (decide_eq_false (by rw [List.length_map]; exact c2)), iteT ?_⟩
          rw [if_neg (fun z => c2 z.2)] at hst
          exact q0 hst G o1
      · refine ⟨.int place, rfl, 0, place, rfl, rfl, false, congrArg V.bl (decide_eq_false c1), iteF ?_⟩
        refine ⟨false, rfl, iteT ?_⟩
        rw [if_neg (fun z => c1 z.1)] at hst
        exact q0 hst G o1
    | set r n =>
      refine ⟨.ref t, rfl, t, _, rfl, ht, (by show 2 ≤ _; simp [PR.insV, PR.args]), fun rs nrs => ⟨_, _, rfl, _, _, rfl, _, _, rfl, rfl, ?_⟩⟩
      have hk1 : (upd H rs (.lst [.int n])) kd = some (.dK kvs) := by rw [upd_ne (ne_of_none hk nrs)]; exact hk
      have o1 : Old [] H (upd H rs (.lst [.int n])) := Old.new0 nrs
      have hr1 : (upd H rs (.lst [.int n])) rs = some (.lst [.int n]) := upd_same
      have hpa1 : SqT K (upd H rs (.lst [.int n])) pa (pk.map V.int) := (o1.tk NoTup.nil).seq hpa
      change tSeq _ _ _ _ (upd H rs (.lst [.int n]))
      generalize upd H rs (.lst [.int n]) = G at hk1 o1 hr1 hpa1 ⊢
      refine ⟨.str "set", rfl, rfl, false, sF (by decide +kernel), iteF ?_⟩
      refine ⟨.str "set", rfl, rfl, true, sT rfl, iteT ?_⟩
      refine ⟨.ref rs, rfl, rs, _, 0, .int n, rfl, rfl, SqL.of hr1, atI_nat (j := 0) rfl, .ref kd, rfl, .str (PR.rg r), rfl, kd, _, rfl, DPut.k (k := .inr (PR.rg r)) hk1 hsz, ?_⟩
      exact main r n _ G rfl rfl o1 hk1
    | copy r s =>
      refine ⟨.ref t, rfl, t, _, rfl, ht, (by show 2 ≤ _; simp [PR.insV, PR.args]), fun rs nrs => ⟨_, _, rfl, _, _, rfl, _, _, rfl, rfl, ?_⟩⟩
      have hk1 : (upd H rs (.lst [.str (PR.rg s)])) kd = some (.dK kvs) := by rw [upd_ne (ne_of_none hk nrs)]; exact hk
      have o1 : Old [] H (upd H rs (.lst [.str (PR.rg s)])) := Old.new0 nrs
      have hr1 : (upd H rs (.lst [.str (PR.rg s)])) rs = some (.lst [.str (PR.rg s)]) := upd_same
      have hpa1 : SqT K (upd H rs (.lst [.str (PR.rg s)])) pa (pk.map V.int) := (o1.tk NoTup.nil).seq hpa
      change tSeq _ _ _ _ (upd H rs (.lst [.str (PR.rg s)]))
      generalize upd H rs (.lst [.str (PR.rg s)]) = G at hk1 o1 hr1 hpa1 ⊢
      refine ⟨.str "copy", rfl, rfl, false, sF (by decide +kernel), iteF ?_⟩
      refine ⟨.str "copy", rfl, rfl, false, sF (by decide +kernel), iteF ?_⟩
      refine ⟨.str "copy", rfl, rfl, true, sT rfl, iteT ?_⟩
      refine ⟨.ref kd, rfl, .ref rs, rfl, rs, _, 0, .str (PR.rg s), rfl, rfl, SqL.of hr1, atI_nat (j := 0) rfl, kd, _, rfl, get hk1 (2, s) (.head _), .ref kd, rfl, .str (PR.rg r), rfl, kd, _, rfl, DPut.k (k := .inr (PR.rg r)) hk1 hsz, ?_⟩
      exact main r _ _ G rfl rfl o1 hk1
    | add r n =>
      refine ⟨.ref t, rfl, t, _, rfl, ht, (by show 2 ≤ _; simp [PR.insV, PR.args]), fun rs nrs => ⟨_, _, rfl, _, _, rfl, _, _, rfl, rfl, ?_⟩⟩
      have hk1 : (upd H rs (.lst [.int n])) kd = some (.dK kvs) := by rw [upd_ne (ne_of_none hk nrs)]; exact hk
      have o1 : Old [] H (upd H rs (.lst [.int n])) := Old.new0 nrs
      have hr1 : (upd H rs (.lst [.int n])) rs = some (.lst [.int n]) := upd_same
      have hpa1 : SqT K (upd H rs (.lst [.int n])) pa (pk.map V.int) := (o1.tk NoTup.nil).seq hpa
      change tSeq _ _ _ _ (upd H rs (.lst [.int n]))
      generalize upd H rs (.lst [.int n]) = G at hk1 o1 hr1 hpa1 ⊢
      refine ⟨.str "add", rfl, rfl, false, sF (by decide +kernel), iteF ?_⟩
      refine ⟨.str "add", rfl, rfl, false, sF (by decide +kernel), iteF ?_⟩
      refine ⟨.str "add", rfl, rfl, false, sF (by decide +kernel), iteF ?_⟩
      refine ⟨.str "add", rfl, rfl, true, sT rfl, iteT ?_⟩
      refine ⟨.ref kd, rfl, .str (PR.rg r), rfl, kd, _, rfl, get hk1 (1, r) (.head _), .ref rs, rfl, rs, _, 0, .int n, rfl, rfl, SqL.of hr1, atI_nat (j := 0) rfl, _, n, rfl, rfl, _, DPut.k (k := .inr (PR.rg r)) hk1 hsz, ?_⟩
      exact main r _ _ G rfl rfl o1 hk1
    | length r =>
      refine ⟨.ref t, rfl, t, _, rfl, ht, (by show 2 ≤ _; simp [PR.insV, PR.args]), fun rs nrs => ⟨_, _, rfl, _, _, rfl, _, _, rfl, rfl, ?_⟩⟩
      have hk1 : (upd H rs (.lst [])) kd = some (.dK kvs) := by rw [upd_ne (ne_of_none hk nrs)]; exact hk
      have o1 : Old [] H (upd H rs (.lst [])) := Old.new0 nrs
      have hr1 : (upd H rs (.lst [])) rs = some (.lst []) := upd_same
      have hpa1 : SqT K (upd H rs (.lst [])) pa (pk.map V.int) := (o1.tk NoTup.nil).seq hpa
      change tSeq _ _ _ _ (upd H rs (.lst []))
      generalize upd H rs (.lst []) = G at hk1 o1 hr1 hpa1 ⊢
      refine ⟨.str "length", rfl, rfl, false, sF (by decide +kernel), iteF ?_⟩
      refine ⟨.str "length", rfl, rfl, false, sF (by decide +kernel), iteF ?_⟩
      refine ⟨.str "length", rfl, rfl, false, sF (by decide +kernel), iteF ?_⟩
      refine ⟨.str "length", rfl, rfl, false, sF (by decide +kernel), iteF ?_⟩
      refine ⟨.ref pa, rfl, pa, _, rfl, .inr hpa1, .ref kd, rfl, .str (PR.rg r), rfl, kd, _, rfl, DPut.k (k := .inr (PR.rg r)) hk1 hsz, ?_⟩
      rw [List.length_map]
      exact main r _ _ G rfl rfl o1 hk1
    | jump l => cases hj
    | less r s n l => cases hj
    | atmost r n l => cases hj
    | same r n l => cases hj
    | pass => cases he
    | drop => cases he
end
end L2.T31

namespace L2.T31
open PySem PySem.Spec PyProof.Rows L2.PL
def spGone (K : PySem.W.Frag) (C : Addr) : Sp := fun vs H Q _ => ∃ (p : Addr) (v : V) (is : List PR.Ins) (pk : List Int), vs = [.ref p, v] ∧ ProgAt K C H p is ∧ Lns is ∧ Dp K H v (pkD pk) ∧ PkOk pk ∧
  ∀ H' t c e, Old [] H H' → H' t = some (.tup [.ref c, .ref e]) → H' c = some (.lst ((PR.run is pk).1.map fun (a : Nat) => V.int (a : Int))) → H' e = some (.tup (PR.toldV (PR.run is pk).2)) → Q (.ref t) H'
def toldD (t : PR.Told) : PyData := .tuple (PR.toldL t)
def cameD (c : List Nat) : PyData := .tuple (c.map fun (a : Nat) => PyData.int (a : Int))
def spRun (K : PySem.W.Frag) (C : Addr) : Sp := fun vs H Q _ => ∃ (p : Addr) (v : V) (is : List PR.Ins) (pk : List Int), vs = [.ref p, v] ∧ ProgAt K C H p is ∧ Lns is ∧ Dp K H v (pkD pk) ∧ PkOk pk ∧
  ∀ H' e, Old [] H H' → Dp K H' (.ref e) (toldD (PR.run is pk).2) → Q (.ref e) H'
def spTrace (K : PySem.W.Frag) (C : Addr) : Sp := fun vs H Q _ => ∃ (p : Addr) (v : V) (is : List PR.Ins) (pk : List Int), vs = [.ref p, v] ∧ ProgAt K C H p is ∧ Lns is ∧ Dp K H v (pkD pk) ∧ PkOk pk ∧
  ∀ H' e, Old [] H H' → Dp K H' (.ref e) (cameD (PR.run is pk).1) → Q (.ref e) H'
theorem told_dp {K : PySem.W.Frag} {H : Hp} (t : PR.Told) : DpAll K H (PR.toldV t) (PR.toldL t) := by
  cases t
  case passed a => exact .cons (.str _) (.cons (.int _) .nil)
  case dropped a => exact .cons (.str _) (.cons (.int _) .nil)
  case unset a => exact .cons (.str _) (.cons (.int _) (.cons (.str _) .nil))
  case beyond a => exact .cons (.str _) (.cons (.int _) (.cons (.str _) .nil))
  case end_ a => exact .cons (.str _) (.cons (.int _) (.cons (.str _) .nil))
theorem in_end (i : PR.Ins) : inV (.str (PR.word i)) [.str "pass", .str "drop"] = PR.isEnd i := by cases i <;> simp only [PR.word, PR.isEnd] <;> decide +kernel
theorem in_jump (i : PR.Ins) : inV (.str (PR.word i)) [.str "jump", .str "less", .str "atmost", .str "same"] = PR.isJump i := by cases i <;> simp only [PR.word, PR.isJump] <;> decide +kernel
theorem step_end {pk : List Int} {a : Nat} {m : PR.Mem} {i : PR.Ins} (h : PR.isEnd i = true) : ∃ t, PR.step pk a m i = .stop t ∧ PR.toldV t = [.str (PR.word i), .int (a : Int)] := by
  cases i <;> first | (cases h; done) | exact ⟨_, rfl, rfl⟩
theorem step_eq {pk : List Int} {a : Nat} {m : PR.Mem} {i : PR.Ins} (h : PR.isEnd i = false) : PR.step pk a m i = if PR.unset i m = true then .stop (.unset a) else if PR.isJump i = true then .go (if PR.goes m i = true then PR.goal i else a + 1) m else match PR.stores pk m i with | some m' => .go (a + 1) m' | none => .stop (.beyond a) := by
  cases i <;> first | (cases h; done) | rfl
theorem step_unset {pk : List Int} {a : Nat} {m : PR.Mem} {i : PR.Ins} (h : PR.isEnd i = false) (u : PR.unset i m = true) : PR.step pk a m i = .stop (.unset a) := by
  rw [step_eq h, if_pos u]
theorem step_jump {pk : List Int} {a : Nat} {m : PR.Mem} {i : PR.Ins} (h : PR.isEnd i = false) (u : PR.unset i m = false) (j : PR.isJump i = true) : PR.step pk a m i = .go (if PR.goes m i = true then PR.goal i else a + 1) m := by
  rw [step_eq h, if_neg (by rw [u]; decide), if_pos j]
theorem step_store {pk : List Int} {a : Nat} {m : PR.Mem} {i : PR.Ins} (h : PR.isEnd i = false) (u : PR.unset i m = false) (j : PR.isJump i = false) : PR.step pk a m i = match PR.stores pk m i with | some m' => .go (a + 1) m' | none => .stop (.beyond a) := by
  rw [step_eq h, if_neg (by rw [u]; decide), if_neg (by rw [j]; decide)]
theorem goal_at {i : PR.Ins} (j : PR.isJump i = true) : atI (PR.insV i) (-1) = some (.int (PR.goal i : Int)) := by
  cases i <;> first | (cases j; done) | rfl
theorem goal_ok {i : PR.Ins} {a : Nat} (j : PR.isJump i = true) (ok : PR.insOk a i) : a < PR.goal i ∧ PR.goal i ≤ 200 := by
  cases i <;> first | (cases j; done) | skip
  case jump l => exact ok (.l l) (by simp [PR.args])
  case less r s n l => exact ok (.l l) (by simp [PR.args])
  case atmost r n l => exact ok (.l l) (by simp [PR.args])
  case same r n l => exact ok (.l l) (by simp [PR.args])
theorem ins_at {K : PySem.W.Frag} {H : Hp} {v : V} {i : PR.Ins} (h : Dp K H v (PR.insD i)) : ∃ t, v = .ref t ∧ SqT K H t (PR.insV i) := by
  obtain ⟨t, xs, e, h1, h2⟩ := dp_tup h
  have : xs = PR.insV i := by
    cases h2 with
    | cons a b =>
      cases a
      have key : ∀ (as : List PR.Arg) (ys : List V), DpAll K H ys (as.map PR.Arg.d) → ys = as.map PR.Arg.v := by
        intro as
        induction as with
        | nil => intro ys h; cases h; rfl
        | cons a as ih =>
          intro ys h
          cases h with
          | cons p q =>
            rw [ih _ q]
            have : ∀ w : V, Dp K H w a.d → w = a.v := fun w z => by
              cases a <;> (cases z; rfl)
            rw [this _ p]; rfl
      rw [key _ _ b]; rfl
  rw [this] at h1
  exact ⟨t, e, h1⟩
theorem exec_some {is : List PR.Ins} {pk : List Int} {F a : Nat} {m : PR.Mem} {came : List Nat} {i : PR.Ins} (h : is[a]? = some i) : PR.exec is pk (F + 1) a m came = match PR.step pk a m i with | .stop t => (came ++ [a], t) | .go a' m' => PR.exec is pk F a' m' (came ++ [a]) := by
  show (match is[a]? with | none => (came, PR.Told.end_ is.length) | some i => match PR.step pk a m i with | .stop t => (came ++ [a], t) | .go a' m' => PR.exec is pk F a' m' (came ++ [a])) = _
  rw [h]
theorem exec_none {is : List PR.Ins} {pk : List Int} {F a : Nat} {m : PR.Mem} {came : List Nat} (h : is[a]? = none) : PR.exec is pk (F + 1) a m came = (came, .end_ is.length) := by
  show (match is[a]? with | none => (came, PR.Told.end_ is.length) | some i => match PR.step pk a m i with | .stop t => (came ++ [a], t) | .go a' m' => PR.exec is pk F a' m' (came ++ [a])) = _
  rw [h]
theorem exec_end {is : List PR.Ins} {pk : List Int} {F a : Nat} {m : PR.Mem} {came : List Nat} (h : is[a]? = none) : PR.exec is pk F a m came = (came, .end_ is.length) := by
  cases F with
  | zero => rfl
  | succ F => exact exec_none h
section
variable {P : Program} {w : World} {K : PySem.W.Frag} {mg : Str → Option Value} {base : Heap}
/-! gone: slots program=0 packet=1 at=2 known=3 lines=4 came=5 instruction=6 word=7; cells [] -/
abbrev s_gone : Stmt := topS 31
abbrev N_gone : List Str := ["program", "packet", "at", "known", "lines", "came", "instruction", "word"]
theorem sc_gone : FnScope N_gone ["program", "packet"] (defScope s_gone) := ⟨rfl, rfl, rfl, by decide +kernel, rfl, by decide +kernel, by decide +kernel⟩
theorem ok_gone {f C p0 p1 : Addr} {fd : FuncData} (F : Fun K "gone" "gone" s_gone f fd) (T : Tx mg) (T_Program : PrT K C p0 p1) (P_Program_lines : PrC P w K mg base CX0 C "lines" 1 (spLines K C)) (C_is_unset : Cal P w K mg base CX0 "is_unset" ["instruction", "known"] 1 (spIsUnset K))
    (C_does_go : Cal P w K mg base CX0 "does_go" ["instruction", "known"] 1 (spGoes K)) (C_put : Cal P w K mg base CX0 "put" ["instruction", "known", "packet"] 1 (spPut K)) : FnOk P w K mg base CX0 3 f fd ["program", "packet"] (spGone K C) := by
  refine F.ok sc_gone (fun vs H Q E h => ?_) (fun cdv A outer s H vs Q E hr h => ?_)
  · obtain ⟨p, v, is, pk, rfl, _⟩ := h
    rfl
  · obtain ⟨p, v, is, pk, rfl, pr, L, hd, pok, q⟩ := h
    obtain ⟨dx, lt, sl, hln⟩ := pr.ex
    obtain ⟨lt', xs, elt, hxs, hall⟩ := dp_tup hln
    cases elt
    have hu := hu_of hr
    have hxl : xs.length = is.length := by rw [PL.DpAll.length hall, List.length_map]
    have hLl := L.len
    refine ⟨_, (pss_cons (ps_asg (pe_tup (pa_cons pe_int (pa_cons pe_dnewK (pa_cons (pe_prC P_Program_lines (pv 0) T_Program.c hr) (pa_cons (pe_lst pa_nil) pa_nil))))) (pg_tup (by rfl) (pgs_cons (pg_name (i := 2) sc_gone.nd rfl (Or.inl rfl)) (pgs_cons (pg_name (i := 3) sc_gone.nd rfl (Or.inl rfl)) (pgs_cons (pg_name (i := 4) sc_gone.nd rfl (Or.inl rfl)) (pgs_cons (pg_name (i := 5) sc_gone.nd rfl (Or.inl rfl)) pgs_nil))))))
      (pss_cons (ps_while PassesOwn.never (pt_cmpR op_lt (pv 2) (pe_callB call_len_seq (by rfl) T.z_len bz_len (pa_cons (pv 4) pa_nil)) (nomark _))
       (pss_cons (ps_expr (pe_bm PySem.F.plainAttrs_list PySem.F.slot_list_append PySem.F.type_list_append mt_append (pv 5) (pa_cons (pv 2) pa_nil)))
        (pss_cons (ps_set (i := 6) sc_gone.nd rfl (.inl rfl) (pe_ix ix_tup (pv 4) (pv 2) (fun _ _ => rfl)))
        (pss_cons (ps_set (i := 7) sc_gone.nd rfl (.inl rfl) (pe_ix ix_tup (pv 6) pe_int (fun _ _ => rfl)))
        (pss_cons (ps_if (pt_cmpR op_in_seq (pv 7) (pe_tup (pa_cons pe_str (pa_cons pe_str pa_nil))) (by rfl))
         (pss_one (ps_ret (pe_tup (pa_cons (pv 5) (pa_cons (pe_tup (pa_cons (pv 7) (pa_cons (pv 2) pa_nil))) pa_nil)))))
         pss_nil)
        (pss_cons (ps_if (pt_val (pe_cal C_is_unset hr (by rfl) pass0 (pa_cons (pv 6) (pa_cons (pv 3) pa_nil))))
         (pss_one (ps_ret (pe_tup (pa_cons (pv 5) (pa_cons (pe_tup (pa_cons (pe_gS (by rfl) T.g_WRONG) (pa_cons (pv 2) (pa_cons (pe_gS (by rfl) T.g_UNSET) pa_nil)))) pa_nil)))))
         pss_nil)
        (pss_cons (ps_if (pt_cmpR op_in_seq (pv 7) (pe_tup (pa_cons pe_str (pa_cons pe_str (pa_cons pe_str (pa_cons pe_str pa_nil))))) (by rfl))
         (pss_cons (ps_set (i := 2) sc_gone.nd rfl (.inl rfl) (pe_ifExp (pt_val (pe_cal C_does_go hr (by rfl) pass0 (pa_cons (pv 6) (pa_cons (pv 3) pa_nil)))) (pe_ix ix_tup (pv 6) (pe_un un_neg pe_int) (fun _ _ => rfl)) (pe_op op_add (pv 2) pe_int)))
          (pss_one ps_continue))
         pss_nil)
        (pss_cons (ps_if (pt_not (pt_val (pe_cal C_put hr (by rfl) pass0 (pa_cons (pv 6) (pa_cons (pv 3) (pa_cons (pv 1) pa_nil))))))
         (pss_one (ps_ret (pe_tup (pa_cons (pv 5) (pa_cons (pe_tup (pa_cons (pe_gS (by rfl) T.g_WRONG) (pa_cons (pv 2) (pa_cons (pe_gS (by rfl) T.g_BEYOND) pa_nil)))) pa_nil)))))
         pss_nil)
        (pss_one (ps_aug (i := 2) sc_gone.nd rfl (.inl rfl) pe_int ip_add))))))))))
      (pss_one (ps_ret (pe_tup (pa_cons (pv 5) (pa_cons (pe_tup (pa_cons (pe_gS (by rfl) T.g_WRONG) (pa_cons (pe_callB call_len_seq (by rfl) T.z_len bz_len (pa_cons (pv 4) pa_nil)) (pa_cons (pe_gS (by rfl) T.g_END) pa_nil)))) pa_nil))))))), ?_⟩
    refine fun kd nkd => ?_
    have oA : Old [] H (upd H kd (.dK [])) := Old.new0 nkd
    have hkA : (upd H kd (.dK [])) kd = some (.dK []) := upd_same
    generalize upd H kd (.dK []) = HA at oA hkA ⊢
    refine ⟨.ref p, rfl, p, dx, _, rfl, Slt.same oA.same sl, p, dx, .ref lt, .str (PR.progS is), rfl, Slt.same oA.same sl, ?_⟩
    refine ⟨Nat.zero_le _, fun cm ncm => ?_⟩
    have hcm0 : H cm = none := oA.free ncm (by simp)
    have nkc : kd ≠ cm := ne_of_none hkA ncm
    have oB : Old [] H (upd HA cm (.lst [])) := oA.new ncm
    have hkB : (upd HA cm (.lst [])) kd = some (.dK []) := by rw [upd_ne nkc]; exact hkA
    have hcB : (upd HA cm (.lst [])) cm = some (.lst []) := upd_same
    generalize upd HA cm (.lst []) = HB at oB hkB hcB ⊢
    refine ⟨(by show 4 ≤ sizeLine; decide), fun tp ntp => ?_⟩
    refine ⟨tp, _, rfl, SqT.of upd_same, rfl, _, _, rfl, _, _, rfl, _, _, rfl, _, _, rfl, rfl, ?_⟩
    have oC : Old [] H (upd HB tp (.tup [.int 0, .ref kd, .ref lt, .ref cm])) := oB.new ntp
    have hkC : (upd HB tp (.tup [.int 0, .ref kd, .ref lt, .ref cm])) kd = some (.dK []) := by rw [upd_ne (ne_of_none hkB ntp)]; exact hkB
    have hcC : (upd HB tp (.tup [.int 0, .ref kd, .ref lt, .ref cm])) cm = some (.lst []) := by rw [upd_ne (ne_of_none hcB ntp)]; exact hcB
    generalize upd HB tp (.tup [.int 0, .ref kd, .ref lt, .ref cm]) = HC at oC hkC hcC ⊢
    clear hkA oA ncm hkB hcB oB ntp HA HB
    refine ⟨fun n σ H' => ∃ (y6 y7 : Option V) (a : Nat) (m : PR.Mem) (came : List Nat) (kvs : List (Key × V)), σ = [some (.ref p), some v, some (.int (a : Int)), some (.ref kd), some (.ref lt), some (.ref cm), y6, y7] ∧ Old [] H H' ∧ H' kd = some (.dK kvs) ∧ PR.MemIs kvs m ∧ kvs.length ≤ a ∧ a ≤ 200 ∧
        H' cm = some (.lst (came.map fun (a : Nat) => V.int (a : Int))) ∧ came.length ≤ a ∧ PR.exec is pk n a m came = PR.run is pk ∧ is.length < n + a,
      ⟨is.length + 1, none, none, 0, fun _ => none, [], [], rfl, oC, hkC, PR.MemIs.nil, Nat.le_refl _, by decide, hcC, Nat.le_refl _, rfl, by omega⟩, ?_⟩
    rintro n σ H1 ⟨y6, y7, a, m, came, kvs, rfl, o1, hk1, mem, hka, ha200, hc1, hca, hex, hfu⟩
    have hxs1 : SqT K H1 lt xs := (o1.tk NoTup.nil).seq hxs
    refine ⟨.int (a : Int), rfl, .ref lt, rfl, lt, xs, rfl, .inr hxs1, (a : Int), _, rfl, rfl, ?_⟩
    by_cases hal : a < is.length
    · refine ⟨true, congrArg V.bl (decide_eq_true (by rw [hxl]; omega)), iteT ?_⟩
      obtain ⟨n, rfl⟩ : ∃ k, n = k + 1 := ⟨n - 1, by omega⟩
      have ei : is[a]? = some is[a] := List.getElem?_eq_getElem hal
      have iok := L.ok a is[a] ei
      obtain ⟨vt, hvt, dvt⟩ := PL.DpAll.get hall (i := a) (d := PR.insD is[a]) (by rw [List.getElem?_map, ei]; rfl)
      rw [exec_some ei] at hex
      generalize is[a] = i at iok dvt hex
      obtain ⟨t, rfl, ht⟩ := ins_at dvt
      -- came.append(at)
      refine ⟨fun σ' H' => ∃ (y6 y7 : Option V) (a' : Nat) (m : PR.Mem) (came : List Nat) (kvs : List (Key × V)), σ' = [some (.ref p), some v, some (.int (a' : Int)), some (.ref kd), some (.ref lt), some (.ref cm), y6, y7] ∧ Old [] H H' ∧ H' kd = some (.dK kvs) ∧ PR.MemIs kvs m ∧ kvs.length ≤ a' ∧ a' ≤ 200 ∧
        H' cm = some (.lst (came.map fun (a : Nat) => V.int (a : Int))) ∧ came.length ≤ a' ∧ PR.exec is pk n a' m came = PR.run is pk ∧ is.length < n + a', ?_, ?_⟩
      · rintro σ' H' ⟨y6, y7, a', m, came, kvs, h1, h2, h3, h4, h5, h6, h7, h8, h9, h10⟩
        exact ⟨n, Nat.lt_succ_self n, y6, y7, a', m, came, kvs, h1, h2, h3, h4, h5, h6, h7, h8, h9, h10⟩
      have hcl : (came.map fun (a : Nat) => V.int (a : Int)).length < sizeLine := by rw [List.length_map]; exact Nat.lt_of_le_of_lt (Nat.le_trans hca ha200) (by decide)
      refine ⟨.ref cm, rfl, .inl ⟨rfl, _, SqL.of hc1⟩, .int (a : Int), rfl, cm, _, .int (a : Int), rfl, rfl, hc1, hcl, ?_⟩
      have nkc' : kd ≠ cm := ne_of hk1 hc1 (fun z => nomatch z)
      have o2 : Old [] H (upd H1 cm (.lst ((came.map fun (a : Nat) => V.int (a : Int)) ++ [.int (a : Int)]))) := o1.put0 hcm0
      have hk2 : (upd H1 cm (.lst ((came.map fun (a : Nat) => V.int (a : Int)) ++ [.int (a : Int)]))) kd = some (.dK kvs) := by rw [upd_ne nkc']; exact hk1
      have hc2 : (upd H1 cm (.lst ((came.map fun (a : Nat) => V.int (a : Int)) ++ [.int (a : Int)]))) cm = some (.lst ((came ++ [a]).map fun (a : Nat) => V.int (a : Int))) := by rw [upd_same, List.map_append]; rfl
      generalize upd H1 cm (.lst ((came.map fun (a : Nat) => V.int (a : Int)) ++ [.int (a : Int)])) = H2 at o2 hk2 hc2 ⊢
      clear hk1 hc1 o1 hxs1 hcl
      have hxs2 : SqT K H2 lt xs := (o2.tk NoTup.nil).seq hxs
      have ht2 : SqT K H2 t (PR.insV i) := (o2.tk NoTup.nil).seq ht
      have hd2 : Dp K H2 v (pkD pk) := PL.Dp.keep (o2.tk NoTup.nil) _ _ (pkD_only pk) hd
      have hca' : (came ++ [a]).length ≤ a + 1 := by rw [List.length_append]; exact Nat.succ_le_succ hca
      generalize came ++ [a] = came2 at hc2 hca' hex
      refine ⟨.ref lt, rfl, .int (a : Int), rfl, lt, xs, (a : Int), .ref t, rfl, rfl, hxs2, atI_nat hvt, ?_⟩
      refine ⟨.ref t, rfl, t, _, 0, .str (PR.word i), rfl, rfl, ht2, atI_nat (j := 0) rfl, ?_⟩
      refine ⟨.str (PR.word i), rfl, (by show 2 ≤ sizeLine; decide), fun q1 nq1 => ⟨q1, _, rfl, .inr (SqT.of upd_same), rfl, rfl, ?_⟩⟩
      have o3 : Old [] H2 (upd H2 q1 (.tup [.str "pass", .str "drop"])) := Old.new0 nq1
      generalize upd H2 q1 (.tup [.str "pass", .str "drop"]) = H3 at o3 ⊢
      refine ⟨PR.isEnd i, (by show V.bl (inV _ _) = _; rw [in_end]), ?_⟩
      have fin : ∀ (G : Hp) (tv : List V) (tld : PR.Told), Old [] H2 G → (came2, tld) = PR.run is pk → PR.toldV tld = tv → ∀ e, G e = none → ∀ t, (upd G e (.tup tv)) t = none → Q (.ref t) (upd (upd G e (.tup tv)) t (.tup [.ref cm, .ref e])) := by
        intro G tv tld oG hr' htv e ne t nt
        subst htv
        have oE : Old [] G (upd G e (.tup (PR.toldV tld))) := Old.new0 ne
        have oT : Old [] (upd G e (.tup (PR.toldV tld))) (upd (upd G e (.tup (PR.toldV tld))) t (.tup [.ref cm, .ref e])) := Old.new0 nt
        refine q _ t cm e (((o2.trans oG).trans oE).trans oT) upd_same ?_ ?_
        · rw [← hr']; exact oT _ _ (by simp) (oE _ _ (by simp) (oG _ _ (by simp) hc2))
        · rw [← hr']; exact oT _ _ (by simp) upd_same
      cases hend : PR.isEnd i with
      | true =>
        refine iteT ?_
        obtain ⟨tld, hst, htv⟩ := step_end (pk := pk) (a := a) (m := m) hend
        rw [hst] at hex
        exact ⟨.ref cm, rfl, .str (PR.word i), rfl, .int (a : Int), rfl, (by show 2 ≤ sizeLine; decide), fun e ne => ⟨(by show 2 ≤ sizeLine; decide), fun u nu => fin H3 _ tld o3 hex htv e ne u nu⟩⟩
      | false =>
        refine iteF ?_
        have ht3 : SqT K H3 t (PR.insV i) := (o3.tk NoTup.nil).seq ht2
        have hk3 := o3 _ _ (by simp) hk2
        refine ⟨.ref t, rfl, .ref kd, rfl, t, kd, i, kvs, m, rfl, ht3, hk3, mem, fun H4 o4 => ?_⟩
        have o24 := o3.trans o4
        refine ⟨PR.unset i m, rfl, ?_⟩
        cases hun : PR.unset i m with
        | true =>
          refine iteT ?_
          rw [step_unset hend hun] at hex
          exact ⟨.ref cm, rfl, .int (a : Int), rfl, (by show 3 ≤ sizeLine; decide), fun e ne => ⟨(by show 2 ≤ sizeLine; decide), fun u nu => fin H4 _ (.unset a) o24 hex rfl e ne u nu⟩⟩
        | false =>
          refine iteF ?_
          refine ⟨.str (PR.word i), rfl, (by show 4 ≤ sizeLine; decide), fun q2 nq2 => ⟨q2, _, rfl, .inr (SqT.of upd_same), rfl, rfl, ?_⟩⟩
          have o25 : Old [] H2 (upd H4 q2 (.tup [.str "jump", .str "less", .str "atmost", .str "same"])) := o24.new nq2
          generalize upd H4 q2 (.tup [.str "jump", .str "less", .str "atmost", .str "same"]) = H5 at o25 ⊢
          have ht5 : SqT K H5 t (PR.insV i) := (o25.tk NoTup.nil).seq ht2
          have hk5 := o25 _ _ (by simp) hk2
          have hc5 := o25 _ _ (by simp) hc2
          have o05 := o2.trans o25
          refine ⟨PR.isJump i, (by show V.bl (inV _ _) = _; rw [in_jump]), ?_⟩
          cases hj : PR.isJump i with
          | true =>
            refine iteT ?_
            obtain ⟨g1, g2⟩ := goal_ok hj iok
            rw [step_jump hend hun hj] at hex
            refine ⟨.ref t, rfl, .ref kd, rfl, t, kd, i, kvs, m, rfl, ht5, hk5, mem, hj, hun, PR.goes m i, rfl, ?_⟩
            cases hg : PR.goes m i with
            | true =>
              rw [hg] at hex
              refine iteT ?_
              refine ⟨.ref t, rfl, 1, rfl, t, _, -1, .int (PR.goal i : Int), rfl, rfl, ht5, goal_at hj, ?_⟩
              exact ⟨_, _, PR.goal i, m, came2, kvs, rfl, o05, hk5, mem, by omega, g2, hc5, by omega, hex, by omega⟩
            | false =>
              rw [hg] at hex
              refine iteF ?_
              refine ⟨.int (a : Int), rfl, (a : Int), 1, rfl, rfl, ?_⟩
              exact ⟨_, _, a + 1, m, came2, kvs, rfl, o05, hk5, mem, by omega, by omega, hc5, hca', hex, by omega⟩
          | false =>
            refine iteF ?_
            rw [step_store hend hun hj] at hex
            have hd5 : Dp K H5 v (pkD pk) := PL.Dp.keep (o25.tk NoTup.nil) _ _ (pkD_only pk) hd2
            refine ⟨.ref t, rfl, .ref kd, rfl, v, rfl, t, kd, v, i, kvs, m, pk, rfl, ht5, hk5, mem, by omega, hd5, pok.l2, hj, hend, hun, fun hs H6 o6 => ?_, fun m' hs H6 kvs' o6 hk6 mem6 hl6 => ?_⟩
            · rw [hs] at hex
              refine ⟨false, rfl, iteT ?_⟩
              exact ⟨.ref cm, rfl, .int (a : Int), rfl, (by show 3 ≤ sizeLine; decide), fun e ne => ⟨(by show 2 ≤ sizeLine; decide), fun u nu => fin H6 _ (.beyond a) (o25.trans o6) hex rfl e ne u nu⟩⟩
            · rw [hs] at hex
              refine ⟨true, rfl, iteF ?_⟩
              have hkd0 : H kd = none := nkd
              refine ⟨.int (a : Int), rfl, (a : Int), 1, rfl, rfl, ?_⟩
              refine ⟨_, _, a + 1, m', came2, kvs', rfl, ?_, hk6, mem6, by omega, by omega, o6 _ _ (by simp; exact nkc'.symm) hc5, hca', hex, by omega⟩
              exact fun b o _ e => o6 b o (by simp; intro z; rw [z, hkd0] at e; cases e) (o05 b o (by simp) e)
    · refine ⟨false, congrArg V.bl (decide_eq_false (by rw [hxl]; omega)), iteF ?_⟩
      rw [exec_end (List.getElem?_eq_none (by omega))] at hex
      refine ⟨.ref cm, rfl, .ref lt, rfl, lt, xs, rfl, .inr hxs1, (by show 3 ≤ sizeLine; decide), fun e ne => ⟨(by show 2 ≤ sizeLine; decide), fun t nt => ?_⟩⟩
      have oE := Old.new0 (W := []) (o := HO.tup [.str "wrong", .int (xs.length : Int), .str "end"]) ne
      have oT := Old.new0 (W := []) (o := HO.tup [.ref cm, .ref e]) nt
      refine q _ t cm e ((o1.trans oE).trans oT) upd_same ?_ ?_
      · rw [← hex]; exact oT _ _ (by simp) (oE _ _ (by simp) hc1)
      · rw [← hex]
        have e2 : PR.toldV (.end_ is.length) = [.str "wrong", .int (xs.length : Int), .str "end"] := by rw [hxl]; rfl
        show _ = some (HO.tup (PR.toldV (.end_ is.length)))
        rw [e2]
        exact oT _ _ (by simp) upd_same
/-! run: slots program=0 packet=1; cells [] -/
abbrev s_run : Stmt := topS 32
abbrev N_run : List Str := ["program", "packet"]
theorem sc_run : FnScope N_run ["program", "packet"] (defScope s_run) := ⟨rfl, rfl, rfl, by decide +kernel, rfl, by decide +kernel, by decide +kernel⟩
theorem ok_run {f C : Addr} {fd : FuncData} (F : Fun K "run" "run" s_run f fd) (C_look_at_packet : Cal P w K mg base CX0 "look_at_packet" ["packet"] 3 (spLookPk K)) (C_gone : Cal P w K mg base CX0 "gone" ["program", "packet"] 3 (spGone K C)) : FnOk P w K mg base CX0 4 f fd ["program", "packet"] (spRun K C) := by
  refine F.ok sc_run (fun vs H Q E h => ?_) (fun cdv A outer s H vs Q E hr h => ?_)
  · obtain ⟨p, v, is, pk, rfl, _⟩ := h
    rfl
  · obtain ⟨p, v, is, pk, rfl, pr, L, hd, pok, q⟩ := h
    refine ⟨_, (pss_cons (ps_expr (pe_cal C_look_at_packet hr (by rfl) pass0 (pa_cons (pv 1) pa_nil)))
      (pss_one (ps_ret (pe_ix ix_tup (pe_cal C_gone hr (by rfl) pass0 (pa_cons (pv 0) (pa_cons (pv 1) pa_nil))) pe_int (fun _ _ => rfl))))), ?_⟩
    refine ⟨v, rfl, v, pk, rfl, hd, pok, fun H1 o1 => ?_⟩
    refine ⟨.ref p, rfl, v, rfl, p, v, is, pk, rfl, pr.keep o1.same, L, PL.Dp.keep (o1.tk NoTup.nil) _ _ (pkD_only pk) hd, pok, fun H2 t c e o2 ht hc he => ?_⟩
    refine ⟨t, _, 1, .ref e, rfl, rfl, SqT.of ht, atI_nat (j := 1) rfl, ?_⟩
    exact q H2 e (o1.trans o2) (.tup (SqT.of he) (told_dp _))
/-! trace: slots program=0 packet=1; cells [] -/
abbrev s_trace : Stmt := topS 33
abbrev N_trace : List Str := ["program", "packet"]
theorem sc_trace : FnScope N_trace ["program", "packet"] (defScope s_trace) := ⟨rfl, rfl, rfl, by decide +kernel, rfl, by decide +kernel, by decide +kernel⟩
theorem ok_trace {f C : Addr} {fd : FuncData} (F : Fun K "trace" "trace" s_trace f fd) (T : Tx mg) (C_look_at_packet : Cal P w K mg base CX0 "look_at_packet" ["packet"] 3 (spLookPk K)) (C_gone : Cal P w K mg base CX0 "gone" ["program", "packet"] 3 (spGone K C)) : FnOk P w K mg base CX0 4 f fd ["program", "packet"] (spTrace K C) := by
  refine F.ok sc_trace (fun vs H Q E h => ?_) (fun cdv A outer s H vs Q E hr h => ?_)
  · obtain ⟨p, v, is, pk, rfl, _⟩ := h
    rfl
  · obtain ⟨p, v, is, pk, rfl, pr, L, hd, pok, q⟩ := h
    refine ⟨_, (pss_cons (ps_expr (pe_cal C_look_at_packet hr (by rfl) pass0 (pa_cons (pv 1) pa_nil)))
      (pss_one (ps_ret (pe_callTy call_tuple_of (by rfl) T.z_tuple bz_tuple (pa_cons (pe_ix ix_tup (pe_cal C_gone hr (by rfl) pass0 (pa_cons (pv 0) (pa_cons (pv 1) pa_nil))) pe_int (fun _ _ => rfl)) pa_nil))))), ?_⟩
    refine ⟨v, rfl, v, pk, rfl, hd, pok, fun H1 o1 => ?_⟩
    refine ⟨.ref p, rfl, v, rfl, p, v, is, pk, rfl, pr.keep o1.same, L, PL.Dp.keep (o1.tk NoTup.nil) _ _ (pkD_only pk) hd, pok, fun H2 t c e o2 ht hc he => ?_⟩
    refine ⟨t, _, 0, .ref c, rfl, rfl, SqT.of ht, atI_nat (j := 0) rfl, ?_⟩
    refine ⟨c, _, rfl, .inl ⟨SqL.of hc, fun u nu => ?_⟩⟩
    refine q _ u ((o1.trans o2).new nu) (.tup (SqT.of upd_same) ?_)
    have := PL.Dp.ofInts (K := K) (H := upd H2 u (.tup ((PR.run is pk).1.map fun (a : Nat) => V.int (a : Int)))) ((PR.run is pk).1.map fun (a : Nat) => (a : Int))
    rw [List.map_map, List.map_map] at this
    exact this
end
end L2.T31

namespace L2.PL
open PySem PySem.Spec PyProof.Rows
/-! ### several new lists at once -/
structure Ls (W : List Addr) (H0 H : Hp) (L : List (Addr × List V)) : Prop where
  o : Old W H0 H
  at_ : ∀ p ∈ L, H p.1 = some (.lst p.2)
  out : ∀ p ∈ L, p.1 ∉ W
theorem Ls.nil {W : List Addr} {H : Hp} : Ls W H H [] := ⟨Old.refl _ _, fun p h => by simp at h, fun p h => by simp at h⟩
theorem Ls.new {W : List Addr} {H0 H : Hp} {L : List (Addr × List V)} {p : Addr} (h : Ls W H0 H L) (hp : H p = none) (hw : p ∉ W) (xs : List V) : Ls W H0 (upd H p (.lst xs)) ((p, xs) :: L) := by
  refine ⟨h.o.new hp, fun q hq => ?_, fun q hq => ?_⟩
  · rcases List.mem_cons.mp hq with rfl | hq
    · exact upd_same
    · rw [upd_ne (ne_of_none (h.at_ q hq) hp)]; exact h.at_ q hq
  · rcases List.mem_cons.mp hq with rfl | hq
    · exact hw
    · exact h.out q hq
theorem Ls.keep {W : List Addr} {H0 H H' : Hp} {L : List (Addr × List V)} (h : Ls W H0 H L) (o : Old W H H') : Ls W H0 H' L :=
  ⟨h.o.trans o, fun q hq => o _ _ (h.out q hq) (h.at_ q hq), h.out⟩
/-- a dict written -/
theorem Ls.dict {W : List Addr} {H0 H : Hp} {L : List (Addr × List V)} {d : Addr} {kvs ks : List (Key × V)} (h : Ls W H0 H L) (hd : H d = some (.dK kvs)) (h0 : H0 d = none) : Ls W H0 (upd H d (.dK ks)) L := by
  refine ⟨h.o.put0 h0, fun q hq => ?_, h.out⟩
  rw [upd_ne (ne_of (h.at_ q hq) hd (fun z => nomatch z))]
  exact h.at_ q hq
theorem valV_merge (k : Key) : ∀ (ls kvs : List (Key × V)), valV (mergeK kvs ls) k = ls.foldl (fun acc p => if k = p.1 then some p.2 else acc) (valV kvs k)
  | [], kvs => rfl
  | p :: ls, kvs => by
    show valV (mergeK (putK kvs p.1 p.2) ls) k = ls.foldl _ (if k = p.1 then some p.2 else valV kvs k)
    rw [valV_merge k ls (putK kvs p.1 p.2), valV_put]
theorem putK_new {kvs : List (Key × V)} {k : Key} {v : V} (h : k ∉ kvs.map (·.1)) : putK kvs k v = kvs ++ [(k, v)] := by
  unfold putK
  rw [if_neg]
  intro z
  obtain ⟨p, hp, e⟩ := List.any_eq_true.mp z
  exact h (List.mem_map.mpr ⟨p, hp, of_decide_eq_true e⟩)
theorem mergeK_new : ∀ (ls kvs : List (Key × V)), ((kvs ++ ls).map (·.1)).Nodup → mergeK kvs ls = kvs ++ ls
  | [], kvs, _ => by rw [List.append_nil]; rfl
  | p :: ls, kvs, h => by
    have hp : p.1 ∉ kvs.map (·.1) := by
      rw [List.map_append, List.nodup_append] at h
      intro m
      exact h.2.2 p.1 m p.1 (.head _) rfl
    show mergeK (putK kvs p.1 p.2) ls = _
    rw [putK_new hp]
    have : (kvs ++ [(p.1, p.2)]) ++ ls = kvs ++ p :: ls := by rw [List.append_assoc]; rfl
    rw [mergeK_new ls _ (by rw [this]; exact h), this]
end L2.PL

namespace L2.PL
open PySem PySem.Spec PyProof.Rows
section
variable {X : Cx} {CX : CXT} {j k : Nat} {ps : List Str} {sp : Sp} {E : XK} {x : Str} {p pos : Pos}
theorem pe_calG0 (C : CalG X.prog X.w X.K X.mg X.base CX x ps k sp) (hr : Room j X.A) (hG : X.A.guards = some []) (hg : Gl X x) (hx : Passes CX X E) (hk : k ≤ j := by decide) (hdb : (x == ("__debug__" : Str)) = false := by decide) :
    PE X (.Call (.Name x p) [] [] pos) (tCall sp [] E tNil) := by
  obtain ⟨f, fd, hm, kp, hb, F⟩ := C.ex
  constructor
  intro pins s σ H Q I h
  refine wpAny_Call_Name_kw (ld_glob I hg hm ?_ hdb)
  exact PySem.W.callWith_K0 I.kIn kp (run_fnG (us := []) (vs := []) F (hr.mono hk) hG hb hx I .nil h)
end
end L2.PL

namespace L2.T31
open PySem PySem.Spec PyProof.Rows L2.PL
/-- a list of lines -/
structure LinesAt (K : PySem.W.Frag) (H : Hp) (l : Addr) (is : List PR.Ins) : Prop where
  ex : ∃ rs, H l = some (.lst rs) ∧ DpAll K H rs (is.map PR.insD)
def spNumber : Sp := fun vs H Q _ => ∃ (a : Addr) (B : Nat), vs = [.ref a] ∧ Pot H a B ∧ B ≤ 1000000 ∧ ∀ H' n, -9999 ≤ n → n ≤ 9999 → Old [a] H H' → Pot H' a (B + 1) → Q (.int n) H'
def spText (K : PySem.W.Frag) : Sp := fun vs H Q _ => ∃ (l : Addr) (is : List PR.Ins), vs = [.ref l] ∧ LinesAt K H l is ∧ Lns is ∧ ∀ H', Old [] H H' → Q (.str (PR.progS is)) H'
def spPacket (K : PySem.W.Frag) : Sp := fun vs H Q _ => ∃ (a : Addr) (B : Nat) (m : Int), vs = [.ref a, .int m] ∧ Pot H a B ∧ B ≤ 900000 ∧ 1 ≤ m ∧ m ≤ 24 ∧ ∀ H' t pk, PkOk pk → Old [a] H H' → Pot H' a (B + 60) → Dp K H' (.ref t) (pkD pk) → Q (.ref t) H'
section
variable {P : Program} {w : World} {K : PySem.W.Frag} {mg : Str → Option Value} {base : Heap}
/-! _law_number: slots pot=0; cells [] -/
abbrev s_l_number : Stmt := topS 39
abbrev N_l_number : List Str := ["pot"]
theorem sc_l_number : FnScope N_l_number ["pot"] (defScope s_l_number) := ⟨rfl, rfl, rfl, by decide +kernel, rfl, by decide +kernel, by decide +kernel⟩
theorem ok_number {f : Addr} {fd : FuncData} (F : Fun K "_law_number" "_law_number" s_l_number f fd) (T : Bt mg) (C_l_of : Cal P w K mg base CX0 "_law_of" ["pot", "some"] 2 (spOf K)) : FnOk P w K mg base CX0 3 f fd ["pot"] spNumber := by
  refine F.ok sc_l_number (fun vs H Q E h => ?_) (fun cdv A outer s H vs Q E hr h => ?_)
  · obtain ⟨a, B, rfl, _⟩ := h
    rfl
  · obtain ⟨a, B, rfl, hP, hB, q⟩ := h
    refine ⟨_, (pss_one (ps_ret (pe_callTy call_int1 (by rfl) T.z_int bz_int (pa_cons (pe_cal C_l_of hr (by rfl) pass0 (pa_cons (pv 0) (pa_cons (pe_lst (pa_cons pe_int (pa_cons pe_int (pa_cons pe_int (pa_cons pe_int (pa_cons pe_int (pa_cons pe_int (pa_cons (pe_un un_neg pe_int) (pa_cons (pe_un un_neg pe_int) (pa_cons pe_int (pa_cons pe_int (pa_cons pe_int (pa_cons pe_int (pa_cons pe_int (pa_cons pe_int (pa_cons pe_int (pa_cons (pe_un un_neg pe_int) (pa_cons pe_int pa_nil)))))))))))))))))) pa_nil))) pa_nil)))), ?_⟩
    refine ⟨.ref a, rfl, 1, rfl, 2, rfl, 9999, rfl, (by show 17 ≤ sizeLine; decide), fun l nl => ?_⟩
    have nal : a ≠ l := hP.ne nl
    have oL : Old [] H (upd H l (.lst [.int 0, .int 0, .int 1, .int 1, .int 2, .int 3, .int (-1), .int (-2), .int 5, .int 23, .int 24, .int 100, .int 254, .int 255, .int 256, .int (-9999), .int 9999])) := Old.new0 nl
    refine ⟨a, l, _, B, rfl, hP.old oL (by simp), SqL.of upd_same, nal.symm, by show 0 < 17; decide, by show 17 < 1000; decide, hB, fun H1 x hx o1 p1 => ?_⟩
    obtain ⟨n, rfl, n1, n2⟩ : ∃ n : Int, x = .int n ∧ -9999 ≤ n ∧ n ≤ 9999 := by
      simp only [List.mem_cons, List.not_mem_nil, or_false] at hx
      rcases hx with rfl | rfl | rfl | rfl | rfl | rfl | rfl | rfl | rfl | rfl | rfl | rfl | rfl | rfl | rfl | rfl | rfl <;> exact ⟨_, rfl, by decide, by decide⟩
    exact .inl ⟨n, rfl, q H1 n n1 n2 ((oL.mono (fun x h => by simp at h)).trans o1) p1⟩
abbrev sc1_l_text : Scope := relS { kind := .function, names := [(PySem.Str.ofString ".0", .local), (PySem.Str.ofString "line", .local)], isGenerator := false, isCoroutine := false, more := [] } (defScope (topS 42))
/-! _law_text: slots lines=0 line=1 word=2; cells [] -/
abbrev s_l_text : Stmt := topS 42
abbrev N_l_text : List Str := ["lines", "line", "word"]
theorem sc_l_text : FnScope N_l_text ["lines"] (defScope s_l_text) := ⟨rfl, rfl, rfl, by decide +kernel, rfl, by decide +kernel, by decide +kernel⟩
theorem ok_text {f : Addr} {fd : FuncData} (F : Fun K "_law_text" "_law_text" s_l_text f fd) (T : Bt mg) : FnOk P w K mg base CX0 1 f fd ["lines"] (spText K) := by
  refine F.ok sc_l_text (fun vs H Q E h => ?_) (fun cdv A outer s H vs Q E hr h => ?_)
  · obtain ⟨l, is, rfl, _⟩ := h
    rfl
  · obtain ⟨l, is, rfl, ⟨rs, hl, hrs⟩, L, q⟩ := h
    refine ⟨_, (pss_one (ps_ret (pe_join pe_str (pe_lc (own := [("line", 1)]) (g := gName 1) (tt := tYes) rfl sc_l_text.nd (pi_list (pv 0)) (blkOk_by (N := N_l_text) (sc := defScope s_l_text) (by decide +kernel)) (fun _ _ _ _ _ => (pg_name (i := 1) sc_l_text.nd rfl (Or.inl rfl))) (fun _ _ _ _ _ => pts_nil) (fun _ _ _ _ _ => (pe_joinK (K := K) pe_str (pe_lc (own := [("word", 2)]) (g := gName 2) (tt := tYes) rfl sc_l_text.nd ((pi_tupK (K := K)) (pv 1)) (blkOk_by (N := N_l_text) (sc := sc1_l_text) (by decide +kernel)) (fun _ _ _ _ _ => (pg_name (i := 2) sc_l_text.nd rfl (Or.inl rfl))) (fun _ _ _ _ _ => pts_nil) (fun _ _ _ _ _ => (pe_callTy call_str_any (by rfl) T.z_str bz_str (pa_cons (pv 2) pa_nil)))))))))), ?_⟩
    have only := linesA_only is
    have hrl : rs.length = is.length := by rw [PL.DpAll.length hrs, List.length_map]
    refine ⟨⟨_, rfl⟩, .ref l, rfl, l, rfl, ⟨_, SqL.of hl⟩, fun D nD => ?_⟩
    refine lc_list (K := K) (a := l) (xs := rs) (fun j H' => Old [] H H' ∧ H' D = some (.lst (((is.take j).map PR.lineS).map V.str))) ⟨Old.new0 nD, upd_same⟩ (fun j H' _ h => SqL.of (h.1 _ _ (by simp) hl)) ?_ ?_
    · rintro j y H1 hy ⟨o1, h1⟩
      have hj : j < is.length := by have := (List.getElem?_eq_some_iff.mp hy).1; omega
      have ei : is[j]? = some is[j] := List.getElem?_eq_getElem hj
      have iok := L.ok j is[j] ei
      obtain ⟨v, hv, dv⟩ := PL.DpAll.get hrs (i := j) (d := PR.insD is[j]) (by rw [List.getElem?_map, ei]; rfl)
      rw [hy] at hv
      cases hv
      rw [List.take_succ_eq_append_getElem hj]
      generalize is[j] = i at iok dv ⊢
      obtain ⟨t, rfl, ht⟩ := ins_at dv
      have ht1 := (o1.tk NoTup.nil).seq ht
      refine ⟨rfl, ⟨_, rfl⟩, .ref t, rfl, t, rfl, ⟨_, ht1⟩, fun E nE => ?_⟩
      have nDE : D ≠ E := ne_of_none h1 nE
      refine lc_tup (K := K) (a := t) (xs := PR.insV i) (fun k H' => Old [] H1 H' ∧ H' E = some (.lst (((PR.wordsS i).take k).map V.str))) ⟨Old.new0 nE, upd_same⟩ (fun k H' _ h => (h.1.tk NoTup.nil).seq ht1) ?_ ?_
      · rintro k y H2 hy ⟨o2, h2⟩
        have hwl : (PR.wordsS i).length = (PR.insV i).length := by simp [PR.wordsS, PR.insV]
        have hk : k < (PR.wordsS i).length := by rw [hwl]; exact (List.getElem?_eq_some_iff.mp hy).1
        have hal := PR.args_len i
        have hll : (((PR.wordsS i).take k).map V.str).length < sizeLine := by
          rw [List.length_map, List.length_take]
          refine Nat.lt_of_le_of_lt (Nat.min_le_right _ _) ?_
          show ((PR.args i).map PR.Arg.txt).length + 1 < sizeLine
          rw [List.length_map]
          exact Nat.lt_of_le_of_lt (Nat.succ_le_succ hal) (by decide)
        have fin : ∀ x : Str, (PR.wordsS i)[k]? = some x → ∃ acc, H2 E = some (.lst acc) ∧ acc.length < sizeLine ∧ Old [] H1 (upd H2 E (.lst (acc ++ [.str x]))) ∧ (upd H2 E (.lst (acc ++ [.str x]))) E = some (.lst (((PR.wordsS i).take (k + 1)).map V.str)) := fun x hx => by
          refine ⟨_, h2, hll, o2.put0 nE, ?_⟩
          have : x = (PR.wordsS i)[k] := by rw [List.getElem?_eq_getElem hk] at hx; exact (Option.some.inj hx).symm
          rw [upd_same, List.take_succ_eq_append_getElem hk, List.map_append, this]; rfl
        refine ⟨rfl, y, rfl, ?_⟩
        cases k with
        | zero =>
          have ey : y = .str (PR.word i) := (Option.some.inj hy).symm
          subst ey
          exact .inr ⟨PR.word i, rfl, fin _ rfl⟩
        | succ k =>
          have hy : ((PR.args i).map PR.Arg.v)[k]? = some y := hy
          have hka : k < (PR.args i).length := by have := (List.getElem?_eq_some_iff.mp hy).1; rw [List.length_map] at this; exact this
          rw [List.getElem?_map, List.getElem?_eq_getElem hka] at hy
          have ey : y = (PR.args i)[k].v := (Option.some.inj hy).symm
          have hx : (PR.wordsS i)[k + 1]? = some (PR.args i)[k].txt := by
            show ((PR.args i).map PR.Arg.txt)[k]? = _
            rw [List.getElem?_map, List.getElem?_eq_getElem hka]; rfl
          have aok := iok (PR.args i)[k] (List.getElem_mem hka)
          have small : ∀ n : Int, -9999 ≤ n → n ≤ 9999 → n.natAbs.log2 < 1920 := fun n a b => by
            by_cases e : n.natAbs = 0
            · rw [e]; decide
            · have : n.natAbs.log2 < 14 := (Nat.log2_lt e).mpr (by omega)
              omega
          generalize (PR.args i)[k] = ar at ey hx aok
          subst ey
          cases ar with
          | r z => exact .inr ⟨PR.rg z, rfl, fin _ hx⟩
          | n z => exact .inl ⟨z, rfl, small z aok.1 aok.2, fin _ hx⟩
          | l g =>
            have aok : j < g ∧ g ≤ 200 := aok
            exact .inl ⟨(g : Int), rfl, small _ (by omega) (by omega), fin _ hx⟩
      · rintro H2 ⟨o2, h2⟩
        have hwl : (PR.insV i).length = (PR.wordsS i).length := by simp [PR.wordsS, PR.insV]
        rw [hwl, List.take_length] at h2
        refine ⟨" ", E, PR.wordsS i, rfl, rfl, .inl (SqL.of h2), ?_, ?_⟩
        · have hal := PR.args_len i
          have hl1 : (PR.wordsS i).length ≤ 5 := by
            show ((PR.args i).map PR.Arg.txt).length + 1 ≤ 5
            rw [List.length_map]; omega
          have := PR.sum_le (fun x : Str => x.length) 6 (PR.wordsS i) (fun p hp => by
            have e : p.length = (PR.tl p).length := TL.len_tl p
            show p.length ≤ 6
            rw [e]; exact PR.words_len iok p hp)
          have e1 : (" " : Str).length = 1 := by decide +kernel
          rw [e1]
          omega
        · refine ⟨_, o2 _ _ (by simp) h1, ?_, (o1.trans o2).put0 nD, ?_⟩
          · have L2' := L.len
            rw [List.length_map, List.length_map, List.length_take]
            exact Nat.lt_of_le_of_lt (Nat.le_trans (Nat.min_le_right _ _) L2') (by decide)
          · rw [upd_same, List.map_append, List.map_append]; rfl
    · rintro H1 ⟨o1, h1⟩
      rw [hrl, List.take_length] at h1
      refine ⟨"\n", D, is.map PR.lineS, rfl, rfl, .inl (SqL.of h1), ?_, q H1 o1⟩
      have L2' := L.len
      have := PR.sum_le (fun x : Str => x.length) 35 (is.map PR.lineS) (fun p hp => by
        obtain ⟨i, hi, rfl⟩ := List.mem_map.mp hp
        obtain ⟨k, hk, e⟩ := List.mem_iff_getElem.mp hi
        exact PR.line_len (L.ok k i (by rw [List.getElem?_eq_getElem hk, e])))
      have e1 : ("\n" : Str).length = 1 := by decide +kernel
      rw [e1]
      rw [List.length_map] at this ⊢
      omega
/-! _law_packet: slots pot=0 most=1 many=2 at=3; cells ['pot'] -/
abbrev s_l_packet : Stmt := topS 43
abbrev N_l_packet : List Str := ["pot", "most", "many", "at"]
theorem sc_l_packet : FnScope N_l_packet ["pot", "most"] (defScope s_l_packet) := ⟨rfl, rfl, rfl, by decide +kernel, rfl, by decide +kernel, by decide +kernel⟩
theorem ok_packet {f : Addr} {fd : FuncData} (F : Fun K "_law_packet" "_law_packet" s_l_packet f fd) (T : Bt mg) (C_l_of : Cal P w K mg base CX0 "_law_of" ["pot", "some"] 2 (spOf K)) (C_l_take : Cal P w K mg base CX0 "_law_take" ["pot", "upto"] 1 spTake) : FnOk P w K mg base CX0 3 f fd ["pot", "most"] (spPacket K) := by
  refine F.ok sc_l_packet (fun vs H Q E h => ?_) (fun cdv A outer s H vs Q E hr h => ?_)
  · obtain ⟨a, B, m, rfl, _⟩ := h
    rfl
  · obtain ⟨a, B, m, rfl, hP, hB, m1, m2, q⟩ := h
    refine ⟨_, (pss_cons (ps_set (i := 2) sc_l_packet.nd rfl (.inl rfl) (pe_op op_add pe_int (pe_cal C_l_take hr (by rfl) pass0 (pa_cons (pv 0) (pa_cons (pv 1) pa_nil)))))
      (pss_one (ps_ret (pe_callTy call_tuple_of (by rfl) T.z_tuple bz_tuple (pa_cons (pe_lc (own := [("at", 3)]) (g := gName 3) (tt := tYes) rfl sc_l_packet.nd (pi_range1 (by rfl) T.z_range (pa_cons (pv 2) pa_nil)) (blkOk_by (N := N_l_packet) (sc := defScope s_l_packet) (by decide +kernel)) (fun _ _ _ _ _ => (pg_name (i := 3) sc_l_packet.nd rfl (Or.inl rfl))) (fun _ _ _ _ _ => pts_nil) (fun _ _ _ _ _ => (pe_callTy call_int1 (by rfl) T.z_int bz_int (pa_cons (pe_cal C_l_of hr (by rfl) pass0 (pa_cons (pv 0) (pa_cons (pe_lst (pa_cons pe_int (pa_cons pe_int (pa_cons pe_int (pa_cons pe_int (pa_cons pe_int (pa_cons pe_int (pa_cons pe_int (pa_cons pe_int (pa_cons pe_int (pa_cons pe_int (pa_cons (pe_cal C_l_take hr (by rfl) pass0 (pa_cons (pv 0) (pa_cons pe_int pa_nil))) pa_nil)))))))))))) pa_nil))) pa_nil)))) pa_nil))))), ?_⟩
    refine ⟨.ref a, rfl, .int m, rfl, a, m, B, rfl, hP, by omega, by omega, by omega, fun H1 d d0 d1 o1 p1 => ⟨1, d, rfl, rfl, ?_⟩⟩
    obtain ⟨n, hn⟩ : ∃ n : Nat, 1 + d = (n : Int) := ⟨(1 + d).toNat, by omega⟩
    dsimp only
    rw [hn]
    have hn1 : 1 ≤ n := by omega
    have hn2 : n ≤ 24 := by omega
    have en : ((n : Int)).toNat = n := by omega
    refine ⟨.int (n : Int), rfl, (n : Int), rfl, by omega, by omega, fun D nD => ?_⟩
    have naD : a ≠ D := p1.ne nD
    have hD0 : H D = none := o1.free nD (by simp; exact naD.symm)
    refine lc_range (lo := 0) (n := ((n : Int)).toNat) (fun i H' => ∃ pk : List Int, pk.length = i ∧ (∀ c ∈ pk, 0 ≤ c ∧ c ≤ 255) ∧ Old [a] H H' ∧ H' D = some (.lst (pk.map V.int)) ∧ Pot H' a (B + 1 + 2 * i))
      ⟨[], rfl, fun c h => by simp at h, o1.new nD, upd_same, p1.old (W := []) (Old.new0 nD) (by simp)⟩ ?_ ?_
    · rintro i H2 hi ⟨pk, hpl, hpc, o2, h2, p2⟩
      rw [en] at hi
      refine ⟨rfl, .ref a, rfl, .ref a, rfl, a, 256, _, rfl, p2, by decide, by decide, by omega, fun H3 e e0 e1 o3 p3 => ?_⟩
      refine ⟨(by show 11 ≤ sizeLine; decide), fun l nl => ?_⟩
      have nal : a ≠ l := p3.ne nl
      have oL : Old [] H3 (upd H3 l (.lst [.int 0, .int 0, .int 1, .int 1, .int 2, .int 3, .int 5, .int 100, .int 254, .int 255, .int e])) := Old.new0 nl
      refine ⟨a, l, _, _, rfl, p3.old oL (by simp), SqL.of upd_same, nal.symm, by show 0 < 11; decide, by show 11 < 1000; decide, by omega, fun H4 x hx o4 p4 => ?_⟩
      obtain ⟨c, rfl, c1, c2⟩ : ∃ c : Int, x = .int c ∧ 0 ≤ c ∧ c ≤ 255 := by
        simp only [List.mem_cons, List.not_mem_nil, or_false] at hx
        rcases hx with rfl | rfl | rfl | rfl | rfl | rfl | rfl | rfl | rfl | rfl | rfl
        · exact ⟨_, rfl, by decide, by decide⟩
        · exact ⟨_, rfl, by decide, by decide⟩
        · exact ⟨_, rfl, by decide, by decide⟩
        · exact ⟨_, rfl, by decide, by decide⟩
        · exact ⟨_, rfl, by decide, by decide⟩
        · exact ⟨_, rfl, by decide, by decide⟩
        · exact ⟨_, rfl, by decide, by decide⟩
        · exact ⟨_, rfl, by decide, by decide⟩
        · exact ⟨_, rfl, by decide, by decide⟩
        · exact ⟨_, rfl, by decide, by decide⟩
        · exact ⟨e, rfl, e0, by omega⟩
      have o24 : Old [a] H2 H4 := (o3.trans (oL.mono (fun x h => by simp at h))).trans o4
      have h4 := o24 _ _ (by simp; exact naD.symm) h2
      refine .inl ⟨c, rfl, _, h4, ?_, pk ++ [c], by rw [List.length_append, hpl]; rfl, ?_, (o2.trans o24).put0 hD0, ?_, ?_⟩
      · rw [List.length_map, hpl]; exact Nat.lt_of_lt_of_le (Nat.lt_of_lt_of_le hi hn2) (by decide)
      · intro c' h
        rcases List.mem_append.mp h with h | h
        · exact hpc c' h
        · have : c' = c := by simpa using h
          subst this
          exact ⟨c1, c2⟩
      · rw [upd_same, List.map_append]; rfl
      · exact (p4.old (W := [D]) ((Old.refl _ _).put (by simp)) (by simp; exact naD)).mono (by omega)
    · rintro H2 ⟨pk, hpl, hpc, o2, h2, p2⟩
      rw [en] at hpl p2
      refine ⟨D, _, rfl, .inl ⟨SqL.of h2, fun t nt => ?_⟩⟩
      refine q _ t pk ⟨by omega, by omega, hpc⟩ (o2.new nt) ((p2.old (W := []) (Old.new0 nt) (by simp)).mono (by omega)) (.tup (SqT.of upd_same) (PL.Dp.ofInts pk))
/-! _law_lacks: slots line=0 known=1 needs=2 at=3; cells ['known', 'line'] -/
abbrev s_l_lacks : Stmt := topS 44
abbrev N_l_lacks : List Str := ["line", "known", "needs", "at"]
theorem sc_l_lacks : FnScope N_l_lacks ["line", "known"] (defScope s_l_lacks) := ⟨rfl, rfl, rfl, by decide +kernel, rfl, by decide +kernel, by decide +kernel⟩
theorem ok_lacks {f : Addr} {fd : FuncData} (F : Fun K "_law_lacks" "_law_lacks" s_l_lacks f fd) (T : Bt mg) : FnOk P w K mg base CX0 1 f fd ["line", "known"] (spIsUnset K) := by
  refine F.ok sc_l_lacks (fun vs H Q E h => ?_) (fun cdv A outer s H vs Q E hr h => ?_)
  · obtain ⟨t, kd, i, kvs, m, rfl, _⟩ := h
    rfl
  · obtain ⟨t, kd, i, kvs, m, rfl, ht, hk, mem, q⟩ := h
    have hu := hu_of hr
    refine ⟨_, (pss_cons (ps_set (i := 2) sc_l_lacks.nd rfl (.inl rfl) (pe_disp (pps_cons pe_str (pe_lst (pa_cons pe_int pa_nil)) (pps_cons pe_str (pe_lst (pa_cons pe_int pa_nil)) (pps_cons pe_str (pe_lst (pa_cons pe_int pa_nil)) (pps_cons pe_str (pe_lst (pa_cons pe_int (pa_cons pe_int pa_nil))) (pps_cons pe_str (pe_lst (pa_cons pe_int pa_nil)) (pps_cons pe_str (pe_lst (pa_cons pe_int pa_nil)) pps_nil)))))) (by rfl) (by rfl) (fun z => nomatch z) (by decide)))
      (pss_one (ps_ret (pe_callB (cr_any rfl) (by rfl) T.z_any bz_any (pa_cons (pe_lc (own := [("at", 3)]) (g := gName 3) (tt := tYes) rfl sc_l_lacks.nd (pi_list (pe_dget2 hu (pv 2) (pe_ix ix_tup (pv 0) pe_int (fun _ _ => rfl)) (pe_lst pa_nil) ⟨by rfl, by rfl, by rfl, by rfl⟩)) (blkOk_by (N := N_l_lacks) (sc := defScope s_l_lacks) (by decide +kernel)) (fun _ _ _ _ _ => (pg_name (i := 3) sc_l_lacks.nd rfl (Or.inl rfl))) (fun _ _ _ _ _ => pts_nil) (fun _ _ _ _ _ => (pe_cmp (pc_dnotin hu (pe_ix (ix_tupK (K := K)) (pv 0) (pv 3) (fun _ _ => rfl)) (pv 1)) rfl))) pa_nil))))), ?_⟩
    refine fun d nd => ?_
    have oA : Old [] H (upd H d (.dK [])) := Old.new0 nd
    have hdA : (upd H d (.dK [])) d = some (.dK []) := upd_same
    generalize upd H d (.dK []) = H0 at oA hdA ⊢
    have G0 : Ls [] H0 H0 [] := Ls.nil
    refine ⟨(by show 1 ≤ sizeLine; decide), fun l1 n1 => ?_⟩
    have G1 := G0.new n1 (by simp) [.int 2]
    generalize upd H0 l1 (.lst [.int 2]) = H1 at G1 ⊢
    clear G0 n1
    refine ⟨(by show 1 ≤ sizeLine; decide), fun l2 n2 => ?_⟩
    have G2 := G1.new n2 (by simp) [.int 1]
    generalize upd H1 l2 (.lst [.int 1]) = H2 at G2 ⊢
    clear G1 n2
    refine ⟨(by show 1 ≤ sizeLine; decide), fun l3 n3 => ?_⟩
    have G3 := G2.new n3 (by simp) [.int 2]
    generalize upd H2 l3 (.lst [.int 2]) = H3 at G3 ⊢
    clear G2 n3
    refine ⟨(by show 2 ≤ sizeLine; decide), fun l4 n4 => ?_⟩
    have G4 := G3.new n4 (by simp) [.int 1, .int 2]
    generalize upd H3 l4 (.lst [.int 1, .int 2]) = H4 at G4 ⊢
    clear G3 n4
    refine ⟨(by show 1 ≤ sizeLine; decide), fun l5 n5 => ?_⟩
    have G5 := G4.new n5 (by simp) [.int 1]
    generalize upd H4 l5 (.lst [.int 1]) = H5 at G5 ⊢
    clear G4 n5
    refine ⟨(by show 1 ≤ sizeLine; decide), fun l6 n6 => ?_⟩
    have G6 := G5.new n6 (by simp) [.int 1]
    generalize upd H5 l6 (.lst [.int 1]) = H6 at G6 ⊢
    clear G5 n6
    have hd6 := G6.o _ _ (by simp) hdA
    refine ⟨hd6, [(.inr "copy", .ref l1), (.inr "add", .ref l2), (.inr "load", .ref l3), (.inr "less", .ref l4), (.inr "atmost", .ref l5), (.inr "same", .ref l6)], rfl, by show 6 ≤ 15; decide, ?_⟩
    have o6 : Old [] H (upd H6 d (.dK (mergeK [] [(.inr "copy", .ref l1), (.inr "add", .ref l2), (.inr "load", .ref l3), (.inr "less", .ref l4), (.inr "atmost", .ref l5), (.inr "same", .ref l6)]))) := (oA.trans G6.o).put0 nd
    have hD : (upd H6 d (.dK (mergeK [] [(.inr "copy", .ref l1), (.inr "add", .ref l2), (.inr "load", .ref l3), (.inr "less", .ref l4), (.inr "atmost", .ref l5), (.inr "same", .ref l6)]))) d = some (.dK (mergeK [] [(.inr "copy", .ref l1), (.inr "add", .ref l2), (.inr "load", .ref l3), (.inr "less", .ref l4), (.inr "atmost", .ref l5), (.inr "same", .ref l6)])) := upd_same
    have at6 : ∀ p ∈ [(l6, [V.int 1]), (l5, [V.int 1]), (l4, [V.int 1, V.int 2]), (l3, [V.int 2]), (l2, [V.int 1]), (l1, [V.int 2])], (upd H6 d (.dK (mergeK [] [(.inr "copy", .ref l1), (.inr "add", .ref l2), (.inr "load", .ref l3), (.inr "less", .ref l4), (.inr "atmost", .ref l5), (.inr "same", .ref l6)]))) p.1 = some (.lst p.2) := fun p hp => by
      rw [upd_ne (ne_of (G6.at_ p hp) hd6 (fun z => nomatch z))]
      exact G6.at_ p hp
    have hval : ∀ k, valV (mergeK [] [(.inr "copy", .ref l1), (.inr "add", .ref l2), (.inr "load", .ref l3), (.inr "less", .ref l4), (.inr "atmost", .ref l5), (.inr "same", .ref l6)]) k = [(.inr "copy", .ref l1), (.inr "add", .ref l2), (.inr "load", .ref l3), (.inr "less", .ref l4), (.inr "atmost", .ref l5), (.inr "same", .ref l6)].foldl (fun acc p => if k = p.1 then some p.2 else acc) none := fun k => valV_merge k _ []
    generalize hmk : mergeK [] [(.inr "copy", .ref l1), (.inr "add", .ref l2), (.inr "load", .ref l3), (.inr "less", .ref l4), (.inr "atmost", .ref l5), (.inr "same", .ref l6)] = kds at o6 hD at6 hval ⊢
    generalize upd H6 d (.dK kds) = H7 at o6 hD at6 ⊢
    clear hmk
    have ht7 := (o6.tk NoTup.nil).seq ht
    refine ⟨.ref d, rfl, d, rfl, .inl ⟨_, .inl hD⟩, .ref t, rfl, t, _, 0, .str (PR.word i), rfl, rfl, ht7, atI_nat (j := 0) rfl, Nat.zero_le _, fun e ne => ?_⟩
    have o8 : Old [] H7 (upd H7 e (.lst [])) := Old.new0 ne
    have he8 : (upd H7 e (.lst [])) e = some (.lst []) := upd_same
    refine ⟨_, DGet.k (k := .inr (PR.word i)) (o8 _ _ (by simp) hD), ?_⟩
    obtain ⟨tt, hv, hsq⟩ : ∃ tt : Addr, (valV kds (.inr (PR.word i))).getD (.ref e) = .ref tt ∧ (upd H7 e (.lst [])) tt = some (.lst ((PR.needs i).map fun p => V.int (p.1 : Int))) := by
      have at8 : ∀ p ∈ [(l6, [V.int 1]), (l5, [V.int 1]), (l4, [V.int 1, V.int 2]), (l3, [V.int 2]), (l2, [V.int 1]), (l1, [V.int 2])], (upd H7 e (.lst [])) p.1 = some (.lst p.2) := fun p hp => o8 _ _ (by simp) (at6 p hp)
      have pick : ∀ (tt : Addr) (xs : List V), (tt, xs) ∈ [(l6, [V.int 1]), (l5, [V.int 1]), (l4, [V.int 1, V.int 2]), (l3, [V.int 2]), (l2, [V.int 1]), (l1, [V.int 2])] → (PR.needs i).map (fun p => V.int (p.1 : Int)) = xs → (upd H7 e (.lst [])) tt = some (.lst ((PR.needs i).map fun p => V.int (p.1 : Int))) := fun tt xs hm hx => by
        rw [hx]; exact at8 _ hm
      rw [hval]
      cases i <;> simp only [PR.word, List.foldl]
      case copy r s => exact ⟨l1, (by (repeat (first | rw [if_pos rfl] | rw [if_neg (by decide +kernel)])); try rfl), pick l1 [.int 2] (by simp) rfl⟩
      case add r n => exact ⟨l2, (by (repeat (first | rw [if_pos rfl] | rw [if_neg (by decide +kernel)])); try rfl), pick l2 [.int 1] (by simp) rfl⟩
      case load r s n => exact ⟨l3, (by (repeat (first | rw [if_pos rfl] | rw [if_neg (by decide +kernel)])); try rfl), pick l3 [.int 2] (by simp) rfl⟩
      case less r s n l => exact ⟨l4, (by (repeat (first | rw [if_pos rfl] | rw [if_neg (by decide +kernel)])); try rfl), pick l4 [.int 1, .int 2] (by simp) rfl⟩
      case atmost r n l => exact ⟨l5, (by (repeat (first | rw [if_pos rfl] | rw [if_neg (by decide +kernel)])); try rfl), pick l5 [.int 1] (by simp) rfl⟩
      case same r n l => exact ⟨l6, (by (repeat (first | rw [if_pos rfl] | rw [if_neg (by decide +kernel)])); try rfl), pick l6 [.int 1] (by simp) rfl⟩
      case set r n => exact ⟨e, (by (repeat (first | rw [if_pos rfl] | rw [if_neg (by decide +kernel)])); try rfl), he8⟩
      case length r => exact ⟨e, (by (repeat (first | rw [if_pos rfl] | rw [if_neg (by decide +kernel)])); try rfl), he8⟩
      case jump l => exact ⟨e, (by (repeat (first | rw [if_pos rfl] | rw [if_neg (by decide +kernel)])); try rfl), he8⟩
      case pass => exact ⟨e, (by (repeat (first | rw [if_pos rfl] | rw [if_neg (by decide +kernel)])); try rfl), he8⟩
      case drop => exact ⟨e, (by (repeat (first | rw [if_pos rfl] | rw [if_neg (by decide +kernel)])); try rfl), he8⟩
    rw [hv]
    have o18 := o6.trans o8
    generalize upd H7 e (.lst []) = H8 at hsq o18 ⊢
    refine ⟨tt, rfl, ⟨_, SqL.of hsq⟩, fun D nD => ?_⟩
    refine lc_list (K := K) (a := tt) (xs := (PR.needs i).map fun p => V.int (p.1 : Int)) (fun j H' => Old [] H8 H' ∧ H' D = some (.lst ((((PR.needs i).take j).map fun p => (m p.2).isNone).map V.bl))) ⟨Old.new0 nD, upd_same⟩ (fun j H' _ h => SqL.of (h.1 _ _ (by simp) hsq)) ?_ ?_
    · rintro j y H2 hy ⟨o2, h2⟩
      have hj : j < (PR.needs i).length := by have := (List.getElem?_eq_some_iff.mp hy).1; rw [List.length_map] at this; exact this
      rw [List.getElem?_map, List.getElem?_eq_getElem hj] at hy
      have ey : y = .int ((PR.needs i)[j].1 : Int) := (Option.some.inj hy).symm
      subst ey
      have hm := List.getElem_mem hj
      have hn := needs_at i _ hm
      rw [List.take_succ_eq_append_getElem hj]
      generalize (PR.needs i)[j] = pr at hn ⊢
      have ht2 := ((o18.trans o2).tk NoTup.nil).seq ht
      have hk2 := (o18.trans o2) _ _ (by simp) hk
      refine ⟨rfl, .ref t, rfl, .int (pr.1 : Int), rfl, t, _, (pr.1 : Int), .str (PR.rg pr.2), rfl, rfl, ht2, atI_nat hn, .ref kd, rfl, kd, _, rfl, DGet.k (k := .inr (PR.rg pr.2)) hk2, ?_⟩
      rw [mem.val]
      refine ⟨_, h2, ?_, o2.put0 nD, ?_⟩
      · rw [List.length_map, List.length_map, List.length_take]
        have : (PR.needs i).length ≤ 2 := by cases i <;> simp [PR.needs]
        exact Nat.lt_of_le_of_lt (Nat.le_trans (Nat.min_le_right _ _) this) (by decide)
      · have e : (!((m pr.2).map V.int).isSome) = (m pr.2).isNone := by cases m pr.2 <;> rfl
        rw [upd_same, List.map_append, List.map_append, e]; rfl
    · rintro H2 ⟨o2, h2⟩
      rw [List.length_map, List.take_length] at h2
      refine ⟨D, _, rfl, SqL.of h2, ?_⟩
      have e : (((PR.needs i).map fun p => (m p.2).isNone).any id) = PR.unset i m := by
        unfold PR.unset
        rw [List.any_map]; rfl
      rw [e]
      exact q H2 (o18.trans o2)
end
end L2.T31

namespace L2.T31
open PySem PySem.Spec PyProof.Rows L2.PL
def spLRun (K : PySem.W.Frag) : Sp := fun vs H Q _ => ∃ (l : Addr) (v : V) (is : List PR.Ins) (pk : List Int), vs = [.ref l, v] ∧ LinesAt K H l is ∧ Lns is ∧ Dp K H v (pkD pk) ∧ PkOk pk ∧
  ∀ H' t c e, Old [] H H' → H' t = some (.tup [.ref c, .ref e]) → H' c = some (.lst ((PR.run is pk).1.map fun (a : Nat) => V.int (a : Int))) → H' e = some (.tup (PR.toldV (PR.run is pk).2)) → Q (.ref t) H'
section
variable {P : Program} {w : World} {K : PySem.W.Frag} {mg : Str → Option Value} {base : Heap}
/-! _law_run: slots lines=0 packet=1 known=2 at=3 came=4 line=5 word=6 place=7; cells [] -/
abbrev s_l_run : Stmt := topS 45
abbrev N_l_run : List Str := ["lines", "packet", "known", "at", "came", "line", "word", "place"]
theorem sc_l_run : FnScope N_l_run ["lines", "packet"] (defScope s_l_run) := ⟨rfl, rfl, rfl, by decide +kernel, rfl, by decide +kernel, by decide +kernel⟩
theorem ok_lrun {f : Addr} {fd : FuncData} (F : Fun K "_law_run" "_law_run" s_l_run f fd) (T : Bt mg) (C_l_lacks : Cal P w K mg base CX0 "_law_lacks" ["line", "known"] 1 (spIsUnset K)) : FnOk P w K mg base CX0 2 f fd ["lines", "packet"] (spLRun K) := by
  refine F.ok sc_l_run (fun vs H Q E h => ?_) (fun cdv A outer s H vs Q E hr h => ?_)
  · obtain ⟨l, v, is, pk, rfl, _⟩ := h
    rfl
  · obtain ⟨l, v, is, pk, rfl, ⟨xs, hl, hall⟩, L, hd, pok, q⟩ := h
    obtain ⟨pa, epa, hpa⟩ := dp_intTup hd
    subst epa
    have hu := hu_of hr
    have hxl : xs.length = is.length := by rw [PL.DpAll.length hall, List.length_map]
    have hLl := L.len
    have hpl := pok.l2
    refine ⟨_, (pss_cons (ps_par3 (i := 2) (j := 3) (l := 4) (by rfl) sc_l_run.nd rfl rfl rfl (by decide) (by decide) (by decide) rfl rfl rfl (pa_cons pe_dnewK (pa_cons pe_int (pa_cons (pe_lst pa_nil) pa_nil))) (by rfl))
      (pss_cons (ps_while PassesOwn.never (pt_cmpR op_lt (pv 3) (pe_callB call_len_seq (by rfl) T.z_len bz_len (pa_cons (pv 0) pa_nil)) (nomark _))
       (pss_cons (ps_expr (pe_bm PySem.F.plainAttrs_list PySem.F.slot_list_append PySem.F.type_list_append mt_append (pv 4) (pa_cons (pv 3) pa_nil)))
        (pss_cons (ps_par (i := 5) (j := 3) (by rfl) sc_l_run.nd rfl rfl (by decide) rfl rfl (pa_cons (pe_ix ix_list (pv 0) (pv 3) (fun _ _ => rfl)) (pa_cons (pe_op op_add (pv 3) pe_int) pa_nil)) (by rfl))
        (pss_cons (ps_set (i := 6) sc_l_run.nd rfl (.inl rfl) (pe_ix ix_tup (pv 5) pe_int (fun _ _ => rfl)))
        (pss_cons (ps_if (PW.pt (pw_or (pt_cmpR op_eq (pv 6) pe_str (nomark _)) (pw_or1 (pt_cmpR op_eq (pv 6) pe_str (nomark _)))))
         (pss_one (ps_ret (pe_tup (pa_cons (pv 4) (pa_cons (pe_tup (pa_cons (pv 6) (pa_cons (pe_op op_sub (pv 3) pe_int) pa_nil))) pa_nil)))))
         pss_nil)
        (pss_cons (ps_if (pt_val (pe_cal C_l_lacks hr (by rfl) pass0 (pa_cons (pv 5) (pa_cons (pv 2) pa_nil))))
         (pss_one (ps_ret (pe_tup (pa_cons (pv 4) (pa_cons (pe_tup (pa_cons pe_str (pa_cons (pe_op op_sub (pv 3) pe_int) (pa_cons pe_str pa_nil)))) pa_nil)))))
         pss_nil)
        (pss_one (ps_if (pt_cmpR op_eq (pv 6) pe_str (nomark _))
         (pss_one (ps_asg (pe_ix ix_tup (pv 5) pe_int (fun _ _ => rfl)) (pg_sub (pv 2) (pe_ix ix_tup (pv 5) pe_int (fun _ _ => rfl)) (set_dict hu))))
         (pss_one (ps_if (pt_cmpR op_eq (pv 6) pe_str (nomark _))
           (pss_one (ps_asg (pe_dget hu (pv 2) (pe_ix ix_tup (pv 5) pe_int (fun _ _ => rfl)) (fun _ _ => rfl)) (pg_sub (pv 2) (pe_ix ix_tup (pv 5) pe_int (fun _ _ => rfl)) (set_dict hu))))
           (pss_one (ps_if (pt_cmpR op_eq (pv 6) pe_str (nomark _))
             (pss_one (ps_asg (pe_op op_add (pe_dget hu (pv 2) (pe_ix ix_tup (pv 5) pe_int (fun _ _ => rfl)) (fun _ _ => rfl)) (pe_ix ix_tup (pv 5) pe_int (fun _ _ => rfl))) (pg_sub (pv 2) (pe_ix ix_tup (pv 5) pe_int (fun _ _ => rfl)) (set_dict hu))))
             (pss_one (ps_if (pt_cmpR op_eq (pv 6) pe_str (nomark _))
               (pss_one (ps_asg (pe_callB call_len_seq (by rfl) T.z_len bz_len (pa_cons (pv 1) pa_nil)) (pg_sub (pv 2) (pe_ix ix_tup (pv 5) pe_int (fun _ _ => rfl)) (set_dict hu))))
               (pss_one (ps_if (pt_cmpR op_eq (pv 6) pe_str (nomark _))
                 (pss_cons (ps_set (i := 7) sc_l_run.nd rfl (.inl rfl) (pe_op op_add (pe_dget hu (pv 2) (pe_ix ix_tup (pv 5) pe_int (fun _ _ => rfl)) (fun _ _ => rfl)) (pe_ix ix_tup (pv 5) pe_int (fun _ _ => rfl))))
                  (pss_cons (ps_if (PW.pt (pw_or (pt_cmpR op_lt (pv 7) pe_int (nomark _)) (pw_or1 (pt_cmpR op_ge (pv 7) (pe_callB call_len_seq (by rfl) T.z_len bz_len (pa_cons (pv 1) pa_nil)) (nomark _)))))
                   (pss_one (ps_ret (pe_tup (pa_cons (pv 4) (pa_cons (pe_tup (pa_cons pe_str (pa_cons (pe_op op_sub (pv 3) pe_int) (pa_cons pe_str pa_nil)))) pa_nil)))))
                   pss_nil)
                  (pss_one (ps_asg (pe_ix ix_tup (pv 1) (pv 7) (fun _ _ => rfl)) (pg_sub (pv 2) (pe_ix ix_tup (pv 5) pe_int (fun _ _ => rfl)) (set_dict hu))))))
                 (pss_one (ps_if (pt_cmpR op_eq (pv 6) pe_str (nomark _))
                   (pss_one (ps_set (i := 3) sc_l_run.nd rfl (.inl rfl) (pe_ix ix_tup (pv 5) pe_int (fun _ _ => rfl))))
                   (pss_one (ps_if (PW.pt (pw_and (pt_cmpR op_eq (pv 6) pe_str (nomark _)) (pw_and1 (pt_cmpR op_le (pe_op op_sub (pe_dget hu (pv 2) (pe_ix ix_tup (pv 5) pe_int (fun _ _ => rfl)) (fun _ _ => rfl)) (pe_dget hu (pv 2) (pe_ix ix_tup (pv 5) pe_int (fun _ _ => rfl)) (fun _ _ => rfl))) (pe_ix ix_tup (pv 5) pe_int (fun _ _ => rfl)) (nomark _)))))
                     (pss_one (ps_set (i := 3) sc_l_run.nd rfl (.inl rfl) (pe_ix ix_tup (pv 5) pe_int (fun _ _ => rfl))))
                     (pss_one (ps_if (PW.pt (pw_or (PW.pt (pw_and (pt_cmpR op_eq (pv 6) pe_str (nomark _)) (pw_and1 (pt_cmpR op_le (pe_dget hu (pv 2) (pe_ix ix_tup (pv 5) pe_int (fun _ _ => rfl)) (fun _ _ => rfl)) (pe_ix ix_tup (pv 5) pe_int (fun _ _ => rfl)) (nomark _))))) (pw_or1 (PW.pt (pw_and (pt_cmpR op_eq (pv 6) pe_str (nomark _)) (pw_and1 (pt_cmpR op_eq (pe_dget hu (pv 2) (pe_ix ix_tup (pv 5) pe_int (fun _ _ => rfl)) (fun _ _ => rfl)) (pe_ix ix_tup (pv 5) pe_int (fun _ _ => rfl)) (nomark _))))))))
                       (pss_one (ps_set (i := 3) sc_l_run.nd rfl (.inl rfl) (pe_ix ix_tup (pv 5) pe_int (fun _ _ => rfl))))
                       pss_nil))))))))))))))))))))))
      (pss_one (ps_ret (pe_tup (pa_cons (pv 4) (pa_cons (pe_tup (pa_cons pe_str (pa_cons (pe_callB call_len_seq (by rfl) T.z_len bz_len (pa_cons (pv 0) pa_nil)) (pa_cons pe_str pa_nil)))) pa_nil))))))), ?_⟩
    refine fun kd nkd => ?_
    have oA : Old [] H (upd H kd (.dK [])) := Old.new0 nkd
    have hkA : (upd H kd (.dK [])) kd = some (.dK []) := upd_same
    generalize upd H kd (.dK []) = HA at oA hkA ⊢
    refine ⟨Nat.zero_le _, fun cm ncm => ?_⟩
    have hcm0 : H cm = none := oA.free ncm (by simp)
    have nkc : kd ≠ cm := ne_of_none hkA ncm
    refine ⟨_, _, _, rfl, ?_⟩
    have oC : Old [] H (upd HA cm (.lst [])) := oA.new ncm
    have hkC : (upd HA cm (.lst [])) kd = some (.dK []) := by rw [upd_ne nkc]; exact hkA
    have hcC : (upd HA cm (.lst [])) cm = some (.lst []) := upd_same
    generalize upd HA cm (.lst []) = HC at oC hkC hcC ⊢
    clear hkA oA ncm HA
    refine ⟨fun n σ H' => ∃ (y5 y6 y7 : Option V) (a : Nat) (m : PR.Mem) (came : List Nat) (kvs : List (Key × V)), σ = [some (.ref l), some (.ref pa), some (.ref kd), some (.int (a : Int)), some (.ref cm), y5, y6, y7] ∧ Old [] H H' ∧ H' kd = some (.dK kvs) ∧ PR.MemIs kvs m ∧ kvs.length ≤ a ∧ a ≤ 200 ∧
        H' cm = some (.lst (came.map fun (a : Nat) => V.int (a : Int))) ∧ came.length ≤ a ∧ PR.exec is pk n a m came = PR.run is pk ∧ is.length < n + a,
      ⟨is.length + 1, none, none, none, 0, fun _ => none, [], [], rfl, oC, hkC, PR.MemIs.nil, Nat.le_refl _, by decide, hcC, Nat.le_refl _, rfl, by omega⟩, ?_⟩
    rintro n σ H1 ⟨y5, y6, y7, a, m, came, kvs, rfl, o1, hk1, mem, hka, ha200, hc1, hca, hex, hfu⟩
    have hl1 := o1 _ _ (by simp) hl
    refine ⟨.int (a : Int), rfl, .ref l, rfl, l, xs, rfl, .inl (SqL.of hl1), (a : Int), _, rfl, rfl, ?_⟩
    by_cases hal : a < is.length
    · refine ⟨true, congrArg V.bl (decide_eq_true (by rw [hxl]; omega)), iteT ?_⟩
      obtain ⟨n, rfl⟩ : ∃ k, n = k + 1 := ⟨n - 1, by omega⟩
      have ei : is[a]? = some is[a] := List.getElem?_eq_getElem hal
      have iok := L.ok a is[a] ei
      obtain ⟨vt, hvt, dvt⟩ := PL.DpAll.get hall (i := a) (d := PR.insD is[a]) (by rw [List.getElem?_map, ei]; rfl)
      rw [exec_some ei] at hex
      generalize is[a] = i at iok dvt hex
      obtain ⟨t, rfl, ht⟩ := ins_at dvt
      refine ⟨fun σ' H' => ∃ (y5 y6 y7 : Option V) (a' : Nat) (m : PR.Mem) (came : List Nat) (kvs : List (Key × V)), σ' = [some (.ref l), some (.ref pa), some (.ref kd), some (.int (a' : Int)), some (.ref cm), y5, y6, y7] ∧ Old [] H H' ∧ H' kd = some (.dK kvs) ∧ PR.MemIs kvs m ∧ kvs.length ≤ a' ∧ a' ≤ 200 ∧
        H' cm = some (.lst (came.map fun (a : Nat) => V.int (a : Int))) ∧ came.length ≤ a' ∧ PR.exec is pk n a' m came = PR.run is pk ∧ is.length < n + a', ?_, ?_⟩
      · rintro σ' H' ⟨y5, y6, y7, a', m, came, kvs, h1, h2, h3, h4, h5, h6, h7, h8, h9, h10⟩
        exact ⟨n, Nat.lt_succ_self n, y5, y6, y7, a', m, came, kvs, h1, h2, h3, h4, h5, h6, h7, h8, h9, h10⟩
      have hcl : (came.map fun (a : Nat) => V.int (a : Int)).length < sizeLine := by rw [List.length_map]; exact Nat.lt_of_le_of_lt (Nat.le_trans hca ha200) (by decide)
      refine ⟨.ref cm, rfl, .inl ⟨rfl, _, SqL.of hc1⟩, .int (a : Int), rfl, cm, _, .int (a : Int), rfl, rfl, hc1, hcl, ?_⟩
      have nkc' : kd ≠ cm := ne_of hk1 hc1 (fun z => nomatch z)
      have o2 : Old [] H (upd H1 cm (.lst ((came.map fun (a : Nat) => V.int (a : Int)) ++ [.int (a : Int)]))) := o1.put0 hcm0
      have hk2 : (upd H1 cm (.lst ((came.map fun (a : Nat) => V.int (a : Int)) ++ [.int (a : Int)]))) kd = some (.dK kvs) := by rw [upd_ne nkc']; exact hk1
      have hc2 : (upd H1 cm (.lst ((came.map fun (a : Nat) => V.int (a : Int)) ++ [.int (a : Int)]))) cm = some (.lst ((came ++ [a]).map fun (a : Nat) => V.int (a : Int))) := by rw [upd_same, List.map_append]; rfl
      generalize upd H1 cm (.lst ((came.map fun (a : Nat) => V.int (a : Int)) ++ [.int (a : Int)])) = H2 at o2 hk2 hc2 ⊢
      clear hk1 hc1 o1 hl1 hcl
      have hl2 := o2 _ _ (by simp) hl
      have ht2 : SqT K H2 t (PR.insV i) := (o2.tk NoTup.nil).seq ht
      have hca' : (came ++ [a]).length ≤ a + 1 := by rw [List.length_append]; exact Nat.succ_le_succ hca
      generalize came ++ [a] = came2 at hc2 hca' hex
      refine ⟨.ref l, rfl, .int (a : Int), rfl, l, xs, (a : Int), .ref t, rfl, rfl, SqL.of hl2, atI_nat hvt, .int (a : Int), rfl, (a : Int), 1, rfl, rfl, _, _, rfl, ?_⟩
      refine ⟨.ref t, rfl, t, _, 0, .str (PR.word i), rfl, rfl, ht2, atI_nat (j := 0) rfl, ?_⟩
      have am1 : ((a : Int) + 1) - 1 = (a : Int) := by omega
      have fin : ∀ (G : Hp) (tv : List V) (tld : PR.Told), Old [] H2 G → (came2, tld) = PR.run is pk → PR.toldV tld = tv → ∀ e, G e = none → ∀ t, (upd G e (.tup tv)) t = none → Q (.ref t) (upd (upd G e (.tup tv)) t (.tup [.ref cm, .ref e])) := by
        intro G tv tld oG hr' htv e ne t nt
        subst htv
        have oE : Old [] G (upd G e (.tup (PR.toldV tld))) := Old.new0 ne
        have oT : Old [] (upd G e (.tup (PR.toldV tld))) (upd (upd G e (.tup (PR.toldV tld))) t (.tup [.ref cm, .ref e])) := Old.new0 nt
        refine q _ t cm e (((o2.trans oG).trans oE).trans oT) upd_same ?_ ?_
        · rw [← hr']; exact oT _ _ (by simp) (oE _ _ (by simp) (oG _ _ (by simp) hc2))
        · rw [← hr']; exact oT _ _ (by simp) upd_same
      -- what goes on
      have nxt : ∀ (G : Hp) (y7 : Option V) (a' : Nat) (m' : PR.Mem) (kvs' : List (Key × V)), Old [] H G → G kd = some (.dK kvs') → PR.MemIs kvs' m' → kvs'.length ≤ a' → a + 1 ≤ a' → a' ≤ 200 → G cm = some (.lst (came2.map fun (a : Nat) => V.int (a : Int))) → PR.exec is pk n a' m' came2 = PR.run is pk →
          ∃ (z5 z6 z7 : Option V) (b : Nat) (m : PR.Mem) (came : List Nat) (kvs : List (Key × V)), [some (.ref l), some (.ref pa), some (.ref kd), some (.int (a' : Int)), some (.ref cm), some (.ref t), some (.str (PR.word i)), y7] = [some (.ref l), some (.ref pa), some (.ref kd), some (.int (b : Int)), some (.ref cm), z5, z6, z7] ∧ Old [] H G ∧ G kd = some (.dK kvs) ∧ PR.MemIs kvs m ∧ kvs.length ≤ b ∧ b ≤ 200 ∧
            G cm = some (.lst (came.map fun (a : Nat) => V.int (a : Int))) ∧ came.length ≤ b ∧ PR.exec is pk n b m came = PR.run is pk ∧ is.length < n + b := by
        intro G y7 a' m' kvs' h1 h2 h3 h4 h5 h6 h7 h8
        exact ⟨_, _, _, a', m', came2, kvs', rfl, h1, h2, h3, h4, h6, h7, by omega, h8, by omega⟩
      cases i with
      | pass =>
        refine ⟨.str "pass", rfl, rfl, true, sT rfl, iteT (iteT ?_)⟩
        exact ⟨.ref cm, rfl, .str "pass", rfl, .int ((a : Int) + 1), rfl, (a : Int) + 1, 1, rfl, rfl, (by show 2 ≤ sizeLine; decide), fun e ne => ⟨(by show 2 ≤ sizeLine; decide), fun u nu => fin H2 _ (.passed a) (Old.refl _ _) hex (by show _ = [V.str "pass", V.int ((a : Int) + 1 - 1)]; rw [am1]; rfl) e ne u nu⟩⟩
      | drop =>
        refine ⟨.str "drop", rfl, rfl, false, sF (by decide +kernel), iteF ?_⟩
        refine ⟨.str "drop", rfl, rfl, true, sT rfl, iteT ?_⟩
        exact ⟨.ref cm, rfl, .str "drop", rfl, .int ((a : Int) + 1), rfl, (a : Int) + 1, 1, rfl, rfl, (by show 2 ≤ sizeLine; decide), fun e ne => ⟨(by show 2 ≤ sizeLine; decide), fun u nu => fin H2 _ (.dropped a) (Old.refl _ _) hex (by show _ = [V.str "drop", V.int ((a : Int) + 1 - 1)]; rw [am1]; rfl) e ne u nu⟩⟩
      | set r n =>
        refine ⟨.str "set", rfl, rfl, false, sF (by decide +kernel), iteF ?_⟩
        refine ⟨.str "set", rfl, rfl, false, sF (by decide +kernel), iteF ?_⟩
        refine ⟨.ref t, rfl, .ref kd, rfl, t, kd, .set r n, kvs, m, rfl, ht2, hk2, mem, fun H4 o4 => ?_⟩
        have hend : PR.isEnd (.set r n) = false := rfl
        refine ⟨PR.unset (.set r n) m, rfl, ?_⟩
        cases hun : PR.unset (.set r n) m with
        | true =>
          refine iteT ?_
          rw [step_unset hend hun] at hex
          exact ⟨.ref cm, rfl, .int ((a : Int) + 1), rfl, (a : Int) + 1, 1, rfl, rfl, (by show 3 ≤ sizeLine; decide), fun e ne => ⟨(by show 2 ≤ sizeLine; decide), fun u nu => fin H4 _ (.unset a) o4 hex (by show _ = [V.str "wrong", V.int ((a : Int) + 1 - 1), V.str "unset"]; rw [am1]; rfl) e ne u nu⟩⟩
        | false =>
          refine iteF ?_
          have ht4 := (o4.tk NoTup.nil).seq ht2
          have hk4 := o4 _ _ (by simp) hk2
          have hc4 := o4 _ _ (by simp) hc2
          have o04 := o2.trans o4
          have get : ∀ p ∈ PR.needs (.set r n), DGet H4 kd (.str (PR.rg p.2)) (some (.int (PR.val m p.2))) := fun p hp => by
            have := DGet.k (k := .inr (PR.rg p.2)) hk4
            rw [mem.val, val_of hun p hp] at this
            exact this
          have hsz : kvs.length < sizeLine := Nat.lt_of_le_of_lt (Nat.le_trans hka ha200) (by decide)
          refine ⟨.str "set", rfl, rfl, true, sT rfl, iteT ?_⟩
          refine ⟨.ref t, rfl, t, _, 2, .int n, rfl, rfl, ht4, atI_nat (j := 2) rfl, .ref kd, rfl, .ref t, rfl, t, _, 1, .str (PR.rg r), rfl, rfl, ht4, atI_nat (j := 1) rfl, kd, _, rfl, DPut.k (k := .inr (PR.rg r)) hk4 hsz, ?_⟩
          rw [step_store hend hun rfl, show PR.stores pk m (.set r n) = some (PR.put m r n) from rfl] at hex
          have mem' := mem.put r (n)
          have hlen' := length_putK kvs (.inr (PR.rg r)) (V.int (n))
          exact nxt _ _ (a + 1) _ _ (o04.put0 nkd) upd_same mem' (Nat.le_trans hlen' (by omega)) (Nat.le_refl _) (by omega) (by rw [upd_ne nkc'.symm]; exact hc4) hex
      | copy r s =>
        refine ⟨.str "copy", rfl, rfl, false, sF (by decide +kernel), iteF ?_⟩
        refine ⟨.str "copy", rfl, rfl, false, sF (by decide +kernel), iteF ?_⟩
        refine ⟨.ref t, rfl, .ref kd, rfl, t, kd, .copy r s, kvs, m, rfl, ht2, hk2, mem, fun H4 o4 => ?_⟩
        have hend : PR.isEnd (.copy r s) = false := rfl
        refine ⟨PR.unset (.copy r s) m, rfl, ?_⟩
        cases hun : PR.unset (.copy r s) m with
        | true =>
          refine iteT ?_
          rw [step_unset hend hun] at hex
          exact ⟨.ref cm, rfl, .int ((a : Int) + 1), rfl, (a : Int) + 1, 1, rfl, rfl, (by show 3 ≤ sizeLine; decide), fun e ne => ⟨(by show 2 ≤ sizeLine; decide), fun u nu => fin H4 _ (.unset a) o4 hex (by show _ = [V.str "wrong", V.int ((a : Int) + 1 - 1), V.str "unset"]; rw [am1]; rfl) e ne u nu⟩⟩
        | false =>
          refine iteF ?_
          have ht4 := (o4.tk NoTup.nil).seq ht2
          have hk4 := o4 _ _ (by simp) hk2
          have hc4 := o4 _ _ (by simp) hc2
          have o04 := o2.trans o4
          have get : ∀ p ∈ PR.needs (.copy r s), DGet H4 kd (.str (PR.rg p.2)) (some (.int (PR.val m p.2))) := fun p hp => by
            have := DGet.k (k := .inr (PR.rg p.2)) hk4
            rw [mem.val, val_of hun p hp] at this
            exact this
          have hsz : kvs.length < sizeLine := Nat.lt_of_le_of_lt (Nat.le_trans hka ha200) (by decide)
          refine ⟨.str "copy", rfl, rfl, false, sF (by decide +kernel), iteF ?_⟩
          refine ⟨.str "copy", rfl, rfl, true, sT rfl, iteT ?_⟩
          refine ⟨.ref kd, rfl, .ref t, rfl, t, _, 2, .str (PR.rg s), rfl, rfl, ht4, atI_nat (j := 2) rfl, kd, _, rfl, get (2, s) (.head _), .ref kd, rfl, .ref t, rfl, t, _, 1, .str (PR.rg r), rfl, rfl, ht4, atI_nat (j := 1) rfl, kd, _, rfl, DPut.k (k := .inr (PR.rg r)) hk4 hsz, ?_⟩
          rw [step_store hend hun rfl, show PR.stores pk m (.copy r s) = some (PR.put m r (PR.val m s)) from rfl] at hex
          have mem' := mem.put r (PR.val m s)
          have hlen' := length_putK kvs (.inr (PR.rg r)) (V.int (PR.val m s))
          exact nxt _ _ (a + 1) _ _ (o04.put0 nkd) upd_same mem' (Nat.le_trans hlen' (by omega)) (Nat.le_refl _) (by omega) (by rw [upd_ne nkc'.symm]; exact hc4) hex
      | add r n =>
        refine ⟨.str "add", rfl, rfl, false, sF (by decide +kernel), iteF ?_⟩
        refine ⟨.str "add", rfl, rfl, false, sF (by decide +kernel), iteF ?_⟩
        refine ⟨.ref t, rfl, .ref kd, rfl, t, kd, .add r n, kvs, m, rfl, ht2, hk2, mem, fun H4 o4 => ?_⟩
        have hend : PR.isEnd (.add r n) = false := rfl
        refine ⟨PR.unset (.add r n) m, rfl, ?_⟩
        cases hun : PR.unset (.add r n) m with
        | true =>
          refine iteT ?_
          rw [step_unset hend hun] at hex
          exact ⟨.ref cm, rfl, .int ((a : Int) + 1), rfl, (a : Int) + 1, 1, rfl, rfl, (by show 3 ≤ sizeLine; decide), fun e ne => ⟨(by show 2 ≤ sizeLine; decide), fun u nu => fin H4 _ (.unset a) o4 hex (by show _ = [V.str "wrong", V.int ((a : Int) + 1 - 1), V.str "unset"]; rw [am1]; rfl) e ne u nu⟩⟩
        | false =>
          refine iteF ?_
          have ht4 := (o4.tk NoTup.nil).seq ht2
          have hk4 := o4 _ _ (by simp) hk2
          have hc4 := o4 _ _ (by simp) hc2
          have o04 := o2.trans o4
          have get : ∀ p ∈ PR.needs (.add r n), DGet H4 kd (.str (PR.rg p.2)) (some (.int (PR.val m p.2))) := fun p hp => by
            have := DGet.k (k := .inr (PR.rg p.2)) hk4
            rw [mem.val, val_of hun p hp] at this
            exact this
          have hsz : kvs.length < sizeLine := Nat.lt_of_le_of_lt (Nat.le_trans hka ha200) (by decide)
          refine ⟨.str "add", rfl, rfl, false, sF (by decide +kernel), iteF ?_⟩
          refine ⟨.str "add", rfl, rfl, false, sF (by decide +kernel), iteF ?_⟩
          refine ⟨.str "add", rfl, rfl, true, sT rfl, iteT ?_⟩
          refine ⟨.ref kd, rfl, .ref t, rfl, t, _, 1, .str (PR.rg r), rfl, rfl, ht4, atI_nat (j := 1) rfl, kd, _, rfl, get (1, r) (.head _), .ref t, rfl, t, _, 2, .int n, rfl, rfl, ht4, atI_nat (j := 2) rfl, _, n, rfl, rfl, .ref kd, rfl, .ref t, rfl, t, _, 1, .str (PR.rg r), rfl, rfl, ht4, atI_nat (j := 1) rfl, kd, _, rfl, DPut.k (k := .inr (PR.rg r)) hk4 hsz, ?_⟩
          rw [step_store hend hun rfl, show PR.stores pk m (.add r n) = some (PR.put m r (PR.val m r + n)) from rfl] at hex
          have mem' := mem.put r (PR.val m r + n)
          have hlen' := length_putK kvs (.inr (PR.rg r)) (V.int (PR.val m r + n))
          exact nxt _ _ (a + 1) _ _ (o04.put0 nkd) upd_same mem' (Nat.le_trans hlen' (by omega)) (Nat.le_refl _) (by omega) (by rw [upd_ne nkc'.symm]; exact hc4) hex
      | length r =>
        refine ⟨.str "length", rfl, rfl, false, sF (by decide +kernel), iteF ?_⟩
        refine ⟨.str "length", rfl, rfl, false, sF (by decide +kernel), iteF ?_⟩
        refine ⟨.ref t, rfl, .ref kd, rfl, t, kd, .length r, kvs, m, rfl, ht2, hk2, mem, fun H4 o4 => ?_⟩
        have hend : PR.isEnd (.length r) = false := rfl
        refine ⟨PR.unset (.length r) m, rfl, ?_⟩
        cases hun : PR.unset (.length r) m with
        | true =>
          refine iteT ?_
          rw [step_unset hend hun] at hex
          exact ⟨.ref cm, rfl, .int ((a : Int) + 1), rfl, (a : Int) + 1, 1, rfl, rfl, (by show 3 ≤ sizeLine; decide), fun e ne => ⟨(by show 2 ≤ sizeLine; decide), fun u nu => fin H4 _ (.unset a) o4 hex (by show _ = [V.str "wrong", V.int ((a : Int) + 1 - 1), V.str "unset"]; rw [am1]; rfl) e ne u nu⟩⟩
        | false =>
          refine iteF ?_
          have ht4 := (o4.tk NoTup.nil).seq ht2
          have hk4 := o4 _ _ (by simp) hk2
          have hc4 := o4 _ _ (by simp) hc2
          have o04 := o2.trans o4
          have get : ∀ p ∈ PR.needs (.length r), DGet H4 kd (.str (PR.rg p.2)) (some (.int (PR.val m p.2))) := fun p hp => by
            have := DGet.k (k := .inr (PR.rg p.2)) hk4
            rw [mem.val, val_of hun p hp] at this
            exact this
          have hsz : kvs.length < sizeLine := Nat.lt_of_le_of_lt (Nat.le_trans hka ha200) (by decide)
          refine ⟨.str "length", rfl, rfl, false, sF (by decide +kernel), iteF ?_⟩
          refine ⟨.str "length", rfl, rfl, false, sF (by decide +kernel), iteF ?_⟩
          refine ⟨.str "length", rfl, rfl, false, sF (by decide +kernel), iteF ?_⟩
          have hpa4 := ((o04.tk NoTup.nil).seq hpa)
          refine ⟨.str "length", rfl, rfl, true, sT rfl, iteT ?_⟩
          refine ⟨.ref pa, rfl, pa, _, rfl, .inr hpa4, .ref kd, rfl, .ref t, rfl, t, _, 1, .str (PR.rg r), rfl, rfl, ht4, atI_nat (j := 1) rfl, kd, _, rfl, DPut.k (k := .inr (PR.rg r)) hk4 hsz, ?_⟩
          rw [List.length_map]
          rw [step_store hend hun rfl, show PR.stores pk m (.length r) = some (PR.put m r (pk.length : Int)) from rfl] at hex
          have mem' := mem.put r ((pk.length : Int))
          have hlen' := length_putK kvs (.inr (PR.rg r)) (V.int ((pk.length : Int)))
          exact nxt _ _ (a + 1) _ _ (o04.put0 nkd) upd_same mem' (Nat.le_trans hlen' (by omega)) (Nat.le_refl _) (by omega) (by rw [upd_ne nkc'.symm]; exact hc4) hex
      | load r s n' =>
        refine ⟨.str "load", rfl, rfl, false, sF (by decide +kernel), iteF ?_⟩
        refine ⟨.str "load", rfl, rfl, false, sF (by decide +kernel), iteF ?_⟩
        refine ⟨.ref t, rfl, .ref kd, rfl, t, kd, .load r s n', kvs, m, rfl, ht2, hk2, mem, fun H4 o4 => ?_⟩
        have hend : PR.isEnd (.load r s n') = false := rfl
        refine ⟨PR.unset (.load r s n') m, rfl, ?_⟩
        cases hun : PR.unset (.load r s n') m with
        | true =>
          refine iteT ?_
          rw [step_unset hend hun] at hex
          exact ⟨.ref cm, rfl, .int ((a : Int) + 1), rfl, (a : Int) + 1, 1, rfl, rfl, (by show 3 ≤ sizeLine; decide), fun e ne => ⟨(by show 2 ≤ sizeLine; decide), fun u nu => fin H4 _ (.unset a) o4 hex (by show _ = [V.str "wrong", V.int ((a : Int) + 1 - 1), V.str "unset"]; rw [am1]; rfl) e ne u nu⟩⟩
        | false =>
          refine iteF ?_
          have ht4 := (o4.tk NoTup.nil).seq ht2
          have hk4 := o4 _ _ (by simp) hk2
          have hc4 := o4 _ _ (by simp) hc2
          have o04 := o2.trans o4
          have get : ∀ p ∈ PR.needs (.load r s n'), DGet H4 kd (.str (PR.rg p.2)) (some (.int (PR.val m p.2))) := fun p hp => by
            have := DGet.k (k := .inr (PR.rg p.2)) hk4
            rw [mem.val, val_of hun p hp] at this
            exact this
          have hsz : kvs.length < sizeLine := Nat.lt_of_le_of_lt (Nat.le_trans hka ha200) (by decide)
          refine ⟨.str "load", rfl, rfl, false, sF (by decide +kernel), iteF ?_⟩
          refine ⟨.str "load", rfl, rfl, false, sF (by decide +kernel), iteF ?_⟩
          refine ⟨.str "load", rfl, rfl, false, sF (by decide +kernel), iteF ?_⟩
          refine ⟨.str "load", rfl, rfl, false, sF (by decide +kernel), iteF ?_⟩
          have hpa4 := ((o04.tk NoTup.nil).seq hpa)
          have hst : PR.stores pk m (.load r s n') = if 0 ≤ PR.val m s + n' ∧ PR.val m s + n' < (pk.length : Int) then some (PR.put m r (pk.getD (PR.val m s + n').toNat 0)) else none := rfl
          refine ⟨.str "load", rfl, rfl, true, sT rfl, iteT ?_⟩
          refine ⟨.ref kd, rfl, .ref t, rfl, t, _, 2, .str (PR.rg s), rfl, rfl, ht4, atI_nat (j := 2) rfl, kd, _, rfl, get (2, s) (.head _), .ref t, rfl, t, _, 3, .int n', rfl, rfl, ht4, atI_nat (j := 3) rfl, _, n', rfl, rfl, ?_⟩
          dsimp only
          have beyond : PR.stores pk m (.load r s n') = none → ∀ e, H4 e = none → ∀ u, (upd H4 e (.tup [.str "wrong", V.int ((a : Int) + 1 - 1), .str "beyond"])) u = none → Q (.ref u) (upd (upd H4 e (.tup [.str "wrong", V.int ((a : Int) + 1 - 1), .str "beyond"])) u (.tup [.ref cm, .ref e])) := fun hs e ne u nu => by
            rw [step_store hend hun rfl, hs] at hex
            exact fin H4 _ (.beyond a) o4 hex (by rw [am1]; rfl) e ne u nu
          generalize hpl' : PR.val m s + n' = place at hst ⊢
          by_cases c1 : 0 ≤ place
          · by_cases c2 : place < (pk.length : Int)
            · refine ⟨.int place, rfl, place, 0, rfl, rfl, false, congrArg V.bl (decide_eq_false (by omega)), iteF ?_⟩
              refine ⟨.int place, rfl, .ref pa, rfl, pa, _, rfl, .inr hpa4, place, _, rfl, rfl, false, congrArg V.bl (decide_eq_false (by rw [List.length_map]; omega)), iteF ?_⟩
              obtain ⟨k, rfl⟩ : ∃ k : Nat, place = (k : Int) := ⟨place.toNat, by omega⟩
              have hkp : k < pk.length := by omega
              refine ⟨.ref pa, rfl, .int (k : Int), rfl, pa, _, (k : Int), .int pk[k], rfl, rfl, hpa4, atI_nat (by rw [List.getElem?_map, List.getElem?_eq_getElem hkp]; rfl), .ref kd, rfl, .ref t, rfl, t, _, 1, .str (PR.rg r), rfl, rfl, ht4, atI_nat (j := 1) rfl, kd, _, rfl, DPut.k (k := .inr (PR.rg r)) hk4 hsz, ?_⟩
              rw [if_pos ⟨c1, c2⟩] at hst
              rw [step_store hend hun rfl, hst] at hex
              have ev : pk.getD ((k : Int)).toNat 0 = pk[k] := by rw [Int.toNat_natCast, List.getD_eq_getElem?_getD, List.getElem?_eq_getElem hkp]; rfl
              rw [ev] at hex
              have mem' := mem.put r pk[k]
              have hlen' := length_putK kvs (.inr (PR.rg r)) (V.int pk[k])
              exact nxt _ _ (a + 1) _ _ (o04.put0 nkd) upd_same mem' (Nat.le_trans hlen' (by omega)) (Nat.le_refl _) (by omega) (by rw [upd_ne nkc'.symm]; exact hc4) hex
            · refine ⟨.int place, rfl, place, 0, rfl, rfl, false, congrArg V.bl (decide_eq_false (by omega)), iteF ?_⟩
              refine ⟨.int place, rfl, .ref pa, rfl, pa, _, rfl, .inr hpa4, place, _, rfl, rfl, true, congrArg V.bl (decide_eq_true (by rw [List.length_map]; omega)), iteT ?_⟩
              rw [if_neg (fun z => c2 z.2)] at hst
              exact ⟨.ref cm, rfl, .int ((a : Int) + 1), rfl, (a : Int) + 1, 1, rfl, rfl, (by show 3 ≤ sizeLine; decide), fun e ne => ⟨(by show 2 ≤ sizeLine; decide), fun u nu => beyond hst e ne u nu⟩⟩
          · refine ⟨.int place, rfl, place, 0, rfl, rfl, true, congrArg V.bl (decide_eq_true (by omega)), iteT (iteT ?_)⟩
            rw [if_neg (fun z => c1 z.1)] at hst
            exact ⟨.ref cm, rfl, .int ((a : Int) + 1), rfl, (a : Int) + 1, 1, rfl, rfl, (by show 3 ≤ sizeLine; decide), fun e ne => ⟨(by show 2 ≤ sizeLine; decide), fun u nu => beyond hst e ne u nu⟩⟩
      | jump gl =>
        refine ⟨.str "jump", rfl, rfl, false, sF (by decide +kernel), iteF ?_⟩
        refine ⟨.str "jump", rfl, rfl, false, sF (by decide +kernel), iteF ?_⟩
        refine ⟨.ref t, rfl, .ref kd, rfl, t, kd, .jump gl, kvs, m, rfl, ht2, hk2, mem, fun H4 o4 => ?_⟩
        have hend : PR.isEnd (.jump gl) = false := rfl
        refine ⟨PR.unset (.jump gl) m, rfl, ?_⟩
        cases hun : PR.unset (.jump gl) m with
        | true =>
          refine iteT ?_
          rw [step_unset hend hun] at hex
          exact ⟨.ref cm, rfl, .int ((a : Int) + 1), rfl, (a : Int) + 1, 1, rfl, rfl, (by show 3 ≤ sizeLine; decide), fun e ne => ⟨(by show 2 ≤ sizeLine; decide), fun u nu => fin H4 _ (.unset a) o4 hex (by show _ = [V.str "wrong", V.int ((a : Int) + 1 - 1), V.str "unset"]; rw [am1]; rfl) e ne u nu⟩⟩
        | false =>
          refine iteF ?_
          have ht4 := (o4.tk NoTup.nil).seq ht2
          have hk4 := o4 _ _ (by simp) hk2
          have hc4 := o4 _ _ (by simp) hc2
          have o04 := o2.trans o4
          have get : ∀ p ∈ PR.needs (.jump gl), DGet H4 kd (.str (PR.rg p.2)) (some (.int (PR.val m p.2))) := fun p hp => by
            have := DGet.k (k := .inr (PR.rg p.2)) hk4
            rw [mem.val, val_of hun p hp] at this
            exact this
          have hsz : kvs.length < sizeLine := Nat.lt_of_le_of_lt (Nat.le_trans hka ha200) (by decide)
          refine ⟨.str "jump", rfl, rfl, false, sF (by decide +kernel), iteF ?_⟩
          refine ⟨.str "jump", rfl, rfl, false, sF (by decide +kernel), iteF ?_⟩
          refine ⟨.str "jump", rfl, rfl, false, sF (by decide +kernel), iteF ?_⟩
          refine ⟨.str "jump", rfl, rfl, false, sF (by decide +kernel), iteF ?_⟩
          refine ⟨.str "jump", rfl, rfl, false, sF (by decide +kernel), iteF ?_⟩
          obtain ⟨g1, g2⟩ := goal_ok (i := .jump gl) rfl iok
          have g1 : a < gl := g1
          have g2 : gl ≤ 200 := g2
          rw [step_jump hend hun rfl] at hex
          refine ⟨.str "jump", rfl, rfl, true, sT rfl, iteT ?_⟩
          refine ⟨.ref t, rfl, t, _, 1, .int (gl : Int), rfl, rfl, ht4, atI_nat (j := 1) rfl, ?_⟩
          exact nxt _ _ gl m kvs o04 hk4 mem (by omega) (by omega) g2 hc4 hex
      | less r s n' gl =>
        refine ⟨.str "less", rfl, rfl, false, sF (by decide +kernel), iteF ?_⟩
        refine ⟨.str "less", rfl, rfl, false, sF (by decide +kernel), iteF ?_⟩
        refine ⟨.ref t, rfl, .ref kd, rfl, t, kd, .less r s n' gl, kvs, m, rfl, ht2, hk2, mem, fun H4 o4 => ?_⟩
        have hend : PR.isEnd (.less r s n' gl) = false := rfl
        refine ⟨PR.unset (.less r s n' gl) m, rfl, ?_⟩
        cases hun : PR.unset (.less r s n' gl) m with
        | true =>
          refine iteT ?_
          rw [step_unset hend hun] at hex
          exact ⟨.ref cm, rfl, .int ((a : Int) + 1), rfl, (a : Int) + 1, 1, rfl, rfl, (by show 3 ≤ sizeLine; decide), fun e ne => ⟨(by show 2 ≤ sizeLine; decide), fun u nu => fin H4 _ (.unset a) o4 hex (by show _ = [V.str "wrong", V.int ((a : Int) + 1 - 1), V.str "unset"]; rw [am1]; rfl) e ne u nu⟩⟩
        | false =>
          refine iteF ?_
          have ht4 := (o4.tk NoTup.nil).seq ht2
          have hk4 := o4 _ _ (by simp) hk2
          have hc4 := o4 _ _ (by simp) hc2
          have o04 := o2.trans o4
          have get : ∀ p ∈ PR.needs (.less r s n' gl), DGet H4 kd (.str (PR.rg p.2)) (some (.int (PR.val m p.2))) := fun p hp => by
            have := DGet.k (k := .inr (PR.rg p.2)) hk4
            rw [mem.val, val_of hun p hp] at this
            exact this
          have hsz : kvs.length < sizeLine := Nat.lt_of_le_of_lt (Nat.le_trans hka ha200) (by decide)
          refine ⟨.str "less", rfl, rfl, false, sF (by decide +kernel), iteF ?_⟩
          refine ⟨.str "less", rfl, rfl, false, sF (by decide +kernel), iteF ?_⟩
          refine ⟨.str "less", rfl, rfl, false, sF (by decide +kernel), iteF ?_⟩
          refine ⟨.str "less", rfl, rfl, false, sF (by decide +kernel), iteF ?_⟩
          refine ⟨.str "less", rfl, rfl, false, sF (by decide +kernel), iteF ?_⟩
          refine ⟨.str "less", rfl, rfl, false, sF (by decide +kernel), iteF ?_⟩
          obtain ⟨g1, g2⟩ := goal_ok (i := .less r s n' gl) rfl iok
          have g1 : a < gl := g1
          have g2 : gl ≤ 200 := g2
          rw [step_jump hend hun rfl] at hex
          have hg : PR.goes m (.less r s n' gl) = decide (PR.val m r - PR.val m s ≤ n') := rfl
          refine ⟨.str "less", rfl, rfl, true, sT rfl, iteT ?_⟩
          refine ⟨.ref kd, rfl, .ref t, rfl, t, _, 1, .str (PR.rg r), rfl, rfl, ht4, atI_nat (j := 1) rfl, kd, _, rfl, get (1, r) (.head _), .ref kd, rfl, .ref t, rfl, t, _, 2, .str (PR.rg s), rfl, rfl, ht4, atI_nat (j := 2) rfl, kd, _, rfl, get (2, s) (.tail _ (.head _)), _, _, rfl, rfl, .ref t, rfl, t, _, 3, .int n', rfl, rfl, ht4, atI_nat (j := 3) rfl, _, n', rfl, rfl, ?_⟩
          by_cases c : PR.val m r - PR.val m s ≤ n'
          · rw [hg, decide_eq_true c] at hex
            refine ⟨true, congrArg V.bl (decide_eq_true c), iteT ?_⟩
            refine ⟨.ref t, rfl, t, _, 4, .int (gl : Int), rfl, rfl, ht4, atI_nat (j := 4) rfl, ?_⟩
            exact nxt _ _ gl m kvs o04 hk4 mem (by omega) (by omega) g2 hc4 hex
          · rw [hg, decide_eq_false c] at hex
            refine ⟨false, congrArg V.bl (decide_eq_false c), iteF ?_⟩
            refine ⟨.str "less", rfl, rfl, false, sF (by decide +kernel), iteF (iteF ?_)⟩
            refine ⟨.str "less", rfl, rfl, false, sF (by decide +kernel), iteF (iteF ?_)⟩
            exact nxt _ _ (a + 1) m kvs o04 hk4 mem (by omega) (Nat.le_refl _) (by omega) hc4 hex
      | atmost r n' gl =>
        refine ⟨.str "atmost", rfl, rfl, false, sF (by decide +kernel), iteF ?_⟩
        refine ⟨.str "atmost", rfl, rfl, false, sF (by decide +kernel), iteF ?_⟩
        refine ⟨.ref t, rfl, .ref kd, rfl, t, kd, .atmost r n' gl, kvs, m, rfl, ht2, hk2, mem, fun H4 o4 => ?_⟩
        have hend : PR.isEnd (.atmost r n' gl) = false := rfl
        refine ⟨PR.unset (.atmost r n' gl) m, rfl, ?_⟩
        cases hun : PR.unset (.atmost r n' gl) m with
        | true =>
          refine iteT ?_
          rw [step_unset hend hun] at hex
          exact ⟨.ref cm, rfl, .int ((a : Int) + 1), rfl, (a : Int) + 1, 1, rfl, rfl, (by show 3 ≤ sizeLine; decide), fun e ne => ⟨(by show 2 ≤ sizeLine; decide), fun u nu => fin H4 _ (.unset a) o4 hex (by show _ = [V.str "wrong", V.int ((a : Int) + 1 - 1), V.str "unset"]; rw [am1]; rfl) e ne u nu⟩⟩
        | false =>
          refine iteF ?_
          have ht4 := (o4.tk NoTup.nil).seq ht2
          have hk4 := o4 _ _ (by simp) hk2
          have hc4 := o4 _ _ (by simp) hc2
          have o04 := o2.trans o4
          have get : ∀ p ∈ PR.needs (.atmost r n' gl), DGet H4 kd (.str (PR.rg p.2)) (some (.int (PR.val m p.2))) := fun p hp => by
            have := DGet.k (k := .inr (PR.rg p.2)) hk4
            rw [mem.val, val_of hun p hp] at this
            exact this
          have hsz : kvs.length < sizeLine := Nat.lt_of_le_of_lt (Nat.le_trans hka ha200) (by decide)
          refine ⟨.str "atmost", rfl, rfl, false, sF (by decide +kernel), iteF ?_⟩
          refine ⟨.str "atmost", rfl, rfl, false, sF (by decide +kernel), iteF ?_⟩
          refine ⟨.str "atmost", rfl, rfl, false, sF (by decide +kernel), iteF ?_⟩
          refine ⟨.str "atmost", rfl, rfl, false, sF (by decide +kernel), iteF ?_⟩
          refine ⟨.str "atmost", rfl, rfl, false, sF (by decide +kernel), iteF ?_⟩
          refine ⟨.str "atmost", rfl, rfl, false, sF (by decide +kernel), iteF ?_⟩
          obtain ⟨g1, g2⟩ := goal_ok (i := .atmost r n' gl) rfl iok
          have g1 : a < gl := g1
          have g2 : gl ≤ 200 := g2
          rw [step_jump hend hun rfl] at hex
          have hg : PR.goes m (.atmost r n' gl) = decide (PR.val m r ≤ n') := rfl
          refine ⟨.str "atmost", rfl, rfl, false, sF (by decide +kernel), iteF (iteF ?_)⟩
          refine ⟨.str "atmost", rfl, rfl, true, sT rfl, iteT ?_⟩
          refine ⟨.ref kd, rfl, .ref t, rfl, t, _, 1, .str (PR.rg r), rfl, rfl, ht4, atI_nat (j := 1) rfl, kd, _, rfl, get (1, r) (.head _), .ref t, rfl, t, _, 2, .int n', rfl, rfl, ht4, atI_nat (j := 2) rfl, _, n', rfl, rfl, ?_⟩
          by_cases c : PR.val m r ≤ n'
          · rw [hg, decide_eq_true c] at hex
            refine ⟨true, congrArg V.bl (decide_eq_true c), iteT (iteT ?_)⟩
            refine ⟨.ref t, rfl, t, _, 3, .int (gl : Int), rfl, rfl, ht4, atI_nat (j := 3) rfl, ?_⟩
            exact nxt _ _ gl m kvs o04 hk4 mem (by omega) (by omega) g2 hc4 hex
          · rw [hg, decide_eq_false c] at hex
            refine ⟨false, congrArg V.bl (decide_eq_false c), iteF ?_⟩
            refine ⟨.str "atmost", rfl, rfl, false, sF (by decide +kernel), iteF (iteF ?_)⟩
            exact nxt _ _ (a + 1) m kvs o04 hk4 mem (by omega) (Nat.le_refl _) (by omega) hc4 hex
      | same r n' gl =>
        refine ⟨.str "same", rfl, rfl, false, sF (by decide +kernel), iteF ?_⟩
        refine ⟨.str "same", rfl, rfl, false, sF (by decide +kernel), iteF ?_⟩
        refine ⟨.ref t, rfl, .ref kd, rfl, t, kd, .same r n' gl, kvs, m, rfl, ht2, hk2, mem, fun H4 o4 => ?_⟩
        have hend : PR.isEnd (.same r n' gl) = false := rfl
        refine ⟨PR.unset (.same r n' gl) m, rfl, ?_⟩
        cases hun : PR.unset (.same r n' gl) m with
        | true =>
          refine iteT ?_
          rw [step_unset hend hun] at hex
          exact ⟨.ref cm, rfl, .int ((a : Int) + 1), rfl, (a : Int) + 1, 1, rfl, rfl, (by show 3 ≤ sizeLine; decide), fun e ne => ⟨(by show 2 ≤ sizeLine; decide), fun u nu => fin H4 _ (.unset a) o4 hex (by show _ = [V.str "wrong", V.int ((a : Int) + 1 - 1), V.str "unset"]; rw [am1]; rfl) e ne u nu⟩⟩
        | false =>
          refine iteF ?_
          have ht4 := (o4.tk NoTup.nil).seq ht2
          have hk4 := o4 _ _ (by simp) hk2
          have hc4 := o4 _ _ (by simp) hc2
          have o04 := o2.trans o4
          have get : ∀ p ∈ PR.needs (.same r n' gl), DGet H4 kd (.str (PR.rg p.2)) (some (.int (PR.val m p.2))) := fun p hp => by
            have := DGet.k (k := .inr (PR.rg p.2)) hk4
            rw [mem.val, val_of hun p hp] at this
            exact this
          have hsz : kvs.length < sizeLine := Nat.lt_of_le_of_lt (Nat.le_trans hka ha200) (by decide)
          refine ⟨.str "same", rfl, rfl, false, sF (by decide +kernel), iteF ?_⟩
          refine ⟨.str "same", rfl, rfl, false, sF (by decide +kernel), iteF ?_⟩
          refine ⟨.str "same", rfl, rfl, false, sF (by decide +kernel), iteF ?_⟩
          refine ⟨.str "same", rfl, rfl, false, sF (by decide +kernel), iteF ?_⟩
          refine ⟨.str "same", rfl, rfl, false, sF (by decide +kernel), iteF ?_⟩
          refine ⟨.str "same", rfl, rfl, false, sF (by decide +kernel), iteF ?_⟩
          obtain ⟨g1, g2⟩ := goal_ok (i := .same r n' gl) rfl iok
          have g1 : a < gl := g1
          have g2 : gl ≤ 200 := g2
          rw [step_jump hend hun rfl] at hex
          have hg : PR.goes m (.same r n' gl) = decide (PR.val m r = n') := rfl
          refine ⟨.str "same", rfl, rfl, false, sF (by decide +kernel), iteF (iteF ?_)⟩
          refine ⟨.str "same", rfl, rfl, false, sF (by decide +kernel), iteF (iteF ?_)⟩
          refine ⟨.str "same", rfl, rfl, true, sT rfl, iteT ?_⟩
          refine ⟨.ref kd, rfl, .ref t, rfl, t, _, 1, .str (PR.rg r), rfl, rfl, ht4, atI_nat (j := 1) rfl, kd, _, rfl, get (1, r) (.head _), .ref t, rfl, t, _, 2, .int n', rfl, rfl, ht4, atI_nat (j := 2) rfl, rfl, ?_⟩
          by_cases c : PR.val m r = n'
          · rw [hg, decide_eq_true c] at hex
            refine ⟨true, congrArg V.bl (decide_eq_true (congrArg V.int c)), iteT ?_⟩
            refine ⟨.ref t, rfl, t, _, 3, .int (gl : Int), rfl, rfl, ht4, atI_nat (j := 3) rfl, ?_⟩
            exact nxt _ _ gl m kvs o04 hk4 mem (by omega) (by omega) g2 hc4 hex
          · rw [hg, decide_eq_false c] at hex
            refine ⟨false, congrArg V.bl (decide_eq_false (fun z => c (V.int.inj z))), iteF ?_⟩
            exact nxt _ _ (a + 1) m kvs o04 hk4 mem (by omega) (Nat.le_refl _) (by omega) hc4 hex
    · refine ⟨false, congrArg V.bl (decide_eq_false (by rw [hxl]; omega)), iteF ?_⟩
      rw [exec_end (List.getElem?_eq_none (by omega))] at hex
      refine ⟨.ref cm, rfl, .ref l, rfl, l, xs, rfl, .inl (SqL.of hl1), (by show 3 ≤ sizeLine; decide), fun e ne => ⟨(by show 2 ≤ sizeLine; decide), fun t nt => ?_⟩⟩
      have oE := Old.new0 (W := []) (o := HO.tup [.str "wrong", .int (xs.length : Int), .str "end"]) ne
      have oT := Old.new0 (W := []) (o := HO.tup [.ref cm, .ref e]) nt
      refine q _ t cm e ((o1.trans oE).trans oT) upd_same ?_ ?_
      · rw [← hex]; exact oT _ _ (by simp) (oE _ _ (by simp) hc1)
      · rw [← hex]
        have e2 : PR.toldV (.end_ is.length) = [.str "wrong", .int (xs.length : Int), .str "end"] := by rw [hxl]; rfl
        show _ = some (HO.tup (PR.toldV (.end_ is.length)))
        rw [e2]
        exact oT _ _ (by simp) upd_same
end
end L2.T31

namespace L2.T31
open PySem PySem.Spec PyProof.Rows L2.PL
def spInstr : Sp := fun vs H Q _ => ∃ (a : Addr) (B number size : Nat), vs = [.ref a, .int (number : Int), .int (size : Int)] ∧ Pot H a B ∧ B ≤ 900000 ∧ number < size ∧ size ≤ 20 ∧
  ∀ H' t i, PR.insOk number i → Old [a] H H' → Pot H' a (B + 20) → H' t = some (.tup (PR.insV i)) → Q (.ref t) H'
theorem reg_of {x : V} (h : x ∈ [V.str "a", .str "b", .str "c"]) : ∃ r, r < 3 ∧ x = .str (PR.rg r) := by
  simp only [List.mem_cons, List.not_mem_nil, or_false] at h
  rcases h with rfl | rfl | rfl
  · exact ⟨0, by decide, congrArg V.str (by decide +kernel)⟩
  · exact ⟨1, by decide, congrArg V.str (by decide +kernel)⟩
  · exact ⟨2, by decide, congrArg V.str (by decide +kernel)⟩
/-- the instruction of a drawn word -/
def insOf (x : Str) (r s : Nat) (n1 n2 n3 n4 n5 n6 : Int) (g : Nat) : PR.Ins :=
  if x = "load" then .load r s n1 else if x = "less" then .less r s n2 g else if x = "copy" then .copy r s else if x = "atmost" then .atmost r n3 g else if x = "same" then .same r n4 g else if x = "jump" then .jump g else if x = "add" then .add r n5 else if x = "set" then .set r n6 else .length r
section
variable {P : Program} {w : World} {K : PySem.W.Frag} {mg : Str → Option Value} {base : Heap}
/-! _law_instruction: slots pot=0 number=1 size=2 word=3 one=4 other=5 goal=6 words=7; cells [] -/
abbrev s_l_instruction : Stmt := topS 40
abbrev N_l_instruction : List Str := ["pot", "number", "size", "word", "one", "other", "goal", "words"]
theorem sc_l_instruction : FnScope N_l_instruction ["pot", "number", "size"] (defScope s_l_instruction) := ⟨rfl, rfl, rfl, by decide +kernel, rfl, by decide +kernel, by decide +kernel⟩
theorem ok_instr {f : Addr} {fd : FuncData} (F : Fun K "_law_instruction" "_law_instruction" s_l_instruction f fd) (T : Bt mg) (C_l_of : Cal P w K mg base CX0 "_law_of" ["pot", "some"] 2 (spOf K)) (C_l_take : Cal P w K mg base CX0 "_law_take" ["pot", "upto"] 1 spTake) (C_l_number : Cal P w K mg base CX0 "_law_number" ["pot"] 3 spNumber) : FnOk P w K mg base CX0 4 f fd ["pot", "number", "size"] spInstr := by
  refine F.ok sc_l_instruction (fun vs H Q E h => ?_) (fun cdv A outer s H vs Q E hr h => ?_)
  · obtain ⟨a, B, number, size, rfl, _⟩ := h
    rfl
  · obtain ⟨a, B, number, size, rfl, hP, hB, hns, hsz, q⟩ := h
    have hu := hu_of hr
    refine ⟨_, (pss_cons (ps_set (i := 3) sc_l_instruction.nd rfl (.inl rfl) (pe_cal C_l_of hr (by rfl) pass0 (pa_cons (pv 0) (pa_cons (pe_lst (pa_cons pe_str (pa_cons pe_str (pa_cons pe_str (pa_cons pe_str (pa_cons pe_str (pa_cons pe_str (pa_cons pe_str (pa_cons pe_str (pa_cons pe_str (pa_cons pe_str (pa_cons pe_str pa_nil)))))))))))) pa_nil))))
      (pss_cons (ps_par (i := 4) (j := 5) (by rfl) sc_l_instruction.nd rfl rfl (by decide) rfl rfl (pa_cons (pe_cal C_l_of hr (by rfl) pass0 (pa_cons (pv 0) (pa_cons (pe_lst (pa_cons pe_str (pa_cons pe_str (pa_cons pe_str pa_nil)))) pa_nil))) (pa_cons (pe_cal C_l_of hr (by rfl) pass0 (pa_cons (pv 0) (pa_cons (pe_lst (pa_cons pe_str (pa_cons pe_str (pa_cons pe_str pa_nil)))) pa_nil))) pa_nil)) (by rfl))
      (pss_cons (ps_set (i := 6) sc_l_instruction.nd rfl (.inl rfl) (pe_op op_add (pe_op op_add (pv 1) pe_int) (pe_cal C_l_take hr (by rfl) pass0 (pa_cons (pv 0) (pa_cons (pe_callB (call_max2 rfl) (by rfl) T.z_max bz_max (pa_cons pe_int (pa_cons (pe_callB (call_min2 rfl) (by rfl) T.z_min bz_min (pa_cons pe_int (pa_cons (pe_op op_sub (pv 2) (pv 1)) pa_nil))) pa_nil))) pa_nil)))))
      (pss_cons (ps_set (i := 7) sc_l_instruction.nd rfl (.inl rfl) (pe_disp (pps_cons pe_str (pe_lst (pa_cons (pv 4) (pa_cons (pv 5) (pa_cons (pe_cal C_l_number hr (by rfl) pass0 (pa_cons (pv 0) pa_nil)) pa_nil)))) (pps_cons pe_str (pe_lst (pa_cons (pv 4) (pa_cons (pv 5) (pa_cons (pe_cal C_l_number hr (by rfl) pass0 (pa_cons (pv 0) pa_nil)) (pa_cons (pv 6) pa_nil))))) (pps_cons pe_str (pe_lst (pa_cons (pv 4) (pa_cons (pv 5) pa_nil))) pps_nil))) (by rfl) (by rfl) (fun z => nomatch z) (by decide)))
      (pss_cons (ps_expr (pe_dupd (pv 7) (pe_disp (pps_cons pe_str (pe_lst (pa_cons (pv 4) (pa_cons (pe_cal C_l_number hr (by rfl) pass0 (pa_cons (pv 0) pa_nil)) (pa_cons (pv 6) pa_nil)))) (pps_cons pe_str (pe_lst (pa_cons (pv 4) (pa_cons (pe_cal C_l_number hr (by rfl) pass0 (pa_cons (pv 0) pa_nil)) (pa_cons (pv 6) pa_nil)))) (pps_cons pe_str (pe_lst (pa_cons (pv 6) pa_nil)) pps_nil))) (by rfl) (by rfl) (fun z => nomatch z) (by decide)) ⟨by rfl, by rfl, by rfl, by rfl⟩))
      (pss_cons (ps_expr (pe_dupd (pv 7) (pe_disp (pps_cons pe_str (pe_lst (pa_cons (pv 4) (pa_cons (pe_cal C_l_number hr (by rfl) pass0 (pa_cons (pv 0) pa_nil)) pa_nil))) (pps_cons pe_str (pe_lst (pa_cons (pv 4) (pa_cons (pe_cal C_l_number hr (by rfl) pass0 (pa_cons (pv 0) pa_nil)) pa_nil))) (pps_cons pe_str (pe_lst (pa_cons (pv 4) pa_nil)) pps_nil))) (by rfl) (by rfl) (fun z => nomatch z) (by decide)) ⟨by rfl, by rfl, by rfl, by rfl⟩))
      (pss_one (ps_ret (pe_op op_catA (pe_tup (pa_cons (pv 3) pa_nil)) (pe_callTy call_tuple_of (by rfl) T.z_tuple bz_tuple (pa_cons (pe_dget hu (pv 7) (pv 3) (fun _ _ => rfl)) pa_nil))))))))))), ?_⟩
    -- the word
    refine ⟨.ref a, rfl, (by show 11 ≤ sizeLine; decide), fun l0 nl0 => ?_⟩
    have na0 : a ≠ l0 := hP.ne nl0
    have oA : Old [] H (upd H l0 (.lst [.str "load", .str "load", .str "load", .str "less", .str "atmost", .str "same", .str "copy", .str "add", .str "set", .str "length", .str "jump"])) := Old.new0 nl0
    refine ⟨a, l0, _, B, rfl, hP.old oA (by simp), SqL.of upd_same, na0.symm, by show 0 < 11; decide, by show 11 < 1000; decide, by omega, fun H1 x hx o1 p1 => ?_⟩
    have o01 : Old [a] H H1 := (oA.mono (fun x h => by simp at h)).trans o1
    clear oA na0 nl0 o1
    -- the registers
    refine ⟨.ref a, rfl, (by show 3 ≤ sizeLine; decide), fun l1 nl1 => ?_⟩
    have na1 : a ≠ l1 := p1.ne nl1
    have oB : Old [] H1 (upd H1 l1 (.lst [.str "a", .str "b", .str "c"])) := Old.new0 nl1
    refine ⟨a, l1, _, _, rfl, p1.old oB (by simp), SqL.of upd_same, na1.symm, by show 0 < 3; decide, by show 3 < 1000; decide, by omega, fun H2 y hy o2 p2 => ?_⟩
    obtain ⟨r, hr3, rfl⟩ := reg_of hy
    have o02 : Old [a] H H2 := (o01.trans (oB.mono (fun x h => by simp at h))).trans o2
    clear oB na1 nl1 o2 o01 p1 hy
    refine ⟨.ref a, rfl, (by show 3 ≤ sizeLine; decide), fun l2 nl2 => ?_⟩
    have na2 : a ≠ l2 := p2.ne nl2
    have oC : Old [] H2 (upd H2 l2 (.lst [.str "a", .str "b", .str "c"])) := Old.new0 nl2
    refine ⟨a, l2, _, _, rfl, p2.old oC (by simp), SqL.of upd_same, na2.symm, by show 0 < 3; decide, by show 3 < 1000; decide, by omega, fun H3 y hy o3 p3 => ?_⟩
    obtain ⟨s', hs3, rfl⟩ := reg_of hy
    have o03 : Old [a] H H3 := (o02.trans (oC.mono (fun x h => by simp at h))).trans o3
    clear oC na2 nl2 o3 o02 p2 hy
    refine ⟨_, _, rfl, ?_⟩
    -- the goal
    refine ⟨.int (number : Int), rfl, (number : Int), 1, rfl, rfl, .ref a, rfl, .int (size : Int), rfl, .int (number : Int), rfl, (size : Int), (number : Int), rfl, rfl, 4, _, rfl, 1, _, rfl, a, _, _, rfl, p3, ?_, ?_, by omega, fun H4 d d0 d1 o4 p4 => ?_⟩
    · split <;> omega
    · have : (if (size : Int) - number < 4 then (size : Int) - number else 4) ≤ 4 := by split <;> omega
      split <;> omega
    have hd4 : d < 4 := by
      have : (if (size : Int) - number < 4 then (size : Int) - number else 4) ≤ 4 := by split <;> omega
      revert d1
      split <;> omega
    refine ⟨_, d, rfl, rfl, ?_⟩
    obtain ⟨g, hg⟩ : ∃ g : Nat, (number : Int) + 1 + d = (g : Int) := ⟨((number : Int) + 1 + d).toNat, by omega⟩
    dsimp only
    rw [hg]
    have g1 : number < g := by omega
    have g2 : g ≤ 200 := by omega
    have o04 : Old [a] H H4 := o03.trans o4
    clear o03 o4 p3 d0 d1 hd4 hg d
    have G0 : Ls [a] H4 H4 [] := Ls.nil
    refine fun d1 nd1 => ?_
    have nad1 : a ≠ d1 := p4.ne nd1
    have zd1 : H4 d1 = none := G0.o.free nd1 (by simp; exact nad1.symm)
    have G1 := G0.keep ((Old.new0 (W := []) (o := HO.dK []) nd1).mono (fun x h => by simp at h))
    have q2 := p4.old (W := []) (Old.new0 (o := HO.dK []) nd1) (by simp)
    have e3 : (upd H4 d1 (.dK [])) d1 = some (.dK []) := upd_same
    generalize upd H4 d1 (.dK []) = H5 at G1 q2 e3 ⊢
    clear G0 p4 nd1
    refine ⟨.str (PR.rg r), rfl, .str (PR.rg s'), rfl, .ref a, rfl, a, _, rfl, q2, by omega, fun H6 n1 n1a n1b o4 q5 => ?_⟩
    have G6 := G1.keep o4
    have e7 := o4 _ _ (by simp; exact nad1.symm) e3
    clear G1 q2 o4 e3
    refine ⟨(by show 3 ≤ sizeLine; decide), fun la nla => ?_⟩
    have nala : a ≠ la := q5.ne nla
    have G8 := G6.new nla (by simp; exact nala.symm) [.str (PR.rg r), .str (PR.rg s'), .int n1]
    have q9 := q5.old (W := []) (Old.new0 (o := HO.lst [.str (PR.rg r), .str (PR.rg s'), .int n1]) nla) (by simp)
    have e10 : (upd H6 la (.lst [.str (PR.rg r), .str (PR.rg s'), .int n1])) d1 = some (.dK []) := by rw [upd_ne (ne_of_none e7 nla)]; exact e7
    generalize upd H6 la (.lst [.str (PR.rg r), .str (PR.rg s'), .int n1]) = H7 at G8 q9 e10 ⊢
    clear G6 q5 nla nala e7
    refine ⟨.str (PR.rg r), rfl, .str (PR.rg s'), rfl, .ref a, rfl, a, _, rfl, q9, by omega, fun H8 n2 n2a n2b o11 q12 => ?_⟩
    have G13 := G8.keep o11
    have e14 := o11 _ _ (by simp; exact nad1.symm) e10
    clear G8 q9 o11 e10
    refine ⟨.int (g : Int), rfl, (by show 4 ≤ sizeLine; decide), fun lb nlb => ?_⟩
    have nalb : a ≠ lb := q12.ne nlb
    have G15 := G13.new nlb (by simp; exact nalb.symm) [.str (PR.rg r), .str (PR.rg s'), .int n2, .int (g : Int)]
    have q16 := q12.old (W := []) (Old.new0 (o := HO.lst [.str (PR.rg r), .str (PR.rg s'), .int n2, .int (g : Int)]) nlb) (by simp)
    have e17 : (upd H8 lb (.lst [.str (PR.rg r), .str (PR.rg s'), .int n2, .int (g : Int)])) d1 = some (.dK []) := by rw [upd_ne (ne_of_none e14 nlb)]; exact e14
    generalize upd H8 lb (.lst [.str (PR.rg r), .str (PR.rg s'), .int n2, .int (g : Int)]) = H9 at G15 q16 e17 ⊢
    clear G13 q12 nlb nalb e14
    refine ⟨.str (PR.rg r), rfl, .str (PR.rg s'), rfl, (by show 2 ≤ sizeLine; decide), fun lc nlc => ?_⟩
    have nalc : a ≠ lc := q16.ne nlc
    have G18 := G15.new nlc (by simp; exact nalc.symm) [.str (PR.rg r), .str (PR.rg s')]
    have q19 := q16.old (W := []) (Old.new0 (o := HO.lst [.str (PR.rg r), .str (PR.rg s')]) nlc) (by simp)
    have e20 : (upd H9 lc (.lst [.str (PR.rg r), .str (PR.rg s')])) d1 = some (.dK []) := by rw [upd_ne (ne_of_none e17 nlc)]; exact e17
    generalize upd H9 lc (.lst [.str (PR.rg r), .str (PR.rg s')]) = H10 at G18 q19 e20 ⊢
    clear G15 q16 nlc nalc e17
    refine ⟨e20, [(.inr "load", .ref la), (.inr "less", .ref lb), (.inr "copy", .ref lc)], rfl, by show 3 ≤ 15; decide, ?_⟩
    have G21 := G18.dict (ks := mergeK [] [(.inr "load", .ref la), (.inr "less", .ref lb), (.inr "copy", .ref lc)]) e20 zd1
    have q22 := q19.old (W := [d1]) ((Old.refl _ _).put (p := d1) (o := HO.dK (mergeK [] [(.inr "load", .ref la), (.inr "less", .ref lb), (.inr "copy", .ref lc)])) (by simp)) (by simp; exact nad1)
    have e23 : (upd H10 d1 (.dK (mergeK [] [(.inr "load", .ref la), (.inr "less", .ref lb), (.inr "copy", .ref lc)]))) d1 = some (.dK (mergeK [] [(.inr "load", .ref la), (.inr "less", .ref lb), (.inr "copy", .ref lc)])) := upd_same
    generalize upd H10 d1 (.dK (mergeK [] [(.inr "load", .ref la), (.inr "less", .ref lb), (.inr "copy", .ref lc)])) = H11 at G21 q22 e23 ⊢
    clear G18 q19 e20
    refine ⟨.ref d1, rfl, d1, rfl, .inl ⟨_, .inl e23⟩, ?_⟩
    refine fun d2 nd2 => ?_
    have nad2 : a ≠ d2 := q22.ne nd2
    have zd2 : H4 d2 = none := G21.o.free nd2 (by simp; exact nad2.symm)
    have G24 := G21.keep ((Old.new0 (W := []) (o := HO.dK []) nd2).mono (fun x h => by simp at h))
    have q25 := q22.old (W := []) (Old.new0 (o := HO.dK []) nd2) (by simp)
    have e26 : (upd H11 d2 (.dK [])) d1 = some (.dK (mergeK [] [(.inr "load", .ref la), (.inr "less", .ref lb), (.inr "copy", .ref lc)])) := by rw [upd_ne (ne_of_none e23 nd2)]; exact e23
    have e27 : (upd H11 d2 (.dK [])) d2 = some (.dK []) := upd_same
    have ne_d1_d2 : d1 ≠ d2 := ne_of_none e23 nd2
    generalize upd H11 d2 (.dK []) = H12 at G24 q25 e26 e27 ⊢
    clear G21 q22 e23 nd2
    refine ⟨.str (PR.rg r), rfl, .ref a, rfl, a, _, rfl, q25, by omega, fun H13 n3 n3a n3b o28 q29 => ?_⟩
    have G30 := G24.keep o28
    have e31 := o28 _ _ (by simp; exact nad1.symm) e26
    have e32 := o28 _ _ (by simp; exact nad2.symm) e27
    clear G24 q25 o28 e26 e27
    refine ⟨.int (g : Int), rfl, (by show 3 ≤ sizeLine; decide), fun ld nld => ?_⟩
    have nald : a ≠ ld := q29.ne nld
    have G33 := G30.new nld (by simp; exact nald.symm) [.str (PR.rg r), .int n3, .int (g : Int)]
    have q34 := q29.old (W := []) (Old.new0 (o := HO.lst [.str (PR.rg r), .int n3, .int (g : Int)]) nld) (by simp)
    have e35 : (upd H13 ld (.lst [.str (PR.rg r), .int n3, .int (g : Int)])) d1 = some (.dK (mergeK [] [(.inr "load", .ref la), (.inr "less", .ref lb), (.inr "copy", .ref lc)])) := by rw [upd_ne (ne_of_none e31 nld)]; exact e31
    have e36 : (upd H13 ld (.lst [.str (PR.rg r), .int n3, .int (g : Int)])) d2 = some (.dK []) := by rw [upd_ne (ne_of_none e32 nld)]; exact e32
    generalize upd H13 ld (.lst [.str (PR.rg r), .int n3, .int (g : Int)]) = H14 at G33 q34 e35 e36 ⊢
    clear G30 q29 nld nald e31 e32
    refine ⟨.str (PR.rg r), rfl, .ref a, rfl, a, _, rfl, q34, by omega, fun H15 n4 n4a n4b o37 q38 => ?_⟩
    have G39 := G33.keep o37
    have e40 := o37 _ _ (by simp; exact nad1.symm) e35
    have e41 := o37 _ _ (by simp; exact nad2.symm) e36
    clear G33 q34 o37 e35 e36
    refine ⟨.int (g : Int), rfl, (by show 3 ≤ sizeLine; decide), fun le nle => ?_⟩
    have nale : a ≠ le := q38.ne nle
    have G42 := G39.new nle (by simp; exact nale.symm) [.str (PR.rg r), .int n4, .int (g : Int)]
    have q43 := q38.old (W := []) (Old.new0 (o := HO.lst [.str (PR.rg r), .int n4, .int (g : Int)]) nle) (by simp)
    have e44 : (upd H15 le (.lst [.str (PR.rg r), .int n4, .int (g : Int)])) d1 = some (.dK (mergeK [] [(.inr "load", .ref la), (.inr "less", .ref lb), (.inr "copy", .ref lc)])) := by rw [upd_ne (ne_of_none e40 nle)]; exact e40
    have e45 : (upd H15 le (.lst [.str (PR.rg r), .int n4, .int (g : Int)])) d2 = some (.dK []) := by rw [upd_ne (ne_of_none e41 nle)]; exact e41
    generalize upd H15 le (.lst [.str (PR.rg r), .int n4, .int (g : Int)]) = H16 at G42 q43 e44 e45 ⊢
    clear G39 q38 nle nale e40 e41
    refine ⟨.int (g : Int), rfl, (by show 1 ≤ sizeLine; decide), fun lf nlf => ?_⟩
    have nalf : a ≠ lf := q43.ne nlf
    have G46 := G42.new nlf (by simp; exact nalf.symm) [.int (g : Int)]
    have q47 := q43.old (W := []) (Old.new0 (o := HO.lst [.int (g : Int)]) nlf) (by simp)
    have e48 : (upd H16 lf (.lst [.int (g : Int)])) d1 = some (.dK (mergeK [] [(.inr "load", .ref la), (.inr "less", .ref lb), (.inr "copy", .ref lc)])) := by rw [upd_ne (ne_of_none e44 nlf)]; exact e44
    have e49 : (upd H16 lf (.lst [.int (g : Int)])) d2 = some (.dK []) := by rw [upd_ne (ne_of_none e45 nlf)]; exact e45
    generalize upd H16 lf (.lst [.int (g : Int)]) = H17 at G46 q47 e48 e49 ⊢
    clear G42 q43 nlf nalf e44 e45
    refine ⟨e49, [(.inr "atmost", .ref ld), (.inr "same", .ref le), (.inr "jump", .ref lf)], rfl, by show 3 ≤ 15; decide, ?_⟩
    have G50 := G46.dict (ks := mergeK [] [(.inr "atmost", .ref ld), (.inr "same", .ref le), (.inr "jump", .ref lf)]) e49 zd2
    have q51 := q47.old (W := [d2]) ((Old.refl _ _).put (p := d2) (o := HO.dK (mergeK [] [(.inr "atmost", .ref ld), (.inr "same", .ref le), (.inr "jump", .ref lf)])) (by simp)) (by simp; exact nad2)
    have e52 : (upd H17 d2 (.dK (mergeK [] [(.inr "atmost", .ref ld), (.inr "same", .ref le), (.inr "jump", .ref lf)]))) d1 = some (.dK (mergeK [] [(.inr "load", .ref la), (.inr "less", .ref lb), (.inr "copy", .ref lc)])) := by rw [upd_ne ne_d1_d2]; exact e48
    have e53 : (upd H17 d2 (.dK (mergeK [] [(.inr "atmost", .ref ld), (.inr "same", .ref le), (.inr "jump", .ref lf)]))) d2 = some (.dK (mergeK [] [(.inr "atmost", .ref ld), (.inr "same", .ref le), (.inr "jump", .ref lf)])) := upd_same
    generalize upd H17 d2 (.dK (mergeK [] [(.inr "atmost", .ref ld), (.inr "same", .ref le), (.inr "jump", .ref lf)])) = H18 at G50 q51 e52 e53 ⊢
    clear G46 q47 e48 e49
    refine ⟨d2, _, _, rfl, ne_d1_d2, e52, e53, (Nat.le_trans (Nat.add_le_add (length_mergeK _ _) (length_mergeK _ _)) (by show 0 + 3 + (0 + 3) ≤ sizeLine; decide)), ?_⟩
    have G54 := G50.dict (ks := mergeK (mergeK [] [(.inr "load", .ref la), (.inr "less", .ref lb), (.inr "copy", .ref lc)]) (mergeK [] [(.inr "atmost", .ref ld), (.inr "same", .ref le), (.inr "jump", .ref lf)])) e52 zd1
    have q55 := q51.old (W := [d1]) ((Old.refl _ _).put (p := d1) (o := HO.dK (mergeK (mergeK [] [(.inr "load", .ref la), (.inr "less", .ref lb), (.inr "copy", .ref lc)]) (mergeK [] [(.inr "atmost", .ref ld), (.inr "same", .ref le), (.inr "jump", .ref lf)]))) (by simp)) (by simp; exact nad1)
    have e56 : (upd H18 d1 (.dK (mergeK (mergeK [] [(.inr "load", .ref la), (.inr "less", .ref lb), (.inr "copy", .ref lc)]) (mergeK [] [(.inr "atmost", .ref ld), (.inr "same", .ref le), (.inr "jump", .ref lf)])))) d1 = some (.dK (mergeK (mergeK [] [(.inr "load", .ref la), (.inr "less", .ref lb), (.inr "copy", .ref lc)]) (mergeK [] [(.inr "atmost", .ref ld), (.inr "same", .ref le), (.inr "jump", .ref lf)]))) := upd_same
    have e57 : (upd H18 d1 (.dK (mergeK (mergeK [] [(.inr "load", .ref la), (.inr "less", .ref lb), (.inr "copy", .ref lc)]) (mergeK [] [(.inr "atmost", .ref ld), (.inr "same", .ref le), (.inr "jump", .ref lf)])))) d2 = some (.dK (mergeK [] [(.inr "atmost", .ref ld), (.inr "same", .ref le), (.inr "jump", .ref lf)])) := by rw [upd_ne ne_d1_d2.symm]; exact e53
    generalize upd H18 d1 (.dK (mergeK (mergeK [] [(.inr "load", .ref la), (.inr "less", .ref lb), (.inr "copy", .ref lc)]) (mergeK [] [(.inr "atmost", .ref ld), (.inr "same", .ref le), (.inr "jump", .ref lf)]))) = H19 at G54 q55 e56 e57 ⊢
    clear G50 q51 e52 e53
    refine ⟨.ref d1, rfl, d1, rfl, .inl ⟨_, .inl e56⟩, ?_⟩
    refine fun d3 nd3 => ?_
    have nad3 : a ≠ d3 := q55.ne nd3
    have zd3 : H4 d3 = none := G54.o.free nd3 (by simp; exact nad3.symm)
    have G58 := G54.keep ((Old.new0 (W := []) (o := HO.dK []) nd3).mono (fun x h => by simp at h))
    have q59 := q55.old (W := []) (Old.new0 (o := HO.dK []) nd3) (by simp)
    have e60 : (upd H19 d3 (.dK [])) d1 = some (.dK (mergeK (mergeK [] [(.inr "load", .ref la), (.inr "less", .ref lb), (.inr "copy", .ref lc)]) (mergeK [] [(.inr "atmost", .ref ld), (.inr "same", .ref le), (.inr "jump", .ref lf)]))) := by rw [upd_ne (ne_of_none e56 nd3)]; exact e56
    have e61 : (upd H19 d3 (.dK [])) d2 = some (.dK (mergeK [] [(.inr "atmost", .ref ld), (.inr "same", .ref le), (.inr "jump", .ref lf)])) := by rw [upd_ne (ne_of_none e57 nd3)]; exact e57
    have e62 : (upd H19 d3 (.dK [])) d3 = some (.dK []) := upd_same
    have ne_d1_d3 : d1 ≠ d3 := ne_of_none e56 nd3
    have ne_d2_d3 : d2 ≠ d3 := ne_of_none e57 nd3
    generalize upd H19 d3 (.dK []) = H20 at G58 q59 e60 e61 e62 ⊢
    clear G54 q55 e56 e57 nd3
    refine ⟨.str (PR.rg r), rfl, .ref a, rfl, a, _, rfl, q59, by omega, fun H21 n5 n5a n5b o63 q64 => ?_⟩
    have G65 := G58.keep o63
    have e66 := o63 _ _ (by simp; exact nad1.symm) e60
    have e67 := o63 _ _ (by simp; exact nad2.symm) e61
    have e68 := o63 _ _ (by simp; exact nad3.symm) e62
    clear G58 q59 o63 e60 e61 e62
    refine ⟨(by show 2 ≤ sizeLine; decide), fun lg nlg => ?_⟩
    have nalg : a ≠ lg := q64.ne nlg
    have G69 := G65.new nlg (by simp; exact nalg.symm) [.str (PR.rg r), .int n5]
    have q70 := q64.old (W := []) (Old.new0 (o := HO.lst [.str (PR.rg r), .int n5]) nlg) (by simp)
    have e71 : (upd H21 lg (.lst [.str (PR.rg r), .int n5])) d1 = some (.dK (mergeK (mergeK [] [(.inr "load", .ref la), (.inr "less", .ref lb), (.inr "copy", .ref lc)]) (mergeK [] [(.inr "atmost", .ref ld), (.inr "same", .ref le), (.inr "jump", .ref lf)]))) := by rw [upd_ne (ne_of_none e66 nlg)]; exact e66
    have e72 : (upd H21 lg (.lst [.str (PR.rg r), .int n5])) d2 = some (.dK (mergeK [] [(.inr "atmost", .ref ld), (.inr "same", .ref le), (.inr "jump", .ref lf)])) := by rw [upd_ne (ne_of_none e67 nlg)]; exact e67
    have e73 : (upd H21 lg (.lst [.str (PR.rg r), .int n5])) d3 = some (.dK []) := by rw [upd_ne (ne_of_none e68 nlg)]; exact e68
    generalize upd H21 lg (.lst [.str (PR.rg r), .int n5]) = H22 at G69 q70 e71 e72 e73 ⊢
    clear G65 q64 nlg nalg e66 e67 e68
    refine ⟨.str (PR.rg r), rfl, .ref a, rfl, a, _, rfl, q70, by omega, fun H23 n6 n6a n6b o74 q75 => ?_⟩
    have G76 := G69.keep o74
    have e77 := o74 _ _ (by simp; exact nad1.symm) e71
    have e78 := o74 _ _ (by simp; exact nad2.symm) e72
    have e79 := o74 _ _ (by simp; exact nad3.symm) e73
    clear G69 q70 o74 e71 e72 e73
    refine ⟨(by show 2 ≤ sizeLine; decide), fun lh nlh => ?_⟩
    have nalh : a ≠ lh := q75.ne nlh
    have G80 := G76.new nlh (by simp; exact nalh.symm) [.str (PR.rg r), .int n6]
    have q81 := q75.old (W := []) (Old.new0 (o := HO.lst [.str (PR.rg r), .int n6]) nlh) (by simp)
    have e82 : (upd H23 lh (.lst [.str (PR.rg r), .int n6])) d1 = some (.dK (mergeK (mergeK [] [(.inr "load", .ref la), (.inr "less", .ref lb), (.inr "copy", .ref lc)]) (mergeK [] [(.inr "atmost", .ref ld), (.inr "same", .ref le), (.inr "jump", .ref lf)]))) := by rw [upd_ne (ne_of_none e77 nlh)]; exact e77
    have e83 : (upd H23 lh (.lst [.str (PR.rg r), .int n6])) d2 = some (.dK (mergeK [] [(.inr "atmost", .ref ld), (.inr "same", .ref le), (.inr "jump", .ref lf)])) := by rw [upd_ne (ne_of_none e78 nlh)]; exact e78
    have e84 : (upd H23 lh (.lst [.str (PR.rg r), .int n6])) d3 = some (.dK []) := by rw [upd_ne (ne_of_none e79 nlh)]; exact e79
    generalize upd H23 lh (.lst [.str (PR.rg r), .int n6]) = H24 at G80 q81 e82 e83 e84 ⊢
    clear G76 q75 nlh nalh e77 e78 e79
    refine ⟨.str (PR.rg r), rfl, (by show 1 ≤ sizeLine; decide), fun li nli => ?_⟩
    have nali : a ≠ li := q81.ne nli
    have G85 := G80.new nli (by simp; exact nali.symm) [.str (PR.rg r)]
    have q86 := q81.old (W := []) (Old.new0 (o := HO.lst [.str (PR.rg r)]) nli) (by simp)
    have e87 : (upd H24 li (.lst [.str (PR.rg r)])) d1 = some (.dK (mergeK (mergeK [] [(.inr "load", .ref la), (.inr "less", .ref lb), (.inr "copy", .ref lc)]) (mergeK [] [(.inr "atmost", .ref ld), (.inr "same", .ref le), (.inr "jump", .ref lf)]))) := by rw [upd_ne (ne_of_none e82 nli)]; exact e82
    have e88 : (upd H24 li (.lst [.str (PR.rg r)])) d2 = some (.dK (mergeK [] [(.inr "atmost", .ref ld), (.inr "same", .ref le), (.inr "jump", .ref lf)])) := by rw [upd_ne (ne_of_none e83 nli)]; exact e83
    have e89 : (upd H24 li (.lst [.str (PR.rg r)])) d3 = some (.dK []) := by rw [upd_ne (ne_of_none e84 nli)]; exact e84
    generalize upd H24 li (.lst [.str (PR.rg r)]) = H25 at G85 q86 e87 e88 e89 ⊢
    clear G80 q81 nli nali e82 e83 e84
    refine ⟨e89, [(.inr "add", .ref lg), (.inr "set", .ref lh), (.inr "length", .ref li)], rfl, by show 3 ≤ 15; decide, ?_⟩
    have G90 := G85.dict (ks := mergeK [] [(.inr "add", .ref lg), (.inr "set", .ref lh), (.inr "length", .ref li)]) e89 zd3
    have q91 := q86.old (W := [d3]) ((Old.refl _ _).put (p := d3) (o := HO.dK (mergeK [] [(.inr "add", .ref lg), (.inr "set", .ref lh), (.inr "length", .ref li)])) (by simp)) (by simp; exact nad3)
    have e92 : (upd H25 d3 (.dK (mergeK [] [(.inr "add", .ref lg), (.inr "set", .ref lh), (.inr "length", .ref li)]))) d1 = some (.dK (mergeK (mergeK [] [(.inr "load", .ref la), (.inr "less", .ref lb), (.inr "copy", .ref lc)]) (mergeK [] [(.inr "atmost", .ref ld), (.inr "same", .ref le), (.inr "jump", .ref lf)]))) := by rw [upd_ne ne_d1_d3]; exact e87
    have e93 : (upd H25 d3 (.dK (mergeK [] [(.inr "add", .ref lg), (.inr "set", .ref lh), (.inr "length", .ref li)]))) d2 = some (.dK (mergeK [] [(.inr "atmost", .ref ld), (.inr "same", .ref le), (.inr "jump", .ref lf)])) := by rw [upd_ne ne_d2_d3]; exact e88
    have e94 : (upd H25 d3 (.dK (mergeK [] [(.inr "add", .ref lg), (.inr "set", .ref lh), (.inr "length", .ref li)]))) d3 = some (.dK (mergeK [] [(.inr "add", .ref lg), (.inr "set", .ref lh), (.inr "length", .ref li)])) := upd_same
    generalize upd H25 d3 (.dK (mergeK [] [(.inr "add", .ref lg), (.inr "set", .ref lh), (.inr "length", .ref li)])) = H26 at G90 q91 e92 e93 e94 ⊢
    clear G85 q86 e87 e88 e89
    refine ⟨d3, _, _, rfl, ne_d1_d3, e92, e94, (Nat.le_trans (Nat.add_le_add (Nat.le_trans (length_mergeK _ _) (Nat.add_le_add (length_mergeK _ _) (length_mergeK _ _))) (length_mergeK _ _)) (by show 0 + 3 + (0 + 3) + (0 + 3) ≤ sizeLine; decide)), ?_⟩
    have G95 := G90.dict (ks := mergeK (mergeK (mergeK [] [(.inr "load", .ref la), (.inr "less", .ref lb), (.inr "copy", .ref lc)]) (mergeK [] [(.inr "atmost", .ref ld), (.inr "same", .ref le), (.inr "jump", .ref lf)])) (mergeK [] [(.inr "add", .ref lg), (.inr "set", .ref lh), (.inr "length", .ref li)])) e92 zd1
    have q96 := q91.old (W := [d1]) ((Old.refl _ _).put (p := d1) (o := HO.dK (mergeK (mergeK (mergeK [] [(.inr "load", .ref la), (.inr "less", .ref lb), (.inr "copy", .ref lc)]) (mergeK [] [(.inr "atmost", .ref ld), (.inr "same", .ref le), (.inr "jump", .ref lf)])) (mergeK [] [(.inr "add", .ref lg), (.inr "set", .ref lh), (.inr "length", .ref li)]))) (by simp)) (by simp; exact nad1)
    have e97 : (upd H26 d1 (.dK (mergeK (mergeK (mergeK [] [(.inr "load", .ref la), (.inr "less", .ref lb), (.inr "copy", .ref lc)]) (mergeK [] [(.inr "atmost", .ref ld), (.inr "same", .ref le), (.inr "jump", .ref lf)])) (mergeK [] [(.inr "add", .ref lg), (.inr "set", .ref lh), (.inr "length", .ref li)])))) d1 = some (.dK (mergeK (mergeK (mergeK [] [(.inr "load", .ref la), (.inr "less", .ref lb), (.inr "copy", .ref lc)]) (mergeK [] [(.inr "atmost", .ref ld), (.inr "same", .ref le), (.inr "jump", .ref lf)])) (mergeK [] [(.inr "add", .ref lg), (.inr "set", .ref lh), (.inr "length", .ref li)]))) := upd_same
    have e98 : (upd H26 d1 (.dK (mergeK (mergeK (mergeK [] [(.inr "load", .ref la), (.inr "less", .ref lb), (.inr "copy", .ref lc)]) (mergeK [] [(.inr "atmost", .ref ld), (.inr "same", .ref le), (.inr "jump", .ref lf)])) (mergeK [] [(.inr "add", .ref lg), (.inr "set", .ref lh), (.inr "length", .ref li)])))) d2 = some (.dK (mergeK [] [(.inr "atmost", .ref ld), (.inr "same", .ref le), (.inr "jump", .ref lf)])) := by rw [upd_ne ne_d1_d2.symm]; exact e93
    have e99 : (upd H26 d1 (.dK (mergeK (mergeK (mergeK [] [(.inr "load", .ref la), (.inr "less", .ref lb), (.inr "copy", .ref lc)]) (mergeK [] [(.inr "atmost", .ref ld), (.inr "same", .ref le), (.inr "jump", .ref lf)])) (mergeK [] [(.inr "add", .ref lg), (.inr "set", .ref lh), (.inr "length", .ref li)])))) d3 = some (.dK (mergeK [] [(.inr "add", .ref lg), (.inr "set", .ref lh), (.inr "length", .ref li)])) := by rw [upd_ne ne_d1_d3.symm]; exact e94
    generalize upd H26 d1 (.dK (mergeK (mergeK (mergeK [] [(.inr "load", .ref la), (.inr "less", .ref lb), (.inr "copy", .ref lc)]) (mergeK [] [(.inr "atmost", .ref ld), (.inr "same", .ref le), (.inr "jump", .ref lf)])) (mergeK [] [(.inr "add", .ref lg), (.inr "set", .ref lh), (.inr "length", .ref li)]))) = H27 at G95 q96 e97 e98 e99 ⊢
    clear G90 q91 e92 e93 e94
    have hmk : mergeK (mergeK (mergeK [] [(.inr "load", .ref la), (.inr "less", .ref lb), (.inr "copy", .ref lc)]) (mergeK [] [(.inr "atmost", .ref ld), (.inr "same", .ref le), (.inr "jump", .ref lf)])) (mergeK [] [(.inr "add", .ref lg), (.inr "set", .ref lh), (.inr "length", .ref li)]) = mergeK [] [(.inr "load", .ref la), (.inr "less", .ref lb), (.inr "copy", .ref lc), (.inr "atmost", .ref ld), (.inr "same", .ref le), (.inr "jump", .ref lf), (.inr "add", .ref lg), (.inr "set", .ref lh), (.inr "length", .ref li)] := by
      rw [mergeK_new [(.inr "load", .ref la), (.inr "less", .ref lb), (.inr "copy", .ref lc)] [] (by show [(.inr "load" : Key), .inr "less", .inr "copy"].Nodup; decide +kernel), mergeK_new [(.inr "atmost", .ref ld), (.inr "same", .ref le), (.inr "jump", .ref lf)] [] (by show [(.inr "atmost" : Key), .inr "same", .inr "jump"].Nodup; decide +kernel), mergeK_new [(.inr "add", .ref lg), (.inr "set", .ref lh), (.inr "length", .ref li)] [] (by show [(.inr "add" : Key), .inr "set", .inr "length"].Nodup; decide +kernel)]
      have a1 := mergeK_new [(.inr "atmost", .ref ld), (.inr "same", .ref le), (.inr "jump", .ref lf)] [(.inr "load", .ref la), (.inr "less", .ref lb), (.inr "copy", .ref lc)] (by show [(.inr "load" : Key), .inr "less", .inr "copy", .inr "atmost", .inr "same", .inr "jump"].Nodup; decide +kernel)
      have a2 := mergeK_new [(.inr "add", .ref lg), (.inr "set", .ref lh), (.inr "length", .ref li)] ([(.inr "load", .ref la), (.inr "less", .ref lb), (.inr "copy", .ref lc)] ++ [(.inr "atmost", .ref ld), (.inr "same", .ref le), (.inr "jump", .ref lf)]) (by show [(.inr "load" : Key), .inr "less", .inr "copy", .inr "atmost", .inr "same", .inr "jump", .inr "add", .inr "set", .inr "length"].Nodup; decide +kernel)
      have a3 := mergeK_new [(.inr "load", .ref la), (.inr "less", .ref lb), (.inr "copy", .ref lc), (.inr "atmost", .ref ld), (.inr "same", .ref le), (.inr "jump", .ref lf), (.inr "add", .ref lg), (.inr "set", .ref lh), (.inr "length", .ref li)] [] (by show [(.inr "load" : Key), .inr "less", .inr "copy", .inr "atmost", .inr "same", .inr "jump", .inr "add", .inr "set", .inr "length"].Nodup; decide +kernel)
      rw [List.nil_append, List.nil_append, List.nil_append, a1, a2, a3]; rfl
    have hval : ∀ k, valV (mergeK [] [(.inr "load", .ref la), (.inr "less", .ref lb), (.inr "copy", .ref lc), (.inr "atmost", .ref ld), (.inr "same", .ref le), (.inr "jump", .ref lf), (.inr "add", .ref lg), (.inr "set", .ref lh), (.inr "length", .ref li)]) k = [(.inr "load", .ref la), (.inr "less", .ref lb), (.inr "copy", .ref lc), (.inr "atmost", .ref ld), (.inr "same", .ref le), (.inr "jump", .ref lf), (.inr "add", .ref lg), (.inr "set", .ref lh), (.inr "length", .ref li)].foldl (fun acc p => if k = p.1 then some p.2 else acc) none := fun k => valV_merge k _ []
    rw [hmk] at e97
    generalize mergeK [] [(.inr "load", .ref la), (.inr "less", .ref lb), (.inr "copy", .ref lc), (.inr "atmost", .ref ld), (.inr "same", .ref le), (.inr "jump", .ref lf), (.inr "add", .ref lg), (.inr "set", .ref lh), (.inr "length", .ref li)] = kds at hval e97
    clear hmk e98 e99
    have sm : ∀ n : Int, -9999 ≤ n → n ≤ 9999 → PR.Arg.ok number (.n n) := fun n a b => ⟨a, b⟩
    have rm : ∀ k : Nat, k < 3 → PR.Arg.ok number (.r k) := fun k h => (by show k < 6; omega)
    have gm : PR.Arg.ok number (.l g) := ⟨g1, g2⟩
    have z0 := rm r hr3
    have z1 := rm s' hs3
    obtain ⟨xw, lw, xs, i, rfl, hvw, hlw, iok, hiv, hne⟩ : ∃ (xw : Str) (lw : Addr) (xs : List V) (i : PR.Ins), x = .str xw ∧ valV kds (.inr xw) = some (.ref lw) ∧ H27 lw = some (.lst xs) ∧ PR.insOk number i ∧ PR.insV i = .str xw :: xs ∧ xs ≠ [] := by
      simp only [List.mem_cons, List.not_mem_nil, or_false] at hx
      have at_ := G95.at_
      rcases hx with rfl | rfl | rfl | rfl | rfl | rfl | rfl | rfl | rfl | rfl | rfl
      · refine ⟨"load", la, [.str (PR.rg r), .str (PR.rg s'), .int n1], .load r s' n1, rfl, ?_, at_ (la, [.str (PR.rg r), .str (PR.rg s'), .int n1]) (by simp), ?_, rfl, fun z => nomatch z⟩
        · rw [hval]; simp only [List.foldl]; repeat (first | rw [if_pos True.intro] | rw [if_neg (by decide +kernel)])
        · intro b hb; simp only [PR.args, List.mem_cons, List.not_mem_nil, or_false] at hb; rcases hb with rfl | rfl | rfl <;> first | exact z0 | exact z1 | exact sm n1 n1a n1b
      · refine ⟨"load", la, [.str (PR.rg r), .str (PR.rg s'), .int n1], .load r s' n1, rfl, ?_, at_ (la, [.str (PR.rg r), .str (PR.rg s'), .int n1]) (by simp), ?_, rfl, fun z => nomatch z⟩
        · rw [hval]; simp only [List.foldl]; repeat (first | rw [if_pos True.intro] | rw [if_neg (by decide +kernel)])
        · intro b hb; simp only [PR.args, List.mem_cons, List.not_mem_nil, or_false] at hb; rcases hb with rfl | rfl | rfl <;> first | exact z0 | exact z1 | exact sm n1 n1a n1b
      · refine ⟨"load", la, [.str (PR.rg r), .str (PR.rg s'), .int n1], .load r s' n1, rfl, ?_, at_ (la, [.str (PR.rg r), .str (PR.rg s'), .int n1]) (by simp), ?_, rfl, fun z => nomatch z⟩
        · rw [hval]; simp only [List.foldl]; repeat (first | rw [if_pos True.intro] | rw [if_neg (by decide +kernel)])
        · intro b hb; simp only [PR.args, List.mem_cons, List.not_mem_nil, or_false] at hb; rcases hb with rfl | rfl | rfl <;> first | exact z0 | exact z1 | exact sm n1 n1a n1b
      · refine ⟨"less", lb, [.str (PR.rg r), .str (PR.rg s'), .int n2, .int (g : Int)], .less r s' n2 g, rfl, ?_, at_ (lb, [.str (PR.rg r), .str (PR.rg s'), .int n2, .int (g : Int)]) (by simp), ?_, rfl, fun z => nomatch z⟩
        · rw [hval]; simp only [List.foldl]; repeat (first | rw [if_pos True.intro] | rw [if_neg (by decide +kernel)])
        · intro b hb; simp only [PR.args, List.mem_cons, List.not_mem_nil, or_false] at hb; rcases hb with rfl | rfl | rfl | rfl <;> first | exact z0 | exact z1 | exact sm n2 n2a n2b | exact gm
      · refine ⟨"atmost", ld, [.str (PR.rg r), .int n3, .int (g : Int)], .atmost r n3 g, rfl, ?_, at_ (ld, [.str (PR.rg r), .int n3, .int (g : Int)]) (by simp), ?_, rfl, fun z => nomatch z⟩
        · rw [hval]; simp only [List.foldl]; repeat (first | rw [if_pos True.intro] | rw [if_neg (by decide +kernel)])
        · intro b hb; simp only [PR.args, List.mem_cons, List.not_mem_nil, or_false] at hb; rcases hb with rfl | rfl | rfl <;> first | exact z0 | exact sm n3 n3a n3b | exact gm
      · refine ⟨"same", le, [.str (PR.rg r), .int n4, .int (g : Int)], .same r n4 g, rfl, ?_, at_ (le, [.str (PR.rg r), .int n4, .int (g : Int)]) (by simp), ?_, rfl, fun z => nomatch z⟩
        · rw [hval]; simp only [List.foldl]; repeat (first | rw [if_pos True.intro] | rw [if_neg (by decide +kernel)])
        · intro b hb; simp only [PR.args, List.mem_cons, List.not_mem_nil, or_false] at hb; rcases hb with rfl | rfl | rfl <;> first | exact z0 | exact sm n4 n4a n4b | exact gm
      · refine ⟨"copy", lc, [.str (PR.rg r), .str (PR.rg s')], .copy r s', rfl, ?_, at_ (lc, [.str (PR.rg r), .str (PR.rg s')]) (by simp), ?_, rfl, fun z => nomatch z⟩
        · rw [hval]; simp only [List.foldl]; repeat (first | rw [if_pos True.intro] | rw [if_neg (by decide +kernel)])
        · intro b hb; simp only [PR.args, List.mem_cons, List.not_mem_nil, or_false] at hb; rcases hb with rfl | rfl <;> first | exact z0 | exact z1
      · refine ⟨"add", lg, [.str (PR.rg r), .int n5], .add r n5, rfl, ?_, at_ (lg, [.str (PR.rg r), .int n5]) (by simp), ?_, rfl, fun z => nomatch z⟩
        · rw [hval]; simp only [List.foldl]; repeat (first | rw [if_pos True.intro] | rw [if_neg (by decide +kernel)])
        · intro b hb; simp only [PR.args, List.mem_cons, List.not_mem_nil, or_false] at hb; rcases hb with rfl | rfl <;> first | exact z0 | exact sm n5 n5a n5b
      · refine ⟨"set", lh, [.str (PR.rg r), .int n6], .set r n6, rfl, ?_, at_ (lh, [.str (PR.rg r), .int n6]) (by simp), ?_, rfl, fun z => nomatch z⟩
        · rw [hval]; simp only [List.foldl]; repeat (first | rw [if_pos True.intro] | rw [if_neg (by decide +kernel)])
        · intro b hb; simp only [PR.args, List.mem_cons, List.not_mem_nil, or_false] at hb; rcases hb with rfl | rfl <;> first | exact z0 | exact sm n6 n6a n6b
      · refine ⟨"length", li, [.str (PR.rg r)], .length r, rfl, ?_, at_ (li, [.str (PR.rg r)]) (by simp), ?_, rfl, fun z => nomatch z⟩
        · rw [hval]; simp only [List.foldl]; repeat (first | rw [if_pos True.intro] | rw [if_neg (by decide +kernel)])
        · intro b hb; simp only [PR.args, List.mem_cons, List.not_mem_nil, or_false] at hb; rcases hb with rfl <;> first | exact z0
      · refine ⟨"jump", lf, [.int (g : Int)], .jump g, rfl, ?_, at_ (lf, [.int (g : Int)]) (by simp), ?_, rfl, fun z => nomatch z⟩
        · rw [hval]; simp only [List.foldl]; repeat (first | rw [if_pos True.intro] | rw [if_neg (by decide +kernel)])
        · intro b hb; simp only [PR.args, List.mem_cons, List.not_mem_nil, or_false] at hb; rcases hb with rfl <;> first | exact gm
    have o4f := G95.o
    refine ⟨.str xw, rfl, (by show 1 ≤ sizeLine; decide), fun t1 nt1 => ?_⟩
    have b1 : Old [] H27 (upd H27 t1 (.tup [.str xw])) := Old.new0 nt1
    have ht1 : (upd H27 t1 (.tup [.str xw])) t1 = some (.tup [.str xw]) := upd_same
    refine ⟨.ref d1, rfl, .str xw, rfl, d1, .ref lw, rfl, ?_, lw, xs, rfl, .inl ⟨SqL.of (b1 _ _ (by simp) hlw), fun t2 nt2 => ?_⟩⟩
    · have := DGet.k (k := .inr xw) (b1 _ _ (by simp) e97)
      rw [hvw] at this
      exact this
    have b2 := b1.new (o := HO.tup xs) nt2
    have xl : xs.length ≤ 4 := by
      have := PR.args_len i
      have e := congrArg List.length hiv
      simp [PR.insV] at e
      omega
    refine ⟨t1, t2, [.str xw], xs, rfl, rfl, SqT.of (by rw [upd_ne (ne_of_none ht1 nt2)]; exact ht1), SqT.of upd_same, ?_, (fun e => nomatch e), (fun _ e => absurd e hne), fun _ _ t nt => ?_⟩
    · show 1 + xs.length ≤ sizeLine
      exact Nat.le_trans (Nat.add_le_add_left xl 1) (by decide)
    have b3 := b2.new (o := HO.tup ([.str xw] ++ xs)) nt
    refine q _ t i iok (o04.trans (o4f.trans (b3.mono (fun x h => by simp at h)))) ((q96.old b3 (by simp)).mono (by omega)) ?_
    rw [upd_same, hiv]; rfl
end
end L2.T31

namespace L2.T31
open PySem PySem.Spec PyProof.Rows L2.PL
def spProg (K : PySem.W.Frag) : Sp := fun vs H Q _ => ∃ (a : Addr) (B : Nat), vs = [.ref a, .int 11] ∧ Pot H a B ∧ B ≤ 800000 ∧ ∀ H' l is, Lns is → Old [a] H H' → Pot H' a (B + 500) → l ≠ a → LinesAt K H' l is → Q (.ref l) H'
theorem abc_at (i : Nat) (h : i < 3) : atI ("abc" : Str).cps.toList (i : Int) = some (97 + i) := by
  have e : ("abc" : Str).cps.toList = [97, 98, 99] := by decide +kernel
  rw [e]
  rcases (by omega : i = 0 ∨ i = 1 ∨ i = 2) with rfl | rfl | rfl <;> rfl
section
variable {P : Program} {w : World} {K : PySem.W.Frag} {mg : Str → Option Value} {base : Heap}
/-! _law_program: slots pot=0 most=1 size=2 found=3 number=4 few=5; cells [] -/
abbrev s_l_program : Stmt := topS 41
abbrev N_l_program : List Str := ["pot", "most", "size", "found", "number", "few"]
theorem sc_l_program : FnScope N_l_program ["pot", "most"] (defScope s_l_program) := ⟨rfl, rfl, rfl, by decide +kernel, rfl, by decide +kernel, by decide +kernel⟩
theorem ok_prog {f : Addr} {fd : FuncData} (F : Fun K "_law_program" "_law_program" s_l_program f fd) (T : Bt mg) (C_l_of : Cal P w K mg base CX0 "_law_of" ["pot", "some"] 2 (spOf K)) (C_l_take : Cal P w K mg base CX0 "_law_take" ["pot", "upto"] 1 spTake) (C_l_instruction : Cal P w K mg base CX0 "_law_instruction" ["pot", "number", "size"] 4 spInstr) : FnOk P w K mg base CX0 5 f fd ["pot", "most"] (spProg K) := by
  refine F.ok sc_l_program (fun vs H Q E h => ?_) (fun cdv A outer s H vs Q E hr h => ?_)
  · obtain ⟨a, B, rfl, _⟩ := h
    rfl
  · obtain ⟨a, B, rfl, hP, hB, q⟩ := h
    refine ⟨_, (pss_cons (ps_par (i := 2) (j := 3) (by rfl) sc_l_program.nd rfl rfl (by decide) rfl rfl (pa_cons (pe_op op_add pe_int (pe_cal C_l_take hr (by rfl) pass0 (pa_cons (pv 0) (pa_cons (pv 1) pa_nil)))) (pa_cons (pe_lst pa_nil) pa_nil)) (by rfl))
      (pss_cons (ps_for PassesOwn.never rfl (pi_range1 (by rfl) T.z_range (pa_cons (pv 2) pa_nil)) (pg_name (i := 4) sc_l_program.nd rfl (Or.inl rfl))
       (pss_one (ps_if (PW.pt (pw_and (pt_cmpR op_lt (pv 4) pe_int (nomark _)) (pw_and1 (pt_cmpR op_gt (pe_cal C_l_take hr (by rfl) pass0 (pa_cons (pv 0) (pa_cons pe_int pa_nil))) pe_int (nomark _)))))
         (pss_cons (ps_set (i := 5) sc_l_program.nd rfl (.inl rfl) (pe_tup (pa_cons pe_str (pa_cons (pe_ix ix_str pe_str (pv 4) (fun _ _ => rfl)) (pa_cons (pe_callTy call_int1 (by rfl) T.z_int bz_int (pa_cons (pe_cal C_l_take hr (by rfl) pass0 (pa_cons (pv 0) (pa_cons pe_int pa_nil))) pa_nil)) pa_nil)))))
          (pss_one (ps_expr (pe_bm PySem.F.plainAttrs_list PySem.F.slot_list_append PySem.F.type_list_append mt_append (pv 3) (pa_cons (pe_ifExp (pt_cmpR op_eq (pe_cal C_l_take hr (by rfl) pass0 (pa_cons (pv 0) (pa_cons pe_int pa_nil))) pe_int (nomark _)) (pv 5) (pe_tup (pa_cons pe_str (pa_cons (pe_ix ix_str pe_str (pv 4) (fun _ _ => rfl)) pa_nil)))) pa_nil)))))
         (pss_one (ps_if (pt_cmpR op_eq (pe_cal C_l_take hr (by rfl) pass0 (pa_cons (pv 0) (pa_cons pe_int pa_nil))) pe_int (nomark _))
           (pss_one (ps_expr (pe_bm PySem.F.plainAttrs_list PySem.F.slot_list_append PySem.F.type_list_append mt_append (pv 3) (pa_cons (pe_tup (pa_cons (pe_cal C_l_of hr (by rfl) pass0 (pa_cons (pv 0) (pa_cons (pe_lst (pa_cons pe_str (pa_cons pe_str pa_nil))) pa_nil))) pa_nil)) pa_nil))))
           (pss_one (ps_expr (pe_bm PySem.F.plainAttrs_list PySem.F.slot_list_append PySem.F.type_list_append mt_append (pv 3) (pa_cons (pe_cal C_l_instruction hr (by rfl) pass0 (pa_cons (pv 0) (pa_cons (pv 4) (pa_cons (pv 2) pa_nil)))) pa_nil)))))))))
      (pss_one (ps_ret (pe_op op_cat (pv 3) (pe_op op_rep (pe_lst (pa_cons (pe_tup (pa_cons (pe_cal C_l_of hr (by rfl) pass0 (pa_cons (pv 0) (pa_cons (pe_lst (pa_cons pe_str (pa_cons pe_str pa_nil))) pa_nil))) pa_nil)) pa_nil)) (pe_callTy call_int1 (by rfl) T.z_int bz_int (pa_cons (pe_cmpR op_gt (pe_cal C_l_take hr (by rfl) pass0 (pa_cons (pv 0) (pa_cons pe_int pa_nil))) pe_int (nomark _)) pa_nil)))))))), ?_⟩
    refine ⟨.ref a, rfl, .int 11, rfl, a, 11, B, rfl, hP, by decide, by decide, by omega, fun H1 d d0 d1 o1 p1 => ⟨3, d, rfl, rfl, ?_⟩⟩
    obtain ⟨n, hn⟩ : ∃ n : Nat, 3 + d = (n : Int) := ⟨(3 + d).toNat, by omega⟩
    refine ⟨Nat.zero_le _, fun fd nfd => ⟨_, _, rfl, ?_⟩⟩
    dsimp only
    rw [hn]
    have hn1 : 3 ≤ n := by omega
    have hn2 : n ≤ 13 := by omega
    have en : ((n : Int)).toNat = n := by omega
    have naf : a ≠ fd := p1.ne nfd
    have hf0 : H fd = none := o1.free nfd (by simp; exact naf.symm)
    refine ⟨.int (n : Int), rfl, (n : Int), rfl, by omega, by omega, for_range (lo := 0) (n := ((n : Int)).toNat) (fun i σ H' => ∃ (y4 y5 : Option V) (is : List PR.Ins) (rs : List V), σ = [some (.ref a), some (.int 11), some (.int (n : Int)), some (.ref fd), y4, y5] ∧ is.length = i ∧ (∀ (k : Nat) j, is[k]? = some j → PR.insOk k j) ∧ Old [a] H H' ∧ H' fd = some (.lst rs) ∧ DpAll K H' rs (is.map PR.insD) ∧ Pot H' a (B + 1 + 30 * i))
      ⟨none, none, [], [], rfl, rfl, fun k j h => by simp at h, o1.new nfd, upd_same, .nil, p1.old (W := []) (Old.new0 nfd) (by simp)⟩ ?_ ?_⟩
    · rintro i σ H2 hi ⟨y4, y5, is, rs, rfl, hil, hok, o2, hf2, hd2, p2⟩
      rw [en] at hi
      rw [Int.zero_add]
      have hrl : rs.length = i := by rw [PL.DpAll.length hd2, List.length_map, hil]
      have hrs : rs.length < sizeLine := by rw [hrl]; exact Nat.lt_of_lt_of_le (Nat.lt_of_lt_of_le hi hn2) (by decide)
      -- a line more
      have fin : ∀ (G : Hp) (t : Addr) (j : PR.Ins) (y5 : Option V), PR.insOk i j → Old [a] H2 G → Pot G a (B + 1 + 30 * i + 25) → G t = some (.tup (PR.insV j)) →
          ∃ (z4 z5 : Option V) (is : List PR.Ins) (rs' : List V), [some (.ref a), some (.int 11), some (.int (n : Int)), some (.ref fd), some (.int (i : Int)), y5] = [some (.ref a), some (.int 11), some (.int (n : Int)), some (.ref fd), z4, z5] ∧ is.length = i + 1 ∧ (∀ (k : Nat) j, is[k]? = some j → PR.insOk k j) ∧ Old [a] H (upd G fd (.lst (rs ++ [.ref t]))) ∧ (upd G fd (.lst (rs ++ [.ref t]))) fd = some (.lst rs') ∧ DpAll K (upd G fd (.lst (rs ++ [.ref t]))) rs' (is.map PR.insD) ∧ Pot (upd G fd (.lst (rs ++ [.ref t]))) a (B + 1 + 30 * (i + 1)) := by
        intro G t j y5 jok oG pG ht
        have hfG := oG _ _ (by simp; exact naf.symm) hf2
        have tk1 : Tk H2 G := oG.tk p2.notup
        have tk2 : Tk G (upd G fd (.lst (rs ++ [.ref t]))) := Old.tk (W := [fd]) ((Old.refl _ _).put (by simp)) (NoTup.one hfG)
        refine ⟨_, _, is ++ [j], _, rfl, by rw [List.length_append, hil]; rfl, fun k x hx => ?_, (o2.trans oG).put0 hf0, upd_same, ?_, ?_⟩
        · by_cases c : k < is.length
          · rw [List.getElem?_append_left c] at hx
            exact hok k x hx
          · rw [List.getElem?_append_right (by omega)] at hx
            have : k - is.length = 0 := by
              cases e : k - is.length with
              | zero => rfl
              | succ m => rw [e] at hx; simp at hx
            rw [this] at hx
            have hx : j = x := by simpa using hx
            subst hx
            have : k = i := by omega
            rw [this]; exact jok
        · rw [List.map_append]
          exact PL.DpAll.append (PL.Dp.keepAll (tk1.trans tk2) _ _ (linesA_only is) hd2) (.cons (PL.Dp.keep tk2 _ _ (insD_only j) (ins_dp ht)) .nil)
        · exact (pG.old (W := [fd]) ((Old.refl _ _).put (by simp)) (by simp; exact naf)).mono (by omega)
      have fdG : ∀ G, Old [a] H2 G → G fd = some (.lst rs) := fun G oG => oG _ _ (by simp; exact naf.symm) hf2
      have habc : i < 3 → atI ("abc" : Str).cps.toList (i : Int) = some (97 + i) := abc_at i
      have lenabc : ("abc" : Str).length ≤ sizeLine := Nat.le_trans (by decide +kernel : ("abc" : Str).length ≤ 3) (by decide)
      by_cases c3 : i < 3
      · refine ⟨.int (i : Int), rfl, (i : Int), 3, rfl, rfl, true, congrArg V.bl (decide_eq_true (by omega)), iteT ?_⟩
        refine ⟨.ref a, rfl, a, 5, _, rfl, p2, by decide, by decide, by omega, fun H3 e e0 e1 o3 p3 => ?_⟩
        by_cases ce : 0 < e
        · refine ⟨e, 0, rfl, rfl, true, congrArg V.bl (decide_eq_true ce), iteT ?_⟩
          refine ⟨.int (i : Int), rfl, "abc", (i : Int), 97 + i, rfl, rfl, lenabc, habc c3, .ref a, rfl, a, 3, _, rfl, p3, by decide, by decide, by omega, fun H4 v v0 v1 o4 p4 => .inl ⟨v, rfl, (by show 3 ≤ sizeLine; decide), fun t1 nt1 => ?_⟩⟩
          have o24 : Old [a] H2 (upd H4 t1 (.tup [.str "set", .str ⟨#[97 + i]⟩, .int v])) := (o3.trans o4).new nt1
          have p4' := p4.old (W := []) (Old.new0 (o := HO.tup [.str "set", .str ⟨#[97 + i]⟩, .int v]) nt1) (by simp)
          have ht1 : (upd H4 t1 (.tup [.str "set", .str ⟨#[97 + i]⟩, .int v])) t1 = some (.tup (PR.insV (.set i v))) := upd_same
          generalize upd H4 t1 (.tup [.str "set", .str ⟨#[97 + i]⟩, .int v]) = H5 at o24 p4' ht1 ⊢
          refine ⟨.ref fd, rfl, .inl ⟨rfl, _, SqL.of (fdG H5 o24)⟩, .ref a, rfl, a, 2, _, rfl, p4', by decide, by decide, by omega, fun H6 u u0 u1 o6 p6 => ?_⟩
          have o26 := o24.trans o6
          by_cases cu : u = 0
          · refine ⟨rfl, true, congrArg V.bl (decide_eq_true (congrArg V.int cu)), iteT ?_⟩
            refine ⟨.ref t1, rfl, fd, rs, .ref t1, rfl, rfl, fdG H6 o26, hrs, ?_⟩
            refine fin H6 t1 (.set i v) _ ?_ o26 (p6.mono (by omega)) (o6.tk p4'.notup |>.1 _ _ ht1)
            intro b hb
            simp only [PR.args, List.mem_cons, List.not_mem_nil, or_false] at hb
            rcases hb with rfl | rfl
            · show i < 6; omega
            · exact ⟨by omega, by omega⟩
          · refine ⟨rfl, false, congrArg V.bl (decide_eq_false (fun z => cu (V.int.inj z))), iteF ?_⟩
            refine ⟨.int (i : Int), rfl, "abc", (i : Int), 97 + i, rfl, rfl, lenabc, habc c3, (by show 2 ≤ sizeLine; decide), fun t2 nt2 => ?_⟩
            have o27 : Old [a] H2 (upd H6 t2 (.tup [.str "length", .str ⟨#[97 + i]⟩])) := o26.new nt2
            refine ⟨fd, rs, .ref t2, rfl, rfl, fdG _ o27, hrs, ?_⟩
            refine fin _ t2 (.length i) _ ?_ o27 ((p6.old (W := []) (Old.new0 nt2) (by simp)).mono (by omega)) upd_same
            intro b hb
            simp only [PR.args, List.mem_cons, List.not_mem_nil, or_false] at hb
            subst hb
            show i < 6; omega
        · refine ⟨e, 0, rfl, rfl, false, congrArg V.bl (decide_eq_false ce), iteF ?_⟩
          refine ⟨.ref a, rfl, a, 7, _, rfl, p3, by decide, by decide, by omega, fun G3 e' e0' e1' g3 r3 => ?_⟩
          have g23 : Old [a] H2 G3 := (o3).trans g3
          by_cases ce' : e' = 0
          · refine ⟨rfl, true, congrArg V.bl (decide_eq_true (congrArg V.int ce')), iteT ?_⟩
            refine ⟨.ref fd, rfl, .inl ⟨rfl, _, SqL.of (fdG G3 g23)⟩, .ref a, rfl, (by show 2 ≤ sizeLine; decide), fun l nl => ?_⟩
            have nal : a ≠ l := r3.ne nl
            have oL : Old [] G3 (upd G3 l (.lst [.str "pass", .str "drop"])) := Old.new0 nl
            refine ⟨a, l, _, _, rfl, r3.old oL (by simp), SqL.of upd_same, nal.symm, by show 0 < 2; decide, by show 2 < 1000; decide, by omega, fun G4 x hx g4 r4 => ?_⟩
            obtain ⟨j, hj, jok⟩ : ∃ j : PR.Ins, [x] = PR.insV j ∧ PR.insOk i j := by
              simp only [List.mem_cons, List.not_mem_nil, or_false] at hx
              rcases hx with rfl | rfl
              · exact ⟨.pass, rfl, fun b hb => by simp [PR.args] at hb⟩
              · exact ⟨.drop, rfl, fun b hb => by simp [PR.args] at hb⟩
            have g24 : Old [a] H2 G4 := (g23.trans (oL.mono (fun x h => by simp at h))).trans g4
            refine ⟨(by show 1 ≤ sizeLine; decide), fun t nt => ?_⟩
            have g25 : Old [a] H2 (upd G4 t (.tup [x])) := g24.new nt
            refine ⟨fd, rs, .ref t, rfl, rfl, fdG _ g25, hrs, ?_⟩
            exact fin _ t j _ jok g25 ((r4.old (W := []) (Old.new0 nt) (by simp)).mono (by omega)) (by rw [upd_same, hj])
          · refine ⟨rfl, false, congrArg V.bl (decide_eq_false (fun z => ce' (V.int.inj z))), iteF ?_⟩
            refine ⟨.ref fd, rfl, .inl ⟨rfl, _, SqL.of (fdG G3 g23)⟩, .ref a, rfl, .int (i : Int), rfl, .int (n : Int), rfl, a, _, i, n, rfl, r3, by omega, hi, by omega, fun G4 t j jok g4 r4 ht => ?_⟩
            refine ⟨fd, rs, .ref t, rfl, rfl, fdG _ (g23.trans g4), hrs, ?_⟩
            exact fin G4 t j _ jok (g23.trans g4) (r4.mono (by omega)) ht
      · refine ⟨.int (i : Int), rfl, (i : Int), 3, rfl, rfl, false, congrArg V.bl (decide_eq_false (by omega)), iteF (iteF ?_)⟩
        refine ⟨.ref a, rfl, a, 7, _, rfl, p2, by decide, by decide, by omega, fun G3 e' e0' e1' g3 r3 => ?_⟩
        have g23 : Old [a] H2 G3 := ((Old.refl _ _)).trans g3
        by_cases ce' : e' = 0
        · refine ⟨rfl, true, congrArg V.bl (decide_eq_true (congrArg V.int ce')), iteT ?_⟩
          refine ⟨.ref fd, rfl, .inl ⟨rfl, _, SqL.of (fdG G3 g23)⟩, .ref a, rfl, (by show 2 ≤ sizeLine; decide), fun l nl => ?_⟩
          have nal : a ≠ l := r3.ne nl
          have oL : Old [] G3 (upd G3 l (.lst [.str "pass", .str "drop"])) := Old.new0 nl
          refine ⟨a, l, _, _, rfl, r3.old oL (by simp), SqL.of upd_same, nal.symm, by show 0 < 2; decide, by show 2 < 1000; decide, by omega, fun G4 x hx g4 r4 => ?_⟩
          obtain ⟨j, hj, jok⟩ : ∃ j : PR.Ins, [x] = PR.insV j ∧ PR.insOk i j := by
            simp only [List.mem_cons, List.not_mem_nil, or_false] at hx
            rcases hx with rfl | rfl
            · exact ⟨.pass, rfl, fun b hb => by simp [PR.args] at hb⟩
            · exact ⟨.drop, rfl, fun b hb => by simp [PR.args] at hb⟩
          have g24 : Old [a] H2 G4 := (g23.trans (oL.mono (fun x h => by simp at h))).trans g4
          refine ⟨(by show 1 ≤ sizeLine; decide), fun t nt => ?_⟩
          have g25 : Old [a] H2 (upd G4 t (.tup [x])) := g24.new nt
          refine ⟨fd, rs, .ref t, rfl, rfl, fdG _ g25, hrs, ?_⟩
          exact fin _ t j _ jok g25 ((r4.old (W := []) (Old.new0 nt) (by simp)).mono (by omega)) (by rw [upd_same, hj])
        · refine ⟨rfl, false, congrArg V.bl (decide_eq_false (fun z => ce' (V.int.inj z))), iteF ?_⟩
          refine ⟨.ref fd, rfl, .inl ⟨rfl, _, SqL.of (fdG G3 g23)⟩, .ref a, rfl, .int (i : Int), rfl, .int (n : Int), rfl, a, _, i, n, rfl, r3, by omega, hi, by omega, fun G4 t j jok g4 r4 ht => ?_⟩
          refine ⟨fd, rs, .ref t, rfl, rfl, fdG _ (g23.trans g4), hrs, ?_⟩
          exact fin G4 t j _ jok (g23.trans g4) (r4.mono (by omega)) ht
    · rintro σ H2 ⟨y4, y5, is, rs, rfl, hil, hok, o2, hf2, hd2, p2⟩
      rw [en] at hil p2
      have hrl : rs.length = n := by rw [PL.DpAll.length hd2, List.length_map, hil]
      refine ⟨.ref fd, rfl, .ref a, rfl, (by show 2 ≤ sizeLine; decide), fun l nl => ?_⟩
      have nal : a ≠ l := p2.ne nl
      have oL : Old [] H2 (upd H2 l (.lst [.str "pass", .str "drop"])) := Old.new0 nl
      refine ⟨a, l, _, _, rfl, p2.old oL (by simp), SqL.of upd_same, nal.symm, by show 0 < 2; decide, by show 2 < 1000; decide, by omega, fun H3 x hx o3 p3 => ?_⟩
      obtain ⟨j, hj, jok⟩ : ∃ j : PR.Ins, [x] = PR.insV j ∧ ∀ k, PR.insOk k j := by
        simp only [List.mem_cons, List.not_mem_nil, or_false] at hx
        rcases hx with rfl | rfl
        · exact ⟨.pass, rfl, fun k b hb => by simp [PR.args] at hb⟩
        · exact ⟨.drop, rfl, fun k b hb => by simp [PR.args] at hb⟩
      have o23 : Old [a] H2 H3 := (oL.mono (fun x h => by simp at h)).trans o3
      refine ⟨(by show 1 ≤ sizeLine; decide), fun t nt => ⟨(by show 1 ≤ sizeLine; decide), fun l2 nl2 => ?_⟩⟩
      have oT : Old [] H3 (upd H3 t (.tup [x])) := Old.new0 nt
      have oU : Old [] H3 (upd (upd H3 t (.tup [x])) l2 (.lst [.ref t])) := oT.new nl2
      have ht : (upd (upd H3 t (.tup [x])) l2 (.lst [.ref t])) t = some (.tup (PR.insV j)) := by rw [upd_ne (ne_of_none upd_same nl2), upd_same, hj]
      have hl2 : (upd (upd H3 t (.tup [x])) l2 (.lst [.ref t])) l2 = some (.lst [.ref t]) := upd_same
      have p4 := p3.old oU (by simp)
      have nal2 : a ≠ l2 := fun z => by
        have := p3.old oT (by simp)
        exact (this.ne nl2) z
      generalize upd (upd H3 t (.tup [x])) l2 (.lst [.ref t]) = H4 at oU ht hl2 p4 ⊢
      refine ⟨.ref a, rfl, a, 5, _, rfl, p4, by decide, by decide, by omega, fun H5 e e0 e1 o5 p5 => ?_⟩
      have o25 : Old [a] H2 H5 := (o23.trans (oU.mono (fun x h => by simp at h))).trans o5
      have hf5 := o25 _ _ (by simp; exact naf.symm) hf2
      have hl5 := o5 _ _ (by simp; exact nal2.symm) hl2
      have ht5 := (o5.tk p4.notup).1 _ _ ht
      have tk5 := o25.tk p2.notup
      have hd5 := PL.Dp.keepAll tk5 _ _ (linesA_only is) hd2
      by_cases ce : 0 < e
      · refine ⟨e, 0, rfl, rfl, .inr ⟨true, congrArg (fun z => [V.bl z]) (decide_eq_true ce), ?_⟩⟩
        refine ⟨l2, 1, [.ref t], rfl, rfl, hl5, by decide, by decide, by show 1 * 1 ≤ sizeLine; decide, fun r nr => ?_⟩
        have o6 : Old [] H5 (upd H5 r (.lst (List.replicate (1 : Int).toNat [V.ref t]).flatten)) := Old.new0 nr
        have hr6 : (upd H5 r (.lst (List.replicate (1 : Int).toNat [V.ref t]).flatten)) r = some (.lst [.ref t]) := upd_same
        generalize upd H5 r (.lst (List.replicate (1 : Int).toNat [V.ref t]).flatten) = H6 at o6 hr6 ⊢
        refine ⟨fd, r, rs, [.ref t], rfl, rfl, o6 _ _ (by simp) hf5, hr6, ?_, fun m nm => ?_⟩
        · rw [hrl]; exact Nat.le_trans (Nat.succ_le_succ hn2) (by decide)
        have o7 : Old [] H5 (upd H6 m (.lst (rs ++ [.ref t]))) := o6.new nm
        have p7 := p5.old o7 (by simp)
        refine q _ m (is ++ [j]) ⟨by simp, by rw [List.length_append, hil]; show n + 1 ≤ 200; omega, fun k z hz => ?_⟩ ((o2.trans o25).trans (o7.mono (fun x h => by simp at h))) (p7.mono (by omega)) ?_ ⟨_, upd_same, ?_⟩
        · by_cases c : k < is.length
          · rw [List.getElem?_append_left c] at hz
            exact hok k z hz
          · rw [List.getElem?_append_right (by omega)] at hz
            have hz : j = z := by
              cases e' : k - is.length with
              | zero => rw [e'] at hz; simpa using hz
              | succ m => rw [e'] at hz; simp at hz
            subst hz
            exact jok k
        · exact fun z => by
            have := (p5.old o6 (by simp)).ne nm
            exact this z.symm
        · rw [List.map_append]
          have tk7 := o7.tk NoTup.nil
          exact PL.DpAll.append (PL.Dp.keepAll tk7 _ _ (linesA_only is) hd5) (.cons (PL.Dp.keep tk7 _ _ (insD_only j) (ins_dp ht5)) .nil)
      · refine ⟨e, 0, rfl, rfl, .inr ⟨false, congrArg (fun z => [V.bl z]) (decide_eq_false ce), ?_⟩⟩
        refine ⟨l2, 0, [.ref t], rfl, rfl, hl5, by decide, by decide, by show 1 * 0 ≤ sizeLine; decide, fun r nr => ?_⟩
        have o6 : Old [] H5 (upd H5 r (.lst (List.replicate (0 : Int).toNat [V.ref t]).flatten)) := Old.new0 nr
        have hr6 : (upd H5 r (.lst (List.replicate (0 : Int).toNat [V.ref t]).flatten)) r = some (.lst []) := upd_same
        generalize upd H5 r (.lst (List.replicate (0 : Int).toNat [V.ref t]).flatten) = H6 at o6 hr6 ⊢
        refine ⟨fd, r, rs, [], rfl, rfl, o6 _ _ (by simp) hf5, hr6, ?_, fun m nm => ?_⟩
        · rw [hrl]; exact Nat.le_trans hn2 (by decide)
        have o7 : Old [] H5 (upd H6 m (.lst (rs ++ []))) := o6.new nm
        have p7 := p5.old o7 (by simp)
        refine q _ m is ⟨by intro z; rw [z] at hil; simp at hil; omega, by omega, hok⟩ ((o2.trans o25).trans (o7.mono (fun x h => by simp at h))) (p7.mono (by omega)) ?_ ⟨_, upd_same, ?_⟩
        · exact fun z => by
            have := (p5.old o6 (by simp)).ne nm
            exact this z.symm
        · have z := PL.Dp.keepAll (o7.tk NoTup.nil) _ _ (linesA_only is) hd5
          rw [List.append_nil] at z ⊢
          exact z
end
end L2.T31

namespace L2.T31
open PySem PySem.Spec PyProof.Rows L2.PL
/-- data that may be shown -/
structure ShowD (L k : Nat) (d : PyData) : Prop where
  sh : d.showable = true
  nd : d.hasDict = false
  dp : d.depth ≤ k
  ln : d.shown.length ≤ L
theorem ShowD.int {i : Int} (h : -10000000 ≤ i) (h2 : i ≤ 10000000) : ShowD 1921 0 (.int i) := by
  have hl : i.natAbs.log2 < 1920 := by
    by_cases e : i.natAbs = 0
    · rw [e]; decide
    · have : i.natAbs.log2 < 24 := (Nat.log2_lt e).mpr (by omega)
      omega
  exact ⟨decide_eq_true hl, rfl, Nat.le_refl _, int_text_len_1921 hl⟩
theorem ShowD.tup {L k : Nat} {ds : List PyData} (h : ∀ d ∈ ds, ShowD L k d) : ShowD (ds.length * (L + 2) + 3) (k + 1) (.tuple ds) := by
  have all : PyData.showableAll ds = true ∧ PyData.hasDictAll ds = false ∧ PyData.depthAll ds ≤ k ∧ ((PyData.shownAll ds).map (·.length)).sum ≤ ds.length * L ∧ (PyData.shownAll ds).length = ds.length := by
    induction ds with
    | nil => exact ⟨rfl, rfl, Nat.zero_le _, Nat.zero_le _, rfl⟩
    | cons d ds ih =>
      obtain ⟨a1, a2, a3, a4, a5⟩ := ih fun e he => h e (.tail _ he)
      have hd := h d (.head _)
      refine ⟨?_, ?_, ?_, ?_, ?_⟩
      · show (d.showable && PyData.showableAll ds) = true
        rw [hd.sh, a1]; rfl
      · show (d.hasDict || PyData.hasDictAll ds) = false
        rw [hd.nd, a2]; rfl
      · show max d.depth (PyData.depthAll ds) ≤ k
        exact Nat.max_le.mpr ⟨hd.dp, a3⟩
      · show d.shown.length + ((PyData.shownAll ds).map (·.length)).sum ≤ (ds.length + 1) * L
        have := hd.ln
        rw [Nat.succ_mul]
        omega
      · show (PyData.shownAll ds).length + 1 = ds.length + 1
        rw [a5]
  obtain ⟨a1, a2, a3, a4, a5⟩ := all
  refine ⟨a1, a2, Nat.succ_le_succ a3, ?_⟩
  have := tupleText_len_le (PyData.shownAll ds)
  show (tupleText (PyData.shownAll ds)).length ≤ _
  rw [a5] at this
  rw [Nat.mul_add]
  omega
/-- a word of the ends -/
theorem ShowD.str {x : Str} (h : (PyData.str x).shown.length ≤ 1921) : ShowD 1921 0 (.str x) := ⟨rfl, rfl, Nat.le_refl _, h⟩
def toldAt : PR.Told → Nat
  | .passed a => a
  | .dropped a => a
  | .unset a => a
  | .beyond a => a
  | .end_ a => a
theorem ShowD.told {t : PR.Told} (h : toldAt t ≤ 1000) : ShowD 6000 1 (toldD t) := by
  have wi : ∀ a : Nat, a ≤ 1000 → ShowD 1921 0 (.int (a : Int)) := fun a h => ShowD.int (by omega) (by omega)
  have w1 : ShowD 1921 0 (.str "pass") := .str (by decide +kernel)
  have w2 : ShowD 1921 0 (.str "drop") := .str (by decide +kernel)
  have w3 : ShowD 1921 0 (.str "wrong") := .str (by decide +kernel)
  have w4 : ShowD 1921 0 (.str "unset") := .str (by decide +kernel)
  have w5 : ShowD 1921 0 (.str "beyond") := .str (by decide +kernel)
  have w6 : ShowD 1921 0 (.str "end") := .str (by decide +kernel)
  have up : ∀ ds : List PyData, ds.length ≤ 3 → (∀ d ∈ ds, ShowD 1921 0 d) → ShowD 6000 1 (.tuple ds) := fun ds hl h => by
    have := ShowD.tup h
    refine ⟨this.sh, this.nd, this.dp, Nat.le_trans this.ln ?_⟩
    have : ds.length * (1921 + 2) ≤ 3 * (1921 + 2) := Nat.mul_le_mul_right _ hl
    omega
  have z := wi (toldAt t) h
  cases t
  case passed a => exact up _ (by simp [PR.toldL]) (by intro d hd; simp only [PR.toldL, List.mem_cons, List.not_mem_nil, or_false] at hd; rcases hd with rfl | rfl <;> first | exact w1 | exact z)
  case dropped a => exact up _ (by simp [PR.toldL]) (by intro d hd; simp only [PR.toldL, List.mem_cons, List.not_mem_nil, or_false] at hd; rcases hd with rfl | rfl <;> first | exact w2 | exact z)
  case unset a => exact up _ (by simp [PR.toldL]) (by intro d hd; simp only [PR.toldL, List.mem_cons, List.not_mem_nil, or_false] at hd; rcases hd with rfl | rfl | rfl <;> first | exact w3 | exact z | exact w4)
  case beyond a => exact up _ (by simp [PR.toldL]) (by intro d hd; simp only [PR.toldL, List.mem_cons, List.not_mem_nil, or_false] at hd; rcases hd with rfl | rfl | rfl <;> first | exact w3 | exact z | exact w5)
  case end_ a => exact up _ (by simp [PR.toldL]) (by intro d hd; simp only [PR.toldL, List.mem_cons, List.not_mem_nil, or_false] at hd; rcases hd with rfl | rfl | rfl <;> first | exact w3 | exact z | exact w6)
theorem ShowD.came {c : List Nat} (hl : c.length ≤ 300) (h : ∀ x ∈ c, x ≤ 1000) : ShowD 600000 1 (cameD c) := by
  have := ShowD.tup (L := 1921) (k := 0) (ds := c.map fun (a : Nat) => PyData.int (a : Int)) fun d hd => by
    obtain ⟨x, hx, rfl⟩ := List.mem_map.mp hd
    have := h x hx
    exact ShowD.int (by omega) (by omega)
  refine ⟨this.sh, this.nd, this.dp, Nat.le_trans this.ln ?_⟩
  rw [List.length_map]
  have : c.length * (1921 + 2) ≤ 300 * (1921 + 2) := Nat.mul_le_mul_right _ hl
  omega
/-- what run tells is small -/
theorem exec_small {is : List PR.Ins} (L : Lns is) (pk : List Int) : ∀ (F a : Nat) (m : PR.Mem) (came : List Nat), (∀ x ∈ came, x ≤ 1000) → came.length ≤ a → a ≤ 200 →
    (∀ x ∈ (PR.exec is pk F a m came).1, x ≤ 1000) ∧ (PR.exec is pk F a m came).1.length ≤ 201 ∧ toldAt (PR.exec is pk F a m came).2 ≤ 1000 := by
  have hl := L.len
  intro F
  induction F with
  | zero => intro a m came h1 h2 h3; exact ⟨h1, (by show came.length ≤ 201; omega), (by show is.length ≤ 1000; omega)⟩
  | succ F ih =>
    intro a m came h1 h2 h3
    cases e : is[a]? with
    | none => rw [exec_none e]; exact ⟨h1, (by show came.length ≤ 201; omega), (by show is.length ≤ 1000; omega)⟩
    | some i =>
      have iok := L.ok a i e
      have hai : a < is.length := (List.getElem?_eq_some_iff.mp e).1
      rw [exec_some e]
      have c1 : ∀ x ∈ came ++ [a], x ≤ 1000 := fun x hx => by
        rcases List.mem_append.mp hx with hx | hx
        · exact h1 x hx
        · have : x = a := by simpa using hx
          omega
      have c2 : (came ++ [a]).length ≤ a + 1 := by rw [List.length_append]; exact Nat.succ_le_succ h2
      have stop : ∀ t, toldAt t ≤ 1000 → (∀ x ∈ (came ++ [a], t).1, x ≤ 1000) ∧ (came ++ [a], t).1.length ≤ 201 ∧ toldAt (came ++ [a], t).2 ≤ 1000 := fun t ht => ⟨c1, (by show (came ++ [a]).length ≤ 201; omega), ht⟩
      cases hend : PR.isEnd i with
      | true =>
        have : PR.step pk a m i = .stop (.passed a) ∨ PR.step pk a m i = .stop (.dropped a) := by
          cases i <;> first | (cases hend; done) | exact .inl rfl | exact .inr rfl
        rcases this with q | q <;> rw [q] <;> exact stop _ (by show a ≤ 1000; omega)
      | false =>
        cases hun : PR.unset i m with
        | true => rw [step_unset hend hun]; exact stop _ (by show a ≤ 1000; omega)
        | false =>
          cases hj : PR.isJump i with
          | true =>
            rw [step_jump hend hun hj]
            obtain ⟨g1, g2⟩ := goal_ok hj iok
            refine ih _ m _ c1 ?_ ?_ <;> split <;> omega
          | false =>
            rw [step_store hend hun hj]
            cases hs : PR.stores pk m i with
            | some m' => exact ih (a + 1) m' _ c1 c2 (by omega)
            | none => exact stop _ (by show a ≤ 1000; omega)
theorem run_small {is : List PR.Ins} (L : Lns is) (pk : List Int) : ShowD 6000 1 (toldD (PR.run is pk).2) ∧ ShowD 600000 1 (cameD (PR.run is pk).1) := by
  obtain ⟨h1, h2, h3⟩ := exec_small L pk (is.length + 1) 0 (fun _ => none) [] (fun x h => by simp at h) (Nat.le_refl _) (by decide)
  exact ⟨.told h3, .came (by show (PR.exec is pk (is.length + 1) 0 (fun _ => none) []).1.length ≤ 300; omega) h1⟩
/-- the known program -/
def kis : List PR.Ins := [.length 0, .atmost 0 1 6, .set 1 1, .load 2 1 0, .same 2 7 7, .drop, .drop, .pass]
theorem kis_text : PR.progS kis = "length a\natmost a 1 6\nset b 1\nload c b 0\nsame c 7 7\ndrop\ndrop\npass" := by decide +kernel
theorem kis_ok : Lns kis := by
  refine ⟨by simp [kis], by simp [kis], fun k i h => ?_⟩
  match k, h with
  | 0, h => cases h; intro b hb; simp [PR.args] at hb; subst hb; show (0 : Nat) < 6; decide
  | 1, h => cases h; intro b hb; simp [PR.args] at hb; rcases hb with rfl | rfl | rfl <;> first | exact (by show (0 : Nat) < 6; decide) | exact ⟨by decide, by decide⟩ | exact ⟨by decide, by decide⟩
  | 2, h => cases h; intro b hb; simp [PR.args] at hb; rcases hb with rfl | rfl <;> first | exact (by show (1 : Nat) < 6; decide) | exact ⟨by decide, by decide⟩
  | 3, h => cases h; intro b hb; simp [PR.args] at hb; rcases hb with rfl | rfl | rfl <;> first | exact (by show (2 : Nat) < 6; decide) | exact (by show (1 : Nat) < 6; decide) | exact ⟨by decide, by decide⟩
  | 4, h => cases h; intro b hb; simp [PR.args] at hb; rcases hb with rfl | rfl | rfl <;> first | exact (by show (2 : Nat) < 6; decide) | exact ⟨by decide, by decide⟩ | exact ⟨by decide, by decide⟩
  | 5, h => cases h; intro b hb; simp [PR.args] at hb
  | 6, h => cases h; intro b hb; simp [PR.args] at hb
  | 7, h => cases h; intro b hb; simp [PR.args] at hb
  | k + 8, h => simp [kis] at h
end L2.T31

namespace L2.T31
open PySem PySem.Spec PyProof.Rows L2.PL
def spKnown : Sp := fun vs H Q _ => vs = [] ∧ ∀ H', Old [] H H' → Q (.bl true) H'
def spRight : Sp := fun vs H Q _ => ∃ (a : Addr), vs = [.ref a] ∧ Pot H a 0 ∧ ∀ H', Old [a] H H' → Q (.bl true) H'
def spLaw (K : PySem.W.Frag) : Sp := fun vs H Q _ => ∃ (a : Addr) (ns : List Int), vs = [.ref a] ∧ SqL K H a (ns.map V.int) ∧ ns.length ≤ 63 ∧ ∀ H', Q (.bl true) H'
theorem slt_old {H H' : Hp} {p C dx a : Addr} {vs : List (Option V)} (h : SlX.Slt H p C dx vs) (o : Old [a] H H') (h1 : p ≠ a) (h2 : dx ≠ a) : SlX.Slt H' p C dx vs := by
  rcases h with ⟨e, z⟩ | ⟨e1, e2⟩
  · exact .inl ⟨o _ _ (by simp; exact h1) e, z⟩
  · exact .inr ⟨o _ _ (by simp; exact h1) e1, o _ _ (by simp; exact h2) e2⟩
theorem pk_dp {K : PySem.W.Frag} {H : Hp} {t : Addr} {pk : List Int} (h : H t = some (.tup (pk.map V.int))) : Dp K H (.ref t) (pkD pk) := .tup (SqT.of h) (PL.Dp.ofInts pk)
section
variable {P : Program} {w : World} {K : PySem.W.Frag} {mg : Str → Option Value} {base : Heap}
/-! _law_known_right: slots program=0 told=1; cells [] -/
abbrev s_l_known_right : Stmt := topS 46
abbrev N_l_known_right : List Str := ["program", "told"]
theorem sc_l_known_right : FnScope N_l_known_right [] (defScope s_l_known_right) := ⟨rfl, rfl, rfl, by decide +kernel, rfl, by decide +kernel, by decide +kernel⟩
theorem ok_known {f C : Addr} {fd : FuncData} (F : Fun K "_law_known_right" "_law_known_right" s_l_known_right f fd) (T : Bt mg) (M_Program : MkC P w K mg base CX0 "Program" C ["self", "text"] 6 (spPrInit K C)) (C_run : Cal P w K mg base CX0 "run" ["program", "packet"] 4 (spRun K C)) (C_trace : Cal P w K mg base CX0 "trace" ["program", "packet"] 4 (spTrace K C)) : FnOkG P w K mg base CX0 8 f fd [] spKnown := by
  refine F.okG sc_l_known_right (fun vs H Q E h => ?_) (fun cdv A outer s H vs Q E hr hG h => ?_)
  · obtain ⟨rfl, _⟩ := h
    rfl
  · obtain ⟨rfl, q⟩ := h
    refine ⟨_, (pss_cons (ps_set (i := 0) sc_l_known_right.nd rfl (.inl rfl) (pe_makC M_Program hr (by rfl) pass0 (pa_cons pe_str pa_nil)))
      (pss_cons (ps_set (i := 1) sc_l_known_right.nd rfl (.inl rfl) (pe_lst (pa_cons (pe_cal C_run hr (by rfl) pass0 (pa_cons (pv 0) (pa_cons (pe_tup (pa_cons pe_int (pa_cons pe_int pa_nil))) pa_nil))) (pa_cons (pe_cal C_run hr (by rfl) pass0 (pa_cons (pv 0) (pa_cons (pe_tup (pa_cons pe_int pa_nil)) pa_nil))) (pa_cons (pe_cal C_run hr (by rfl) pass0 (pa_cons (pv 0) (pa_cons (pe_tup (pa_cons pe_int (pa_cons pe_int pa_nil))) pa_nil))) (pa_cons (pe_cal C_trace hr (by rfl) pass0 (pa_cons (pv 0) (pa_cons (pe_tup (pa_cons pe_int (pa_cons pe_int (pa_cons pe_int pa_nil)))) pa_nil))) pa_nil))))))
      (pss_one (ps_ret (pe_cmpR op_eq (pe_callB (call_reprD hG hr.units) (by rfl) T.z_repr bz_repr (pa_cons (pv 1) pa_nil)) (pe_callB (call_reprD hG hr.units) (by rfl) T.z_repr bz_repr (pa_cons (pe_lst (pa_cons (pe_tup (pa_cons pe_str (pa_cons pe_int pa_nil))) (pa_cons (pe_tup (pa_cons pe_str (pa_cons pe_int pa_nil))) (pa_cons (pe_tup (pa_cons pe_str (pa_cons pe_int pa_nil))) (pa_cons (pe_tup (pa_cons pe_int (pa_cons pe_int (pa_cons pe_int (pa_cons pe_int (pa_cons pe_int (pa_cons pe_int pa_nil))))))) pa_nil))))) pa_nil)) (nomark _)))))), ?_⟩
    refine fun x dx nx ndx nn => ?_
    have o0 : Old [] H (upd (upd H dx (.own x)) x (.ins C dx [])) := (Old.new0 ndx).put0 nx
    refine ⟨H, x, dx, kis, by rw [kis_text]; rfl, kis_ok, o0, nx, ndx, nn, upd_same, by rw [upd_ne nn, upd_same], fun H1 t o1 sl dp => ⟨rfl, ?_⟩⟩
    have pr : ∀ G, Old [] H1 G → ProgAt K C G x kis := fun G oG => (ProgAt.mk ⟨dx, t, sl, dp⟩).keep oG.same
    refine ⟨.ref x, rfl, (by show 2 ≤ sizeLine; decide), fun t1 n1 => ?_⟩
    have oA := Old.new0 (W := []) (o := HO.tup [.int 1, .int 7]) n1
    refine ⟨x, .ref t1, kis, [1, 7], rfl, pr _ oA, kis_ok, pk_dp upd_same, ⟨by decide, by decide, by decide⟩, fun H2 e1 o2 d1 => ?_⟩
    have o12 := oA.trans o2
    refine ⟨.ref x, rfl, (by show 1 ≤ sizeLine; decide), fun t2 n2 => ?_⟩
    have oB := Old.new0 (W := []) (o := HO.tup [.int 7]) n2
    refine ⟨x, .ref t2, kis, [7], rfl, pr _ (o12.trans oB), kis_ok, pk_dp upd_same, ⟨by decide, by decide, by decide⟩, fun H3 e2 o3 d2 => ?_⟩
    have o23 := oB.trans o3
    have o13 := o12.trans o23
    refine ⟨.ref x, rfl, (by show 2 ≤ sizeLine; decide), fun t3 n3 => ?_⟩
    have oC := Old.new0 (W := []) (o := HO.tup [.int 7, .int 1]) n3
    refine ⟨x, .ref t3, kis, [7, 1], rfl, pr _ (o13.trans oC), kis_ok, pk_dp upd_same, ⟨by decide, by decide, by decide⟩, fun H4 e3 o4 d3 => ?_⟩
    have o34 := oC.trans o4
    have o14 := o13.trans o34
    refine ⟨.ref x, rfl, (by show 3 ≤ sizeLine; decide), fun t4 n4 => ?_⟩
    have oD := Old.new0 (W := []) (o := HO.tup [.int 0, .int 7, .int 0]) n4
    refine ⟨x, .ref t4, kis, [0, 7, 0], rfl, pr _ (o14.trans oD), kis_ok, pk_dp upd_same, ⟨by decide, by decide, by decide⟩, fun H5 e4 o5 d4 => ?_⟩
    have o45 := oD.trans o5
    refine ⟨(by show 4 ≤ sizeLine; decide), fun l nl => ?_⟩
    have oL := Old.new0 (W := []) (o := HO.lst [.ref e1, .ref e2, .ref e3, .ref e4]) nl
    have tkL := oL.tk NoTup.nil
    have tk25 := ((o23.trans o34).trans o45).tk NoTup.nil
    have tk35 := (o34.trans o45).tk NoTup.nil
    have tk45 := o45.tk NoTup.nil
    have to : ∀ t, tupOnly (toldD t) = true := fun t => by cases t <;> rfl
    have hl : Dp K (upd H5 l (.lst [.ref e1, .ref e2, .ref e3, .ref e4])) (.ref l) (.list [toldD (PR.run kis [1, 7]).2, toldD (PR.run kis [7]).2, toldD (PR.run kis [7, 1]).2, cameD (PR.run kis [0, 7, 0]).1]) :=
      .lst (SqL.of upd_same) (.cons (PL.Dp.keep (tk25.trans tkL) _ _ (to _) d1) (.cons (PL.Dp.keep (tk35.trans tkL) _ _ (to _) d2) (.cons (PL.Dp.keep (tk45.trans tkL) _ _ (to _) d3) (.cons (PL.Dp.keep tkL _ _ (by rfl) d4) .nil))))
    have same : PyData.list [toldD (PR.run kis [1, 7]).2, toldD (PR.run kis [7]).2, toldD (PR.run kis [7, 1]).2, cameD (PR.run kis [0, 7, 0]).1] = .list [.tuple [.str "pass", .int 7], .tuple [.str "drop", .int 6], .tuple [.str "drop", .int 5], .tuple [.int 0, .int 1, .int 2, .int 3, .int 4, .int 7]] := rfl
    rw [same] at hl
    have oF : Old [] H (upd H5 l (.lst [.ref e1, .ref e2, .ref e3, .ref e4])) := (o1.trans (o14.trans o45)).trans oL
    generalize upd H5 l (.lst [.ref e1, .ref e2, .ref e3, .ref e4]) = H6 at hl oF ⊢
    have s1 : (PyData.list [.tuple [.str "pass", .int 7], .tuple [.str "drop", .int 6], .tuple [.str "drop", .int 5], .tuple [.int 0, .int 1, .int 2, .int 3, .int 4, .int 7]]).showable = true := by decide +kernel
    have s2 : (PyData.list [.tuple [.str "pass", .int 7], .tuple [.str "drop", .int 6], .tuple [.str "drop", .int 5], .tuple [.int 0, .int 1, .int 2, .int 3, .int 4, .int 7]]).hasDict = false := by decide +kernel
    have s3 : (PyData.list [.tuple [.str "pass", .int 7], .tuple [.str "drop", .int 6], .tuple [.str "drop", .int 5], .tuple [.int 0, .int 1, .int 2, .int 3, .int 4, .int 7]]).depth ≤ 60 := by decide +kernel
    have s4 : (PyData.list [.tuple [.str "pass", .int 7], .tuple [.str "drop", .int 6], .tuple [.str "drop", .int 5], .tuple [.int 0, .int 1, .int 2, .int 3, .int 4, .int 7]]).shown.length ≤ sizeLine := Nat.le_trans (by decide +kernel : _ ≤ 1000) (by decide)
    refine ⟨.ref l, rfl, l, _, rfl, hl, s1, s2, s3, s4, ?_⟩
    refine ⟨(by show 2 ≤ sizeLine; decide), fun u1 v1 => ⟨(by show 2 ≤ sizeLine; decide), fun u2 v2 => ⟨(by show 2 ≤ sizeLine; decide), fun u3 v3 => ⟨(by show 6 ≤ sizeLine; decide), fun u4 v4 => ⟨(by show 4 ≤ sizeLine; decide), fun m nm => ?_⟩⟩⟩⟩⟩
    have b1 := Old.new0 (W := []) (o := HO.tup [.str "pass", .int 7]) v1
    have b2 := Old.new0 (W := []) (o := HO.tup [.str "drop", .int 6]) v2
    have b3 := Old.new0 (W := []) (o := HO.tup [.str "drop", .int 5]) v3
    have b4 := Old.new0 (W := []) (o := HO.tup [.int 0, .int 1, .int 2, .int 3, .int 4, .int 7]) v4
    have b5 := Old.new0 (W := []) (o := HO.lst [.ref u1, .ref u2, .ref u3, .ref u4]) nm
    refine ⟨m, .list [.tuple [.str "pass", .int 7], .tuple [.str "drop", .int 6], .tuple [.str "drop", .int 5], .tuple [.int 0, .int 1, .int 2, .int 3, .int 4, .int 7]], rfl, .lst (SqL.of upd_same) (.cons ?_ (.cons ?_ (.cons ?_ (.cons ?_ .nil)))), s1, s2, s3, s4, rfl, ?_⟩
    · exact .tup (SqT.of ((((b2.trans b3).trans b4).trans b5) _ _ (by simp) upd_same)) (.cons (.str _) (.cons (.int _) .nil))
    · exact .tup (SqT.of (((b3.trans b4).trans b5) _ _ (by simp) upd_same)) (.cons (.str _) (.cons (.int _) .nil))
    · exact .tup (SqT.of ((b4.trans b5) _ _ (by simp) upd_same)) (.cons (.str _) (.cons (.int _) .nil))
    · exact .tup (SqT.of (b5 _ _ (by simp) upd_same)) (PL.Dp.ofInts [0, 1, 2, 3, 4, 7])
    · rw [decide_eq_true rfl]
      exact q _ (oF.trans ((((b1.trans b2).trans b3).trans b4).trans b5))
/-! _law_right: slots pot=0 lap=1 lines=2 program=3 turn=4 packet=5 came=6 told=7; cells [] -/
abbrev s_l_right : Stmt := topS 47
abbrev N_l_right : List Str := ["pot", "lap", "lines", "program", "turn", "packet", "came", "told"]
theorem sc_l_right : FnScope N_l_right ["pot"] (defScope s_l_right) := ⟨rfl, rfl, rfl, by decide +kernel, rfl, by decide +kernel, by decide +kernel⟩
theorem ok_right {f C : Addr} {fd : FuncData} (F : Fun K "_law_right" "_law_right" s_l_right f fd) (T : Bt mg) (M_Program : MkC P w K mg base CX0 "Program" C ["self", "text"] 6 (spPrInit K C)) (C_run : Cal P w K mg base CX0 "run" ["program", "packet"] 4 (spRun K C)) (W_run : CalW P w K mg base CX0 "run" ["program", "packet"] 4 (spRun K C)) (W_trace : CalW P w K mg base CX0 "trace" ["program", "packet"] 4 (spTrace K C))
    (C_l_program : Cal P w K mg base CX0 "_law_program" ["pot", "most"] 5 (spProg K)) (C_l_text : Cal P w K mg base CX0 "_law_text" ["lines"] 1 (spText K)) (C_l_packet : Cal P w K mg base CX0 "_law_packet" ["pot", "most"] 3 (spPacket K)) (C_l_of : Cal P w K mg base CX0 "_law_of" ["pot", "some"] 2 (spOf K)) (C_l_run : Cal P w K mg base CX0 "_law_run" ["lines", "packet"] 2 (spLRun K)) : FnOkG P w K mg base CX0 8 f fd ["pot"] spRight := by
  refine F.okG sc_l_right (fun vs H Q E h => ?_) (fun cdv A outer s H vs Q E hr hG h => ?_)
  · obtain ⟨a, rfl, _⟩ := h
    rfl
  · obtain ⟨a, rfl, hP, q⟩ := h
    refine ⟨_, (pss_cons (ps_for PassesOwn.never rfl (pi_range1 (by rfl) T.z_range (pa_cons pe_int pa_nil)) (pg_name (i := 1) sc_l_right.nd rfl (Or.inl rfl))
       (pss_cons (ps_set (i := 2) sc_l_right.nd rfl (.inl rfl) (pe_cal C_l_program hr (by rfl) pass0 (pa_cons (pv 0) (pa_cons pe_int pa_nil))))
        (pss_cons (ps_set (i := 3) sc_l_right.nd rfl (.inl rfl) (pe_makC M_Program hr (by rfl) pass0 (pa_cons (pe_cal C_l_text hr (by rfl) pass0 (pa_cons (pv 2) pa_nil)) pa_nil)))
        (pss_one (ps_for PassesOwn.never rfl (pi_range1 (by rfl) T.z_range (pa_cons pe_int pa_nil)) (pg_name (i := 4) sc_l_right.nd rfl (Or.inl rfl))
         (pss_cons (ps_set (i := 5) sc_l_right.nd rfl (.inl rfl) (pe_cal C_l_packet hr (by rfl) pass0 (pa_cons (pv 0) (pa_cons (pe_cal C_l_of hr (by rfl) pass0 (pa_cons (pv 0) (pa_cons (pe_lst (pa_cons pe_int (pa_cons pe_int (pa_cons pe_int pa_nil)))) pa_nil))) pa_nil))))
          (pss_cons (ps_asg (pe_cal C_l_run hr (by rfl) pass0 (pa_cons (pv 2) (pa_cons (pv 5) pa_nil))) (pg_tup (by rfl) (pgs_cons (pg_name (i := 6) sc_l_right.nd rfl (Or.inl rfl)) (pgs_cons (pg_name (i := 7) sc_l_right.nd rfl (Or.inl rfl)) pgs_nil))))
          (pss_cons (ps_if (PW.pt (pw_or (pt_cmpR op_ne (pe_callB (call_reprD hG hr.units) (by rfl) T.z_repr bz_repr (pa_cons (pe_cal C_run hr (by rfl) pass0 (pa_cons (pv 3) (pa_cons (pv 5) pa_nil))) pa_nil)) (pe_callB (call_reprD hG hr.units) (by rfl) T.z_repr bz_repr (pa_cons (pv 7) pa_nil)) (nomark _)) (pw_or1 (pt_cmpR op_ne (pe_callB (call_reprD hG hr.units) (by rfl) T.z_repr bz_repr (pa_cons (pe_calW W_run hr (by rfl) pass0 (pk_cons (pv 5) (pk_cons (pv 3) pk_nil))) pa_nil)) (pe_callB (call_reprD hG hr.units) (by rfl) T.z_repr bz_repr (pa_cons (pv 7) pa_nil)) (nomark _)))))
           (pss_one (ps_ret pe_bl))
           pss_nil)
          (pss_one (ps_if (pt_cmpR op_ne (pe_callB (call_reprD hG hr.units) (by rfl) T.z_repr bz_repr (pa_cons (pe_calW W_trace hr (by rfl) pass0 (pk_cons (pv 5) (pk_cons (pv 3) pk_nil))) pa_nil)) (pe_callB (call_reprD hG hr.units) (by rfl) T.z_repr bz_repr (pa_cons (pe_callTy call_tuple_of (by rfl) T.z_tuple bz_tuple (pa_cons (pv 6) pa_nil)) pa_nil)) (nomark _))
           (pss_one (ps_ret pe_bl))
           pss_nil))))))))))
      (pss_one (ps_ret pe_bl))), ?_⟩
    refine ⟨6, rfl, by decide, by decide, for_range (lo := 0) (n := (6 : Int).toNat) (fun i σ H' => ∃ (y1 y2 y3 y4 y5 y6 y7 : Option V), σ = [some (.ref a), y1, y2, y3, y4, y5, y6, y7] ∧ Old [a] H H' ∧ Pot H' a (2000 * i))
      ⟨none, none, none, none, none, none, none, rfl, Old.refl _ _, hP.mono (by omega)⟩ ?_ ?_⟩
    · rintro i σ H1 hi ⟨y1, y2, y3, y4, y5, y6, y7, rfl, o1, p1⟩
      have hi : i < 6 := hi
      refine ⟨.ref a, rfl, a, _, rfl, p1, by omega, fun H2 l is L o2 p2 nla ⟨rs, hl, hrs⟩ => ?_⟩
      refine ⟨.ref l, rfl, l, is, rfl, ⟨rs, hl, hrs⟩, L, fun H3 o3 => ?_⟩
      have hl3 := o3 _ _ (by simp) hl
      have p3 := p2.old o3 (by simp)
      have hrs3 := PL.Dp.keepAll (o3.tk NoTup.nil) _ _ (linesA_only is) hrs
      refine fun p dx np ndx nn => ?_
      have nap : a ≠ p := p3.ne np
      have nadx : a ≠ dx := p3.ne ndx
      have o34 : Old [] H3 (upd (upd H3 dx (.own p)) p (.ins C dx [])) := (Old.new0 ndx).put0 np
      refine ⟨H3, p, dx, is, rfl, L, o34, np, ndx, nn, upd_same, by rw [upd_ne nn, upd_same], fun H4 t o4 sl dp => ⟨rfl, ?_⟩⟩
      have hl4 := o4 _ _ (by simp) hl3
      have p4 := p3.old o4 (by simp)
      have hrs4 := PL.Dp.keepAll (o4.tk NoTup.nil) _ _ (linesA_only is) hrs3
      have o04 : Old [a] H H4 := ((o1.trans o2).trans (o3.mono (fun x h => by simp at h))).trans (o4.mono (fun x h => by simp at h))
      clear hrs3 hl3 p3 hrs hl p2 o34 o3 o2 o1 p1 np ndx
      refine ⟨8, rfl, by decide, by decide, for_range (lo := 0) (n := (8 : Int).toNat) (fun j σ H' => ∃ (y4 y5 y6 y7 : Option V), σ = [some (.ref a), some (.int (0 + (i : Int))), some (.ref l), some (.ref p), y4, y5, y6, y7] ∧ Old [a] H4 H' ∧ Pot H' a (2000 * i + 500 + 100 * j))
        ⟨y4, y5, y6, y7, rfl, Old.refl _ _, p4⟩ ?_ ?_⟩
      · rintro j σ H5 hj ⟨y4, y5, y6, y7, rfl, o5, p5⟩
        have hj : j < 8 := hj
        refine ⟨.ref a, rfl, .ref a, rfl, (by show 3 ≤ sizeLine; decide), fun l2 nl2 => ?_⟩
        have nal2 : a ≠ l2 := p5.ne nl2
        have oL : Old [] H5 (upd H5 l2 (.lst [.int 2, .int 4, .int 24])) := Old.new0 nl2
        refine ⟨a, l2, _, _, rfl, p5.old oL (by simp), SqL.of upd_same, nal2.symm, by show 0 < 3; decide, by show 3 < 1000; decide, by omega, fun H6 x hx o6 p6 => ?_⟩
        obtain ⟨m, rfl, m1, m2⟩ : ∃ m : Int, x = .int m ∧ 1 ≤ m ∧ m ≤ 24 := by
          simp only [List.mem_cons, List.not_mem_nil, or_false] at hx
          rcases hx with rfl | rfl | rfl <;> exact ⟨_, rfl, by decide, by decide⟩
        refine ⟨a, _, m, rfl, p6, by omega, m1, m2, fun H7 tp pk pok o7 p7 hpk => ?_⟩
        have o57 : Old [a] H5 H7 := ((oL.mono (fun x h => by simp at h)).trans o6).trans o7
        have o47 := o5.trans o57
        have tk47 := o47.tk p4.notup
        have prog : ∀ G, Old [a] H4 G → ProgAt K C G p is := fun G oG => ⟨dx, t, slt_old sl oG nap.symm nadx.symm, PL.Dp.keep (oG.tk p4.notup) _ _ (linesD_only is) dp⟩
        have lin : ∀ G, Old [a] H4 G → LinesAt K G l is := fun G oG => ⟨rs, oG _ _ (by simp; exact nla) hl4, PL.Dp.keepAll (oG.tk p4.notup) _ _ (linesA_only is) hrs4⟩
        obtain ⟨sh1, sh2⟩ := run_small L pk
        refine ⟨.ref l, rfl, .ref tp, rfl, l, .ref tp, is, pk, rfl, lin _ o47, L, hpk, pok, fun H8 u c e o8 hu hc he => ?_⟩
        have o48 : Old [a] H4 H8 := o47.trans (o8.mono (fun x h => by simp at h))
        have hpk8 := PL.Dp.keep (o8.tk NoTup.nil) _ _ (pkD_only pk) hpk
        refine ⟨u, _, rfl, SqT.of hu, rfl, _, _, rfl, _, _, rfl, rfl, ?_⟩
        -- run
        refine ⟨.ref p, rfl, .ref tp, rfl, p, .ref tp, is, pk, rfl, prog _ o48, L, hpk8, pok, fun H9 e1 o9 d1 => ?_⟩
        have he9 := o9 _ _ (by simp) he
        have toD : ∀ G, G e = some (.tup (PR.toldV (PR.run is pk).2)) → Dp K G (.ref e) (toldD (PR.run is pk).2) := fun G h => .tup (SqT.of h) (told_dp _)
        refine ⟨e1, toldD (PR.run is pk).2, rfl, d1, sh1.sh, sh1.nd, Nat.le_trans sh1.dp (by decide), Nat.le_trans sh1.ln (by decide), ?_⟩
        refine ⟨.ref e, rfl, e, toldD (PR.run is pk).2, rfl, toD _ he9, sh1.sh, sh1.nd, Nat.le_trans sh1.dp (by decide), Nat.le_trans sh1.ln (by decide), rfl, false, by simp, iteF ?_⟩
        have o49 : Old [a] H4 H9 := o48.trans (o9.mono (fun x h => by simp at h))
        have hpk9 := PL.Dp.keep (o9.tk NoTup.nil) _ _ (pkD_only pk) hpk8
        refine ⟨.ref tp, rfl, .ref p, rfl, p, .ref tp, is, pk, rfl, prog _ o49, L, hpk9, pok, fun H10 e2 o10 d2 => ?_⟩
        have he10 := o10 _ _ (by simp) he9
        refine ⟨e2, toldD (PR.run is pk).2, rfl, d2, sh1.sh, sh1.nd, Nat.le_trans sh1.dp (by decide), Nat.le_trans sh1.ln (by decide), ?_⟩
        refine ⟨.ref e, rfl, e, toldD (PR.run is pk).2, rfl, toD _ he10, sh1.sh, sh1.nd, Nat.le_trans sh1.dp (by decide), Nat.le_trans sh1.ln (by decide), rfl, false, by simp, iteF ?_⟩
        have o410 : Old [a] H4 H10 := o49.trans (o10.mono (fun x h => by simp at h))
        have hpk10 := PL.Dp.keep (o10.tk NoTup.nil) _ _ (pkD_only pk) hpk9
        refine ⟨.ref tp, rfl, .ref p, rfl, p, .ref tp, is, pk, rfl, prog _ o410, L, hpk10, pok, fun H11 e3 o11 d3 => ?_⟩
        have hc11 := o11 _ _ (by simp) (o10 _ _ (by simp) (o9 _ _ (by simp) hc))
        refine ⟨e3, cameD (PR.run is pk).1, rfl, d3, sh2.sh, sh2.nd, Nat.le_trans sh2.dp (by decide), Nat.le_trans sh2.ln (by decide), ?_⟩
        refine ⟨.ref c, rfl, c, _, rfl, .inl ⟨SqL.of hc11, fun v nv => ?_⟩⟩
        have o12 := Old.new0 (W := []) (o := HO.tup ((PR.run is pk).1.map fun (a : Nat) => V.int (a : Int))) nv
        refine ⟨v, cameD (PR.run is pk).1, rfl, .tup (SqT.of upd_same) ?_, sh2.sh, sh2.nd, Nat.le_trans sh2.dp (by decide), Nat.le_trans sh2.ln (by decide), rfl, false, by simp, iteF ?_⟩
        · have := PL.Dp.ofInts (K := K) (H := upd H11 v (.tup ((PR.run is pk).1.map fun (a : Nat) => V.int (a : Int)))) ((PR.run is pk).1.map fun (a : Nat) => (a : Int))
          rw [List.map_map, List.map_map] at this
          exact this
        have o713 := (((o8.trans o9).trans o10).trans o11).trans o12
        exact ⟨_, _, _, _, rfl, o47.trans (o713.mono (fun x h => by simp at h)), (p7.old o713 (by simp)).mono (by omega)⟩
      · rintro σ H5 ⟨y4, y5, y6, y7, rfl, o5, p5⟩
        exact ⟨_, _, _, _, _, _, _, rfl, o04.trans o5, p5.mono (by show 2000 * i + 500 + 100 * 8 ≤ 2000 * (i + 1); omega)⟩
    · rintro σ H1 ⟨y1, y2, y3, y4, y5, y6, y7, rfl, o1, p1⟩
      exact q H1 o1
/-! law: slots script=0 at=1; cells ['script'] -/
abbrev s_law : Stmt := topS 48
abbrev N_law : List Str := ["script", "at"]
theorem sc_law : FnScope N_law ["script"] (defScope s_law) := ⟨rfl, rfl, rfl, by decide +kernel, rfl, by decide +kernel, by decide +kernel⟩
theorem ok_law {f : Addr} {fd : FuncData} (F : Fun K "law" "law" s_law f fd) (T : Bt mg) (C_l_known_right : CalG P w K mg base CX0 "_law_known_right" [] 8 spKnown) (C_l_right : CalG P w K mg base CX0 "_law_right" ["pot"] 8 spRight) (C_l_pot : Cal P w K mg base CX0 "_law_pot" ["script", "place"] 1 (spPot K)) (C_l_cells : Cal P w K mg base CX0 "_law_cells" ["script", "most"] 1 (spCells K)) : FnOkG P w K mg base CX0 9 f fd ["script"] (spLaw K) := by
  refine F.okG sc_law (fun vs H Q E h => ?_) (fun cdv A outer s H vs Q E hr hG h => ?_)
  · obtain ⟨a, ns, rfl, _⟩ := h
    rfl
  · obtain ⟨a, ns, rfl, hs, hl, q⟩ := h
    refine ⟨_, (pss_cons (ps_if (pt_not (pt_val (pe_calG0 C_l_known_right hr hG (by rfl) pass0)))
       (pss_one (ps_ret pe_bl))
       pss_nil)
      (pss_one (ps_ret (pe_callB (cr_all rfl) (by rfl) T.z_all bz_all (pa_cons (pe_lc (own := [("at", 1)]) (g := gName 1) (tt := tYes) rfl sc_law.nd (pi_list (pe_cal C_l_cells hr (by rfl) pass0 (pa_cons (pv 0) (pa_cons pe_int pa_nil)))) (blkOk_by (N := N_law) (sc := defScope s_law) (by decide +kernel)) (fun _ _ _ _ _ => (pg_name (i := 1) sc_law.nd rfl (Or.inl rfl))) (fun _ _ _ _ _ => pts_nil) (fun _ _ _ _ _ => (pe_calG C_l_right hr hG (by rfl) pass0 (pa_cons (pe_cal C_l_pot hr (by rfl) pass0 (pa_cons (pv 0) (pa_cons (pv 1) pa_nil))) pa_nil)))) pa_nil))))), ?_⟩
    refine ⟨rfl, fun H0 o0 => ⟨true, rfl, iteF ?_⟩⟩
    have hs := o0.seqL hs (by simp)
    refine ⟨.ref a, rfl, a, ns, 3, rfl, hs, hl, by decide, by decide, fun H1 c k k1 k2 o1 _ hc => ?_⟩
    refine ⟨c, rfl, ⟨_, SqL.of hc⟩, fun D nD => ?_⟩
    have ncD : c ≠ D := ne_of_none hc nD
    refine lc_list (K := K) (a := c) (xs := (List.range k).map fun i => V.int ((i : Nat) : Int)) (fun i H' => Old [] H1 H' ∧ H' D = some (.lst ((List.replicate i true).map V.bl))) ⟨Old.new0 nD, upd_same⟩ (fun i H' _ h => SqL.of (h.1 _ _ (by simp) hc)) ?_ ?_
    · rintro i y H2 hy ⟨o2, h2⟩
      have hi : i < k := by have := (List.getElem?_eq_some_iff.mp hy).1; rw [List.length_map, List.length_range] at this; exact this
      rw [List.getElem?_map, List.getElem?_range hi] at hy
      have ey : y = .int (i : Int) := (Option.some.inj hy).symm
      subst ey
      refine ⟨rfl, .ref a, rfl, .int (i : Int), rfl, a, ns, (i : Int), rfl, (o1.trans o2).seqL hs (by simp), hl, by omega, by omega, fun H3 p o3 np hp => ?_⟩
      have nDp : D ≠ p := fun z => by rw [z, np] at h2; cases h2
      refine ⟨p, rfl, hp, fun H4 o4 => ?_⟩
      have o24 : Old [] H2 H4 := fun b o _ e => o4 b o (by simp; intro z; rw [z, np] at e; cases e) (o3 b o (by simp) e)
      refine ⟨_, o24 _ _ (by simp) h2, ?_, (o2.trans o24).put0 nD, ?_⟩
      · rw [List.length_map, List.length_replicate]; exact Nat.lt_of_lt_of_le (Nat.lt_of_lt_of_le hi k2) (by decide)
      · rw [upd_same, List.replicate_succ', List.map_append]; rfl
    · rintro H2 ⟨o2, h2⟩
      refine ⟨D, _, rfl, SqL.of h2, ?_⟩
      have e : (List.replicate ((List.range k).map fun i => V.int ((i : Nat) : Int)).length true).all id = true := by
        rw [List.all_eq_true]
        intro b hb
        rw [(List.mem_replicate.mp hb).2]; rfl
      rw [e]
      exact q H2
end
end L2.T31

namespace L2.PL
open PySem PySem.Spec PyProof.Rows
/-! ### the head, for a law that shows things: nothing is being shown where it is called -/
/-- a heap in which at most the script, at a, is tracked -/
structure Scr (P : Program) (w : World) (K : PySem.W.Frag) (h : Heap) (a : Addr) (ns : List Int) (H : Hp) : Prop where
  only : Only H
  seq : SqL K H a (ns.map V.int)
  hok : HOk P w H h
  here : ∀ {b : Addr}, H b ≠ none → b = a
  out : H a ≠ none → K.lookup a = none
section
variable {P : Program} {w : World} {K : PySem.W.Frag} {mg mb : Str → Option Value} {CX : CXT} {k : Nat} {fa a : Addr} {fd : FuncData} {x : Str} {sp : Sp} {s₁ : Shared} {vs : List Value} {ns : List Int} {H : Hp}
/-- what a law's call comes to -/
abbrev LawDone (P : Program) (w : World) (fa a : Addr) (s₁ : Shared) : Prop :=
  codeAny (model P w) callerA (.call (.ref fa) ⟨[.ref a], []⟩) (fun r s' => r = .ok (.ret (.bool true)) ∧ OldK s₁.heap s'.heap ∧ s'.os = s₁.os ∧ AllBare s'.gens) s₁
theorem Scr.hid (c : Scr P w K s₁.heap a ns H) {b : Addr} {o : Obj} (e : s₁.heap.get? b = some o) (n : b = a → H a = none) : (hidT s₁.heap H).get? b = some o := by
  apply hidT_get e
  cases q : H b with
  | none => rfl
  | some u =>
    have z : b = a := c.here (by rw [q]; exact fun y => nomatch y)
    have := n z
    rw [← z, q] at this
    cases this
theorem Scr.mod (c : Scr P w K s₁.heap a ns H) (KX : K.In s₁.heap) (g : s₁.heap.Ns mainGlobals mg) (b : s₁.heap.Ns builtinsNs mb) (bb : ∀ x : Str, x ≠ "__name__" → mb x = bootBuiltins x) (lim : s₁.heap.NoLimit)
    (ha : s₁.heap.get? a = some { cls := .type "list", data := .seq vs.toArray }) : Mod K mg (hidT s₁.heap H) := by
  have ns_ : ∀ {d : Addr} {m : Str → Option Value}, s₁.heap.Ns d m → (hidT s₁.heap H).Ns d m := by
    rintro d m ⟨o, es, ep, e, dd, r⟩
    refine ⟨o, es, ep, c.hid e fun z => ?_, dd, r⟩
    rw [z, ha] at e
    have : Data.seq vs.toArray = Data.dict es ep := by rw [← dd, ← Option.some.inj e]
    cases this
  have kin : K.In (hidT s₁.heap H) := fun d o e => c.hid (KX d o e) fun z => by
    cases q : H a with
    | none => rfl
    | some u =>
      have := c.out (by rw [q]; exact fun y => nomatch y)
      rw [← z, e] at this
      cases this
  obtain ⟨mc, l1, l2⟩ := lim
  exact ⟨kin, ns_ g, ⟨mb, ns_ b, bb⟩, mc, ns_ l1, l2⟩
theorem Scr.done (c : Scr P w K s₁.heap a ns H) (KX : K.In s₁.heap) (g : s₁.heap.Ns mainGlobals mg) (b : s₁.heap.Ns builtinsNs mb) (bb : ∀ x : Str, x ≠ "__name__" → mb x = bootBuiltins x) (lim : s₁.heap.NoLimit) (gens : s₁.gens = #[])
    (ha : s₁.heap.get? a = some { cls := .type "list", data := .seq vs.toArray }) (hr : Room k callerA)
    (F : ∀ base : Heap, K.In base → base.Ns mainGlobals mg → FnOkG P w K mg base CX k fa fd [x] sp) (hbind : ∀ (s : Shared) (u : Value), BindsTo s fd ⟨[u], []⟩ [(x, u)])
    (hsp : sp [.ref a] H (fun v _ => v = .bl true) fun _ _ _ => False) (hCX : ∀ H e s', CX [] H s₁ (fun _ _ _ => False) e s' → False) : LawDone P w fa a s₁ := by
  have M := c.mod KX g b bb lim ha
  have E : Env0 P w K mg (hidT s₁.heap H) callerA [] s₁ H :=
    ⟨rfl, M, fun b o e => of_hidT e, Nat.le_of_eq (hidT_size _ _), trivial, fun b hb => (by cases hb), c.hok, .of_eq gens⟩
  have run := (F _ M.kin M.glob).run callerA [] s₁ H ⟨[.ref a], []⟩ [.ref a] [.ref a] _ _ hr rfl E (hbind s₁ (.ref a)) (.cons rfl .nil) hsp
  refine codeAny_mono run fun r s' h => ?_
  match r, h with
  | .error e, h => exact (hCX H e s' h).elim
  | .ok .next, h => exact h.elim
  | .ok .brk, h => exact h.elim
  | .ok .cont, h => exact h.elim
  | .ok (.ret u), h =>
    obtain ⟨v, H', hos, bare, un, hok', rv, ev⟩ := h
    have ev : v = .bl true := ev
    subst ev
    obtain rfl : u = Value.bool true := rv
    refine ⟨rfl, OldK.of_keep fun d o e => ?_, hos, bare⟩
    rcases c.only d with z | ⟨ob, xs, z⟩
    · exact un.keep d o e z (fun y => by cases y) (fun y => by cases y)
    · obtain ⟨e1, _⟩ := c.hok d _ z
      obtain ⟨e2, _⟩ := hok' d _ (un.frzs d ob _ z)
      rw [e1] at e
      rw [← Option.some.inj e]
      exact e2
/-- the head of a law that shows things -/
theorem law_callG (KX : K.In s₁.heap) (g : s₁.heap.Ns mainGlobals mg) (b : s₁.heap.Ns builtinsNs mb) (bb : ∀ x : Str, x ≠ "__name__" → mb x = bootBuiltins x) (lim : s₁.heap.NoLimit) (gens : s₁.gens = #[])
    (ha : s₁.heap.get? a = some { cls := .type "list", data := .seq vs.toArray }) (hi : IntsAre vs ns) (hl : ns.length ≤ sizeLine) (hr : Room k callerA)
    (F : ∀ base : Heap, K.In base → base.Ns mainGlobals mg → FnOkG P w K mg base CX k fa fd [x] sp) (hbind : ∀ (s : Shared) (u : Value), BindsTo s fd ⟨[u], []⟩ [(x, u)])
    (hsp : ∀ H : Hp, Only H → SqL K H a (ns.map V.int) → sp [.ref a] H (fun v _ => v = .bl true) fun _ _ _ => False) (hCX : ∀ H e s', CX [] H s₁ (fun _ _ _ => False) e s' → False) : LawDone P w fa a s₁ := by
  have rv : Vals (ns.map V.int) vs := vals_ints hi
  have go : ∀ H : Hp, Scr P w K s₁.heap a ns H → LawDone P w fa a s₁ := fun H c => c.done KX g b bb lim gens ha hr F hbind (hsp H c.only c.seq) hCX
  cases hk : K.lookup a with
  | some o =>
    have e := (KX a o hk).symm.trans ha
    cases e
    refine go (fun _ => none) ⟨fun _ => .inl rfl, .inr ⟨_, vs.toArray, _, hk, rfl, rfl, rfl, ?_, by simpa using rv⟩, fun b u z => (nomatch z), fun z => (z rfl).elim, fun z => (z rfl).elim⟩
    rw [List.size_toArray, hi.length]; exact hl
  | none =>
    have hH : ∀ b : Addr, b ≠ a → (fun b => if b = a then some (HO.frz { cls := .type "list", data := .seq vs.toArray } (.lst (ns.map V.int))) else none : Hp) b = none := fun b h => if_neg h
    refine go _ ⟨fun b => ?_, .inl (.inr ⟨_, if_pos rfl⟩), fun b u z => ?_, fun {b} z => Classical.byContradiction fun h => z (hH b h), fun _ => hk⟩
    · by_cases h : b = a
      · exact .inr ⟨_, _, if_pos h⟩
      · exact .inl (hH b h)
    · by_cases h : b = a
      · have q := (if_pos h).symm.trans z
        cases q
        subst h
        exact ⟨ha, by rw [List.length_map]; exact hl, vs, _, rv, ha⟩
      · have q := (hH b h).symm.trans z
        cases q
end
/-- the goal that the head leaves, from the promise of a law that shows things -/
theorem walk_ofG {l : PySem.W.OpenLaw} {n k : Nat} {q : Program} {loose : List Str} {XP : (Str → Option Value) → Heap → Prop} {YP : World → Heap → Prop} {d : DefRec} {K : Params → PySem.W.Frag} {sp : PySem.W.Frag → Sp} {x : Str}
    (most : l.most = some n) (small : n ≤ sizeLine) (df : d.params.defaults = []) (hr : Room k callerA) (inY : ∀ (w : World) (h : Heap), YP w h → (K w.params).In h)
    (F : ∀ (w : World) (mg : Str → Option Value) (fa : Addr) (h : Heap), (K w.params).In h → h.Ns mainGlobals mg → mg d.name = some (.ref fa) → ∃ fd : FuncData, (∀ (s : Shared) (u : Value), BindsTo s fd ⟨[u], []⟩ [(x, u)]) ∧
        ∀ base : Heap, (K w.params).In base → base.Ns mainGlobals mg → FnOkG l.prog w (K w.params) mg base CX0 k fa fd [x] (sp (K w.params)))
    (right : ∀ (K : PySem.W.Frag) (H : Hp) (a : Addr) (ns : List Int), ns.length ≤ n → SqL K H a (ns.map V.int) → sp K [.ref a] H (fun v _ => v = .bl true) fun _ _ _ => False) :
    PySem.W.WalkO q loose XP YP l.row.toRowW d [] (fun f vs => PySem.call f vs) :=
  Att.attach_call most df fun w _ _ mg _ fa _ _ _ _ a _ ns G Y _ _ _ hmg hobj hints hlen hg => by
    obtain ⟨fd, hb, hF⟩ := F w mg fa _ (inY w _ Y) G.T.g hmg
    exact law_callG (inY w _ Y) G.T.g G.T.b G.T.builtins G.T.nolimit hg hobj hints (Nat.le_trans hlen small) hr hF hb (fun H _ hS => right _ H a ns hlen hS) fun H e s' h => h
end L2.PL

open PySem PySem.W PyProof.Rows
open_top hd31 for PySem.Challenge.rw_passedastold_k31_programs_run_line_by_li

namespace L2.T31
open PySem PySem.Spec PyProof.Rows L2.PL
/-! what the top has written, each a fact that k_is finds; and the law's own head -/
theorem all_mk {l : PySem.W.OpenLaw} {w : World} {K : PySem.W.Frag} {h : Heap} {mg : Str → Option Value} {fa C_Program p0_Program p1_Program dF dN ta_copy ta_add ta_load ta_less ta_atmost ta_same f_is_int f_number_in f_signed_in f_word_in f_instruction_in f_read_lines f_Pr_init f_Pr_lines pp_Pr_lines f_is_packet f_look_at_packet f_is_unset f_does_go f_put f_gone f_run f_trace f_l_pot f_l_take f_l_of f_l_cells f_l_number f_l_instruction f_l_program f_l_text f_l_packet f_l_lacks f_l_run f_l_known_right f_l_right f_law : Addr} {tk_FIGURES tk_MOST_CELLS tk_MOST_CELL tk_MOST_LINES tk_MOST_NUMBER tk_REGISTERS tk_WRONG tk_UNSET tk_BEYOND tk_END tk_FORMS_set tk_FORMS_copy tk_FORMS_add tk_FORMS_length tk_FORMS_load tk_FORMS_jump tk_FORMS_less tk_FORMS_atmost tk_FORMS_same tk_FORMS_pass tk_FORMS_drop tk_NEEDS_copy_0 tk_NEEDS_add_0 tk_NEEDS_load_0 tk_NEEDS_less_0 tk_NEEDS_less_1 tk_NEEDS_atmost_0 tk_NEEDS_same_0 : Tok}
    {od_is_int an_is_int od_number_in an_number_in od_signed_in an_signed_in od_word_in an_word_in od_instruction_in an_instruction_in od_read_lines an_read_lines od_Pr_init an_Pr_init od_Pr_lines an_Pr_lines od_is_packet an_is_packet od_look_at_packet an_look_at_packet od_is_unset an_is_unset od_does_go an_does_go od_put an_put od_gone an_gone od_run an_run od_trace an_trace od_l_pot an_l_pot od_l_take an_l_take od_l_of an_l_of od_l_cells an_l_cells od_l_number an_l_number od_l_instruction an_l_instruction od_l_program an_l_program od_l_text an_l_text od_l_packet an_l_packet od_l_lacks an_l_lacks od_l_run an_l_run od_l_known_right an_l_known_right od_l_right an_l_right od_law an_law : Option Addr} {sl_is_int sl_number_in sl_signed_in sl_word_in sl_instruction_in sl_read_lines sl_Pr_init sl_Pr_lines sl_is_packet sl_look_at_packet sl_is_unset sl_does_go sl_put sl_gone sl_run sl_trace sl_l_pot sl_l_take sl_l_of sl_l_cells sl_l_number sl_l_instruction sl_l_program sl_l_text sl_l_packet sl_l_lacks sl_l_run sl_l_known_right sl_l_right sl_law : Array (Option Value)} {oc_is_int kV_is_int dc_is_int pm_is_int cd_is_int ct_is_int oc_number_in kV_number_in dc_number_in pm_number_in cd_number_in ct_number_in oc_signed_in kV_signed_in dc_signed_in pm_signed_in cd_signed_in ct_signed_in oc_word_in kV_word_in dc_word_in pm_word_in cd_word_in ct_word_in oc_instruction_in kV_instruction_in dc_instruction_in pm_instruction_in cd_instruction_in ct_instruction_in oc_read_lines kV_read_lines dc_read_lines pm_read_lines cd_read_lines ct_read_lines oc_Pr_init kV_Pr_init dc_Pr_init pm_Pr_init cd_Pr_init ct_Pr_init oc_Pr_lines kV_Pr_lines dc_Pr_lines pm_Pr_lines cd_Pr_lines ct_Pr_lines oc_is_packet kV_is_packet dc_is_packet pm_is_packet cd_is_packet ct_is_packet oc_look_at_packet kV_look_at_packet dc_look_at_packet pm_look_at_packet cd_look_at_packet ct_look_at_packet oc_is_unset kV_is_unset dc_is_unset pm_is_unset cd_is_unset ct_is_unset oc_does_go kV_does_go dc_does_go pm_does_go cd_does_go ct_does_go oc_put kV_put dc_put pm_put cd_put ct_put oc_gone kV_gone dc_gone pm_gone cd_gone ct_gone oc_run kV_run dc_run pm_run cd_run ct_run oc_trace kV_trace dc_trace pm_trace cd_trace ct_trace oc_l_pot kV_l_pot dc_l_pot pm_l_pot cd_l_pot ct_l_pot oc_l_take kV_l_take dc_l_take pm_l_take cd_l_take ct_l_take oc_l_of kV_l_of dc_l_of pm_l_of cd_l_of ct_l_of oc_l_cells kV_l_cells dc_l_cells pm_l_cells cd_l_cells ct_l_cells oc_l_number kV_l_number dc_l_number pm_l_number cd_l_number ct_l_number oc_l_instruction kV_l_instruction dc_l_instruction pm_l_instruction cd_l_instruction ct_l_instruction oc_l_program kV_l_program dc_l_program pm_l_program cd_l_program ct_l_program oc_l_text kV_l_text dc_l_text pm_l_text cd_l_text ct_l_text oc_l_packet kV_l_packet dc_l_packet pm_l_packet cd_l_packet ct_l_packet oc_l_lacks kV_l_lacks dc_l_lacks pm_l_lacks cd_l_lacks ct_l_lacks oc_l_run kV_l_run dc_l_run pm_l_run cd_l_run ct_l_run oc_l_known_right kV_l_known_right dc_l_known_right pm_l_known_right cd_l_known_right ct_l_known_right oc_l_right kV_l_right dc_l_right pm_l_right cd_l_right ct_l_right oc_law kV_law dc_law pm_law cd_law ct_law : Value}
    {es_FORMS es_NEEDS : Array DictEntry} {n_FORMS n_NEEDS nn_copy nn_add nn_load nn_less nn_atmost nn_same : Nat} {dd_copy dd_add dd_load dd_less dd_atmost dd_same : Option Addr} {ss_copy ss_add ss_load ss_less ss_atmost ss_same : Array (Option Value)} {rest_Pr_lines : List Value}
    (X : K.In h) (G : h.Ns mainGlobals mg) (hfa : mg "law" = some (.ref fa))
    (g_FIGURES : PySem.W.nsIn K mainGlobals "FIGURES" = some (some (.str "0123456789" tk_FIGURES)))
    (g_MOST_CELLS : PySem.W.nsIn K mainGlobals "MOST_CELLS" = some (some (.int 24 tk_MOST_CELLS)))
    (g_MOST_CELL : PySem.W.nsIn K mainGlobals "MOST_CELL" = some (some (.int 255 tk_MOST_CELL)))
    (g_MOST_LINES : PySem.W.nsIn K mainGlobals "MOST_LINES" = some (some (.int 200 tk_MOST_LINES)))
    (g_MOST_NUMBER : PySem.W.nsIn K mainGlobals "MOST_NUMBER" = some (some (.int 9999 tk_MOST_NUMBER)))
    (g_REGISTERS : PySem.W.nsIn K mainGlobals "REGISTERS" = some (some (.str "abcdef" tk_REGISTERS)))
    (g_WRONG : PySem.W.nsIn K mainGlobals "WRONG" = some (some (.str "wrong" tk_WRONG)))
    (g_UNSET : PySem.W.nsIn K mainGlobals "UNSET" = some (some (.str "unset" tk_UNSET)))
    (g_BEYOND : PySem.W.nsIn K mainGlobals "BEYOND" = some (some (.str "beyond" tk_BEYOND)))
    (g_END : PySem.W.nsIn K mainGlobals "END" = some (some (.str "end" tk_END)))
    (z_isinstance : PySem.W.nsIn K mainGlobals "isinstance" = some none)
    (z_len : PySem.W.nsIn K mainGlobals "len" = some none)
    (z_all : PySem.W.nsIn K mainGlobals "all" = some none)
    (z_any : PySem.W.nsIn K mainGlobals "any" = some none)
    (z_min : PySem.W.nsIn K mainGlobals "min" = some none)
    (z_max : PySem.W.nsIn K mainGlobals "max" = some none)
    (z_abs : PySem.W.nsIn K mainGlobals "abs" = some none)
    (z_sum : PySem.W.nsIn K mainGlobals "sum" = some none)
    (z_repr : PySem.W.nsIn K mainGlobals "repr" = some none)
    (z_sorted : PySem.W.nsIn K mainGlobals "sorted" = some none)
    (z_int : PySem.W.nsIn K mainGlobals "int" = some none)
    (z_bool : PySem.W.nsIn K mainGlobals "bool" = some none)
    (z_str : PySem.W.nsIn K mainGlobals "str" = some none)
    (z_tuple : PySem.W.nsIn K mainGlobals "tuple" = some none)
    (z_list : PySem.W.nsIn K mainGlobals "list" = some none)
    (z_range : PySem.W.nsIn K mainGlobals "range" = some none)
    (z_enumerate : PySem.W.nsIn K mainGlobals "enumerate" = some none)
    (z_zip : PySem.W.nsIn K mainGlobals "zip" = some none)
    (cn_Program : PySem.W.nsIn K mainGlobals "Program" = some (some (.ref C_Program)))
    (pg_Program : PySem.W.plainGet K C_Program Str.empty = true)
    (ic_Program : PySem.W.isClsIn K C_Program = true)
    (po_Program : PySem.W.plainOver K C_Program = true)
    (sa_Program : PySem.W.findIn K (.ref C_Program) "__setattr__" = some (some (.builtin "object.__setattr__")))
    (mk_Program : PySem.W.makesIn K C_Program = true)
    (kc_Program : PySem.W.keepIn K (.ref C_Program) = true)
    (q0_Program : PySem.W.findIn K (.ref C_Program) "own_lines" = some (some (.ref p0_Program)))
    (u0_Program : PySem.W.specialIn K (.ref p0_Program) "__get__" = some (some (.builtin "member_descriptor.__get__")))
    (v0_Program : PySem.W.takesIn K (.ref p0_Program) = some true)
    (w0_Program : PySem.W.typeIn K (.ref p0_Program) = some (.type "member_descriptor"))
    (x0_Program : PySem.W.slotIn K p0_Program C_Program = some 0)
    (q1_Program : PySem.W.findIn K (.ref C_Program) "own_text" = some (some (.ref p1_Program)))
    (u1_Program : PySem.W.specialIn K (.ref p1_Program) "__get__" = some (some (.builtin "member_descriptor.__get__")))
    (v1_Program : PySem.W.takesIn K (.ref p1_Program) = some true)
    (w1_Program : PySem.W.typeIn K (.ref p1_Program) = some (.type "member_descriptor"))
    (x1_Program : PySem.W.slotIn K p1_Program C_Program = some 1)
    (a_FORMS : PySem.W.nsIn K mainGlobals "FORMS" = some (some (.ref dF)))
    (l_FORMS : K.lookup dF = some ⟨.type "dict", none, .dict es_FORMS n_FORMS, #[]⟩)
    (kl_FORMS : PySem.W.KeysLit w.params es_FORMS.toList)
    (lo_FORMS : (dF == sysModules) = false)
    (w_FORMS_set : PySem.W.nsIn K dF "set" = some (some (.str "rn" tk_FORMS_set)))
    (w_FORMS_copy : PySem.W.nsIn K dF "copy" = some (some (.str "rr" tk_FORMS_copy)))
    (w_FORMS_add : PySem.W.nsIn K dF "add" = some (some (.str "rn" tk_FORMS_add)))
    (w_FORMS_length : PySem.W.nsIn K dF "length" = some (some (.str "r" tk_FORMS_length)))
    (w_FORMS_load : PySem.W.nsIn K dF "load" = some (some (.str "rrn" tk_FORMS_load)))
    (w_FORMS_jump : PySem.W.nsIn K dF "jump" = some (some (.str "l" tk_FORMS_jump)))
    (w_FORMS_less : PySem.W.nsIn K dF "less" = some (some (.str "rrnl" tk_FORMS_less)))
    (w_FORMS_atmost : PySem.W.nsIn K dF "atmost" = some (some (.str "rnl" tk_FORMS_atmost)))
    (w_FORMS_same : PySem.W.nsIn K dF "same" = some (some (.str "rnl" tk_FORMS_same)))
    (w_FORMS_pass : PySem.W.nsIn K dF "pass" = some (some (.str "" tk_FORMS_pass)))
    (w_FORMS_drop : PySem.W.nsIn K dF "drop" = some (some (.str "" tk_FORMS_drop)))
    (a_NEEDS : PySem.W.nsIn K mainGlobals "NEEDS" = some (some (.ref dN)))
    (l_NEEDS : K.lookup dN = some ⟨.type "dict", none, .dict es_NEEDS n_NEEDS, #[]⟩)
    (kl_NEEDS : PySem.W.KeysLit w.params es_NEEDS.toList)
    (lo_NEEDS : (dN == sysModules) = false)
    (w_NEEDS_set : PySem.W.nsIn K dN "set" = some none)
    (w_NEEDS_copy : PySem.W.nsIn K dN "copy" = some (some (.ref ta_copy)))
    (y_NEEDS_copy : K.lookup ta_copy = some ⟨.type "tuple", dd_copy, .seq #[.int 2 tk_NEEDS_copy_0] nn_copy, ss_copy⟩)
    (w_NEEDS_add : PySem.W.nsIn K dN "add" = some (some (.ref ta_add)))
    (y_NEEDS_add : K.lookup ta_add = some ⟨.type "tuple", dd_add, .seq #[.int 1 tk_NEEDS_add_0] nn_add, ss_add⟩)
    (w_NEEDS_length : PySem.W.nsIn K dN "length" = some none)
    (w_NEEDS_load : PySem.W.nsIn K dN "load" = some (some (.ref ta_load)))
    (y_NEEDS_load : K.lookup ta_load = some ⟨.type "tuple", dd_load, .seq #[.int 2 tk_NEEDS_load_0] nn_load, ss_load⟩)
    (w_NEEDS_jump : PySem.W.nsIn K dN "jump" = some none)
    (w_NEEDS_less : PySem.W.nsIn K dN "less" = some (some (.ref ta_less)))
    (y_NEEDS_less : K.lookup ta_less = some ⟨.type "tuple", dd_less, .seq #[.int 1 tk_NEEDS_less_0, .int 2 tk_NEEDS_less_1] nn_less, ss_less⟩)
    (w_NEEDS_atmost : PySem.W.nsIn K dN "atmost" = some (some (.ref ta_atmost)))
    (y_NEEDS_atmost : K.lookup ta_atmost = some ⟨.type "tuple", dd_atmost, .seq #[.int 1 tk_NEEDS_atmost_0] nn_atmost, ss_atmost⟩)
    (w_NEEDS_same : PySem.W.nsIn K dN "same" = some (some (.ref ta_same)))
    (y_NEEDS_same : K.lookup ta_same = some ⟨.type "tuple", dd_same, .seq #[.int 1 tk_NEEDS_same_0] nn_same, ss_same⟩)
    (w_NEEDS_pass : PySem.W.nsIn K dN "pass" = some none)
    (w_NEEDS_drop : PySem.W.nsIn K dN "drop" = some none)
    (a_is_int : PySem.W.nsIn K mainGlobals "is_int" = some (some (.ref f_is_int)))
    (l_is_int : K.lookup f_is_int = some ⟨oc_is_int, od_is_int, .func (PySem.W.fnOf "is_int" "is_int" (defArgs s_is_int) (defBody s_is_int) (defScope s_is_int) .none kV_is_int dc_is_int pm_is_int an_is_int cd_is_int ct_is_int), sl_is_int⟩)
    (c_is_int : PySem.W.codeIn K cd_is_int "is_int" = true)
    (k_is_int : PySem.W.keepIn K (.ref f_is_int) = true)
    (a_number_in : PySem.W.nsIn K mainGlobals "number_in" = some (some (.ref f_number_in)))
    (l_number_in : K.lookup f_number_in = some ⟨oc_number_in, od_number_in, .func (PySem.W.fnOf "number_in" "number_in" (defArgs s_number_in) (defBody s_number_in) (defScope s_number_in) .none kV_number_in dc_number_in pm_number_in an_number_in cd_number_in ct_number_in), sl_number_in⟩)
    (c_number_in : PySem.W.codeIn K cd_number_in "number_in" = true)
    (k_number_in : PySem.W.keepIn K (.ref f_number_in) = true)
    (a_signed_in : PySem.W.nsIn K mainGlobals "signed_in" = some (some (.ref f_signed_in)))
    (l_signed_in : K.lookup f_signed_in = some ⟨oc_signed_in, od_signed_in, .func (PySem.W.fnOf "signed_in" "signed_in" (defArgs s_signed_in) (defBody s_signed_in) (defScope s_signed_in) .none kV_signed_in dc_signed_in pm_signed_in an_signed_in cd_signed_in ct_signed_in), sl_signed_in⟩)
    (c_signed_in : PySem.W.codeIn K cd_signed_in "signed_in" = true)
    (k_signed_in : PySem.W.keepIn K (.ref f_signed_in) = true)
    (a_word_in : PySem.W.nsIn K mainGlobals "word_in" = some (some (.ref f_word_in)))
    (l_word_in : K.lookup f_word_in = some ⟨oc_word_in, od_word_in, .func (PySem.W.fnOf "word_in" "word_in" (defArgs s_word_in) (defBody s_word_in) (defScope s_word_in) .none kV_word_in dc_word_in pm_word_in an_word_in cd_word_in ct_word_in), sl_word_in⟩)
    (c_word_in : PySem.W.codeIn K cd_word_in "word_in" = true)
    (k_word_in : PySem.W.keepIn K (.ref f_word_in) = true)
    (a_instruction_in : PySem.W.nsIn K mainGlobals "instruction_in" = some (some (.ref f_instruction_in)))
    (l_instruction_in : K.lookup f_instruction_in = some ⟨oc_instruction_in, od_instruction_in, .func (PySem.W.fnOf "instruction_in" "instruction_in" (defArgs s_instruction_in) (defBody s_instruction_in) (defScope s_instruction_in) .none kV_instruction_in dc_instruction_in pm_instruction_in an_instruction_in cd_instruction_in ct_instruction_in), sl_instruction_in⟩)
    (c_instruction_in : PySem.W.codeIn K cd_instruction_in "instruction_in" = true)
    (k_instruction_in : PySem.W.keepIn K (.ref f_instruction_in) = true)
    (a_read_lines : PySem.W.nsIn K mainGlobals "read_lines" = some (some (.ref f_read_lines)))
    (l_read_lines : K.lookup f_read_lines = some ⟨oc_read_lines, od_read_lines, .func (PySem.W.fnOf "read_lines" "read_lines" (defArgs s_read_lines) (defBody s_read_lines) (defScope s_read_lines) .none kV_read_lines dc_read_lines pm_read_lines an_read_lines cd_read_lines ct_read_lines), sl_read_lines⟩)
    (c_read_lines : PySem.W.codeIn K cd_read_lines "read_lines" = true)
    (k_read_lines : PySem.W.keepIn K (.ref f_read_lines) = true)
    (a_Pr_init : PySem.W.findIn K (.ref C_Program) "__init__" = some (some (.ref f_Pr_init)))
    (i_Pr_init : PySem.W.isFn K (.ref f_Pr_init) = true)
    (l_Pr_init : K.lookup f_Pr_init = some ⟨oc_Pr_init, od_Pr_init, .func (PySem.W.fnOf "__init__" "Program.__init__" (defArgs s_Pr_init) (defBody s_Pr_init) (defScope s_Pr_init) .none kV_Pr_init dc_Pr_init pm_Pr_init an_Pr_init cd_Pr_init ct_Pr_init), sl_Pr_init⟩)
    (c_Pr_init : PySem.W.codeIn K cd_Pr_init "Program.__init__" = true)
    (k_Pr_init : PySem.W.keepIn K (.ref f_Pr_init) = true)
    (a_Pr_lines : PySem.W.findIn K (.ref C_Program) "lines" = some (some (.ref pp_Pr_lines)))
    (u_Pr_lines : PySem.W.specialIn K (.ref pp_Pr_lines) "__get__" = some (some (.builtin "property.__get__")))
    (v_Pr_lines : PySem.W.takesIn K (.ref pp_Pr_lines) = some true)
    (r_Pr_lines : PySem.W.recIn K pp_Pr_lines "property" = some (.ref f_Pr_lines :: rest_Pr_lines))
    (l_Pr_lines : K.lookup f_Pr_lines = some ⟨oc_Pr_lines, od_Pr_lines, .func (PySem.W.fnOf "lines" "Program.lines" (defArgs s_Pr_lines) (defBody s_Pr_lines) (defScope s_Pr_lines) .none kV_Pr_lines dc_Pr_lines pm_Pr_lines an_Pr_lines cd_Pr_lines ct_Pr_lines), sl_Pr_lines⟩)
    (c_Pr_lines : PySem.W.codeIn K cd_Pr_lines "Program.lines" = true)
    (k_Pr_lines : PySem.W.keepIn K (.ref f_Pr_lines) = true)
    (a_is_packet : PySem.W.nsIn K mainGlobals "is_packet" = some (some (.ref f_is_packet)))
    (l_is_packet : K.lookup f_is_packet = some ⟨oc_is_packet, od_is_packet, .func (PySem.W.fnOf "is_packet" "is_packet" (defArgs s_is_packet) (defBody s_is_packet) (defScope s_is_packet) .none kV_is_packet dc_is_packet pm_is_packet an_is_packet cd_is_packet ct_is_packet), sl_is_packet⟩)
    (c_is_packet : PySem.W.codeIn K cd_is_packet "is_packet" = true)
    (k_is_packet : PySem.W.keepIn K (.ref f_is_packet) = true)
    (a_look_at_packet : PySem.W.nsIn K mainGlobals "look_at_packet" = some (some (.ref f_look_at_packet)))
    (l_look_at_packet : K.lookup f_look_at_packet = some ⟨oc_look_at_packet, od_look_at_packet, .func (PySem.W.fnOf "look_at_packet" "look_at_packet" (defArgs s_look_at_packet) (defBody s_look_at_packet) (defScope s_look_at_packet) .none kV_look_at_packet dc_look_at_packet pm_look_at_packet an_look_at_packet cd_look_at_packet ct_look_at_packet), sl_look_at_packet⟩)
    (c_look_at_packet : PySem.W.codeIn K cd_look_at_packet "look_at_packet" = true)
    (k_look_at_packet : PySem.W.keepIn K (.ref f_look_at_packet) = true)
    (a_is_unset : PySem.W.nsIn K mainGlobals "is_unset" = some (some (.ref f_is_unset)))
    (l_is_unset : K.lookup f_is_unset = some ⟨oc_is_unset, od_is_unset, .func (PySem.W.fnOf "is_unset" "is_unset" (defArgs s_is_unset) (defBody s_is_unset) (defScope s_is_unset) .none kV_is_unset dc_is_unset pm_is_unset an_is_unset cd_is_unset ct_is_unset), sl_is_unset⟩)
    (c_is_unset : PySem.W.codeIn K cd_is_unset "is_unset" = true)
    (k_is_unset : PySem.W.keepIn K (.ref f_is_unset) = true)
    (a_does_go : PySem.W.nsIn K mainGlobals "does_go" = some (some (.ref f_does_go)))
    (l_does_go : K.lookup f_does_go = some ⟨oc_does_go, od_does_go, .func (PySem.W.fnOf "does_go" "does_go" (defArgs s_does_go) (defBody s_does_go) (defScope s_does_go) .none kV_does_go dc_does_go pm_does_go an_does_go cd_does_go ct_does_go), sl_does_go⟩)
    (c_does_go : PySem.W.codeIn K cd_does_go "does_go" = true)
    (k_does_go : PySem.W.keepIn K (.ref f_does_go) = true)
    (a_put : PySem.W.nsIn K mainGlobals "put" = some (some (.ref f_put)))
    (l_put : K.lookup f_put = some ⟨oc_put, od_put, .func (PySem.W.fnOf "put" "put" (defArgs s_put) (defBody s_put) (defScope s_put) .none kV_put dc_put pm_put an_put cd_put ct_put), sl_put⟩)
    (c_put : PySem.W.codeIn K cd_put "put" = true)
    (k_put : PySem.W.keepIn K (.ref f_put) = true)
    (a_gone : PySem.W.nsIn K mainGlobals "gone" = some (some (.ref f_gone)))
    (l_gone : K.lookup f_gone = some ⟨oc_gone, od_gone, .func (PySem.W.fnOf "gone" "gone" (defArgs s_gone) (defBody s_gone) (defScope s_gone) .none kV_gone dc_gone pm_gone an_gone cd_gone ct_gone), sl_gone⟩)
    (c_gone : PySem.W.codeIn K cd_gone "gone" = true)
    (k_gone : PySem.W.keepIn K (.ref f_gone) = true)
    (a_run : PySem.W.nsIn K mainGlobals "run" = some (some (.ref f_run)))
    (l_run : K.lookup f_run = some ⟨oc_run, od_run, .func (PySem.W.fnOf "run" "run" (defArgs s_run) (defBody s_run) (defScope s_run) .none kV_run dc_run pm_run an_run cd_run ct_run), sl_run⟩)
    (c_run : PySem.W.codeIn K cd_run "run" = true)
    (k_run : PySem.W.keepIn K (.ref f_run) = true)
    (a_trace : PySem.W.nsIn K mainGlobals "trace" = some (some (.ref f_trace)))
    (l_trace : K.lookup f_trace = some ⟨oc_trace, od_trace, .func (PySem.W.fnOf "trace" "trace" (defArgs s_trace) (defBody s_trace) (defScope s_trace) .none kV_trace dc_trace pm_trace an_trace cd_trace ct_trace), sl_trace⟩)
    (c_trace : PySem.W.codeIn K cd_trace "trace" = true)
    (k_trace : PySem.W.keepIn K (.ref f_trace) = true)
    (a_l_pot : PySem.W.nsIn K mainGlobals "_law_pot" = some (some (.ref f_l_pot)))
    (l_l_pot : K.lookup f_l_pot = some ⟨oc_l_pot, od_l_pot, .func (PySem.W.fnOf "_law_pot" "_law_pot" (defArgs s_l_pot) (defBody s_l_pot) (defScope s_l_pot) .none kV_l_pot dc_l_pot pm_l_pot an_l_pot cd_l_pot ct_l_pot), sl_l_pot⟩)
    (c_l_pot : PySem.W.codeIn K cd_l_pot "_law_pot" = true)
    (k_l_pot : PySem.W.keepIn K (.ref f_l_pot) = true)
    (a_l_take : PySem.W.nsIn K mainGlobals "_law_take" = some (some (.ref f_l_take)))
    (l_l_take : K.lookup f_l_take = some ⟨oc_l_take, od_l_take, .func (PySem.W.fnOf "_law_take" "_law_take" (defArgs s_l_take) (defBody s_l_take) (defScope s_l_take) .none kV_l_take dc_l_take pm_l_take an_l_take cd_l_take ct_l_take), sl_l_take⟩)
    (c_l_take : PySem.W.codeIn K cd_l_take "_law_take" = true)
    (k_l_take : PySem.W.keepIn K (.ref f_l_take) = true)
    (a_l_of : PySem.W.nsIn K mainGlobals "_law_of" = some (some (.ref f_l_of)))
    (l_l_of : K.lookup f_l_of = some ⟨oc_l_of, od_l_of, .func (PySem.W.fnOf "_law_of" "_law_of" (defArgs s_l_of) (defBody s_l_of) (defScope s_l_of) .none kV_l_of dc_l_of pm_l_of an_l_of cd_l_of ct_l_of), sl_l_of⟩)
    (c_l_of : PySem.W.codeIn K cd_l_of "_law_of" = true)
    (k_l_of : PySem.W.keepIn K (.ref f_l_of) = true)
    (a_l_cells : PySem.W.nsIn K mainGlobals "_law_cells" = some (some (.ref f_l_cells)))
    (l_l_cells : K.lookup f_l_cells = some ⟨oc_l_cells, od_l_cells, .func (PySem.W.fnOf "_law_cells" "_law_cells" (defArgs s_l_cells) (defBody s_l_cells) (defScope s_l_cells) .none kV_l_cells dc_l_cells pm_l_cells an_l_cells cd_l_cells ct_l_cells), sl_l_cells⟩)
    (c_l_cells : PySem.W.codeIn K cd_l_cells "_law_cells" = true)
    (k_l_cells : PySem.W.keepIn K (.ref f_l_cells) = true)
    (a_l_number : PySem.W.nsIn K mainGlobals "_law_number" = some (some (.ref f_l_number)))
    (l_l_number : K.lookup f_l_number = some ⟨oc_l_number, od_l_number, .func (PySem.W.fnOf "_law_number" "_law_number" (defArgs s_l_number) (defBody s_l_number) (defScope s_l_number) .none kV_l_number dc_l_number pm_l_number an_l_number cd_l_number ct_l_number), sl_l_number⟩)
    (c_l_number : PySem.W.codeIn K cd_l_number "_law_number" = true)
    (k_l_number : PySem.W.keepIn K (.ref f_l_number) = true)
    (a_l_instruction : PySem.W.nsIn K mainGlobals "_law_instruction" = some (some (.ref f_l_instruction)))
    (l_l_instruction : K.lookup f_l_instruction = some ⟨oc_l_instruction, od_l_instruction, .func (PySem.W.fnOf "_law_instruction" "_law_instruction" (defArgs s_l_instruction) (defBody s_l_instruction) (defScope s_l_instruction) .none kV_l_instruction dc_l_instruction pm_l_instruction an_l_instruction cd_l_instruction ct_l_instruction), sl_l_instruction⟩)
    (c_l_instruction : PySem.W.codeIn K cd_l_instruction "_law_instruction" = true)
    (k_l_instruction : PySem.W.keepIn K (.ref f_l_instruction) = true)
    (a_l_program : PySem.W.nsIn K mainGlobals "_law_program" = some (some (.ref f_l_program)))
    (l_l_program : K.lookup f_l_program = some ⟨oc_l_program, od_l_program, .func (PySem.W.fnOf "_law_program" "_law_program" (defArgs s_l_program) (defBody s_l_program) (defScope s_l_program) .none kV_l_program dc_l_program pm_l_program an_l_program cd_l_program ct_l_program), sl_l_program⟩)
    (c_l_program : PySem.W.codeIn K cd_l_program "_law_program" = true)
    (k_l_program : PySem.W.keepIn K (.ref f_l_program) = true)
    (a_l_text : PySem.W.nsIn K mainGlobals "_law_text" = some (some (.ref f_l_text)))
    (l_l_text : K.lookup f_l_text = some ⟨oc_l_text, od_l_text, .func (PySem.W.fnOf "_law_text" "_law_text" (defArgs s_l_text) (defBody s_l_text) (defScope s_l_text) .none kV_l_text dc_l_text pm_l_text an_l_text cd_l_text ct_l_text), sl_l_text⟩)
    (c_l_text : PySem.W.codeIn K cd_l_text "_law_text" = true)
    (k_l_text : PySem.W.keepIn K (.ref f_l_text) = true)
    (a_l_packet : PySem.W.nsIn K mainGlobals "_law_packet" = some (some (.ref f_l_packet)))
    (l_l_packet : K.lookup f_l_packet = some ⟨oc_l_packet, od_l_packet, .func (PySem.W.fnOf "_law_packet" "_law_packet" (defArgs s_l_packet) (defBody s_l_packet) (defScope s_l_packet) .none kV_l_packet dc_l_packet pm_l_packet an_l_packet cd_l_packet ct_l_packet), sl_l_packet⟩)
    (c_l_packet : PySem.W.codeIn K cd_l_packet "_law_packet" = true)
    (k_l_packet : PySem.W.keepIn K (.ref f_l_packet) = true)
    (a_l_lacks : PySem.W.nsIn K mainGlobals "_law_lacks" = some (some (.ref f_l_lacks)))
    (l_l_lacks : K.lookup f_l_lacks = some ⟨oc_l_lacks, od_l_lacks, .func (PySem.W.fnOf "_law_lacks" "_law_lacks" (defArgs s_l_lacks) (defBody s_l_lacks) (defScope s_l_lacks) .none kV_l_lacks dc_l_lacks pm_l_lacks an_l_lacks cd_l_lacks ct_l_lacks), sl_l_lacks⟩)
    (c_l_lacks : PySem.W.codeIn K cd_l_lacks "_law_lacks" = true)
    (k_l_lacks : PySem.W.keepIn K (.ref f_l_lacks) = true)
    (a_l_run : PySem.W.nsIn K mainGlobals "_law_run" = some (some (.ref f_l_run)))
    (l_l_run : K.lookup f_l_run = some ⟨oc_l_run, od_l_run, .func (PySem.W.fnOf "_law_run" "_law_run" (defArgs s_l_run) (defBody s_l_run) (defScope s_l_run) .none kV_l_run dc_l_run pm_l_run an_l_run cd_l_run ct_l_run), sl_l_run⟩)
    (c_l_run : PySem.W.codeIn K cd_l_run "_law_run" = true)
    (k_l_run : PySem.W.keepIn K (.ref f_l_run) = true)
    (a_l_known_right : PySem.W.nsIn K mainGlobals "_law_known_right" = some (some (.ref f_l_known_right)))
    (l_l_known_right : K.lookup f_l_known_right = some ⟨oc_l_known_right, od_l_known_right, .func (PySem.W.fnOf "_law_known_right" "_law_known_right" (defArgs s_l_known_right) (defBody s_l_known_right) (defScope s_l_known_right) .none kV_l_known_right dc_l_known_right pm_l_known_right an_l_known_right cd_l_known_right ct_l_known_right), sl_l_known_right⟩)
    (c_l_known_right : PySem.W.codeIn K cd_l_known_right "_law_known_right" = true)
    (k_l_known_right : PySem.W.keepIn K (.ref f_l_known_right) = true)
    (a_l_right : PySem.W.nsIn K mainGlobals "_law_right" = some (some (.ref f_l_right)))
    (l_l_right : K.lookup f_l_right = some ⟨oc_l_right, od_l_right, .func (PySem.W.fnOf "_law_right" "_law_right" (defArgs s_l_right) (defBody s_l_right) (defScope s_l_right) .none kV_l_right dc_l_right pm_l_right an_l_right cd_l_right ct_l_right), sl_l_right⟩)
    (c_l_right : PySem.W.codeIn K cd_l_right "_law_right" = true)
    (k_l_right : PySem.W.keepIn K (.ref f_l_right) = true)
    (a_law : PySem.W.nsIn K mainGlobals "law" = some (some (.ref f_law)))
    (l_law : K.lookup f_law = some ⟨oc_law, od_law, .func (PySem.W.fnOf "law" "law" (defArgs s_law) (defBody s_law) (defScope s_law) .none kV_law dc_law pm_law an_law cd_law ct_law), sl_law⟩)
    (c_law : PySem.W.codeIn K cd_law "law" = true)
    (k_law : PySem.W.keepIn K (.ref f_law) = true)
    : ∃ fd : FuncData, (∀ (s : Shared) (v : Value), BindsTo s fd ⟨[v], []⟩ [("script", v)]) ∧ ∀ base : Heap, K.In base → base.Ns mainGlobals mg → FnOkG l.prog w K mg base CX0 9 fa fd ["script"] (spLaw K) := by
  have e := hfa.symm.trans (PySem.W.mg_of X G a_law)
  cases e
  have B : Bt mg := ⟨PySem.W.mg_none_of X G z_isinstance, PySem.W.mg_none_of X G z_len, PySem.W.mg_none_of X G z_all, PySem.W.mg_none_of X G z_any, PySem.W.mg_none_of X G z_min, PySem.W.mg_none_of X G z_max, PySem.W.mg_none_of X G z_abs, PySem.W.mg_none_of X G z_sum, PySem.W.mg_none_of X G z_repr, PySem.W.mg_none_of X G z_sorted, PySem.W.mg_none_of X G z_int, PySem.W.mg_none_of X G z_bool, PySem.W.mg_none_of X G z_str, PySem.W.mg_none_of X G z_tuple, PySem.W.mg_none_of X G z_list, PySem.W.mg_none_of X G z_range, PySem.W.mg_none_of X G z_enumerate, PySem.W.mg_none_of X G z_zip⟩
  have T : Tx mg := ⟨B, ⟨⟨_, PySem.W.mg_of X G g_FIGURES⟩, ⟨_, PySem.W.mg_of X G g_MOST_CELLS⟩, ⟨_, PySem.W.mg_of X G g_MOST_CELL⟩, ⟨_, PySem.W.mg_of X G g_MOST_LINES⟩, ⟨_, PySem.W.mg_of X G g_MOST_NUMBER⟩, ⟨_, PySem.W.mg_of X G g_REGISTERS⟩, ⟨_, PySem.W.mg_of X G g_WRONG⟩, ⟨_, PySem.W.mg_of X G g_UNSET⟩, ⟨_, PySem.W.mg_of X G g_BEYOND⟩, ⟨_, PySem.W.mg_of X G g_END⟩⟩⟩
  refine ⟨PySem.W.fnOf "law" "law" (defArgs s_law) (defBody s_law) (defScope s_law) .none kV_law dc_law pm_law an_law cd_law ct_law, fun s v => .of_eq rfl, fun base _ _ => ?_⟩
  have T_Program : PrT K C_Program p0_Program p1_Program := ⟨⟨pg_Program, ic_Program, po_Program, sa_Program⟩, ⟨q0_Program, u0_Program, v0_Program, w0_Program, x0_Program, by decide⟩, ⟨q1_Program, u1_Program, v1_Program, w1_Program, x1_Program, by decide⟩⟩
  have Fm : Frm K w mg dF := ⟨PySem.W.mg_of X G a_FORMS, fun i => (by
    cases i
    case set r n => exact KDo.hit l_FORMS kl_FORMS lo_FORMS w_FORMS_set ⟨_, congrArg (fun z => Value.str z tk_FORMS_set) (by show ("rn" : Str) = ⟨#[114, 110]⟩; decide +kernel)⟩
    case copy r s => exact KDo.hit l_FORMS kl_FORMS lo_FORMS w_FORMS_copy ⟨_, congrArg (fun z => Value.str z tk_FORMS_copy) (by show ("rr" : Str) = ⟨#[114, 114]⟩; decide +kernel)⟩
    case add r n => exact KDo.hit l_FORMS kl_FORMS lo_FORMS w_FORMS_add ⟨_, congrArg (fun z => Value.str z tk_FORMS_add) (by show ("rn" : Str) = ⟨#[114, 110]⟩; decide +kernel)⟩
    case length r => exact KDo.hit l_FORMS kl_FORMS lo_FORMS w_FORMS_length ⟨_, congrArg (fun z => Value.str z tk_FORMS_length) (by show ("r" : Str) = ⟨#[114]⟩; decide +kernel)⟩
    case load r s n => exact KDo.hit l_FORMS kl_FORMS lo_FORMS w_FORMS_load ⟨_, congrArg (fun z => Value.str z tk_FORMS_load) (by show ("rrn" : Str) = ⟨#[114, 114, 110]⟩; decide +kernel)⟩
    case jump g => exact KDo.hit l_FORMS kl_FORMS lo_FORMS w_FORMS_jump ⟨_, congrArg (fun z => Value.str z tk_FORMS_jump) (by show ("l" : Str) = ⟨#[108]⟩; decide +kernel)⟩
    case less r s n g => exact KDo.hit l_FORMS kl_FORMS lo_FORMS w_FORMS_less ⟨_, congrArg (fun z => Value.str z tk_FORMS_less) (by show ("rrnl" : Str) = ⟨#[114, 114, 110, 108]⟩; decide +kernel)⟩
    case atmost r n g => exact KDo.hit l_FORMS kl_FORMS lo_FORMS w_FORMS_atmost ⟨_, congrArg (fun z => Value.str z tk_FORMS_atmost) (by show ("rnl" : Str) = ⟨#[114, 110, 108]⟩; decide +kernel)⟩
    case same r n g => exact KDo.hit l_FORMS kl_FORMS lo_FORMS w_FORMS_same ⟨_, congrArg (fun z => Value.str z tk_FORMS_same) (by show ("rnl" : Str) = ⟨#[114, 110, 108]⟩; decide +kernel)⟩
    case pass => exact KDo.hit l_FORMS kl_FORMS lo_FORMS w_FORMS_pass ⟨_, congrArg (fun z => Value.str z tk_FORMS_pass) (by show ("" : Str) = ⟨#[]⟩; decide +kernel)⟩
    case drop => exact KDo.hit l_FORMS kl_FORMS lo_FORMS w_FORMS_drop ⟨_, congrArg (fun z => Value.str z tk_FORMS_drop) (by show ("" : Str) = ⟨#[]⟩; decide +kernel)⟩)⟩
  have Nd : Nds K w mg dN := ⟨PySem.W.mg_of X G a_NEEDS, fun i => (by
    cases i
    case set r n => exact .inl ⟨rfl, KDo.miss l_NEEDS kl_NEEDS lo_NEEDS w_NEEDS_set⟩
    case copy r s => exact .inr ⟨ta_copy, KDo.hit l_NEEDS kl_NEEDS lo_NEEDS w_NEEDS_copy rfl, fun H => .inr ⟨_, _, _, y_NEEDS_copy, rfl, rfl, (by show 1 ≤ sizeLine; decide), (.cons ⟨_, rfl⟩ (.nil))⟩⟩
    case add r n => exact .inr ⟨ta_add, KDo.hit l_NEEDS kl_NEEDS lo_NEEDS w_NEEDS_add rfl, fun H => .inr ⟨_, _, _, y_NEEDS_add, rfl, rfl, (by show 1 ≤ sizeLine; decide), (.cons ⟨_, rfl⟩ (.nil))⟩⟩
    case length r => exact .inl ⟨rfl, KDo.miss l_NEEDS kl_NEEDS lo_NEEDS w_NEEDS_length⟩
    case load r s n => exact .inr ⟨ta_load, KDo.hit l_NEEDS kl_NEEDS lo_NEEDS w_NEEDS_load rfl, fun H => .inr ⟨_, _, _, y_NEEDS_load, rfl, rfl, (by show 1 ≤ sizeLine; decide), (.cons ⟨_, rfl⟩ (.nil))⟩⟩
    case jump g => exact .inl ⟨rfl, KDo.miss l_NEEDS kl_NEEDS lo_NEEDS w_NEEDS_jump⟩
    case less r s n g => exact .inr ⟨ta_less, KDo.hit l_NEEDS kl_NEEDS lo_NEEDS w_NEEDS_less rfl, fun H => .inr ⟨_, _, _, y_NEEDS_less, rfl, rfl, (by show 2 ≤ sizeLine; decide), (.cons ⟨_, rfl⟩ (.cons ⟨_, rfl⟩ (.nil)))⟩⟩
    case atmost r n g => exact .inr ⟨ta_atmost, KDo.hit l_NEEDS kl_NEEDS lo_NEEDS w_NEEDS_atmost rfl, fun H => .inr ⟨_, _, _, y_NEEDS_atmost, rfl, rfl, (by show 1 ≤ sizeLine; decide), (.cons ⟨_, rfl⟩ (.nil))⟩⟩
    case same r n g => exact .inr ⟨ta_same, KDo.hit l_NEEDS kl_NEEDS lo_NEEDS w_NEEDS_same rfl, fun H => .inr ⟨_, _, _, y_NEEDS_same, rfl, rfl, (by show 1 ≤ sizeLine; decide), (.cons ⟨_, rfl⟩ (.nil))⟩⟩
    case pass => exact .inl ⟨rfl, KDo.miss l_NEEDS kl_NEEDS lo_NEEDS w_NEEDS_pass⟩
    case drop => exact .inl ⟨rfl, KDo.miss l_NEEDS kl_NEEDS lo_NEEDS w_NEEDS_drop⟩)⟩
  have F_is_int := fun_mk (st := s_is_int) l_is_int c_is_int k_is_int
  have b_is_int := F_is_int.binds (ps := ["value", "low", "high"]) fun _ _ _ _ _ _ us hl => match us, hl with | [_, _, _], _ => rfl
  have C_is_int : PL.Cal l.prog w K mg base CX0 "is_int" ["value", "low", "high"] 1 (spIsInt) := ⟨_, _, PySem.W.mg_of X G a_is_int, k_is_int, b_is_int, fun _ => trivial, ok_is_int F_is_int B⟩
  have F_number_in := fun_mk (st := s_number_in) l_number_in c_number_in k_number_in
  have b_number_in := F_number_in.binds (ps := ["word", "low", "high"]) fun _ _ _ _ _ _ us hl => match us, hl with | [_, _, _], _ => rfl
  have C_number_in : PL.Cal l.prog w K mg base CX0 "number_in" ["word", "low", "high"] 1 (spNumIn) := ⟨_, _, PySem.W.mg_of X G a_number_in, k_number_in, b_number_in, fun _ => trivial, ok_number_in F_number_in T⟩
  have F_signed_in := fun_mk (st := s_signed_in) l_signed_in c_signed_in k_signed_in
  have b_signed_in := F_signed_in.binds (ps := ["word", "low", "high"]) fun _ _ _ _ _ _ us hl => match us, hl with | [_, _, _], _ => rfl
  have C_signed_in : PL.Cal l.prog w K mg base CX0 "signed_in" ["word", "low", "high"] 2 (spSigned) := ⟨_, _, PySem.W.mg_of X G a_signed_in, k_signed_in, b_signed_in, fun _ => trivial, ok_signed_in F_signed_in T C_number_in⟩
  have F_word_in := fun_mk (st := s_word_in) l_word_in c_word_in k_word_in
  have b_word_in := F_word_in.binds (ps := ["kind", "word", "number"]) fun _ _ _ _ _ _ us hl => match us, hl with | [_, _, _], _ => rfl
  have C_word_in : PL.Cal l.prog w K mg base CX0 "word_in" ["kind", "word", "number"] 3 (spWordIn) := ⟨_, _, PySem.W.mg_of X G a_word_in, k_word_in, b_word_in, fun _ => trivial, ok_word_in F_word_in T C_number_in C_signed_in⟩
  have F_instruction_in := fun_mk (st := s_instruction_in) l_instruction_in c_instruction_in k_instruction_in
  have b_instruction_in := F_instruction_in.binds (ps := ["line", "number"]) fun _ _ _ _ _ _ us hl => match us, hl with | [_, _], _ => rfl
  have C_instruction_in : PL.Cal l.prog w K mg base CX0 "instruction_in" ["line", "number"] 4 (spInsIn) := ⟨_, _, PySem.W.mg_of X G a_instruction_in, k_instruction_in, b_instruction_in, fun _ => trivial, ok_instruction_in F_instruction_in T Fm C_word_in⟩
  have F_read_lines := fun_mk (st := s_read_lines) l_read_lines c_read_lines k_read_lines
  have b_read_lines := F_read_lines.binds (ps := ["text"]) fun _ _ _ _ _ _ us hl => match us, hl with | [_], _ => rfl
  have C_read_lines : PL.Cal l.prog w K mg base CX0 "read_lines" ["text"] 5 (spRead K) := ⟨_, _, PySem.W.mg_of X G a_read_lines, k_read_lines, b_read_lines, fun _ => trivial, ok_read_lines F_read_lines T C_instruction_in⟩
  have F_Pr_init := fun_mk (st := s_Pr_init) l_Pr_init c_Pr_init k_Pr_init
  have b_Pr_init := F_Pr_init.binds (ps := ["self", "text"]) fun _ _ _ _ _ _ us hl => match us, hl with | [_, _], _ => rfl
  have M_Program : MkC l.prog w K mg base CX0 "Program" C_Program ["self", "text"] 6 (spPrInit K C_Program) := ⟨_, _, PySem.W.mg_of X G cn_Program, ⟨mk_Program, a_Pr_init, i_Pr_init, kc_Program⟩, b_Pr_init, ok_pr_init F_Pr_init T T_Program C_read_lines⟩
  have F_Pr_lines := fun_mk (st := s_Pr_lines) l_Pr_lines c_Pr_lines k_Pr_lines
  have b_Pr_lines := F_Pr_lines.binds (ps := ["self"]) fun _ _ _ _ _ _ us hl => match us, hl with | [_], _ => rfl
  have P_Program_lines : PrC l.prog w K mg base CX0 C_Program "lines" 1 (spLines K C_Program) := ⟨_, _, _, a_Pr_lines, u_Pr_lines, v_Pr_lines, r_Pr_lines, (FnOk.raw (ok_pr_lines F_Pr_lines T_Program) b_Pr_lines .nil).imp fun vs H Q E h => (by rw [List.append_nil]; exact h)⟩
  have F_is_packet := fun_mk (st := s_is_packet) l_is_packet c_is_packet k_is_packet
  have b_is_packet := F_is_packet.binds (ps := ["value"]) fun _ _ _ _ _ _ us hl => match us, hl with | [_], _ => rfl
  have C_is_packet : PL.Cal l.prog w K mg base CX0 "is_packet" ["value"] 2 (spIsPk K) := ⟨_, _, PySem.W.mg_of X G a_is_packet, k_is_packet, b_is_packet, fun _ => trivial, ok_is_packet F_is_packet T C_is_int⟩
  have F_look_at_packet := fun_mk (st := s_look_at_packet) l_look_at_packet c_look_at_packet k_look_at_packet
  have b_look_at_packet := F_look_at_packet.binds (ps := ["packet"]) fun _ _ _ _ _ _ us hl => match us, hl with | [_], _ => rfl
  have C_look_at_packet : PL.Cal l.prog w K mg base CX0 "look_at_packet" ["packet"] 3 (spLookPk K) := ⟨_, _, PySem.W.mg_of X G a_look_at_packet, k_look_at_packet, b_look_at_packet, fun _ => trivial, ok_look_at_packet F_look_at_packet C_is_packet⟩
  have F_is_unset := fun_mk (st := s_is_unset) l_is_unset c_is_unset k_is_unset
  have b_is_unset := F_is_unset.binds (ps := ["instruction", "known"]) fun _ _ _ _ _ _ us hl => match us, hl with | [_, _], _ => rfl
  have C_is_unset : PL.Cal l.prog w K mg base CX0 "is_unset" ["instruction", "known"] 1 (spIsUnset K) := ⟨_, _, PySem.W.mg_of X G a_is_unset, k_is_unset, b_is_unset, fun _ => trivial, ok_is_unset F_is_unset T Nd⟩
  have F_does_go := fun_mk (st := s_does_go) l_does_go c_does_go k_does_go
  have b_does_go := F_does_go.binds (ps := ["instruction", "known"]) fun _ _ _ _ _ _ us hl => match us, hl with | [_, _], _ => rfl
  have C_does_go : PL.Cal l.prog w K mg base CX0 "does_go" ["instruction", "known"] 1 (spGoes K) := ⟨_, _, PySem.W.mg_of X G a_does_go, k_does_go, b_does_go, fun _ => trivial, ok_does_go F_does_go T⟩
  have F_put := fun_mk (st := s_put) l_put c_put k_put
  have b_put := F_put.binds (ps := ["instruction", "known", "packet"]) fun _ _ _ _ _ _ us hl => match us, hl with | [_, _, _], _ => rfl
  have C_put : PL.Cal l.prog w K mg base CX0 "put" ["instruction", "known", "packet"] 1 (spPut K) := ⟨_, _, PySem.W.mg_of X G a_put, k_put, b_put, fun _ => trivial, ok_put F_put T⟩
  have F_gone := fun_mk (st := s_gone) l_gone c_gone k_gone
  have b_gone := F_gone.binds (ps := ["program", "packet"]) fun _ _ _ _ _ _ us hl => match us, hl with | [_, _], _ => rfl
  have C_gone : PL.Cal l.prog w K mg base CX0 "gone" ["program", "packet"] 3 (spGone K C_Program) := ⟨_, _, PySem.W.mg_of X G a_gone, k_gone, b_gone, fun _ => trivial, ok_gone F_gone T T_Program P_Program_lines C_is_unset C_does_go C_put⟩
  have F_run := fun_mk (st := s_run) l_run c_run k_run
  have b_run := F_run.binds (ps := ["program", "packet"]) fun _ _ _ _ _ _ us hl => match us, hl with | [_, _], _ => rfl
  have C_run : PL.Cal l.prog w K mg base CX0 "run" ["program", "packet"] 4 (spRun K C_Program) := ⟨_, _, PySem.W.mg_of X G a_run, k_run, b_run, fun _ => trivial, ok_run F_run C_look_at_packet C_gone⟩
  have W_run : CalW l.prog w K mg base CX0 "run" ["program", "packet"] 4 (spRun K C_Program) := ⟨_, _, PySem.W.mg_of X G a_run, k_run, kbinds2 F_run fun _ _ _ _ _ _ _ _ => rfl, ok_run F_run C_look_at_packet C_gone⟩
  have F_trace := fun_mk (st := s_trace) l_trace c_trace k_trace
  have b_trace := F_trace.binds (ps := ["program", "packet"]) fun _ _ _ _ _ _ us hl => match us, hl with | [_, _], _ => rfl
  have C_trace : PL.Cal l.prog w K mg base CX0 "trace" ["program", "packet"] 4 (spTrace K C_Program) := ⟨_, _, PySem.W.mg_of X G a_trace, k_trace, b_trace, fun _ => trivial, ok_trace F_trace T C_look_at_packet C_gone⟩
  have W_trace : CalW l.prog w K mg base CX0 "trace" ["program", "packet"] 4 (spTrace K C_Program) := ⟨_, _, PySem.W.mg_of X G a_trace, k_trace, kbinds2 F_trace fun _ _ _ _ _ _ _ _ => rfl, ok_trace F_trace T C_look_at_packet C_gone⟩
  have F_l_pot := fun_mk (st := s_l_pot) l_l_pot c_l_pot k_l_pot
  have b_l_pot := F_l_pot.binds (ps := ["script", "place"]) fun _ _ _ _ _ _ us hl => match us, hl with | [_, _], _ => rfl
  have C_l_pot : PL.Cal l.prog w K mg base CX0 "_law_pot" ["script", "place"] 1 (spPot K) := ⟨_, _, PySem.W.mg_of X G a_l_pot, k_l_pot, b_l_pot, fun _ => trivial, ok_pot F_l_pot B⟩
  have F_l_take := fun_mk (st := s_l_take) l_l_take c_l_take k_l_take
  have b_l_take := F_l_take.binds (ps := ["pot", "upto"]) fun _ _ _ _ _ _ us hl => match us, hl with | [_, _], _ => rfl
  have C_l_take : PL.Cal l.prog w K mg base CX0 "_law_take" ["pot", "upto"] 1 (spTake) := ⟨_, _, PySem.W.mg_of X G a_l_take, k_l_take, b_l_take, fun _ => trivial, ok_take F_l_take B⟩
  have F_l_of := fun_mk (st := s_l_of) l_l_of c_l_of k_l_of
  have b_l_of := F_l_of.binds (ps := ["pot", "some"]) fun _ _ _ _ _ _ us hl => match us, hl with | [_, _], _ => rfl
  have C_l_of : PL.Cal l.prog w K mg base CX0 "_law_of" ["pot", "some"] 2 (spOf K) := ⟨_, _, PySem.W.mg_of X G a_l_of, k_l_of, b_l_of, fun _ => trivial, ok_of F_l_of B C_l_take⟩
  have F_l_cells := fun_mk (st := s_l_cells) l_l_cells c_l_cells k_l_cells
  have b_l_cells := F_l_cells.binds (ps := ["script", "most"]) fun _ _ _ _ _ _ us hl => match us, hl with | [_, _], _ => rfl
  have C_l_cells : PL.Cal l.prog w K mg base CX0 "_law_cells" ["script", "most"] 1 (spCells K) := ⟨_, _, PySem.W.mg_of X G a_l_cells, k_l_cells, b_l_cells, fun _ => trivial, ok_cells F_l_cells B⟩
  have F_l_number := fun_mk (st := s_l_number) l_l_number c_l_number k_l_number
  have b_l_number := F_l_number.binds (ps := ["pot"]) fun _ _ _ _ _ _ us hl => match us, hl with | [_], _ => rfl
  have C_l_number : PL.Cal l.prog w K mg base CX0 "_law_number" ["pot"] 3 (spNumber) := ⟨_, _, PySem.W.mg_of X G a_l_number, k_l_number, b_l_number, fun _ => trivial, ok_number F_l_number B C_l_of⟩
  have F_l_instruction := fun_mk (st := s_l_instruction) l_l_instruction c_l_instruction k_l_instruction
  have b_l_instruction := F_l_instruction.binds (ps := ["pot", "number", "size"]) fun _ _ _ _ _ _ us hl => match us, hl with | [_, _, _], _ => rfl
  have C_l_instruction : PL.Cal l.prog w K mg base CX0 "_law_instruction" ["pot", "number", "size"] 4 (spInstr) := ⟨_, _, PySem.W.mg_of X G a_l_instruction, k_l_instruction, b_l_instruction, fun _ => trivial, ok_instr F_l_instruction B C_l_of C_l_take C_l_number⟩
  have F_l_program := fun_mk (st := s_l_program) l_l_program c_l_program k_l_program
  have b_l_program := F_l_program.binds (ps := ["pot", "most"]) fun _ _ _ _ _ _ us hl => match us, hl with | [_, _], _ => rfl
  have C_l_program : PL.Cal l.prog w K mg base CX0 "_law_program" ["pot", "most"] 5 (spProg K) := ⟨_, _, PySem.W.mg_of X G a_l_program, k_l_program, b_l_program, fun _ => trivial, ok_prog F_l_program B C_l_of C_l_take C_l_instruction⟩
  have F_l_text := fun_mk (st := s_l_text) l_l_text c_l_text k_l_text
  have b_l_text := F_l_text.binds (ps := ["lines"]) fun _ _ _ _ _ _ us hl => match us, hl with | [_], _ => rfl
  have C_l_text : PL.Cal l.prog w K mg base CX0 "_law_text" ["lines"] 1 (spText K) := ⟨_, _, PySem.W.mg_of X G a_l_text, k_l_text, b_l_text, fun _ => trivial, ok_text F_l_text B⟩
  have F_l_packet := fun_mk (st := s_l_packet) l_l_packet c_l_packet k_l_packet
  have b_l_packet := F_l_packet.binds (ps := ["pot", "most"]) fun _ _ _ _ _ _ us hl => match us, hl with | [_, _], _ => rfl
  have C_l_packet : PL.Cal l.prog w K mg base CX0 "_law_packet" ["pot", "most"] 3 (spPacket K) := ⟨_, _, PySem.W.mg_of X G a_l_packet, k_l_packet, b_l_packet, fun _ => trivial, ok_packet F_l_packet B C_l_of C_l_take⟩
  have F_l_lacks := fun_mk (st := s_l_lacks) l_l_lacks c_l_lacks k_l_lacks
  have b_l_lacks := F_l_lacks.binds (ps := ["line", "known"]) fun _ _ _ _ _ _ us hl => match us, hl with | [_, _], _ => rfl
  have C_l_lacks : PL.Cal l.prog w K mg base CX0 "_law_lacks" ["line", "known"] 1 (spIsUnset K) := ⟨_, _, PySem.W.mg_of X G a_l_lacks, k_l_lacks, b_l_lacks, fun _ => trivial, ok_lacks F_l_lacks B⟩
  have F_l_run := fun_mk (st := s_l_run) l_l_run c_l_run k_l_run
  have b_l_run := F_l_run.binds (ps := ["lines", "packet"]) fun _ _ _ _ _ _ us hl => match us, hl with | [_, _], _ => rfl
  have C_l_run : PL.Cal l.prog w K mg base CX0 "_law_run" ["lines", "packet"] 2 (spLRun K) := ⟨_, _, PySem.W.mg_of X G a_l_run, k_l_run, b_l_run, fun _ => trivial, ok_lrun F_l_run B C_l_lacks⟩
  have F_l_known_right := fun_mk (st := s_l_known_right) l_l_known_right c_l_known_right k_l_known_right
  have b_l_known_right := F_l_known_right.binds (ps := []) fun _ _ _ _ _ _ us hl => match us, hl with | [], _ => rfl
  have C_l_known_right : CalG l.prog w K mg base CX0 "_law_known_right" [] 8 (spKnown) := ⟨_, _, PySem.W.mg_of X G a_l_known_right, k_l_known_right, b_l_known_right, ok_known F_l_known_right B M_Program C_run C_trace⟩
  have F_l_right := fun_mk (st := s_l_right) l_l_right c_l_right k_l_right
  have b_l_right := F_l_right.binds (ps := ["pot"]) fun _ _ _ _ _ _ us hl => match us, hl with | [_], _ => rfl
  have C_l_right : CalG l.prog w K mg base CX0 "_law_right" ["pot"] 8 (spRight) := ⟨_, _, PySem.W.mg_of X G a_l_right, k_l_right, b_l_right, ok_right F_l_right B M_Program C_run W_run W_trace C_l_program C_l_text C_l_packet C_l_of C_l_run⟩
  have F_law := fun_mk (st := s_law) l_law c_law k_law
  have b_law := F_law.binds (ps := ["script"]) fun _ _ _ _ _ _ us hl => match us, hl with | [_], _ => rfl
  exact ok_law F_law B C_l_known_right C_l_right C_l_pot C_l_cells
end L2.T31
open PySem PySem.W PyProof.Rows
set_option maxRecDepth 100000 in
set_option maxHeartbeats 0 in
theorem PySem.Challenge.cw_passedastold_k31_programs_run_line_by_li_holds : PySem.Challenge.rw_passedastold_k31_programs_run_line_by_li.Holds := by
  refine hd31 ?_
  k_fill
  refine L2.PL.walk_ofG (l := PySem.Challenge.rw_passedastold_k31_programs_run_line_by_li) (n := 63) (k := 9) (x := "script") (sp := fun K => L2.T31.spLaw K) rfl (by decide) rfl ⟨rfl, by decide, by decide⟩ (fun w h Y => PySem.W.kIn_of Y) ?F (fun K H a ns hl hS => ⟨a, ns, rfl, hS, hl, fun _ => rfl⟩)
  case F =>
    intro w mg fa h KX G hmg
    refine' L2.T31.all_mk (l := PySem.Challenge.rw_passedastold_k31_programs_run_line_by_li) (w := w) KX G hmg ?g_FIGURES ?g_MOST_CELLS ?g_MOST_CELL ?g_MOST_LINES ?g_MOST_NUMBER ?g_REGISTERS ?g_WRONG ?g_UNSET ?g_BEYOND ?g_END ?z_isinstance ?z_len ?z_all ?z_any ?z_min ?z_max ?z_abs ?z_sum ?z_repr ?z_sorted ?z_int ?z_bool ?z_str ?z_tuple ?z_list ?z_range ?z_enumerate ?z_zip ?cn_Program ?pg_Program ?ic_Program ?po_Program ?sa_Program ?mk_Program ?kc_Program ?q0_Program ?u0_Program ?v0_Program ?w0_Program ?x0_Program ?q1_Program ?u1_Program ?v1_Program ?w1_Program ?x1_Program ?a_FORMS ?l_FORMS ?kl_FORMS ?lo_FORMS ?w_FORMS_set ?w_FORMS_copy ?w_FORMS_add ?w_FORMS_length ?w_FORMS_load ?w_FORMS_jump ?w_FORMS_less ?w_FORMS_atmost ?w_FORMS_same ?w_FORMS_pass ?w_FORMS_drop ?a_NEEDS ?l_NEEDS ?kl_NEEDS ?lo_NEEDS ?w_NEEDS_set ?w_NEEDS_copy ?y_NEEDS_copy ?w_NEEDS_add ?y_NEEDS_add ?w_NEEDS_length ?w_NEEDS_load ?y_NEEDS_load ?w_NEEDS_jump ?w_NEEDS_less ?y_NEEDS_less ?w_NEEDS_atmost ?y_NEEDS_atmost ?w_NEEDS_same ?y_NEEDS_same ?w_NEEDS_pass ?w_NEEDS_drop ?a_is_int ?l_is_int ?c_is_int ?k_is_int ?a_number_in ?l_number_in ?c_number_in ?k_number_in ?a_signed_in ?l_signed_in ?c_signed_in ?k_signed_in ?a_word_in ?l_word_in ?c_word_in ?k_word_in ?a_instruction_in ?l_instruction_in ?c_instruction_in ?k_instruction_in ?a_read_lines ?l_read_lines ?c_read_lines ?k_read_lines ?a_Pr_init ?i_Pr_init ?l_Pr_init ?c_Pr_init ?k_Pr_init ?a_Pr_lines ?u_Pr_lines ?v_Pr_lines ?r_Pr_lines ?l_Pr_lines ?c_Pr_lines ?k_Pr_lines ?a_is_packet ?l_is_packet ?c_is_packet ?k_is_packet ?a_look_at_packet ?l_look_at_packet ?c_look_at_packet ?k_look_at_packet ?a_is_unset ?l_is_unset ?c_is_unset ?k_is_unset ?a_does_go ?l_does_go ?c_does_go ?k_does_go ?a_put ?l_put ?c_put ?k_put ?a_gone ?l_gone ?c_gone ?k_gone ?a_run ?l_run ?c_run ?k_run ?a_trace ?l_trace ?c_trace ?k_trace ?a_l_pot ?l_l_pot ?c_l_pot ?k_l_pot ?a_l_take ?l_l_take ?c_l_take ?k_l_take ?a_l_of ?l_l_of ?c_l_of ?k_l_of ?a_l_cells ?l_l_cells ?c_l_cells ?k_l_cells ?a_l_number ?l_l_number ?c_l_number ?k_l_number ?a_l_instruction ?l_l_instruction ?c_l_instruction ?k_l_instruction ?a_l_program ?l_l_program ?c_l_program ?k_l_program ?a_l_text ?l_l_text ?c_l_text ?k_l_text ?a_l_packet ?l_l_packet ?c_l_packet ?k_l_packet ?a_l_lacks ?l_l_lacks ?c_l_lacks ?k_l_lacks ?a_l_run ?l_l_run ?c_l_run ?k_l_run ?a_l_known_right ?l_l_known_right ?c_l_known_right ?k_l_known_right ?a_l_right ?l_l_right ?c_l_right ?k_l_right ?a_law ?l_law ?c_law ?k_law
    (case g_FIGURES => k_is)
    (case g_MOST_CELLS => k_is)
    (case g_MOST_CELL => k_is)
    (case g_MOST_LINES => k_is)
    (case g_MOST_NUMBER => k_is)
    (case g_REGISTERS => k_is)
    (case g_WRONG => k_is)
    (case g_UNSET => k_is)
    (case g_BEYOND => k_is)
    (case g_END => k_is)
    (case z_isinstance => k_is)
    (case z_len => k_is)
    (case z_all => k_is)
    (case z_any => k_is)
    (case z_min => k_is)
    (case z_max => k_is)
    (case z_abs => k_is)
    (case z_sum => k_is)
    (case z_repr => k_is)
    (case z_sorted => k_is)
    (case z_int => k_is)
    (case z_bool => k_is)
    (case z_str => k_is)
    (case z_tuple => k_is)
    (case z_list => k_is)
    (case z_range => k_is)
    (case z_enumerate => k_is)
    (case z_zip => k_is)
    (case cn_Program => k_is)
    (case pg_Program => k_is)
    (case ic_Program => k_is)
    (case po_Program => k_is)
    (case sa_Program => k_is)
    (case mk_Program => k_is)
    (case kc_Program => k_is)
    (case q0_Program => k_is)
    (case u0_Program => k_is)
    (case v0_Program => k_is)
    (case w0_Program => k_is)
    (case x0_Program => k_is)
    (case q1_Program => k_is)
    (case u1_Program => k_is)
    (case v1_Program => k_is)
    (case w1_Program => k_is)
    (case x1_Program => k_is)
    (case a_FORMS => k_is)
    (case l_FORMS => k_is)
    (case kl_FORMS => repeat (first | exact trivial | refine ⟨⟨_, _, rfl, rfl⟩, ?_⟩))
    (case lo_FORMS => first | rfl | decide)
    (case w_FORMS_set => k_is)
    (case w_FORMS_copy => k_is)
    (case w_FORMS_add => k_is)
    (case w_FORMS_length => k_is)
    (case w_FORMS_load => k_is)
    (case w_FORMS_jump => k_is)
    (case w_FORMS_less => k_is)
    (case w_FORMS_atmost => k_is)
    (case w_FORMS_same => k_is)
    (case w_FORMS_pass => k_is)
    (case w_FORMS_drop => k_is)
    (case a_NEEDS => k_is)
    (case l_NEEDS => k_is)
    (case kl_NEEDS => repeat (first | exact trivial | refine ⟨⟨_, _, rfl, rfl⟩, ?_⟩))
    (case lo_NEEDS => first | rfl | decide)
    (case w_NEEDS_set => k_is)
    (case w_NEEDS_copy => k_is)
    (case y_NEEDS_copy => k_is)
    (case w_NEEDS_add => k_is)
    (case y_NEEDS_add => k_is)
    (case w_NEEDS_length => k_is)
    (case w_NEEDS_load => k_is)
    (case y_NEEDS_load => k_is)
    (case w_NEEDS_jump => k_is)
    (case w_NEEDS_less => k_is)
    (case y_NEEDS_less => k_is)
    (case w_NEEDS_atmost => k_is)
    (case y_NEEDS_atmost => k_is)
    (case w_NEEDS_same => k_is)
    (case y_NEEDS_same => k_is)
    (case w_NEEDS_pass => k_is)
    (case w_NEEDS_drop => k_is)
    (case a_is_int => k_is)
    (case l_is_int => k_is)
    (case c_is_int => k_is)
    (case k_is_int => k_is)
    (case a_number_in => k_is)
    (case l_number_in => k_is)
    (case c_number_in => k_is)
    (case k_number_in => k_is)
    (case a_signed_in => k_is)
    (case l_signed_in => k_is)
    (case c_signed_in => k_is)
    (case k_signed_in => k_is)
    (case a_word_in => k_is)
    (case l_word_in => k_is)
    (case c_word_in => k_is)
    (case k_word_in => k_is)
    (case a_instruction_in => k_is)
    (case l_instruction_in => k_is)
    (case c_instruction_in => k_is)
    (case k_instruction_in => k_is)
    (case a_read_lines => k_is)
    (case l_read_lines => k_is)
    (case c_read_lines => k_is)
    (case k_read_lines => k_is)
    (case a_Pr_init => k_is)
    (case i_Pr_init => k_is)
    (case l_Pr_init => k_is)
    (case c_Pr_init => k_is)
    (case k_Pr_init => k_is)
    (case a_Pr_lines => k_is)
    (case u_Pr_lines => k_is)
    (case v_Pr_lines => k_is)
    (case r_Pr_lines => k_is)
    (case l_Pr_lines => k_is)
    (case c_Pr_lines => k_is)
    (case k_Pr_lines => k_is)
    (case a_is_packet => k_is)
    (case l_is_packet => k_is)
    (case c_is_packet => k_is)
    (case k_is_packet => k_is)
    (case a_look_at_packet => k_is)
    (case l_look_at_packet => k_is)
    (case c_look_at_packet => k_is)
    (case k_look_at_packet => k_is)
    (case a_is_unset => k_is)
    (case l_is_unset => k_is)
    (case c_is_unset => k_is)
    (case k_is_unset => k_is)
    (case a_does_go => k_is)
    (case l_does_go => k_is)
    (case c_does_go => k_is)
    (case k_does_go => k_is)
    (case a_put => k_is)
    (case l_put => k_is)
    (case c_put => k_is)
    (case k_put => k_is)
    (case a_gone => k_is)
    (case l_gone => k_is)
    (case c_gone => k_is)
    (case k_gone => k_is)
    (case a_run => k_is)
    (case l_run => k_is)
    (case c_run => k_is)
    (case k_run => k_is)
    (case a_trace => k_is)
    (case l_trace => k_is)
    (case c_trace => k_is)
    (case k_trace => k_is)
    (case a_l_pot => k_is)
    (case l_l_pot => k_is)
    (case c_l_pot => k_is)
    (case k_l_pot => k_is)
    (case a_l_take => k_is)
    (case l_l_take => k_is)
    (case c_l_take => k_is)
    (case k_l_take => k_is)
    (case a_l_of => k_is)
    (case l_l_of => k_is)
    (case c_l_of => k_is)
    (case k_l_of => k_is)
    (case a_l_cells => k_is)
    (case l_l_cells => k_is)
    (case c_l_cells => k_is)
    (case k_l_cells => k_is)
    (case a_l_number => k_is)
    (case l_l_number => k_is)
    (case c_l_number => k_is)
    (case k_l_number => k_is)
    (case a_l_instruction => k_is)
    (case l_l_instruction => k_is)
    (case c_l_instruction => k_is)
    (case k_l_instruction => k_is)
    (case a_l_program => k_is)
    (case l_l_program => k_is)
    (case c_l_program => k_is)
    (case k_l_program => k_is)
    (case a_l_text => k_is)
    (case l_l_text => k_is)
    (case c_l_text => k_is)
    (case k_l_text => k_is)
    (case a_l_packet => k_is)
    (case l_l_packet => k_is)
    (case c_l_packet => k_is)
    (case k_l_packet => k_is)
    (case a_l_lacks => k_is)
    (case l_l_lacks => k_is)
    (case c_l_lacks => k_is)
    (case k_l_lacks => k_is)
    (case a_l_run => k_is)
    (case l_l_run => k_is)
    (case c_l_run => k_is)
    (case k_l_run => k_is)
    (case a_l_known_right => k_is)
    (case l_l_known_right => k_is)
    (case c_l_known_right => k_is)
    (case k_l_known_right => k_is)
    (case a_l_right => k_is)
    (case l_l_right => k_is)
    (case c_l_right => k_is)
    (case k_l_right => k_is)
    (case a_law => k_is)
    (case l_law => k_is)
    (case c_law => k_is)
    (case k_law => k_is)

