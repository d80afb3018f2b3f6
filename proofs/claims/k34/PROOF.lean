import PyProof.Rows.All
import HandS.ForMost
import HandS.IsInst
import HandS.SlotsVar
import HandS.Small
import HandS.Style
import HandS.Flow
import HandS.Conv
import HandS.TupAny
import HandS.Star
import HandS.Wide
import HandS.Exc
import KE.GoesEnum
import PyProof.ReprRoads
import PySem.Challenge.RW_passedastold_k34_tight_bounds_and_least
import HandS.Slots
import PyProof.ReprLen
import PyProof.Rows.RegStrFacts
import HandS.Ends
set_option Elab.async false
set_option linter.all false
set_option maxRecDepth 100000
set_option maxHeartbeats 4000000
/-! A layer of our own over HandS: what stays, callees as one fact, calls by keywords alone, defs that know that nothing is being shown (repr), repr of data, great powers, enumerate of a tuple, an attribute with a slot as a target. -/
namespace L2.PL
open PySem PySem.Spec PyProof.Rows

/-! ### what stays -/
/-- all that was tracked, but at W, is as it was -/
def Old (W : List Addr) (H H' : Hp) : Prop := ∀ b o, b ∉ W → H b = some o → H' b = some o
theorem Old.refl (W : List Addr) (H : Hp) : Old W H H := fun _ _ _ h => h
theorem Old.trans {W : List Addr} {H H1 H2 : Hp} (a : Old W H H1) (b : Old W H1 H2) : Old W H H2 := fun c o n h => b c o n (a c o n h)
theorem Old.mono {W W' : List Addr} {H H' : Hp} (a : Old W H H') (h : ∀ x ∈ W, x ∈ W') : Old W' H H' := fun c o n e => a c o (fun m => n (h c m)) e
theorem Old.new {W : List Addr} {H H' : Hp} {p : Addr} {o : HO} (a : Old W H H') (n : H' p = none) : Old W H (upd H' p o) := fun c u nc e => by
  have e' := a c u nc e
  rw [upd_ne (ne_of_none e' n)]
  exact e'
theorem Old.new0 {W : List Addr} {H : Hp} {p : Addr} {o : HO} (n : H p = none) : Old W H (upd H p o) := (Old.refl W H).new n
theorem Old.put {W : List Addr} {H H' : Hp} {p : Addr} {o : HO} (a : Old W H H') (m : p ∈ W) : Old W H (upd H' p o) := fun c u nc e => by
  have q : c ≠ p := fun z => nc (by rw [z]; exact m)
  rw [upd_ne q]
  exact a c u nc e
/-- written where nothing stood at first -/
theorem Old.put0 {W : List Addr} {H H' : Hp} {p : Addr} {o : HO} (a : Old W H H') (m : H p = none) : Old W H (upd H' p o) := fun c u nc e => by
  rw [upd_ne (ne_of_none e m)]
  exact a c u nc e
theorem Old.free {W : List Addr} {H H' : Hp} (a : Old W H H') {p : Addr} (h : H' p = none) (n : p ∉ W) : H p = none := by
  cases q : H p with
  | none => rfl
  | some o =>
    rw [a p o n q] at h
    cases h
theorem Old.same {H H' : Hp} (a : Old [] H H') : Same H H' := fun b o e => a b o (by simp) e
/-- a step at W that stood not ahead: nothing of the old changed -/
theorem Old.drop {a : Addr} {W : List Addr} {H H1 H2 : Hp} (s : Old W H H1) (t : Old (a :: W) H1 H2) (n : H a = none) : Old W H H2 := fun b o nb e =>
  t b o (fun m => by
    rcases List.mem_cons.mp m with z | z
    · rw [z, n] at e; cases e
    · exact nb z) (s b o nb e)
/-- tuples and locked things stay -/
def Tk (H H' : Hp) : Prop := (∀ b xs, H b = some (.tup xs) → H' b = some (.tup xs)) ∧ ∀ b o u, H b = some (.frz o u) → H' b = some (.frz o u)
theorem Tk.refl (H : Hp) : Tk H H := ⟨fun _ _ h => h, fun _ _ _ h => h⟩
theorem Tk.trans {H H1 H2 : Hp} (a : Tk H H1) (b : Tk H1 H2) : Tk H H2 := ⟨fun c xs h => b.1 c xs (a.1 c xs h), fun c o u h => b.2 c o u (a.2 c o u h)⟩
theorem Tk.seq {K : PySem.W.Frag} {H H' : Hp} {a : Addr} {xs : List V} (e : Tk H H') (h : SqT K H a xs) : SqT K H' a xs := by
  rcases h with (h | ⟨o, h⟩) | h
  · exact .inl (.inl (e.1 _ _ h))
  · exact .inl (.inr ⟨o, e.2 _ _ _ h⟩)
  · exact .inr h
/-- what may change is no tuple -/
def NoTup (W : List Addr) (H : Hp) : Prop := ∀ a ∈ W, (∀ xs, H a ≠ some (.tup xs)) ∧ ∀ o u, H a ≠ some (.frz o u)
theorem Old.tk {W : List Addr} {H H' : Hp} (a : Old W H H') (n : NoTup W H) : Tk H H' :=
  ⟨fun b xs e => a b _ (fun m => (n b m).1 xs e) e, fun b o u e => a b _ (fun m => (n b m).2 o u e) e⟩
theorem NoTup.nil {H : Hp} : NoTup [] H := fun _ h => by simp at h
theorem NoTup.one {a : Addr} {H : Hp} {xs : List V} (h : H a = some (.lst xs)) : NoTup [a] H := fun b m => by
  have e : b = a := by simpa using m
  subst e
  exact ⟨fun ys q => (by rw [h] at q; cases q), fun o u q => (by rw [h] at q; cases q)⟩
theorem SqT.seq0 {K : PySem.W.Frag} {H H' : Hp} {a : Addr} {xs : List V} (h : SqT K H a xs) (e : Same H H') : SqT K H' a xs := by
  rcases h with (h | ⟨o, h⟩) | h
  · exact .inl (.inl (e _ _ h))
  · exact .inl (.inr ⟨o, e _ _ h⟩)
  · exact .inr h

/-! ### data of tuples -/
mutual
/-- tuples, ints, texts, .. alone -/
def tupOnly : PyData → Bool
  | .none => true
  | .bool _ => true
  | .int _ => true
  | .str _ => true
  | .list _ => false
  | .tuple ds => tupOnlyAll ds
  | .dict _ => false
def tupOnlyAll : List PyData → Bool
  | [] => true
  | d :: ds => tupOnly d && tupOnlyAll ds
end
mutual
theorem Dp.keep {K : PySem.W.Frag} {H H' : Hp} (t : Tk H H') : ∀ (d : PyData) (v : V), tupOnly d = true → Dp K H v d → Dp K H' v d
  | .none, _, _, h => by cases h; exact .non
  | .bool _, _, _, h => by cases h; exact .bl _
  | .int _, _, _, h => by cases h; exact .int _
  | .str _, _, _, h => by cases h; exact .str _
  | .list _, _, q, _ => by cases q
  | .tuple ds, _, q, h => by
    cases h with
    | tup hs ha => exact .tup (t.seq hs) (Dp.keepAll t ds _ q ha)
  | .dict _, _, q, _ => by cases q
theorem Dp.keepAll {K : PySem.W.Frag} {H H' : Hp} (t : Tk H H') : ∀ (ds : List PyData) (vs : List V), tupOnlyAll ds = true → DpAll K H vs ds → DpAll K H' vs ds
  | [], _, _, h => by cases h; exact .nil
  | d :: ds, _, q, h => by
    cases h with
    | cons h1 h2 =>
      have q' : (tupOnly d && tupOnlyAll ds) = true := q
      rw [Bool.and_eq_true] at q'
      exact .cons (Dp.keep t d _ q'.1 h1) (Dp.keepAll t ds _ q'.2 h2)
end
theorem DpAll.get {K : PySem.W.Frag} {H : Hp} : ∀ {vs : List V} {ds : List PyData} {i : Nat} {d : PyData}, DpAll K H vs ds → ds[i]? = some d → ∃ v, vs[i]? = some v ∧ Dp K H v d
  | _, _, _, _, .nil, e => by simp at e
  | _, _, 0, _, .cons h _, e => by simp at e; subst e; exact ⟨_, rfl, h⟩
  | _, _, i + 1, d, .cons _ t, e => by
    obtain ⟨v, h1, h2⟩ := DpAll.get (i := i) (d := d) t (by simpa using e)
    exact ⟨v, by simpa using h1, h2⟩
theorem DpAll.length {K : PySem.W.Frag} {H : Hp} : ∀ {vs : List V} {ds : List PyData}, DpAll K H vs ds → vs.length = ds.length
  | _, _, .nil => rfl
  | _, _, .cons _ t => by simp [DpAll.length t]
theorem DpAll.of {K : PySem.W.Frag} {H : Hp} : ∀ {vs : List V} {ds : List PyData}, vs.length = ds.length → (∀ (i : Nat) v d, vs[i]? = some v → ds[i]? = some d → Dp K H v d) → DpAll K H vs ds
  | [], [], _, _ => .nil
  | [], _ :: _, h, _ => by simp at h
  | _ :: _, [], h, _ => by simp at h
  | v :: vs, d :: ds, h, f => .cons (f 0 v d rfl rfl) (DpAll.of (by simpa using h) fun i x y e1 e2 => f (i + 1) x y (by simpa using e1) (by simpa using e2))
theorem DpAll.append {K : PySem.W.Frag} {H : Hp} : ∀ {vs ws : List V} {ds es : List PyData}, DpAll K H vs ds → DpAll K H ws es → DpAll K H (vs ++ ws) (ds ++ es)
  | _, _, _, _, .nil, h => h
  | _, _, _, _, .cons a t, h => .cons a (DpAll.append t h)
theorem Dp.ofInts {K : PySem.W.Frag} {H : Hp} : ∀ (ns : List Int), DpAll K H (ns.map V.int) (ns.map PyData.int)
  | [] => .nil
  | n :: ns => .cons (.int n) (Dp.ofInts ns)

/-! ### callees as one fact -/
structure Cal (P : Program) (w : World) (K : PySem.W.Frag) (mg : Str → Option Value) (base : Heap) (CX : CXT) (x : Str) (ps : List Str) (k : Nat) (sp : Sp) : Prop where
  ex : ∃ (f : Addr) (fd : FuncData), mg x = some (.ref f) ∧ PySem.W.keepIn K (.ref f) = true ∧ Binds K fd ps [] ∧ (∀ ks : List Str, True) ∧ FnOk P w K mg base CX k f fd ps sp
section
variable {X : Cx} {CX : CXT} {j k : Nat} {ps : List Str} {sp : Sp} {E : XK} {x : Str} {p pos : Pos} {e : Expr} {es : List Expr} {t : TA}
theorem pe_cal (C : Cal X.prog X.w X.K X.mg X.base CX x ps k sp) (hr : Room j X.A) (hg : Gl X x) (hx : Passes CX X E) (ha : PA X (e :: es) t) (hk : k ≤ j := by decide)
    (hdb : (x == ("__debug__" : Str)) = false := by decide) (he : starEach (e :: es) X.env = (false, eval e X.env) :: starEach es X.env := by rfl) (hpl : (backTo pos (starEach es X.env)).any (·.1) = false := by rfl) :
    PE X (.Call (.Name x p) (e :: es) [] pos) (tCall sp [] E t) := by
  obtain ⟨f, fd, hm, kp, hb, _, F⟩ := C.ex
  exact pe_call F (hr.mono hk) hg hm kp hb .nil hx ha hdb he hpl
theorem pe_cal0 (C : Cal X.prog X.w X.K X.mg X.base CX x ps k sp) (hr : Room j X.A) (hg : Gl X x) (hx : Passes CX X E) (hk : k ≤ j := by decide) (hdb : (x == ("__debug__" : Str)) = false := by decide) :
    PE X (.Call (.Name x p) [] [] pos) (tCall sp [] E tNil) := by
  obtain ⟨f, fd, hm, kp, hb, _, F⟩ := C.ex
  exact pe_call0 F (hr.mono hk) hg hm kp hb .nil hx hdb
end

/-! ### defs that are called where nothing is being shown -/
structure FnOkG (P : Program) (w : World) (K : PySem.W.Frag) (mg : Str → Option Value) (base : Heap) (CX : CXT) (k : Nat) (f : Addr) (fd : FuncData) (ps : List Str) (sp : Sp) : Prop where
  len : ∀ vs H Q E, sp vs H Q E → vs.length = ps.length
  run : ∀ (A : Around) (outer : List Env) (s : Shared) (H : Hp) (args : Args) (us : List Value) (vs : List V) (Q : VK) (E : XK), Room k A → A.guards = some [] → Env0 P w K mg base A outer s H → BindsTo s fd args (ps.zip us) → Vals vs us → sp vs H Q E →
    codeAny (model P w) A (.call (.ref f) args) (CR CX outer P w H s Q E) s
theorem FnOk.g {P : Program} {w : World} {K : PySem.W.Frag} {mg : Str → Option Value} {base : Heap} {CX : CXT} {k : Nat} {f : Addr} {fd : FuncData} {ps : List Str} {sp : Sp} (F : FnOk P w K mg base CX k f fd ps sp) : FnOkG P w K mg base CX k f fd ps sp :=
  ⟨F.len, fun A outer s H args us vs Q E hr _ => F.run A outer s H args us vs Q E hr⟩
theorem FnOkG.mono {P : Program} {w : World} {K : PySem.W.Frag} {mg : Str → Option Value} {base : Heap} {CX : CXT} {j k : Nat} {f : Addr} {fd : FuncData} {ps : List Str} {sp : Sp} (F : FnOkG P w K mg base CX j f fd ps sp) (h : j ≤ k) :
    FnOkG P w K mg base CX k f fd ps sp := ⟨F.len, fun A outer s H args us vs Q E hr => F.run A outer s H args us vs Q E (hr.mono h)⟩
structure CalG (P : Program) (w : World) (K : PySem.W.Frag) (mg : Str → Option Value) (base : Heap) (CX : CXT) (x : Str) (ps : List Str) (k : Nat) (sp : Sp) : Prop where
  ex : ∃ (f : Addr) (fd : FuncData), mg x = some (.ref f) ∧ PySem.W.keepIn K (.ref f) = true ∧ Binds K fd ps [] ∧ FnOkG P w K mg base CX k f fd ps sp
section
variable {X : Cx} {CX : CXT} {j k : Nat} {f : Addr} {fd : FuncData} {ps ks : List Str} {sp : Sp} {E : XK} {x : Str} {p pos : Pos} {e : Expr} {es : List Expr} {kws : List Keyword} {t tk : TA} {ds : List Value} {dvs : List V}
theorem run_fnG {pins : List (Addr × Obj)} {σ : L2.St} {H : Hp} {s : Shared} {Q : VK} {us : List Value} {vs : List V} (F : FnOkG X.prog X.w X.K X.mg X.base CX k f fd ps sp) (hr : Room k X.A) (hG : X.A.guards = some []) (hb : Binds X.K fd ps []) (hx : Passes CX X E)
    (I : Inv X pins σ H s) (r : Vals vs us) (h : sp vs H Q E) : wpAny (model X.prog X.w) X.A (call (.ref f) us) (EP X pins σ Q) X.xe s := by
  have hl : us.length = ps.length := by rw [← r.length]; exact F.len _ _ _ _ h
  have hb' : BindsTo s fd ⟨us, []⟩ (ps.zip us) := by
    have q := hb s us I.kIn (by rw [List.append_nil]; exact hl)
    rw [List.append_nil] at q
    exact q
  refine wpAny_call (codeAny_mono (F.run X.A X.stack s H ⟨us, []⟩ us vs Q E hr hG I.env0 hb' r h) fun r s' hq => ?_)
  cases r with
  | error e => exact hx pins σ H s e s' I hq
  | ok fl =>
    cases fl with
    | ret u => exact I.after hq
    | next => exact False.elim hq
    | brk => exact False.elim hq
    | cont => exact False.elim hq
theorem pe_calG (C : CalG X.prog X.w X.K X.mg X.base CX x ps k sp) (hr : Room j X.A) (hG : X.A.guards = some []) (hg : Gl X x) (hx : Passes CX X E) (ha : PA X (e :: es) t) (hk : k ≤ j := by decide)
    (hdb : (x == ("__debug__" : Str)) = false := by decide) (he : starEach (e :: es) X.env = (false, eval e X.env) :: starEach es X.env := by rfl) (hpl : (backTo pos (starEach es X.env)).any (·.1) = false := by rfl) :
    PE X (.Call (.Name x p) (e :: es) [] pos) (tCall sp [] E t) := by
  obtain ⟨f, fd, hm, kp, hb, F⟩ := C.ex
  refine ⟨fun pins s σ H Q I h => ?_⟩
  refine wpAny_Call_Name_kw (ld_glob I hg hm ?_ hdb)
  refine PySem.W.callWith_K (h₀ := X.base) I.ok.mod.kin kp (thn (ha.run pos pins s σ H _ I h) fun us s1 ⟨vs, H1, I1, r, q⟩ => ⟨I1.kIn, ?_⟩) he hpl
  refine run_fnG F (hr.mono hk) hG hb hx I1 r ?_
  have q' : sp (vs ++ []) H1 Q E := q
  rw [List.append_nil] at q'
  exact q'
/-- f(k = v, ..), no positional argument -/
theorem pe_callK0 {g : List Value → List Value → List Value} {gV : List V → List V → List V} (F : FnOk X.prog X.w X.K X.mg X.base CX k f fd ps sp) (hr : Room k X.A) (hg : Gl X x) (hm : X.mg x = some (.ref f)) (hk : PySem.W.keepIn X.K (.ref f) = true)
    (hb : KBinds X.K fd ps ks g gV) (hx : Passes CX X E) (hkw : PK X kws tk)
    (hall : (backToKw pos (keywordEach kws X.env)).all (·.1.isSome) = true := by rfl) (hks : (backToKw pos (keywordEach kws X.env)).filterMap (·.1) = ks := by rfl)
    (hdb : (x == ("__debug__" : Str)) = false := by decide)
    (hpl : ((backTo pos (starEach [] X.env)).any (·.1) || (backToKw pos (keywordEach kws X.env)).any (·.1.isNone)) = false := by rfl) :
    PE X (.Call (.Name x p) [] kws pos) (tCallK sp gV E tNil tk) := by
  refine ⟨fun pins s σ H Q I h => ?_⟩
  refine wpAny_Call_Name_kw (ld_glob I hg hm ?_ hdb)
  refine PySem.W.callWith_KW0 (h₀ := X.base) (first := []) I.ok.mod.kin hk hall ?_ hpl
  refine thn (hkw.run pos pins s σ H _ I h) fun ws s2 ⟨zs, H2, I2, rz, q2⟩ => ⟨I2.kIn, ?_⟩
  rw [hks]
  exact run_fnk F hr hb hx I2 .nil rz q2
end
section
variable {P : Program} {w : World} {K : PySem.W.Frag} {mg : Str → Option Value} {base : Heap}
theorem guards_deeper {A : Around} {env : Env} (h : A.guards = some []) : (A.deeper env).guards = some [] := by
  first | exact h | (simp [Around.deeper]; exact h)
/-- a def, by its body; nothing is being shown -/
theorem _root_.L2.Fun.okG {x qual : Str} {st : Stmt} {f : Addr} {fd : FuncData} {N ps : List Str} {k : Nat} {sp : Sp} (F : Fun K x qual st f fd) (S : FnScope N ps (defScope st)) (len : ∀ vs H Q E, sp vs H Q E → vs.length = ps.length)
    (hbody : ∀ (cdv : Value) (A : Around) (outer : List Env) (s : Shared) (H : Hp) (vs : List V) (Q : VK) (E : XK), Room k (A.deeper (envOfC qual (defScope st) s.heap.objs.size f cdv)) → (A.deeper (envOfC qual (defScope st) s.heap.objs.size f cdv)).guards = some [] → sp vs H Q E →
      ∃ t, PSs (cxOf CX0 P w K mg base N qual (defScope st) f cdv A outer s H E).nox (defBody st) t ∧ t { nx := fun _ H' => Q .non H', rt := Q } (start N vs) H) : FnOkG P w K mg base CX0 (k + 1) f fd ps sp := by
  obtain ⟨oc, od, kV, doc, pm, an, cdv, ct, osl, rfl, lk, hcd⟩ := F.ex
  refine ⟨len, fun A outer s H args us vs Q E hr hG e0 hb r hsp => ?_⟩
  have hl := len _ _ _ _ hsp
  have KX : K.In s.heap := e0.mod.kin.keeps fun b o e => (e0.bs b o e).1
  have lim : s.heap.NoLimit := e0.mod.nolimit.keeps fun b o e => (e0.bs b o e).1
  have hkind : ∀ y ∈ ps.zip us, (defScope st).names.lookup y.1 = some .local ∨ ((defScope st).names.lookup y.1 = some .cell ∧ ((cellsFrom (s.heap.objs.size + 1) (defScope st).names []).lookup y.1).isSome = true) := fun ⟨n, v⟩ hy => by
    rcases S.par n (List.of_mem_zip hy).1 with q | q
    · exact .inl q
    · exact .inr ⟨q, PySem.W.cellsFrom_some _ _ _ (.inl q)⟩
  refine codeAny_call_function hr.depth (KX _ _ lk) rfl S.co S.gen rfl (PySem.W.codeRec_of KX hcd) (hb _ _ _ _ ?_)
  refine wpAny_newFunctionEnv_cells S.kind hkind fun env he s1 x => ?_
  subst he
  refine ⟨lim.keeps x.toInCall.keep, codeAny_func ?_⟩
  obtain ⟨t, ht, hq⟩ := hbody cdv A outer s H vs Q E (hr.deeper _) (guards_deeper hG) hsp
  have I : Inv (cxOf CX0 P w K mg base N qual (defScope st) f cdv A outer s H E) [] (start N vs) H s1 := inv_start S hr.hd e0 hl r x
  refine wpAny_mono (ht.nox.run [] s1 (start N vs) H _ I hq) (fun fl s' hs => ?_) fun e s' hs => hs
  have fin : ∀ {σ' : St} {H' : Hp} {v : V} {u : Value}, Inv (cxOf CX0 P w K mg base N qual (defScope st) f cdv A outer s H E) [] σ' H' s' → RelV v u → Q v H' → CE outer P w H s Q u s' :=
    fun {σ' H' v u} J rv q => ⟨v, H', J.os, J.bare, J.base, J.hok, rv, q⟩
  cases fl with
  | ret u =>
    obtain ⟨v, σ', H', J, rv, q⟩ := hs
    exact fin J rv q
  | next =>
    obtain ⟨σ', H', J, q⟩ := hs
    exact fin (v := V.non) (u := Value.none) J rfl q
  | brk =>
    obtain ⟨_, _, _, q⟩ := hs
    exact False.elim q
  | cont =>
    obtain ⟨_, _, _, q⟩ := hs
    exact False.elim q
end
end L2.PL

namespace L2.PL
open PySem PySem.Spec PyProof.Rows
section
variable {X : Cx}
/-! ### repr of data -/
def rRepr (K : PySem.W.Frag) : List V → Hp → VK → Prop := fun xs H Q => ∃ a d, xs = [.ref a] ∧ Dp K H (.ref a) d ∧ d.showable = true ∧ d.hasDict = false ∧ d.depth ≤ 60 ∧ d.shown.length ≤ sizeLine ∧ Q (.str d.shown) H
theorem call_reprD (hG : X.A.guards = some []) (hu : X.A.units + 64 < cLine) : CallR X (.builtin "repr") (rRepr X.K) := by
  intro pins s σ H xs us Q I r h
  obtain ⟨a, d, rfl, hd, h1, h2, h3, h4, q⟩ := h
  obtain rfl := Vals.ref1 r
  obtain ⟨as, hr⟩ := Dp.reads I d _ _ hd rfl
  exact repr_of_reads' hr h1 (fun z => by rw [h2] at z; cases z) hG (by omega) (fun b o e => e) (fun h' u tk k => ⟨.str d.shown, H, I.kept (t' := tk) k, ⟨u, rfl⟩, q⟩) h4
/-! ### great powers -/
theorem op_powW : OpR X (binaryOp .Pow) (rI (fun i j => 0 ≤ j ∧ (Builtin.Int.intBits i : Int) * j ≤ 2 ^ 27) fun i j => .int (i ^ j.toNat)) := opI fun _ _ _ _ _ _ _ hc q => pow_int hc.1 hc.2 q
/-! ### o.f, f a slot, as a target -/
def gSlot (C : Addr) (i : Nat) (ta : TE) : TG := fun v σ H Q => ta σ H fun x H1 => ∃ a dx vs, x = .ref a ∧ SlAt H1 a C dx vs ∧ Q σ (upd H1 a (SlO C dx a (putS i v vs)))
theorem pg_slot {o : Expr} {f : Str} {pos : Pos} {C p : Addr} {i : Nat} {ta : TE} (c : SCls X.K C) (k : Slt X.K C f i p) (ha : PE X o ta) : PG X (.Attribute o f pos) (gSlot C i ta) := by
  refine ⟨fun pins s σ H v u Q I r h => ?_⟩
  rw [assign_Attribute]
  refine wpAny_bind (wpAny_holding (thn (ha.run pins s σ H _ I h) fun ov s1 ⟨x, H1, I1, r1, a, dx, vs, ex, ea, q⟩ => ?_))
  subst ex
  obtain rfl : ov = Value.ref a := r1
  refine wpAny_bind (wpAny_standAt (wpAny_bind (wpAny_holding (setslot_ok I1 ea c k r fun s2 I2 => ?_))))
  exact wpAny_release ⟨σ, _, I2, q⟩
end
end L2.PL

namespace L2.PL
open PySem PySem.Spec PyProof.Rows
/-! ### enumerate(a tuple) -/
def IteT (K : PySem.W.Frag) (a : Addr) : It :=
  ⟨fun i H => ∃ (xs : List V) (x : V), SqT K H a xs ∧ xs[i]? = some x, fun i H v H' => ∃ T x, v = .ref T ∧ H T = none ∧ H' = upd H T (.tup [.int (i : Nat), x]) ∧ ∀ xs, SqT K H a xs → xs[i]? = some x, fun i H => ∃ xs : List V, SqT K H a xs ∧ xs.length = i⟩
theorem tup_ne_iter {h : Heap} {it a : Addr} {i : Nat} {items : Array Value} (h1 : h.IsTupleIter it a i) (h2 : h.IsTuple a items) : a ≠ it := fun z => by
  obtain ⟨o, ho, hc, hd⟩ := h1
  obtain ⟨o2, ho2, hc2, n, hd2⟩ := h2
  rw [z, ho] at ho2
  cases ho2
  rw [hd] at hd2
  cases hd2
theorem tup_ne_enum {h : Heap} {e it a : Addr} {i : Int} {old : Value} {items : Array Value} (h1 : IsEnum h e it i old) (h2 : h.IsTuple a items) : e ≠ a := fun z => by
  obtain ⟨o2, ho2, hc2, n, hd2⟩ := h2
  have h1' : h.get? e = _ := h1
  rw [z, ho2] at h1'
  cases h1'
  cases hd2
theorem turn_enumT {P : Program} {w : World} {K : PySem.W.Frag} {elts : List Expr} {kk : Nat} {tpos : Pos} (a e it : Addr) :
    Turn P w K (.Tuple elts kk tpos) (IteT K a) [e, it] e (fun i h => (∃ old, IsEnum h e it ((i : Nat) : Int) old) ∧ h.IsTupleIter it a i ∧ e ≠ it) where
  mem := by simp
  obj := fun i h st b hb => by
    obtain ⟨⟨old, he⟩, ⟨o, ho, hc, hd⟩, _⟩ := st
    have e' : b = e ∨ b = it := by simpa using hb
    rcases e' with z | z
    · rw [z]; exact ⟨_, he, fun v q => nomatch q⟩
    · rw [z]; exact ⟨o, ho, fun v q => by rw [hd] at q; cases q⟩
  keep := fun i h h' st k => let ⟨⟨old, he⟩, hi, hne⟩ := st; ⟨⟨old, k e (by simp) _ he⟩, hi.at fun o q => k it (by simp) o q, hne⟩
  item := by
    intro X hP hw hK hc i pins s σ H E I hf st hg
    subst hP hw hK
    obtain ⟨⟨old, he⟩, hit, hne⟩ := st
    obtain ⟨xs, x, hq, hx⟩ := hg
    obtain ⟨its, rv, p, hz⟩ := I.tuple hq
    obtain ⟨u, hu, ru⟩ := rv.get hx
    have hel : e < s.heap.objs.size := Heap.lt_size he
    have hil : it < s.heap.objs.size := by obtain ⟨_, q, _⟩ := hit; exact Heap.lt_size q
    have hui : its.toArray[i]? = some u := by simpa using hu
    have hlt : i < its.toArray.size := (Array.getElem?_eq_some_iff.mp hui).1
    have D := Draws.tuple (prog := X.prog) (w := X.w) (A := X.A.in1) (I.ok.hd hc) it a (tup_ne_iter hit p) its.toArray
    have hef : e ∉ [it, a] := by
      intro hm
      have : e = it ∨ e = a := by simpa using hm
      rcases this with z | z
      · exact hne z
      · exact tup_ne_enum he p z
    refine wpAny_pyNext_enum_itemD D he ⟨hit, p⟩ hlt hne hef fun x' h' tk hx' ho hit' hT hsz hk => ?_
    have ex : x' = u := Option.some.inj (hx'.symm.trans hui)
    subst ex
    refine ⟨_, rfl, wpAny_letOwnedTupleGo_enum (s := { s with heap := h', toks := tk + 1 }) ho fun h'' he' sb => ?_⟩
    have hT2 : h''.get? s.heap.objs.size = some { cls := .type "tuple", data := .seq #[.int i tk, x'] } := (sb.2 _ (Nat.ne_of_gt hel)).trans hT
    have new : ObjOk X.prog X.w (upd H s.heap.objs.size (.tup [.int (i : Nat), x])) h'' s.heap.objs.size (.tup [.int (i : Nat), x]) :=
      ⟨by show 2 ≤ sizeLine; decide, [.int i tk, x'], .cons ⟨_, rfl⟩ (.cons ru .nil), ⟨_, hT2, rfl, _, rfl⟩⟩
    have I1 : Inv X pins σ (upd H s.heap.objs.size (.tup [.int (i : Nat), x])) { s with heap := h'', toks := tk + 1 } :=
      I.turnedNew (ch := [e, it]) (fun b ob hb q => (sb.2 b (fun z => hb (by simp [z]))).trans (hk b ob (fun z => hb (by simp [z])) (fun z => hb (by simp [z])) q)) hf (Nat.le_refl _) new
    refine ⟨.ref s.heap.objs.size, _, I1, rfl, ⟨_, x, rfl, I.hok.fresh (Nat.le_refl _), rfl, fun ys hy => by rw [I.tuple_inj hy hq]; exact hx⟩, ⟨⟨x', ?_⟩, hit'.1.at fun o q => (sb.2 it (Ne.symm hne)).trans q, hne⟩, fun b hb => ?_⟩
    · have e1 : ((i + 1 : Nat) : Int) = (i : Int) + 1 := by omega
      rw [e1]; exact he'
    · have hb' : b < s.heap.objs.size := by
        have e' : b = e ∨ b = it := by simpa using hb
        rcases e' with z | z
        · rw [z]; exact hel
        · rw [z]; exact hil
      rw [upd_ne (Nat.ne_of_lt hb')]
      exact (hf b hb).1
  done := by
    intro X hP hw hK hc i pins s σ H E I hf st hg
    subst hP hw hK
    obtain ⟨⟨old, he⟩, hit, hne⟩ := st
    obtain ⟨xs, hq, hx⟩ := hg
    obtain ⟨its, rv, p, hz⟩ := I.tuple hq
    obtain ⟨f0, f1, f2, f3, f4, f5⟩ := hf it (by simp)
    have hl := rv.length
    have ei : i = its.toArray.size := by simp; omega
    have D := Draws.tuple (prog := X.prog) (w := X.w) (A := X.A.in1) (I.ok.hd hc) it a (tup_ne_iter hit p) its.toArray
    refine wpAny_pyNext_enum_endD D he (by rw [← ei]; exact ⟨hit, p⟩) fun h' eb => ⟨rfl, I.turned (t' := s.toks) (fun b o hb q => eb b o hb q) f0 f1 f3 f4 f5⟩
  self := fun A i s Q E st h => let ⟨⟨_, he⟩, _⟩ := st; wpAny_pyIter_enum he h
theorem meets_enumerate_newT {v : Value} {o : Obj} {H : Heap → Prop} (B : Begins v o H) :
    Meets (Builtin.«enumerate.__new__» ⟨[.type "enumerate", v], []⟩) (fun _ R s => H s.heap ∧
      R (.ok (.ret (.ref (s.heap.push o).objs.size))) { s with heap := (s.heap.push o).push { cls := .type "enumerate", data := .fields #[.none, .bool false, .ref s.heap.objs.size, rawInt 0, .none, .none] } }) :=
  .of_wp fun prog w A R s h => by
    obtain ⟨hp, g, d, tk, os⟩ := s; obtain ⟨h1, h⟩ := h
    have hsub := sub_enumerate
    have q1 : ∀ {A' : Around} {E : Value → Shared → Prop} {Q : Value → Shared → Prop}, Q (.ref hp.objs.size) ⟨hp.push o, g, d, tk, os⟩ → wpAny (model prog w) A' (pyIter v) Q E ⟨hp, g, d, tk, os⟩ :=
      fun q => B.iter prog w _ _ ⟨hp, g, d, tk, os⟩ _ h1 q
    wp_walk using q1
    refine wpAny_stack_any fun st => wpAny_pure ?_
    split
    · rename_i c _ _ _ _ _
      cases (c == Value.type "enumerate")
      · wp_walk using q1
        exact ⟨_, rfl, h⟩
      · wp_walk using q1
        exact ⟨_, rfl, h⟩
    · wp_walk using q1
      exact ⟨_, rfl, h⟩
theorem enum_beginsT {prog : Program} {w : World} {A : Around} {E : Value → Shared → Prop} {s : Shared} {v : Value} {o : Obj} {H : Heap → Prop} {Q : Value → Shared → Prop} (B : Begins v o H) (h1 : H s.heap)
    (h : ∀ h', IsEnum h' (s.heap.objs.size + 1) s.heap.objs.size 0 .none → h'.get? s.heap.objs.size = some o → h'.objs.size = s.heap.objs.size + 2 →
      (∀ b o, s.heap.get? b = some o → h'.get? b = some o) → Q (.ref (s.heap.objs.size + 1)) { s with heap := h' }) :
    wpAny (model prog w) A (call (.type "enumerate") [v]) Q E s := by
  refine callType_new F.called_enumerate (by decide) (F.typeCall_enumerate_1 _) (F.newCall_enumerate_1 _) (fun obj => F.args_object_init_2 obj _) F.entry_enumerate_new
    (meets_enumerate_newT B) ⟨h1, ?_⟩
  have hz : (s.heap.push o).objs.size = s.heap.objs.size + 1 := Heap.size_push ..
  show _ ∧ _
  rw [hz]
  have he : IsEnum ((s.heap.push o).push { cls := .type "enumerate", data := .fields #[.none, .bool false, .ref s.heap.objs.size, rawInt 0, .none, .none] }) (s.heap.objs.size + 1) s.heap.objs.size 0 .none := by
    have := Heap.get?_push_size (s.heap.push o) (o := { cls := .type "enumerate", data := .fields #[.none, .bool false, .ref s.heap.objs.size, rawInt 0, .none, .none] }) rfl
    rw [hz] at this; exact this
  refine ⟨⟨_, he, rfl⟩, h _ he (Heap.get?_push_of_some _ (Heap.get?_push_size _ B.free)) (by rw [Heap.size_push, hz]) fun b o x => Heap.get?_push_of_some _ (Heap.get?_push_of_some _ x)⟩
def iEnumT (K : PySem.W.Frag) (ta : TA) : TI := fun σ H R => ta σ H fun vs H1 => ∃ a xs, vs = [.ref a] ∧ SqT K H1 a xs ∧ R (IteT K a) H1
theorem pi_enumT {X : Cx} {e : Expr} {ta : TA} {p pos tpos : Pos} {elts : List Expr} {kk : Nat} (hg : Gl X "enumerate") (hm : X.mg "enumerate" = none) (ha : PA X [e] ta) (hs : starEach [e] X.env = [(false, eval e X.env)] := by rfl) :
    PI X (.Tuple elts kk tpos) (.Call (.Name "enumerate" p) [e] [] pos) (iEnumT X.K ta) := by
  refine ⟨fun pins s σ H R I h => ?_⟩
  refine Call_ (ld_blt I hg hm boot_enumerate (PyProof.Rows.callWith_type1 (thn (ha.run pos pins s σ H _ I h) fun us s1 ⟨vs, H1, I1, r1, q1⟩ => ?_) hs rfl))
  obtain ⟨a, xs, ex, hq, q⟩ := q1
  subst ex
  cases r1 with
  | cons r rr =>
    cases rr
    cases r
    obtain ⟨its, rv, p', hz⟩ := I1.tuple hq
    refine enum_beginsT (begins_tuple a its.toArray) p' fun h' he hit hsz hk => wpAny_pyIter_enum he ?_
    have I2 : Inv X pins σ H1 { s1 with heap := h' } := I1.kept (t' := s1.toks) hk
    refine ⟨s1.heap.objs.size + 1, [s1.heap.objs.size + 1, s1.heap.objs.size], _, _, H1, rfl, I2, turn_enumT a (s1.heap.objs.size + 1) s1.heap.objs.size, ⟨⟨.none, he⟩, ⟨_, hit, rfl, rfl⟩, Nat.succ_ne_self _⟩, fun b hb => ?_, q⟩
    have e' : b = s1.heap.objs.size + 1 ∨ b = s1.heap.objs.size := by simpa using hb
    have hle : s1.heap.objs.size ≤ b := by
      rcases e' with z | z
      · rw [z]; exact Nat.le_add_right _ _
      · rw [z]; exact Nat.le_refl _
    exact I1.fpOk hle (I1.hok.fresh hle)
end L2.PL

namespace L2.PL
open PySem PySem.Spec PyProof.Rows
/-! ### built-in names -/
theorem bz_isinstance : bootBuiltins "isinstance" = some (.builtin "isinstance") := by decide +kernel
theorem bz_len : bootBuiltins "len" = some (.builtin "len") := by decide +kernel
theorem bz_all : bootBuiltins "all" = some (.builtin "all") := by decide +kernel
theorem bz_any : bootBuiltins "any" = some (.builtin "any") := by decide +kernel
theorem bz_min : bootBuiltins "min" = some (.builtin "min") := by decide +kernel
theorem bz_max : bootBuiltins "max" = some (.builtin "max") := by decide +kernel
theorem bz_abs : bootBuiltins "abs" = some (.builtin "abs") := by decide +kernel
theorem bz_sum : bootBuiltins "sum" = some (.builtin "sum") := by decide +kernel
theorem bz_repr : bootBuiltins "repr" = some (.builtin "repr") := by decide +kernel
theorem bz_sorted : bootBuiltins "sorted" = some (.builtin "sorted") := by decide +kernel
theorem bz_int : bootBuiltins "int" = some (.type "int") := by decide +kernel
theorem bz_bool : bootBuiltins "bool" = some (.type "bool") := by decide +kernel
theorem bz_str : bootBuiltins "str" = some (.type "str") := by decide +kernel
theorem bz_tuple : bootBuiltins "tuple" = some (.type "tuple") := by decide +kernel
theorem bz_list : bootBuiltins "list" = some (.type "list") := by decide +kernel
structure Bt (mg : Str → Option Value) : Prop where
  z_isinstance : mg "isinstance" = none
  z_len : mg "len" = none
  z_all : mg "all" = none
  z_any : mg "any" = none
  z_min : mg "min" = none
  z_max : mg "max" = none
  z_abs : mg "abs" = none
  z_sum : mg "sum" = none
  z_repr : mg "repr" = none
  z_sorted : mg "sorted" = none
  z_int : mg "int" = none
  z_bool : mg "bool" = none
  z_str : mg "str" = none
  z_tuple : mg "tuple" = none
  z_list : mg "list" = none
  z_range : mg "range" = none
  z_enumerate : mg "enumerate" = none
  z_zip : mg "zip" = none
theorem bt_of {K : PySem.W.Frag} {h : Heap} {mg : Str → Option Value} (X : K.In h) (G : h.Ns mainGlobals mg)
    (h : (["isinstance", "len", "all", "any", "min", "max", "abs", "sum", "repr", "sorted", "int", "bool", "str", "tuple", "list", "range", "enumerate", "zip"] : List Str).all (fun x => PySem.W.nsIn K mainGlobals x == some none) = true) : Bt mg := by
  have f : ∀ x ∈ (["isinstance", "len", "all", "any", "min", "max", "abs", "sum", "repr", "sorted", "int", "bool", "str", "tuple", "list", "range", "enumerate", "zip"] : List Str), mg x = none := fun x hx =>
    PySem.W.mg_none_of X G (by simpa using List.all_eq_true.mp h x hx)
  exact ⟨f _ (by simp), f _ (by simp), f _ (by simp), f _ (by simp), f _ (by simp), f _ (by simp), f _ (by simp), f _ (by simp), f _ (by simp), f _ (by simp), f _ (by simp), f _ (by simp), f _ (by simp), f _ (by simp), f _ (by simp), f _ (by simp), f _ (by simp), f _ (by simp)⟩

/-! ### a block cut behind a statement: what holds there is said once -/
def tCutP (t u : TS) : TS := fun D σ H => ∃ Mid : L2.St → Hp → Prop, t { D with nx := Mid } σ H ∧ ∀ σ' H', Mid σ' H' → u D σ' H'
theorem pss_cutP {X : Cx} {st : Stmt} {rest : List Stmt} {t u : TS} (h1 : PS X st t) (h2 : PSs X rest u) : PSs X (st :: rest) (tCutP t u) := by
  refine ⟨fun pins s σ H D I h => ?_⟩
  obtain ⟨Mid, ha, hb⟩ := h
  refine wpAny_execs_cons (thn (h1.run pins s σ H { D with nx := Mid } I ha) fun f s1 q => ?_)
  cases f with
  | next =>
    obtain ⟨σ', H', I', q⟩ := q
    exact h2.run pins s1 σ' H' D I' (hb σ' H' q)
  | ret v => exact q
  | brk => exact q
  | cont => exact q
/-! ### lists that stay -/
theorem Old.seqL {K : PySem.W.Frag} {W : List Addr} {H H' : Hp} {a : Addr} {xs : List V} (e : Old W H H') (h : SqL K H a xs) (n : a ∉ W) : SqL K H' a xs := by
  rcases h with (h | ⟨o, h⟩) | h
  · exact .inl (.inl (e _ _ n h))
  · exact .inl (.inr ⟨o, e _ _ n h⟩)
  · exact .inr h
/-! ### a pot of draws: [own digits, mixed number, count] -/
structure Pot (H : Hp) (a : Addr) (B : Nat) : Prop where
  ex : ∃ p0 p1 p2 : Int, H a = some (.lst [.int p0, .int p1, .int p2]) ∧ 0 ≤ p0 ∧ 0 ≤ p1 ∧ p1 < 2 ^ 61 ∧ 0 ≤ p2 ∧ p2 ≤ B
theorem Pot.notup {H : Hp} {a : Addr} {B : Nat} (p : Pot H a B) : NoTup [a] H := by
  obtain ⟨p0, p1, p2, h, _⟩ := p.ex
  exact NoTup.one h
theorem Pot.ne {H : Hp} {a b : Addr} {B : Nat} (p : Pot H a B) (h : H b = none) : a ≠ b := by
  obtain ⟨p0, p1, p2, e, _⟩ := p.ex
  exact ne_of_none e h
theorem Pot.old {H H' : Hp} {a : Addr} {B : Nat} {W : List Addr} (p : Pot H a B) (o : Old W H H') (n : a ∉ W) : Pot H' a B := by
  obtain ⟨p0, p1, p2, h, r⟩ := p.ex
  exact ⟨p0, p1, p2, o _ _ n h, r⟩
theorem Pot.mono {H : Hp} {a : Addr} {B C : Nat} (p : Pot H a B) (h : B ≤ C) : Pot H a C := by
  obtain ⟨p0, p1, p2, h1, h2, h3, h4, h5, h6⟩ := p.ex
  exact ⟨p0, p1, p2, h1, h2, h3, h4, h5, by omega⟩
/-! ### the draws' promises -/
/-- a draw: from 0 to u - 1; the pot goes on -/
def spTake : Sp := fun vs H Q _ => ∃ (a : Addr) (u : Int) (B : Nat), vs = [.ref a, .int u] ∧ Pot H a B ∧ 0 < u ∧ u < 1073741824 ∧ B ≤ 1000000 ∧
  ∀ H' d, 0 ≤ d → d < u → Old [a] H H' → Pot H' a (B + 1) → Q (.int d) H'
/-- one of a list -/
def spOf (K : PySem.W.Frag) : Sp := fun vs H Q _ => ∃ (a b : Addr) (xs : List V) (B : Nat), vs = [.ref a, .ref b] ∧ Pot H a B ∧ SqL K H b xs ∧ b ≠ a ∧ 0 < xs.length ∧ xs.length < 1000 ∧ B ≤ 1000000 ∧
  ∀ H' x, x ∈ xs → Old [a] H H' → Pot H' a (B + 1) → Q x H'
def spPot (K : PySem.W.Frag) : Sp := fun vs H Q _ => ∃ (a : Addr) (ns : List Int) (p : Int), vs = [.ref a, .int p] ∧ SqL K H a (ns.map V.int) ∧ ns.length ≤ 63 ∧ 0 ≤ p ∧ p ≤ 63 ∧
  ∀ H' q, Old [] H H' → H q = none → Pot H' q 0 → Q (.ref q) H'
def spCells (K : PySem.W.Frag) : Sp := fun vs H Q _ => ∃ (a : Addr) (ns : List Int) (m : Int), vs = [.ref a, .int m] ∧ SqL K H a (ns.map V.int) ∧ ns.length ≤ 63 ∧ 0 ≤ m ∧ m ≤ 63 ∧
  ∀ H' q (k : Nat), 1 ≤ k → k ≤ 63 → Old [] H H' → H q = none → H' q = some (.lst ((List.range k).map fun i => V.int ((i : Nat) : Int))) → Q (.ref q) H'
theorem fmod_pos {i j : Int} (h : 0 < j) : 0 ≤ i.fmod j ∧ i.fmod j < j := ⟨Int.fmod_nonneg_of_pos i h, Int.fmod_lt_of_pos i h⟩
end L2.PL

namespace L2.T34
open PySem PySem.Spec PyProof.Rows L2.PL
def topS (i : Nat) : Stmt := PySem.Challenge.pw_passedastold_k34_tight_bounds_and_least.main.body.getD i (.Pass ⟨0, 0, 0, 0⟩)
section
variable {P : Program} {w : World} {K : PySem.W.Frag} {mg : Str → Option Value} {base : Heap}
/-! _law_take: slots pot=0 upto=1 digit=2 prime=3 blend=4; cells [] -/
abbrev s_l_take : Stmt := topS 26
abbrev N_l_take : List Str := ["pot", "upto", "digit", "prime", "blend"]
theorem sc_l_take : FnScope N_l_take ["pot", "upto"] (defScope s_l_take) := ⟨rfl, rfl, rfl, by decide +kernel, rfl, by decide +kernel, by decide +kernel⟩
theorem ok_take {f : Addr} {fd : FuncData} (F : Fun K "_law_take" "_law_take" s_l_take f fd) (T : Bt mg) : FnOk P w K mg base CX0 1 f fd ["pot", "upto"] spTake := by
  refine F.ok sc_l_take (fun vs H Q E h => ?_) (fun cdv A outer s H vs Q E hr h => ?_)
  · obtain ⟨a, u, B, rfl, _⟩ := h
    rfl
  · obtain ⟨a, u, B, rfl, ⟨p0, p1, p2, hP, h0, h1, h1', h2, h2'⟩, hu, hu', hB, q⟩ := h
    refine ⟨_, (pss_cons (ps_if (pt_cmpR op_gt (pe_ix ix_list (pv 0) pe_int (fun _ _ => rfl)) pe_int (nomark _))
       (pss_cons (ps_set (i := 2) sc_l_take.nd rfl (.inl rfl) (pe_op op_modN (pe_callTy call_int1 (by rfl) T.z_int bz_int (pa_cons (pe_ix ix_list (pv 0) pe_int (fun _ _ => rfl)) pa_nil)) (pv 1)))
        (pss_cons (ps_asg (pe_op op_fdivN (pe_ix ix_list (pv 0) pe_int (fun _ _ => rfl)) (pv 1)) (pg_sub (pv 0) pe_int set_list))
        (pss_one (ps_ret (pv 2)))))
       pss_nil)
      (pss_cons (ps_asg (pe_op op_add (pe_ix ix_list (pv 0) pe_int (fun _ _ => rfl)) pe_int) (pg_sub (pv 0) pe_int set_list))
      (pss_cons (ps_set (i := 3) sc_l_take.nd rfl (.inl rfl) (pe_ix ix_list (pe_lst (pa_cons pe_int (pa_cons pe_int (pa_cons pe_int (pa_cons pe_int (pa_cons pe_int pa_nil)))))) (pe_op op_modN (pe_callTy call_int1 (by rfl) T.z_int bz_int (pa_cons (pe_ix ix_list (pv 0) pe_int (fun _ _ => rfl)) pa_nil)) pe_int) (fun _ _ => rfl)))
      (pss_cons (ps_set (i := 4) sc_l_take.nd rfl (.inl rfl) (pe_op op_modN (pe_callTy call_int1 (by rfl) T.z_int bz_int (pa_cons (pe_op op_pow (pe_callTy call_int1 (by rfl) T.z_int bz_int (pa_cons (pe_op op_add (pe_op op_add (pe_ix ix_list (pv 0) pe_int (fun _ _ => rfl)) (pe_op op_mul (pe_op op_mul pe_int (pe_ix ix_list (pv 0) pe_int (fun _ _ => rfl))) (pe_ix ix_list (pv 0) pe_int (fun _ _ => rfl)))) pe_int) pa_nil)) pe_int) pa_nil)) (pv 3)))
      (pss_cons (ps_set (i := 4) sc_l_take.nd rfl (.inl rfl) (pe_op op_modN (pe_callTy call_int1 (by rfl) T.z_int bz_int (pa_cons (pe_op op_mul (pv 4) (pe_op op_add (pe_op op_modN (pe_callTy call_int1 (by rfl) T.z_int bz_int (pa_cons (pv 4) pa_nil)) pe_int) (pe_op op_mul pe_int (pe_ix ix_list (pv 0) pe_int (fun _ _ => rfl))))) pa_nil)) pe_int))
      (pss_one (ps_ret (pe_op op_modN (pe_callTy call_int1 (by rfl) T.z_int bz_int (pa_cons (pe_op op_fdivN (pv 4) pe_int) pa_nil)) (pv 1))))))))), ?_⟩
    refine ⟨.ref a, rfl, a, _, 0, .int p0, rfl, rfl, SqL.of hP, rfl, p0, 0, rfl, rfl, _, rfl, ite2 (fun c => ?_) (fun c => ?_)⟩
    · have c : 0 < p0 := of_decide_eq_true c
      refine ⟨.ref a, rfl, a, _, 0, .int p0, rfl, rfl, SqL.of hP, rfl, .inl ⟨p0, rfl, ?_⟩⟩
      refine ⟨.int u, rfl, p0, u, rfl, rfl, by omega, ?_⟩
      refine ⟨.ref a, rfl, a, _, 0, .int p0, rfl, rfl, SqL.of hP, rfl, .int u, rfl, p0, u, rfl, rfl, ⟨by omega, by omega⟩, ?_⟩
      refine ⟨.ref a, rfl, a, _, 0, 0, rfl, rfl, hP, rfl, ?_⟩
      refine ⟨_, rfl, q _ _ (fmod_pos hu).1 (fmod_pos hu).2 ((Old.refl _ _).put (by simp)) ⟨p0.fdiv u, p1, p2, upd_same, ?_, h1, h1', h2, by omega⟩⟩
      exact Int.fdiv_nonneg (by omega) (by omega)
    · have hq2 : (Old [a] H (upd H a (.lst [.int p0, .int p1, .int (p2 + 1)]))) := (Old.refl _ _).put (by simp)
      refine ⟨.ref a, rfl, a, _, 2, .int p2, rfl, rfl, SqL.of hP, rfl, p2, 1, rfl, rfl, .ref a, rfl, a, _, 2, 2, rfl, rfl, hP, rfl, ?_⟩
      -- prime
      refine ⟨by show 5 ≤ sizeLine; decide, fun p hp => ?_⟩
      have npa : a ≠ p := ne_of_none (H := upd H a (.lst ([V.int p0, .int p1, .int p2].set 2 (.int (p2 + 1))))) upd_same hp
      have hP2 : (upd (upd H a (.lst ([V.int p0, .int p1, .int p2].set 2 (.int (p2 + 1))))) p (.lst [.int 2147483647, .int 2147483629, .int 2147483587, .int 2147483579, .int 2147483563])) a = some (.lst [.int p0, .int p1, .int (p2 + 1)]) := by
        rw [upd_ne npa]; exact upd_same
      obtain ⟨m0, m1⟩ := fmod_pos (i := p2 + 1) (j := 5) (by decide)
      obtain ⟨pr, hpr, l1, l2⟩ : ∃ pr : Int, atI [V.int 2147483647, .int 2147483629, .int 2147483587, .int 2147483579, .int 2147483563] ((p2 + 1).fmod 5) = some (.int pr) ∧ 0 < pr ∧ pr < 2147483648 := by
        generalize (p2 + 1).fmod 5 = i at m0 m1
        have : i = 0 ∨ i = 1 ∨ i = 2 ∨ i = 3 ∨ i = 4 := by omega
        rcases this with rfl | rfl | rfl | rfl | rfl
        · exact ⟨_, rfl, by decide, by decide⟩
        · exact ⟨_, rfl, by decide, by decide⟩
        · exact ⟨_, rfl, by decide, by decide⟩
        · exact ⟨_, rfl, by decide, by decide⟩
        · exact ⟨_, rfl, by decide, by decide⟩
      refine ⟨.ref a, rfl, a, _, 2, .int (p2 + 1), rfl, rfl, SqL.of hP2, rfl, .inl ⟨p2 + 1, rfl, p2 + 1, 5, rfl, rfl, (by show (5 : Int) ≠ 0; decide), p, _, _, .int pr, rfl, rfl, SqL.of upd_same, hpr, ?_⟩⟩
      -- blend
      refine ⟨.ref a, rfl, a, _, 1, .int p1, rfl, rfl, SqL.of hP2, rfl, .ref a, rfl, a, _, 2, .int (p2 + 1), rfl, rfl, SqL.of hP2, rfl, 91193, p2 + 1, rfl, rfl, .inl ⟨by decide, by decide⟩,
        .ref a, rfl, a, _, 2, .int (p2 + 1), rfl, rfl, SqL.of hP2, rfl, _, p2 + 1, rfl, rfl, .inr ⟨by omega, by omega⟩, _, _, rfl, rfl, _, 3203, rfl, rfl, .inl ⟨_, rfl, _, 3, rfl, rfl, ⟨by decide, by decide, ?_⟩, .inl ⟨_, rfl, ?_⟩⟩⟩
      · show (p1 + 91193 * (p2 + 1) * (p2 + 1) + 3203).natAbs < 2 ^ 64
        have hx : p2 + 1 ≤ 1000001 := by omega
        have hx0 : 0 ≤ p2 + 1 := by omega
        have hm : (p2 + 1) * (p2 + 1) ≤ 1000001 * 1000001 := Int.mul_le_mul hx hx hx0 (by decide)
        have hm0 : 0 ≤ (p2 + 1) * (p2 + 1) := Int.mul_nonneg hx0 hx0
        rw [Int.mul_assoc]
        generalize (p2 + 1) * (p2 + 1) = m at hm hm0
        omega
      · generalize (p1 + 91193 * (p2 + 1) * (p2 + 1) + 3203) ^ (3 : Int).toNat = big
        obtain ⟨b0, b1⟩ := fmod_pos (i := big) l1
        refine ⟨.int pr, rfl, _, pr, rfl, rfl, by omega, ?_⟩
        dsimp only
        generalize big.fmod pr = bl at b0 b1 ⊢
        -- blend again
        refine ⟨.int bl, rfl, .int bl, rfl, .inl ⟨bl, rfl, _, 12391, rfl, rfl, (by show (12391 : Int) ≠ 0; decide), .ref a, rfl, a, _, 2, .int (p2 + 1), rfl, rfl, SqL.of hP2, rfl, 307, p2 + 1, rfl, rfl, .inl ⟨by decide, by decide⟩, _, _, rfl, rfl,
          bl, _, rfl, rfl, .inl ⟨by omega, by omega⟩, .inl ⟨_, rfl, _, _, rfl, rfl, (by show (2305843009213693907 : Int) ≠ 0; decide), ?_⟩⟩⟩
        dsimp only
        generalize (bl * (bl.fmod 12391 + 307 * (p2 + 1))).fmod 2305843009213693907 = z
        refine ⟨.int z, rfl, _, 181, rfl, rfl, ⟨by decide, by decide⟩, .inl ⟨_, rfl, .int u, rfl, _, u, rfl, rfl, by omega, ?_⟩⟩
        refine q _ _ (fmod_pos hu).1 (fmod_pos hu).2 (((Old.refl _ _).put (by simp)).new hp) ⟨p0, p1, p2 + 1, hP2, h0, h1, h1', by omega, by omega⟩
/-! _law_of: slots pot=0 some=1; cells [] -/
abbrev s_l_of : Stmt := topS 27
abbrev N_l_of : List Str := ["pot", "some"]
theorem sc_l_of : FnScope N_l_of ["pot", "some"] (defScope s_l_of) := ⟨rfl, rfl, rfl, by decide +kernel, rfl, by decide +kernel, by decide +kernel⟩
theorem ok_of {f : Addr} {fd : FuncData} (F : Fun K "_law_of" "_law_of" s_l_of f fd) (T : Bt mg) (C_l_take : Cal P w K mg base CX0 "_law_take" ["pot", "upto"] 1 spTake) : FnOk P w K mg base CX0 2 f fd ["pot", "some"] (spOf K) := by
  refine F.ok sc_l_of (fun vs H Q E h => ?_) (fun cdv A outer s H vs Q E hr h => ?_)
  · obtain ⟨a, b, xs, B, rfl, _⟩ := h
    rfl
  · obtain ⟨a, b, xs, B, rfl, hP, hb, nab, l0, l1, hB, q⟩ := h
    refine ⟨_, (pss_one (ps_ret (pe_ix ix_list (pv 1) (pe_cal C_l_take hr (by rfl) pass0 (pa_cons (pv 0) (pa_cons (pe_callB call_len_seq (by rfl) T.z_len bz_len (pa_cons (pv 1) pa_nil)) pa_nil))) (fun _ _ => rfl)))), ?_⟩
    refine ⟨.ref b, rfl, .ref a, rfl, .ref b, rfl, b, xs, rfl, .inl hb, a, xs.length, B, rfl, hP, by omega, by omega, hB, fun H' d d0 d1 o p => ?_⟩
    have hb' : SqL K H' b xs := o.seqL hb (by simp; exact nab)
    obtain ⟨j, rfl⟩ : ∃ j : Nat, d = (j : Int) := ⟨d.toNat, by omega⟩
    have hj : j < xs.length := by omega
    exact ⟨b, xs, _, xs[j], rfl, rfl, hb', atI_nat (List.getElem?_eq_getElem hj), q _ _ (List.getElem_mem hj) o p⟩
/-! _law_cells: slots script=0 most=1; cells [] -/
abbrev s_l_cells : Stmt := topS 28
abbrev N_l_cells : List Str := ["script", "most"]
theorem sc_l_cells : FnScope N_l_cells ["script", "most"] (defScope s_l_cells) := ⟨rfl, rfl, rfl, by decide +kernel, rfl, by decide +kernel, by decide +kernel⟩
theorem ok_cells {f : Addr} {fd : FuncData} (F : Fun K "_law_cells" "_law_cells" s_l_cells f fd) (T : Bt mg) : FnOk P w K mg base CX0 1 f fd ["script", "most"] (spCells K) := by
  refine F.ok sc_l_cells (fun vs H Q E h => ?_) (fun cdv A outer s H vs Q E hr h => ?_)
  · obtain ⟨a, ns, m, rfl, _⟩ := h
    rfl
  · obtain ⟨a, ns, m, rfl, ha, hl, m0, m1, q⟩ := h
    refine ⟨_, (pss_one (ps_ret (pe_listRg rfl (by rfl) T.z_list (prg_1 (by rfl) T.z_range (pe_callB (call_max2 rfl) (by rfl) T.z_max bz_max (pa_cons pe_int (pa_cons (pe_callB (call_min2 rfl) (by rfl) T.z_min bz_min (pa_cons (pv 1) (pa_cons (pe_callB call_len_seq (by rfl) T.z_len bz_len (pa_cons (pv 0) pa_nil)) pa_nil))) pa_nil))))))), ?_⟩
    refine ⟨.int m, rfl, .ref a, rfl, a, _, rfl, .inl ha, m, _, rfl, 1, _, rfl, _, rfl, ?_⟩
    have hlen : (ns.map V.int).length ≤ 63 := by rw [List.length_map]; exact hl
    obtain ⟨k, e, k1, k2⟩ : ∃ k : Nat, (if (if (((ns.map V.int).length : Nat) : Int) < m then (((ns.map V.int).length : Nat) : Int) else m) > 1 then (if (((ns.map V.int).length : Nat) : Int) < m then (((ns.map V.int).length : Nat) : Int) else m) else 1) = (k : Int) ∧ 1 ≤ k ∧ k ≤ 63 := by
      generalize (ns.map V.int).length = z at hlen
      refine ⟨(if (if (z : Int) < m then (z : Int) else m) > 1 then (if (z : Int) < m then (z : Int) else m) else 1).toNat, ?_, ?_, ?_⟩
      · split <;> split <;> omega
      · split <;> split <;> omega
      · split <;> split <;> omega
    rw [e]
    refine ⟨RgOk.of_le (by decide) (by omega) (by decide) (by omega), fun p hp => ?_⟩
    refine q _ p k k1 k2 (Old.new0 hp) hp ?_
    rw [upd_same]
    show some (HO.lst ((List.range ((k : Int) - 0).toNat).map fun i => V.int (0 + (i : Nat)))) = _
    rw [show ((k : Int) - 0).toNat = k by omega]
    have : (fun i : Nat => V.int (0 + (i : Int))) = fun i : Nat => V.int (i : Int) := by funext i; rw [Int.zero_add]
    rw [this]
/-! _law_pot: slots script=0 place=1 cell=2 own=3 small=4; cells [] -/
abbrev s_l_pot : Stmt := topS 25
abbrev N_l_pot : List Str := ["script", "place", "cell", "own", "small"]
theorem sc_l_pot : FnScope N_l_pot ["script", "place"] (defScope s_l_pot) := ⟨rfl, rfl, rfl, by decide +kernel, rfl, by decide +kernel, by decide +kernel⟩
theorem cut1n (xs : List V) : cutV xs none (some 1) = xs.take 1 := by
  unfold cutV
  rw [show HT.sIx xs.length xs.length (some 1) = min 1 xs.length from HT.sIx_nat xs.length xs.length 1, HT.sIx_none, List.drop_zero]
  cases xs with
  | nil => rfl
  | cons x r =>
    rw [show min 1 (x :: r).length - 0 = 1 by simp only [List.length_cons]; omega]
theorem ok_pot {f : Addr} {fd : FuncData} (F : Fun K "_law_pot" "_law_pot" s_l_pot f fd) (T : Bt mg) : FnOk P w K mg base CX0 1 f fd ["script", "place"] (spPot K) := by
  refine F.ok sc_l_pot (fun vs H Q E h => ?_) (fun cdv A outer s H vs Q E hr h => ?_)
  · obtain ⟨a, ns, p, rfl, _⟩ := h
    rfl
  · obtain ⟨a, ns, p, rfl, ha, hl, p0, p1, q⟩ := h
    refine ⟨_, (pss_cutP (ps_set (i := 2) sc_l_pot.nd rfl (.inl rfl) (pe_ifExp (pt_cmpR op_lt (pv 1) (pe_callB call_len_seq (by rfl) T.z_len bz_len (pa_cons (pv 0) pa_nil)) (nomark _)) (pe_ix ix_list (pv 0) (pv 1) (fun _ _ => rfl)) (pe_op op_add (pe_op op_add (pe_op op_modN (pe_callTy call_int1 (by rfl) T.z_int bz_int (pa_cons (pe_callB (cr_sum rfl) (by rfl) T.z_sum bz_sum (pa_cons (pe_slice sl_list (pv 0) po_none (po_some pe_int)) pa_nil)) pa_nil)) pe_int) (pe_op op_mul pe_int (pv 1))) pe_int)))
      (pss_cons (ps_set (i := 3) sc_l_pot.nd rfl (.inl rfl) (pe_op op_mul (pe_op op_modN (pe_callTy call_int1 (by rfl) T.z_int bz_int (pa_cons (pe_callB call_abs (by rfl) T.z_abs bz_abs (pa_cons (pv 2) pa_nil)) pa_nil)) (pe_op op_powW (pe_op op_pow pe_int pe_int) pe_int)) (pe_callTy call_int1 (by rfl) T.z_int bz_int (pa_cons (pe_cmpR op_ge (pe_callB call_abs (by rfl) T.z_abs bz_abs (pa_cons (pv 2) pa_nil)) (pe_op op_pow pe_int pe_int) (nomark _)) pa_nil))))
      (pss_cons (ps_set (i := 4) sc_l_pot.nd rfl (.inl rfl) (pe_op op_modN (pe_callTy call_int1 (by rfl) T.z_int bz_int (pa_cons (pv 2) pa_nil)) pe_int))
      (pss_one (ps_ret (pe_lst (pa_cons (pv 3) (pa_cons (pe_op op_modN (pe_callTy call_int1 (by rfl) T.z_int bz_int (pa_cons (pe_op op_add (pe_op op_add (pe_op op_mul (pv 4) pe_int) (pe_op op_mul (pe_op op_mul pe_int (pv 1)) (pv 1))) pe_int) pa_nil)) pe_int) (pa_cons pe_int pa_nil))))))))), ?_⟩
    refine ⟨fun σ H1 => Old [] H H1 ∧ ∃ c : Int, σ = [some (.ref a), some (.int p), some (.int c), none, none], ?_, ?_⟩
    · -- what the cell is
      refine ⟨.int p, rfl, .ref a, rfl, a, _, rfl, .inl ha, p, _, rfl, rfl, _, rfl, ite2 (fun c => ?_) (fun c => ?_)⟩
      · have c : p < (((ns.map V.int).length : Nat) : Int) := of_decide_eq_true c
        obtain ⟨j, rfl⟩ : ∃ j : Nat, p = (j : Int) := ⟨p.toNat, by omega⟩
        have hj : j < ns.length := by rw [List.length_map] at c; omega
        have g : (ns.map V.int)[j]? = some (.int ns[j]) := by rw [List.getElem?_map, List.getElem?_eq_getElem hj]; rfl
        exact ⟨.ref a, rfl, _, rfl, a, _, _, _, rfl, rfl, ha, atI_nat g, Old.refl _ _, ns[j], rfl⟩
      · refine ⟨.ref a, rfl, ?_⟩
        refine ⟨1, rfl, a, _, rfl, ha, fun b hb => ?_⟩
        refine ⟨b, ns.take 1, rfl, SqL.of (by rw [upd_same, cut1n, List.map_take]), .inl ⟨_, rfl, _, _, rfl, rfl, (by show (1000033 : Int) ≠ 0; decide), .int p, rfl, 4271, p, rfl, rfl, .inl ⟨by decide, by decide⟩, _, _, rfl, rfl, _, _, rfl, rfl, ?_⟩⟩
        exact ⟨Old.new0 hb, _, rfl⟩
    · rintro σ H1 ⟨o, c, rfl⟩
      have hb60 : (Builtin.Int.intBits ((10 : Int) ^ (60 : Int).toNat) : Int) * 5 ≤ 2 ^ 27 := by decide +kernel
      refine ⟨.int c, rfl, c, rfl, .inl ⟨_, rfl, 10, 60, rfl, rfl, ⟨by decide, by decide, by decide⟩, _, 5, rfl, rfl, ⟨by decide, hb60⟩, _, _, rfl, rfl, (by show ((10 : Int) ^ (60 : Int).toNat) ^ (5 : Int).toNat ≠ 0; decide +kernel), ?_⟩⟩
      refine ⟨.int c, rfl, c, rfl, 10, 18, rfl, rfl, ⟨by decide, by decide, by decide⟩, _, _, rfl, rfl, .inr ⟨_, rfl, _, _, rfl, rfl, ?_, ?_⟩⟩
      · refine .inr ?_
        generalize decide ((10 : Int) ^ (18 : Int).toNat ≤ if c < 0 then -c else c) = bb
        cases bb <;> decide
      · dsimp only
        generalize hown : ((if c < 0 then -c else c).fmod (((10 : Int) ^ (60 : Int).toNat) ^ (5 : Int).toNat)) * (if decide ((10 : Int) ^ (18 : Int).toNat ≤ if c < 0 then -c else c) = true then 1 else 0) = own
        have own0 : 0 ≤ own := by
          rw [← hown]
          refine Int.mul_nonneg (fmod_pos (by decide +kernel)).1 ?_
          generalize decide ((10 : Int) ^ (18 : Int).toNat ≤ if c < 0 then -c else c) = bb
          cases bb <;> decide
        refine ⟨.int c, rfl, .inl ⟨c, rfl, c, _, rfl, rfl, (by show (2305843009213693951 : Int) ≠ 0; decide), ?_⟩⟩
        dsimp only
        obtain ⟨s0, s1⟩ := fmod_pos (i := c) (j := 2305843009213693951) (by decide)
        generalize c.fmod 2305843009213693951 = small at s0 s1 ⊢
        refine ⟨.int own, rfl, .int small, rfl, small, _, rfl, rfl, .inr ⟨by decide, by decide⟩, .int p, rfl, 9887, p, rfl, rfl, .inl ⟨by decide, by decide⟩, .int p, rfl, _, p, rfl, rfl, .inr ⟨by omega, by omega⟩, _, _, rfl, rfl, _, _, rfl, rfl, .inl ⟨_, rfl, _, _, rfl, rfl, (by show (2305843009213693921 : Int) ≠ 0; decide), ?_⟩⟩
        dsimp only
        obtain ⟨z0, z1⟩ := fmod_pos (i := small * 78787 + 9887 * p * p + 2917) (j := 2305843009213693921) (by decide)
        generalize (small * 78787 + 9887 * p * p + 2917).fmod 2305843009213693921 = mix at z0 z1 ⊢
        refine ⟨(by show 3 ≤ sizeLine; decide), fun r nr => q _ r (o.new nr) (o.free nr (by simp)) ⟨own, mix, 0, upd_same, own0, z0, by omega, by decide, by decide⟩⟩
end
end L2.T34

namespace L2.PL
open PySem PySem.Spec PyProof.Rows
/-! ### kinds of values -/
theorem kit_int_int {K : PySem.W.Frag} : PySem.W.kitOne K (.type "int") (.type "int") = some true := kit_ty (by decide +kernel)
theorem kit_int_bool {K : PySem.W.Frag} : PySem.W.kitOne K (.type "int") (.type "bool") = some false := kit_ty (by decide +kernel)
theorem kit_tup_tup {K : PySem.W.Frag} : PySem.W.kitOne K (.type "tuple") (.type "tuple") = some true := kit_ty (by decide +kernel)
theorem tyx_int {K : PySem.W.Frag} {H : Hp} (i : Int) : TyX K H (.int i) (.type "int") := .base (.int i)
theorem tyx_tup {K : PySem.W.Frag} {H : Hp} {a : Addr} {xs : List V} (h : SqT K H a xs) : TyX K H (.ref a) (.type "tuple") := by
  rcases h with (h | ⟨o, h⟩) | ⟨o, its, n, h, c, _⟩
  · exact .base (.tup h)
  · exact .fTuple h
  · exact .kTuple h c
/-! ### data told -/
section
variable {K : PySem.W.Frag} {H : Hp}
theorem dp_int {v : V} {i : Int} (h : Dp K H v (.int i)) : v = .int i := by cases h; rfl
theorem dp_tup {v : V} {ds : List PyData} (h : Dp K H v (.tuple ds)) : ∃ a xs, v = .ref a ∧ SqT K H a xs ∧ DpAll K H xs ds := by
  cases h with
  | tup h1 h2 => exact ⟨_, _, rfl, h1, h2⟩
theorem dp_ints : ∀ {ns : List Int} {xs : List V}, DpAll K H xs (ns.map PyData.int) → xs = ns.map V.int
  | [], _, h => by cases h; rfl
  | n :: ns, _, h => by
    cases h with
    | cons h1 h2 => rw [dp_int h1, dp_ints h2]; rfl
theorem dp_intTup {v : V} {ns : List Int} (h : Dp K H v (.tuple (ns.map PyData.int))) : ∃ a, v = .ref a ∧ SqT K H a (ns.map V.int) := by
  obtain ⟨a, xs, e, h1, h2⟩ := dp_tup h
  rw [dp_ints h2] at h1
  exact ⟨a, e, h1⟩
end
section
variable {X : Cx}
theorem pe_gI {x : Str} {i : Int} {pos : Pos} (hg : Gl X x) (hm : ∃ t, X.mg x = some (.int i t)) (hd : (x == ("__debug__" : Str)) = false := by decide) : PE X (.Name x pos) (tC (.int i)) := by
  obtain ⟨t, h⟩ := hm
  exact pe_glob hg h ⟨_, rfl⟩ hd
theorem pe_gS {x y : Str} {pos : Pos} (hg : Gl X x) (hm : ∃ t, X.mg x = some (.str y t)) (hd : (x == ("__debug__" : Str)) = false := by decide) : PE X (.Name x pos) (tC (.str y)) := by
  obtain ⟨t, h⟩ := hm
  exact pe_glob hg h ⟨_, rfl⟩ hd
end
end L2.PL

/-! plain mathematics of bounds on differences: no program in sight -/
namespace PD
abbrev Bd := Nat × Nat × Int
abbrev Mx := Nat → Nat → Option Int

/-- values of bounds -/
def Vals (B : List Bd) (v : Nat → Int) : Prop := ∀ b ∈ B, v b.1 - v b.2.1 ≤ b.2.2
def Feas (B : List Bd) : Prop := ∃ v, Vals B v

def omin : Option Int → Option Int → Option Int
  | none, b => b
  | a, none => a
  | some a, some b => some (if b < a then b else a)
def oadd : Option Int → Option Int → Option Int
  | some a, some b => some (a + b)
  | _, _ => none
/-- a ≤ b, none being without end -/
def ole (a : Option Int) (b : Option Int) : Prop := ∀ y, b = some y → ∃ x, a = some x ∧ x ≤ y
theorem ole_refl (a : Option Int) : ole a a := fun y h => ⟨y, h, Int.le_refl _⟩
theorem ole_trans {a b c : Option Int} (h : ole a b) (k : ole b c) : ole a c := fun y e => by
  obtain ⟨z, e1, l1⟩ := k y e
  obtain ⟨x, e2, l2⟩ := h z e1
  exact ⟨x, e2, by omega⟩
theorem omin_l (a b : Option Int) : ole (omin a b) a := fun y h => by
  subst h
  cases b with
  | none => exact ⟨y, rfl, Int.le_refl _⟩
  | some z =>
    refine ⟨_, rfl, ?_⟩
    split <;> omega
theorem omin_r (a b : Option Int) : ole (omin a b) b := fun y h => by
  subst h
  cases a with
  | none => exact ⟨y, rfl, Int.le_refl _⟩
  | some z =>
    refine ⟨_, rfl, ?_⟩
    split <;> omega
/-- what is told by a minimum is told by one of both -/
theorem omin_cases (a b : Option Int) : omin a b = a ∨ omin a b = b := by
  cases a with
  | none => exact .inr rfl
  | some x =>
    cases b with
    | none => exact .inl rfl
    | some y =>
      show some (if y < x then y else x) = some x ∨ some (if y < x then y else x) = some y
      split
      · exact .inr rfl
      · exact .inl rfl
theorem omin_le {a b c : Option Int} (h : ole a c ∨ ole b c) : ole (omin a b) c := by
  rcases h with h | h
  · exact ole_trans (omin_l a b) h
  · exact ole_trans (omin_r a b) h
theorem ole_omin {a b c : Option Int} (h : ole a b) (k : ole a c) : ole a (omin b c) := by
  rcases omin_cases b c with e | e <;> rw [e] <;> assumption
theorem oadd_mono {a b c d : Option Int} (h : ole a c) (k : ole b d) : ole (oadd a b) (oadd c d) := fun y e => by
  cases c with
  | none => cases e
  | some c =>
    cases d with
    | none => cases e
    | some d =>
      obtain ⟨x, rfl, l1⟩ := h c rfl
      obtain ⟨z, rfl, l2⟩ := k d rfl
      have e' : c + d = y := Option.some.inj e
      exact ⟨x + z, rfl, by omega⟩
theorem oadd_assoc (a b c : Option Int) : oadd (oadd a b) c = oadd a (oadd b c) := by
  cases a <;> cases b <;> cases c <;> simp [oadd, Int.add_assoc]
theorem omin_eq_l {a b : Option Int} (h : ole a b) : omin a b = a := by
  cases a with
  | none =>
    cases b with
    | none => rfl
    | some y => obtain ⟨x, e, _⟩ := h y rfl; cases e
  | some x =>
    cases b with
    | none => rfl
    | some y =>
      obtain ⟨z, e, l⟩ := h y rfl
      have e : x = z := Option.some.inj e
      show some (if y < x then y else x) = some x
      rw [if_neg (by omega)]

/-- not below nought -/
def Non (a : Option Int) : Prop := ∀ d, a = some d → 0 ≤ d
theorem oadd_non_l {a b : Option Int} (h : Non a) : ole b (oadd a b) := fun y e => by
  cases a with
  | none => cases e
  | some x =>
    cases b with
    | none => cases e
    | some z =>
      have e' : x + z = y := Option.some.inj e
      have := h x rfl
      exact ⟨z, rfl, by omega⟩
theorem oadd_non_r {a b : Option Int} (h : Non b) : ole a (oadd a b) := fun y e => by
  cases a with
  | none => cases e
  | some x =>
    cases b with
    | none => cases e
    | some z =>
      have e' : x + z = y := Option.some.inj e
      have := h z rfl
      exact ⟨x, rfl, by omega⟩
theorem Non.of_ole {a b : Option Int} (h : Non a) (k : ole a b) : Non b := fun y e => by
  obtain ⟨x, e1, l⟩ := k y e
  have := h x e1
  omega

/-- one middle, exactly -/
def F (M : Mx) (k : Nat) : Mx := fun x y => omin (M x y) (oadd (M x k) (M k y))

/-- what one middle's turns do, whatever their sequence: exactly F where no ring below nought goes round at the middle -/
structure Mid (n : Nat) (M : Mx) (k : Nat) (M' : Mx) : Prop where
  mono : ∀ x y, x < n → y < n → ole (M' x y) (M x y)
  exact : Non (M k k) → ∀ x y, x < n → y < n → M' x y = F M k x y

def Closed (n k : Nat) (M : Mx) : Prop := ∀ m x y, m < k → x < n → y < n → ole (M x y) (oadd (M x m) (M m y))

theorem closed_step {n k : Nat} {M : Mx} (hk : k < n) (c : Closed n k M) (h : Non (M k k)) : Closed n (k + 1) (F M k) := by
  intro m x y hm hx hy
  have row : ∀ z, z < n → F M k k z = M k z := fun z _ => omin_eq_l (oadd_non_l h)
  have col : ∀ z, z < n → F M k z k = M z k := fun z _ => omin_eq_l (oadd_non_r h)
  by_cases e : m = k
  · subst e
    rw [col x hx, row y hy]
    exact omin_r _ _
  · have hm' : m < k := by omega
    have hmn : m < n := by omega
    have a1 := c m x y hm' hx hy
    have a2 := c m x k hm' hx hk
    have a3 := c m k y hm' hk hy
    have a4 := c m k k hm' hk hk
    -- the four ways
    show ole (F M k x y) (oadd (omin (M x m) (oadd (M x k) (M k m))) (omin (M m y) (oadd (M m k) (M k y))))
    have L1 : ole (F M k x y) (M x y) := omin_l _ _
    have L2 : ole (F M k x y) (oadd (M x k) (M k y)) := omin_r _ _
    rcases omin_cases (M x m) (oadd (M x k) (M k m)) with e1 | e1 <;> rw [e1] <;>
      rcases omin_cases (M m y) (oadd (M m k) (M k y)) with e2 | e2 <;> rw [e2]
    · exact ole_trans L1 a1
    · rw [← oadd_assoc]
      exact ole_trans L2 (oadd_mono a2 (ole_refl _))
    · rw [oadd_assoc]
      exact ole_trans L2 (oadd_mono (ole_refl _) a3)
    · refine ole_trans L2 ?_
      rw [oadd_assoc, ← oadd_assoc (M k m)]
      refine oadd_mono (ole_refl _) ?_
      refine ole_trans (oadd_non_l (h.of_ole a4)) (ole_refl _)

/-- the matrices of a run: M 0 the bounds, then middle after middle -/
structure Run (n : Nat) (B : List Bd) (S : Nat → Mx) (t : Nat) : Prop where
  /-- at first: the least c of each two variables -/
  low : ∀ b ∈ B, ole (S 0 b.1 b.2.1) (some b.2.2)
  got : ∀ x y c, S 0 x y = some c → (x = y ∧ c = 0) ∨ (x, y, c) ∈ B
  mid : ∀ k, k < t → Mid n (S k) k (S (k + 1))
section
variable {n t : Nat} {B : List Bd} {S : Nat → Mx}
theorem Run.mono (R : Run n B S t) : ∀ {j k : Nat}, j ≤ k → k ≤ t → ∀ x y, x < n → y < n → ole (S k x y) (S j x y) := by
  intro j k h
  induction h with
  | refl => exact fun _ x y _ _ => ole_refl _
  | step h ih =>
    rename_i m
    intro ht x y hx hy
    exact ole_trans ((R.mid m (by omega)).mono x y hx hy) (ih (by omega) x y hx hy)
/-- every number told is so of all values -/
def Sound (n : Nat) (B : List Bd) (M : Mx) : Prop := ∀ v, Vals B v → ∀ x y a, x < n → y < n → M x y = some a → v x - v y ≤ a
theorem Sound.non {M : Mx} (s : Sound n B M) (f : Feas B) : ∀ x, x < n → Non (M x x) := fun x hx d e => by
  obtain ⟨v, hv⟩ := f
  have := s v hv x x d hx hx e
  omega
theorem sound_F {M : Mx} {k : Nat} (hk : k < n) (s : Sound n B M) : Sound n B (F M k) := fun v hv x y a hx hy e => by
  rcases omin_cases (M x y) (oadd (M x k) (M k y)) with e1 | e1
  · exact s v hv x y a hx hy (e1.symm.trans e)
  · have e2 : oadd (M x k) (M k y) = some a := e1.symm.trans e
    cases h1 : M x k with
    | none => rw [h1] at e2; cases e2
    | some p =>
      cases h2 : M k y with
      | none => rw [h1, h2] at e2; cases e2
      | some q =>
        rw [h1, h2] at e2
        have e3 : p + q = a := Option.some.inj e2
        have := s v hv x k p hx hk h1
        have := s v hv k y q hk hy h2
        omega
theorem Run.sound0 (R : Run n B S t) : Sound n B (S 0) := fun v hv x y a _ _ e => by
  rcases R.got x y a e with ⟨rfl, rfl⟩ | hm
  · omega
  · exact hv _ hm
theorem Run.sound (R : Run n B S t) (f : Feas B) (ht : t ≤ n) : ∀ k, k ≤ t → Sound n B (S k) := by
  intro k
  induction k with
  | zero => exact fun _ => R.sound0
  | succ k ih =>
    intro hk
    have s := ih (by omega)
    have hkn : k < n := by omega
    intro v hv x y a hx hy e
    rw [(R.mid k (by omega)).exact (s.non f k hkn) x y hx hy] at e
    exact sound_F hkn s v hv x y a hx hy e
/-- values: nothing goes round below nought, at any time -/
theorem Run.non (R : Run n B S t) (f : Feas B) (ht : t ≤ n) {k : Nat} (hk : k ≤ t) : ∀ x, x < n → Non (S k x x) := (R.sound f ht k hk).non f
theorem closed_congr {k : Nat} {M M' : Mx} (hk : k ≤ n) (c : Closed n k M) (e : ∀ x y, x < n → y < n → M' x y = M x y) : Closed n k M' := fun m x y hm hx hy => by
  rw [e x y hx hy, e x m hx (by omega), e m y (by omega) hy]
  exact c m x y hm hx hy
/-- nothing goes round below nought at the end: closed -/
theorem Run.closed (R : Run n B S n) (h : ∀ x, x < n → Non (S n x x)) : ∀ k, k ≤ n → Closed n k (S k) := by
  intro k
  induction k with
  | zero => intro _ m _ _ hm; omega
  | succ k ih =>
    intro hk
    have c := ih (by omega)
    have hn : Non (S k k k) := (h k (by omega)).of_ole (R.mono (by omega : k ≤ n) (Nat.le_refl n) k k (by omega) (by omega))
    exact closed_congr hk (closed_step (by omega) c hn) ((R.mid k (by omega)).exact hn)

/-! values out of a closed matrix -/
/-- the least of 0 and of what is told in x's row -/
def pot (M : Mx) : Nat → Nat → Int
  | 0, _ => 0
  | k + 1, x => match M x k with
    | none => pot M k x
    | some a => if a < pot M k x then a else pot M k x
theorem pot_le0 (M : Mx) : ∀ k x, pot M k x ≤ 0
  | 0, _ => Int.le_refl _
  | k + 1, x => by
    have := pot_le0 M k x
    unfold pot
    split
    · exact this
    · split <;> omega
theorem pot_le (M : Mx) : ∀ k x z a, z < k → M x z = some a → pot M k x ≤ a
  | 0, _, _, _, h, _ => by omega
  | k + 1, x, z, a, h, e => by
    unfold pot
    by_cases hz : z = k
    · subst hz
      rw [e]
      show (if a < pot M z x then a else pot M z x) ≤ a
      split <;> omega
    · have := pot_le M k x z a (by omega) e
      split
      · exact this
      · split <;> omega
theorem pot_is (M : Mx) : ∀ k x, pot M k x = 0 ∨ ∃ z a, z < k ∧ M x z = some a ∧ pot M k x = a
  | 0, _ => .inl rfl
  | k + 1, x => by
    have ih := pot_is M k x
    have up : (pot M k x = 0 ∨ ∃ z a, z < k ∧ M x z = some a ∧ pot M k x = a) → (pot M k x = 0 ∨ ∃ z a, z < k + 1 ∧ M x z = some a ∧ pot M k x = a) := by
      rintro (h | ⟨z, a, h1, h2, h3⟩)
      · exact .inl h
      · exact .inr ⟨z, a, by omega, h2, h3⟩
    unfold pot
    split
    · exact up ih
    · rename_i a e
      split
      · exact .inr ⟨k, a, by omega, e, rfl⟩
      · exact up ih
/-- closed: values -/
theorem feas_of_closed {M : Mx} (hB : ∀ b ∈ B, b.1 < n ∧ b.2.1 < n) (low : ∀ b ∈ B, ole (M b.1 b.2.1) (some b.2.2)) (c : Closed n n M) : Feas B := by
  refine ⟨pot M n, fun b hb => ?_⟩
  obtain ⟨x, y, d⟩ := b
  obtain ⟨hx, hy⟩ := hB _ hb
  obtain ⟨p, e1, l1⟩ := low _ hb d rfl
  show pot M n x - pot M n y ≤ d
  have l1 : p ≤ d := l1
  rcases pot_is M n y with h | ⟨z, a, hz, ha, h⟩
  · have := pot_le M n x y p hy e1
    omega
  · have hx : x < n := hx
    have hy : y < n := hy
    have e1 : M x y = some p := e1
    obtain ⟨q, e2, l2⟩ := c y x z hy hx hz (p + a) (by rw [e1, ha]; rfl)
    have := pot_le M n x z q hz e2
    omega
theorem Run.feas (R : Run n B S n) (hB : ∀ b ∈ B, b.1 < n ∧ b.2.1 < n) (h : ∀ x, x < n → Non (S n x x)) : Feas B := by
  refine feas_of_closed hB (fun b hb => ?_) (R.closed h n (Nat.le_refl n))
  exact ole_trans (R.mono (Nat.zero_le n) (Nat.le_refl n) _ _ (hB b hb).1 (hB b hb).2) (R.low b hb)
end

/-- two runs that begin alike but on the middle line end so -/
theorem runs_alike {n t : Nat} {B : List Bd} {S T : Nat → Mx} (R : Run n B S t) (Q : Run n B T t) (ht : t ≤ n) (f : Feas B) (h0 : ∀ x y, x < n → y < n → x ≠ y → S 0 x y = T 0 x y) :
    ∀ k, k ≤ t → ∀ x y, x < n → y < n → x ≠ y → S k x y = T k x y := by
  intro k
  induction k with
  | zero => exact fun _ => h0
  | succ k ih =>
    intro hk x y hx hy hne
    have ih := ih (by omega)
    have hkn : k < n := by omega
    have nS := R.non f ht (k := k) (by omega) k hkn
    have nT := Q.non f ht (k := k) (by omega) k hkn
    rw [(R.mid k (by omega)).exact nS x y hx hy, (Q.mid k (by omega)).exact nT x y hx hy]
    show omin (S k x y) (oadd (S k x k) (S k k y)) = omin (T k x y) (oadd (T k x k) (T k k y))
    rw [ih x y hx hy hne]
    by_cases e1 : x = k
    · subst e1
      rw [ih x y hx hy hne, omin_eq_l (oadd_non_l nS), omin_eq_l (oadd_non_l nT)]
    · by_cases e2 : y = k
      · subst e2
        rw [ih x y hx hy hne, omin_eq_l (oadd_non_r nS), omin_eq_l (oadd_non_r nT)]
      · rw [ih x k hx hkn e1, ih k y hkn hy (Ne.symm e2)]
end PD
namespace PD
/-! ### the least c of the first i bounds from x to y -/
def minTo (B : List Bd) (x y : Nat) : Nat → Option Int
  | 0 => none
  | i + 1 => match B[i]? with
    | none => minTo B x y i
    | some b => if b.1 = x ∧ b.2.1 = y then omin (minTo B x y i) (some b.2.2) else minTo B x y i
theorem minTo_low (B : List Bd) (x y : Nat) : ∀ i j c, j < i → B[j]? = some (x, y, c) → ole (minTo B x y i) (some c)
  | 0, _, _, h, _ => absurd h (Nat.not_lt_zero _)
  | i + 1, j, c, h, e => by
    show ole (match B[i]? with | none => minTo B x y i | some b => if b.1 = x ∧ b.2.1 = y then omin (minTo B x y i) (some b.2.2) else minTo B x y i) (some c)
    by_cases hj : j = i
    · subst hj
      rw [e]
      show ole (if x = x ∧ y = y then omin (minTo B x y j) (some c) else minTo B x y j) (some c)
      rw [if_pos ⟨rfl, rfl⟩]
      exact omin_r _ _
    · have ih := minTo_low B x y i j c (by omega) e
      cases B[i]? with
      | none => exact ih
      | some b =>
        show ole (if b.1 = x ∧ b.2.1 = y then omin (minTo B x y i) (some b.2.2) else minTo B x y i) (some c)
        split
        · exact omin_le (.inl ih)
        · exact ih
theorem minTo_got (B : List Bd) (x y : Nat) : ∀ i c, minTo B x y i = some c → (x, y, c) ∈ B
  | 0, _, h => by cases h
  | i + 1, c, h => by
    have h : (match B[i]? with | none => minTo B x y i | some b => if b.1 = x ∧ b.2.1 = y then omin (minTo B x y i) (some b.2.2) else minTo B x y i) = some c := h
    cases e : B[i]? with
    | none => rw [e] at h; exact minTo_got B x y i c h
    | some b =>
      rw [e] at h
      have h : (if b.1 = x ∧ b.2.1 = y then omin (minTo B x y i) (some b.2.2) else minTo B x y i) = some c := h
      split at h
      · rename_i hxy
        rcases omin_cases (minTo B x y i) (some b.2.2) with q | q
        · exact minTo_got B x y i c (q.symm.trans h)
        · have q2 : b.2.2 = c := Option.some.inj (q.symm.trans h)
          have : (x, y, c) = b := by rw [← hxy.1, ← hxy.2, ← q2]
          rw [this]
          exact List.mem_of_getElem? e
      · exact minTo_got B x y i c h
theorem omin_assoc (a b c : Option Int) : omin (omin a b) c = omin a (omin b c) := by
  cases a with
  | none => rfl
  | some a =>
    cases b with
    | none => rfl
    | some b =>
      cases c with
      | none => rfl
      | some c =>
        show some (if c < (if b < a then b else a) then c else (if b < a then b else a)) = some (if (if c < b then c else b) < a then (if c < b then c else b) else a)
        congr 1
        split <;> split <;> (try split) <;> omega
/-- the matrix with which both begin: d on the middle line -/
def start0 (B : List Bd) (d : Option Int) : Mx := fun x y => omin (if x = y then d else none) (minTo B x y B.length)

/-! ### a part of the turns of one middle -/
structure MidP (n : Nat) (M : Mx) (k : Nat) (D : Nat → Nat → Prop) (M' : Mx) : Prop where
  mono : ∀ x y, x < n → y < n → ole (M' x y) (M x y)
  exact : Non (M k k) → ∀ x y, x < n → y < n → (D x y → M' x y = F M k x y) ∧ (¬ D x y → M' x y = M x y)
theorem MidP.zero {n k : Nat} {M : Mx} {D : Nat → Nat → Prop} (h : ∀ x y, ¬ D x y) : MidP n M k D M :=
  ⟨fun _ _ _ _ => ole_refl _, fun _ x y _ _ => ⟨fun d => absurd d (h x y), fun _ => rfl⟩⟩
theorem MidP.step {n k x y : Nat} {M M' M'' : Mx} {D D' : Nat → Nat → Prop} (p : MidP n M k D M') (hk : k < n) (hx : x < n) (hy : y < n) (hD : ¬ D x y) (hD' : ∀ a b, D' a b ↔ D a b ∨ (a = x ∧ b = y))
    (h1 : M'' x y = omin (M' x y) (oadd (M' x k) (M' k y))) (h2 : ∀ a b, ¬ (a = x ∧ b = y) → M'' a b = M' a b) : MidP n M k D' M'' := by
  refine ⟨fun a b ha hb => ?_, fun hn a b ha hb => ?_⟩
  · by_cases e : a = x ∧ b = y
    · obtain ⟨rfl, rfl⟩ := e
      rw [h1]
      exact omin_le (.inl (p.mono a b ha hb))
    · rw [h2 a b e]; exact p.mono a b ha hb
  · have row : ∀ z, z < n → M' k z = M k z := fun z hz => by
      by_cases d : D k z
      · rw [((p.exact hn) k z hk hz).1 d]; exact omin_eq_l (oadd_non_l hn)
      · exact ((p.exact hn) k z hk hz).2 d
    have col : ∀ z, z < n → M' z k = M z k := fun z hz => by
      by_cases d : D z k
      · rw [((p.exact hn) z k hz hk).1 d]; exact omin_eq_l (oadd_non_r hn)
      · exact ((p.exact hn) z k hz hk).2 d
    by_cases e : a = x ∧ b = y
    · obtain ⟨rfl, rfl⟩ := e
      refine ⟨fun _ => ?_, fun d => absurd ((hD' a b).mpr (.inr ⟨rfl, rfl⟩)) d⟩
      rw [h1, row b hb, col a ha, ((p.exact hn) a b ha hb).2 hD]
      rfl
    · rw [h2 a b e]
      have q := (p.exact hn) a b ha hb
      refine ⟨fun d => q.1 (((hD' a b).mp d).resolve_right e), fun d => q.2 fun z => d ((hD' a b).mpr (.inl z))⟩
/-- all that is left is nothing -/
theorem MidP.mid {n k : Nat} {M M' : Mx} {D : Nat → Nat → Prop} (p : MidP n M k D M') (h : ∀ x y, x < n → y < n → ¬ D x y → M x k = none ∨ M k y = none) : Mid n M k M' := by
  refine ⟨p.mono, fun hn x y hx hy => ?_⟩
  by_cases d : D x y
  · exact ((p.exact hn) x y hx hy).1 d
  · rw [((p.exact hn) x y hx hy).2 d]
    have : oadd (M x k) (M k y) = none := by
      rcases h x y hx hy d with e | e <;> rw [e]
      · rfl
      · cases M x k <;> rfl
    show M x y = omin (M x y) (oadd (M x k) (M k y))
    rw [this]
    cases M x y <;> rfl
/-! ### runs made longer -/
theorem Run.zero {n : Nat} {B : List Bd} {S : Nat → Mx} (low : ∀ b ∈ B, ole (S 0 b.1 b.2.1) (some b.2.2)) (got : ∀ x y c, S 0 x y = some c → (x = y ∧ c = 0) ∨ (x, y, c) ∈ B) : Run n B S 0 := ⟨low, got, fun _ h => absurd h (Nat.not_lt_zero _)⟩
theorem Run.more {n t : Nat} {B : List Bd} {S : Nat → Mx} {M : Mx} (R : Run n B S t) (m : Mid n (S t) t M) : Run n B (fun k => if k = t + 1 then M else S k) (t + 1) := by
  refine ⟨fun b hb => R.low b hb, fun x y c e => R.got x y c e, fun k hk => ?_⟩
  by_cases e : k = t
  · subst e
    show Mid n (if k = k + 1 then M else S k) k (if k + 1 = k + 1 then M else S (k + 1))
    rw [if_neg (by omega), if_pos rfl]
    exact m
  · show Mid n (if k = t + 1 then M else S k) k (if k + 1 = t + 1 then M else S (k + 1))
    rw [if_neg (by omega), if_neg (by omega)]
    exact R.mid k (by omega)
theorem start0_low {B : List Bd} {d : Option Int} : ∀ b ∈ B, ole (start0 B d b.1 b.2.1) (some b.2.2) := fun b hb => by
  obtain ⟨x, y, c⟩ := b
  obtain ⟨j, hj, e⟩ := List.mem_iff_getElem.mp hb
  exact omin_le (.inr (minTo_low B x y _ j c hj (by rw [List.getElem?_eq_getElem hj, e])))
theorem start0_got {B : List Bd} {d : Option Int} (hd : d = none ∨ d = some 0) : ∀ x y c, start0 B d x y = some c → (x = y ∧ c = 0) ∨ (x, y, c) ∈ B := fun x y c h => by
  rcases omin_cases (if x = y then d else none) (minTo B x y B.length) with q | q
  · have q2 := q.symm.trans h
    split at q2
    · rename_i e
      rcases hd with rfl | rfl
      · cases q2
      · exact .inl ⟨e, (Option.some.inj q2).symm⟩
    · cases q2
  · exact .inr (minTo_got B x y _ c (q.symm.trans h))
theorem start0_off {B : List Bd} {d e : Option Int} {x y : Nat} (h : x ≠ y) : start0 B d x y = start0 B e x y := by
  unfold start0
  rw [if_neg h, if_neg h]
end PD

namespace L2.T34
open PySem PySem.Spec PyProof.Rows L2.PL
/-- bounds as data -/
def bdD (b : PD.Bd) : PyData := .tuple [.int (b.1 : Int), .int (b.2.1 : Int), .int b.2.2]
def bdsD (B : List PD.Bd) : PyData := .tuple (B.map bdD)
def sysD (n : Nat) (B : List PD.Bd) : PyData := .tuple [.int (n : Int), bdsD B]
/-- a system of at most six variables (here: at most eighty) -/
structure SysOk (n : Nat) (B : List PD.Bd) : Prop where
  n1 : 1 ≤ n
  n2 : n ≤ 80
  len : B.length ≤ 4000
  ix : ∀ b ∈ B, b.1 < n ∧ b.2.1 < n
  sz : ∀ b ∈ B, -10000000 ≤ b.2.2 ∧ b.2.2 ≤ 10000000
section
variable {K : PySem.W.Frag} {H : Hp}
theorem bd_at {v : V} {b : PD.Bd} (h : Dp K H v (bdD b)) : ∃ a, v = .ref a ∧ SqT K H a [.int (b.1 : Int), .int (b.2.1 : Int), .int b.2.2] := dp_intTup (ns := [(b.1 : Int), (b.2.1 : Int), b.2.2]) h
theorem bds_at {v : V} {B : List PD.Bd} (h : Dp K H v (bdsD B)) : ∃ a xs, v = .ref a ∧ SqT K H a xs ∧ xs.length = B.length ∧ ∀ (i : Nat) b, B[i]? = some b → ∃ r, xs[i]? = some (.ref r) ∧ SqT K H r [.int (b.1 : Int), .int (b.2.1 : Int), .int b.2.2] := by
  obtain ⟨a, xs, e, h1, h2⟩ := dp_tup h
  refine ⟨a, xs, e, h1, by rw [PL.DpAll.length h2, List.length_map], fun i b hb => ?_⟩
  obtain ⟨v, hv, hd⟩ := PL.DpAll.get h2 (i := i) (d := bdD b) (by rw [List.getElem?_map, hb]; rfl)
  obtain ⟨r, rfl, hr⟩ := bd_at hd
  exact ⟨r, hv, hr⟩
theorem sys_at {v : V} {n : Nat} {B : List PD.Bd} (h : Dp K H v (sysD n B)) : ∃ a b, v = .ref a ∧ SqT K H a [.int (n : Int), .ref b] ∧ Dp K H (.ref b) (bdsD B) := by
  obtain ⟨a, xs, e, h1, h2⟩ := dp_tup h
  cases h2 with
  | cons d1 h2 =>
    cases h2 with
    | cons d2 h2 =>
      cases h2
      obtain ⟨b, ys, rfl, _, _⟩ := dp_tup d2
      rw [dp_int d1] at h1
      exact ⟨a, b, e, h1, d2⟩
theorem bdD_only (b : PD.Bd) : tupOnly (bdD b) = true := rfl
theorem bdsD_only : ∀ (B : List PD.Bd), tupOnly (bdsD B) = true
  | [] => rfl
  | b :: B => by
    have ih : tupOnlyAll (B.map bdD) = true := bdsD_only B
    show (tupOnly (bdD b) && tupOnlyAll (B.map bdD)) = true
    rw [ih, bdD_only]; rfl
theorem sysD_only (n : Nat) (B : List PD.Bd) : tupOnly (sysD n B) = true := by
  have h := bdsD_only B
  show (true && (tupOnly (bdsD B) && true)) = true
  rw [h]; rfl
end
/-- the constants of the module -/
structure Cst (mg : Str → Option Value) : Prop where
  g_MOST_VARIABLES : ∃ t, mg "MOST_VARIABLES" = some (.int 80 t)
  g_MOST_BOUNDS : ∃ t, mg "MOST_BOUNDS" = some (.int 4000 t)
  g_MOST_NUMBER : ∃ t, mg "MOST_NUMBER" = some (.int 10000000 t)
  g_THREE : ∃ t, mg "THREE" = some (.int 3 t)
  g_VALUES : ∃ t, mg "VALUES" = some (.str "values" t)
  g_ROUND : ∃ t, mg "ROUND" = some (.str "round" t)
structure Tx (mg : Str → Option Value) : Prop extends Bt mg, Cst mg
/-! ### promises -/
def spIsInt : Sp := fun vs H Q _ => ∃ i lo hi : Int, vs = [.int i, .int lo, .int hi] ∧ Q (.bl (decide (lo ≤ i) && decide (i ≤ hi))) H
def spIsBound (K : PySem.W.Frag) : Sp := fun vs H Q _ => ∃ (n : Nat) (v : V) (b : PD.Bd), vs = [.int (n : Int), v] ∧ Dp K H v (bdD b) ∧ b.1 < n ∧ b.2.1 < n ∧ -10000000 ≤ b.2.2 ∧ b.2.2 ≤ 10000000 ∧ Q (.bl true) H
def spIsSys (K : PySem.W.Frag) : Sp := fun vs H Q _ => ∃ (v : V) (n : Nat) (B : List PD.Bd), vs = [v] ∧ Dp K H v (sysD n B) ∧ SysOk n B ∧ ∀ H', Old [] H H' → Q (.bl true) H'
def spLook (K : PySem.W.Frag) : Sp := fun vs H Q _ => ∃ (v : V) (n : Nat) (B : List PD.Bd), vs = [v] ∧ Dp K H v (sysD n B) ∧ SysOk n B ∧ ∀ H', Old [] H H' → Q .non H'
section
variable {P : Program} {w : World} {K : PySem.W.Frag} {mg : Str → Option Value} {base : Heap}
/-! is_int: slots value=0 low=1 high=2; cells [] -/
abbrev s_is_int : Stmt := topS 5
abbrev N_is_int : List Str := ["value", "low", "high"]
theorem sc_is_int : FnScope N_is_int ["value", "low", "high"] (defScope s_is_int) := ⟨rfl, rfl, rfl, by decide +kernel, rfl, by decide +kernel, by decide +kernel⟩
theorem ok_is_int {f : Addr} {fd : FuncData} (F : Fun K "is_int" "is_int" s_is_int f fd) (T : Bt mg) : FnOk P w K mg base CX0 1 f fd ["value", "low", "high"] spIsInt := by
  refine F.ok sc_is_int (fun vs H Q E h => ?_) (fun cdv A outer s H vs Q E hr h => ?_)
  · obtain ⟨i, lo, hi, rfl, _⟩ := h
    rfl
  · obtain ⟨i, lo, hi, rfl, q⟩ := h
    refine ⟨_, (pss_one (ps_ret (pe_and (pe_callB call_isi (by rfl) T.z_isinstance bz_isinstance (pa_cons (pv 0) (pa_cons (pe_bltn (v := .ty "int") (by rfl) T.z_int bz_int rfl) pa_nil))) (pe_and (pe_not (pe_callB call_isi (by rfl) T.z_isinstance bz_isinstance (pa_cons (pv 0) (pa_cons (pe_bltn (v := .ty "bool") (by rfl) T.z_bool bz_bool rfl) pa_nil)))) (pe_one (pe_chain op_le op_le (pv 1) (pv 0) (pv 2))))))), ?_⟩
    refine ⟨.int i, rfl, .int i, .ty "int", _, _, true, rfl, .ty _, tyx_int i, kit_int_int, true, rfl, iteT ?_⟩
    refine ⟨.int i, rfl, .int i, .ty "bool", _, _, false, rfl, .ty _, tyx_int i, kit_int_bool, false, rfl, true, rfl, iteT ?_⟩
    refine ⟨.int lo, rfl, .int i, rfl, lo, i, rfl, rfl, _, rfl, ite2 (fun c => ?_) (fun c => ?_)⟩
    · refine ⟨.int hi, rfl, i, hi, rfl, rfl, ?_⟩
      rw [c] at q
      exact q
    · rw [Bool.not_eq_true] at c
      rw [c] at q
      exact q
/-! is_bound: slots many=0 value=1; cells [] -/
abbrev s_is_bound : Stmt := topS 13
abbrev N_is_bound : List Str := ["many", "value"]
theorem sc_is_bound : FnScope N_is_bound ["many", "value"] (defScope s_is_bound) := ⟨rfl, rfl, rfl, by decide +kernel, rfl, by decide +kernel, by decide +kernel⟩
theorem ok_is_bound {f : Addr} {fd : FuncData} (F : Fun K "is_bound" "is_bound" s_is_bound f fd) (T : Tx mg) (C_is_int : Cal P w K mg base CX0 "is_int" ["value", "low", "high"] 1 spIsInt) : FnOk P w K mg base CX0 2 f fd ["many", "value"] (spIsBound K) := by
  refine F.ok sc_is_bound (fun vs H Q E h => ?_) (fun cdv A outer s H vs Q E hr h => ?_)
  · obtain ⟨n, v, b, rfl, _⟩ := h
    rfl
  · obtain ⟨n, v, ⟨x, y, c⟩, rfl, hd, hx, hy, c0, c1, q⟩ := h
    obtain ⟨r, rfl, hr3⟩ := bd_at hd
    have hx : x < n := hx
    have hy : y < n := hy
    have c0 : -10000000 ≤ c := c0
    have c1 : c ≤ 10000000 := c1
    refine ⟨_, (pss_cons (ps_if (PW.pt (pw_or (pt_not (pt_val (pe_callB call_isi (by rfl) T.z_isinstance bz_isinstance (pa_cons (pv 1) (pa_cons (pe_bltn (v := .ty "tuple") (by rfl) T.z_tuple bz_tuple rfl) pa_nil))))) (pw_or1 (pt_cmpR op_ne (pe_callB call_len_seq (by rfl) T.z_len bz_len (pa_cons (pv 1) pa_nil)) (pe_gI (by rfl) T.g_THREE) (nomark _)))))
       (pss_one (ps_ret pe_bl))
       pss_nil)
      (pss_cons (ps_if (PW.pt (pw_or (pt_not (pt_val (pe_cal C_is_int hr (by rfl) pass0 (pa_cons (pe_ix ix_tup (pv 1) pe_int (fun _ _ => rfl)) (pa_cons pe_int (pa_cons (pe_op op_sub (pv 0) pe_int) pa_nil)))))) (pw_or1 (pt_not (pt_val (pe_cal C_is_int hr (by rfl) pass0 (pa_cons (pe_ix ix_tup (pv 1) pe_int (fun _ _ => rfl)) (pa_cons pe_int (pa_cons (pe_op op_sub (pv 0) pe_int) pa_nil)))))))))
       (pss_one (ps_ret pe_bl))
       pss_nil)
      (pss_one (ps_ret (pe_cal C_is_int hr (by rfl) pass0 (pa_cons (pe_ix ix_tup (pv 1) (pe_un un_neg pe_int) (fun _ _ => rfl)) (pa_cons (pe_un un_neg (pe_gI (by rfl) T.g_MOST_NUMBER)) (pa_cons (pe_gI (by rfl) T.g_MOST_NUMBER) pa_nil)))))))), ?_⟩
    refine ⟨.ref r, rfl, .ref r, .ty "tuple", _, _, true, rfl, .ty _, tyx_tup hr3, kit_tup_tup, true, rfl, iteF ?_⟩
    refine ⟨.ref r, rfl, r, _, rfl, .inr hr3, rfl, _, rfl, iteF ?_⟩
    refine ⟨.ref r, rfl, r, _, 0, .int (x : Int), rfl, rfl, hr3, rfl, .int (n : Int), rfl, n, 1, rfl, rfl, _, _, _, rfl, ?_⟩
    rw [show (decide ((0 : Int) ≤ (x : Int)) && decide ((x : Int) ≤ (n : Int) - 1)) = true by simp; omega]
    refine ⟨true, rfl, iteF ?_⟩
    refine ⟨.ref r, rfl, r, _, 1, .int (y : Int), rfl, rfl, hr3, rfl, .int (n : Int), rfl, n, 1, rfl, rfl, _, _, _, rfl, ?_⟩
    rw [show (decide ((0 : Int) ≤ (y : Int)) && decide ((y : Int) ≤ (n : Int) - 1)) = true by simp; omega]
    refine ⟨true, rfl, iteF ?_⟩
    refine ⟨.ref r, rfl, 1, rfl, r, _, -1, .int c, rfl, rfl, hr3, rfl, 10000000, rfl, _, _, _, rfl, ?_⟩
    rw [show (decide (-(10000000 : Int) ≤ c) && decide (c ≤ (10000000 : Int))) = true by simp; omega]
    exact q
/-! is_system: slots value=0 many=1 bounds=2 bound=3; cells ['many'] -/
abbrev s_is_system : Stmt := topS 14
abbrev N_is_system : List Str := ["value", "many", "bounds", "bound"]
theorem sc_is_system : FnScope N_is_system ["value"] (defScope s_is_system) := ⟨rfl, rfl, rfl, by decide +kernel, rfl, by decide +kernel, by decide +kernel⟩
theorem ok_is_system {f : Addr} {fd : FuncData} (F : Fun K "is_system" "is_system" s_is_system f fd) (T : Tx mg) (C_is_int : Cal P w K mg base CX0 "is_int" ["value", "low", "high"] 1 spIsInt)
    (C_is_bound : Cal P w K mg base CX0 "is_bound" ["many", "value"] 2 (spIsBound K)) : FnOk P w K mg base CX0 3 f fd ["value"] (spIsSys K) := by
  refine F.ok sc_is_system (fun vs H Q E h => ?_) (fun cdv A outer s H vs Q E hr h => ?_)
  · obtain ⟨v, n, B, rfl, _⟩ := h
    rfl
  · obtain ⟨v, n, B, rfl, hd, ok, q⟩ := h
    obtain ⟨a, b, rfl, ha, hb⟩ := sys_at hd
    obtain ⟨b', xs, eb, hxs, hlen, hget⟩ := bds_at hb
    cases eb
    refine ⟨_, (pss_cons (ps_if (PW.pt (pw_or (pt_not (pt_val (pe_callB call_isi (by rfl) T.z_isinstance bz_isinstance (pa_cons (pv 0) (pa_cons (pe_bltn (v := .ty "tuple") (by rfl) T.z_tuple bz_tuple rfl) pa_nil))))) (pw_or (pt_cmpR op_ne (pe_callB call_len_seq (by rfl) T.z_len bz_len (pa_cons (pv 0) pa_nil)) pe_int (nomark _)) (pw_or1 (pt_not (pt_val (pe_cal C_is_int hr (by rfl) pass0 (pa_cons (pe_ix ix_tup (pv 0) pe_int (fun _ _ => rfl)) (pa_cons pe_int (pa_cons (pe_gI (by rfl) T.g_MOST_VARIABLES) pa_nil))))))))))
       (pss_one (ps_ret pe_bl))
       pss_nil)
      (pss_cons (ps_asg (pv 0) (pg_tup (by rfl) (pgs_cons (pg_name (i := 1) sc_is_system.nd rfl (Or.inr rfl)) (pgs_cons (pg_name (i := 2) sc_is_system.nd rfl (Or.inl rfl)) pgs_nil))))
      (pss_cons (ps_if (PW.pt (pw_or (pt_not (pt_val (pe_callB call_isi (by rfl) T.z_isinstance bz_isinstance (pa_cons (pv 2) (pa_cons (pe_bltn (v := .ty "tuple") (by rfl) T.z_tuple bz_tuple rfl) pa_nil))))) (pw_or1 (pt_cmpR op_gt (pe_callB call_len_seq (by rfl) T.z_len bz_len (pa_cons (pv 2) pa_nil)) (pe_gI (by rfl) T.g_MOST_BOUNDS) (nomark _)))))
       (pss_one (ps_ret pe_bl))
       pss_nil)
      (pss_one (ps_ret (pe_callB (cr_all rfl) (by rfl) T.z_all bz_all (pa_cons (pe_lc (own := [("bound", 3)]) (g := gName 3) (tt := tYes) rfl sc_is_system.nd (pi_tup (pv 2)) (blkOk_by (N := N_is_system) (sc := defScope s_is_system) (by decide +kernel)) (fun _ _ _ _ _ => (pg_name (i := 3) sc_is_system.nd rfl (Or.inl rfl))) (fun _ _ _ _ _ => pts_nil) (fun _ _ _ _ _ => (pe_cal C_is_bound hr (by rfl) pass0 (pa_cons (pv 1) (pa_cons (pv 3) pa_nil))))) pa_nil))))))), ?_⟩
    refine ⟨.ref a, rfl, .ref a, .ty "tuple", _, _, true, rfl, .ty _, tyx_tup ha, kit_tup_tup, true, rfl, iteF ?_⟩
    refine ⟨.ref a, rfl, a, _, rfl, .inr ha, rfl, _, rfl, iteF ?_⟩
    refine ⟨.ref a, rfl, a, _, 0, .int (n : Int), rfl, rfl, ha, rfl, _, _, _, rfl, ?_⟩
    have n1 := ok.n1
    have n2 := ok.n2
    rw [show (decide ((1 : Int) ≤ (n : Int)) && decide ((n : Int) ≤ (80 : Int))) = true by simp; omega]
    refine ⟨true, rfl, iteF ?_⟩
    -- many, bounds = value
    refine ⟨.ref a, rfl, a, _, rfl, ha, rfl, .int (n : Int), _, rfl, .ref b, _, rfl, rfl, ?_⟩
    refine ⟨.ref b, rfl, .ref b, .ty "tuple", _, _, true, rfl, .ty _, tyx_tup hxs, kit_tup_tup, true, rfl, iteF ?_⟩
    refine ⟨.ref b, rfl, b, _, rfl, .inr hxs, _, _, rfl, rfl, _, rfl, ?_⟩
    have hl := ok.len
    rw [show decide ((4000 : Int) < ((xs.length : Nat) : Int)) = false by simp; omega]
    refine iteF ?_
    -- the comprehension
    refine ⟨.ref b, rfl, b, rfl, ⟨_, hxs⟩, fun D hD => ?_⟩
    refine lc_tup (K := K) (a := b) (xs := xs) (fun i H' => Old [] H H' ∧ H' D = some (.lst (List.replicate i (V.bl true)))) ⟨Old.new0 hD, upd_same⟩ (fun i H' _ h => (h.1.tk NoTup.nil).seq hxs) ?_ ?_
    · rintro i y H' hy ⟨o, hDl⟩
      have hi : i < B.length := by rw [← hlen]; exact (List.getElem?_eq_some_iff.mp hy).1
      obtain ⟨r, hr1, hr2⟩ := hget i _ (List.getElem?_eq_getElem hi)
      rw [hy] at hr1
      cases hr1
      have hm : B[i] ∈ B := List.getElem_mem hi
      refine ⟨rfl, .int (n : Int), rfl, .ref r, rfl, n, .ref r, B[i], rfl, ?_, (ok.ix _ hm).1, (ok.ix _ hm).2, (ok.sz _ hm).1, (ok.sz _ hm).2, _, hDl, ?_, o.put0 hD, ?_⟩
      · exact .tup ((o.tk NoTup.nil).seq hr2) (Dp.ofInts [((B[i]).1 : Int), ((B[i]).2.1 : Int), (B[i]).2.2])
      · rw [List.length_replicate]; exact Nat.lt_of_lt_of_le hi (Nat.le_trans hl (by decide))
      · rw [upd_same, List.replicate_succ']
    · rintro H' ⟨o, hDl⟩
      refine ⟨D, List.replicate xs.length true, rfl, SqL.of (by rw [hDl, List.map_replicate]), ?_⟩
      have : (List.replicate xs.length true).all id = true := by simp
      rw [this]
      exact q H' o
/-! look_at_system: slots system=0; cells [] -/
abbrev s_look_at_system : Stmt := topS 15
abbrev N_look_at_system : List Str := ["system"]
theorem sc_look_at_system : FnScope N_look_at_system ["system"] (defScope s_look_at_system) := ⟨rfl, rfl, rfl, by decide +kernel, rfl, by decide +kernel, by decide +kernel⟩
theorem ok_look {f : Addr} {fd : FuncData} (F : Fun K "look_at_system" "look_at_system" s_look_at_system f fd) (C_is_system : Cal P w K mg base CX0 "is_system" ["value"] 3 (spIsSys K)) : FnOk P w K mg base CX0 4 f fd ["system"] (spLook K) := by
  refine F.ok sc_look_at_system (fun vs H Q E h => ?_) (fun cdv A outer s H vs Q E hr h => ?_)
  · obtain ⟨v, n, B, rfl, _⟩ := h
    rfl
  · obtain ⟨v, n, B, rfl, hd, ok, q⟩ := h
    refine ⟨_, (pss_one (ps_if (pt_not (pt_val (pe_cal C_is_system hr (by rfl) pass0 (pa_cons (pv 0) pa_nil))))
       pss_never
       pss_nil)), ?_⟩
    refine ⟨v, rfl, v, n, B, rfl, hd, ok, fun H' o => ⟨true, rfl, iteF (q H' o)⟩⟩
end
end L2.T34

namespace L2.T34
open PySem PySem.Spec PyProof.Rows L2.PL
/-- a drawn system: at most six variables, twelve bounds -/
structure SysSm (n : Nat) (B : List PD.Bd) : Prop where
  n1 : 1 ≤ n
  n2 : n ≤ 6
  len : B.length ≤ 12
  ix : ∀ b ∈ B, b.1 < n ∧ b.2.1 < n
  sz : ∀ b ∈ B, -2000 ≤ b.2.2 ∧ b.2.2 ≤ 2000
theorem SysSm.ok {n : Nat} {B : List PD.Bd} (s : SysSm n B) : SysOk n B :=
  ⟨s.n1, Nat.le_trans s.n2 (by decide), Nat.le_trans s.len (by decide), s.ix, fun b hb => by have := s.sz b hb; omega⟩
def spSystem (K : PySem.W.Frag) : Sp := fun vs H Q _ => ∃ (a : Addr) (wd : Int) (B0 : Nat), vs = [.ref a, .int 6, .int 12, .int wd] ∧ Pot H a B0 ∧ 0 < wd ∧ wd ≤ 1000 ∧ B0 + 100 ≤ 1000000 ∧
  ∀ H' p n B, SysSm n B → Old [a] H H' → Pot H' a (B0 + 60) → Dp K H' (.ref p) (sysD n B) → Q (.ref p) H'
section
variable {P : Program} {w : World} {K : PySem.W.Frag} {mg : Str → Option Value} {base : Heap}
/-! _law_system: slots pot=0 many=1 most=2 wide=3 size=4 bounds=5 lap=6 number=7; cells [] -/
abbrev s_l_system : Stmt := topS 30
abbrev N_l_system : List Str := ["pot", "many", "most", "wide", "size", "bounds", "lap", "number"]
theorem sc_l_system : FnScope N_l_system ["pot", "many", "most", "wide"] (defScope s_l_system) := ⟨rfl, rfl, rfl, by decide +kernel, rfl, by decide +kernel, by decide +kernel⟩
theorem ok_system {f : Addr} {fd : FuncData} (F : Fun K "_law_system" "_law_system" s_l_system f fd) (T : Tx mg) (C_l_take : Cal P w K mg base CX0 "_law_take" ["pot", "upto"] 1 spTake) : FnOk P w K mg base CX0 2 f fd ["pot", "many", "most", "wide"] (spSystem K) := by
  refine F.ok sc_l_system (fun vs H Q E h => ?_) (fun cdv A outer s H vs Q E hr h => ?_)
  · obtain ⟨a, wd, B0, rfl, _⟩ := h
    rfl
  · obtain ⟨a, wd, B0, rfl, hP, w0, w1, hB0, q⟩ := h
    refine ⟨_, (pss_cons (ps_set (i := 4) sc_l_system.nd rfl (.inl rfl) (pe_op op_add pe_int (pe_cal C_l_take hr (by rfl) pass0 (pa_cons (pv 0) (pa_cons (pv 1) pa_nil)))))
      (pss_cons (ps_set (i := 5) sc_l_system.nd rfl (.inl rfl) (pe_lst pa_nil))
      (pss_cons (ps_for PassesOwn.never rfl (pi_range1 (by rfl) T.z_range (pa_cons (pe_cal C_l_take hr (by rfl) pass0 (pa_cons (pv 0) (pa_cons (pe_op op_add (pv 2) pe_int) pa_nil))) pa_nil)) (pg_name (i := 6) sc_l_system.nd rfl (Or.inl rfl))
       (pss_cons (ps_set (i := 7) sc_l_system.nd rfl (.inl rfl) (pe_op op_sub (pe_cal C_l_take hr (by rfl) pass0 (pa_cons (pv 0) (pa_cons (pe_op op_add (pe_op op_mul pe_int (pv 3)) pe_int) pa_nil))) (pe_cal C_l_take hr (by rfl) pass0 (pa_cons (pv 0) (pa_cons (pe_op op_add (pv 3) pe_int) pa_nil)))))
        (pss_one (ps_expr (pe_bm PySem.F.plainAttrs_list PySem.F.slot_list_append PySem.F.type_list_append mt_append (pv 5) (pa_cons (pe_tup (pa_cons (pe_callTy call_int1 (by rfl) T.z_int bz_int (pa_cons (pe_cal C_l_take hr (by rfl) pass0 (pa_cons (pv 0) (pa_cons (pv 4) pa_nil))) pa_nil)) (pa_cons (pe_callTy call_int1 (by rfl) T.z_int bz_int (pa_cons (pe_cal C_l_take hr (by rfl) pass0 (pa_cons (pv 0) (pa_cons (pv 4) pa_nil))) pa_nil)) (pa_cons (pe_callTy call_int1 (by rfl) T.z_int bz_int (pa_cons (pe_op op_sub (pv 7) (pe_op op_fdivN (pv 3) pe_int)) pa_nil)) pa_nil)))) pa_nil))))))
      (pss_one (ps_ret (pe_tup (pa_cons (pv 4) (pa_cons (pe_callTy call_tuple_of (by rfl) T.z_tuple bz_tuple (pa_cons (pv 5) pa_nil)) pa_nil)))))))), ?_⟩
    refine ⟨.ref a, rfl, .int 6, rfl, a, 6, B0, rfl, hP, by decide, by decide, by omega, fun H1 d d0 d1 o1 p1 => ⟨1, d, rfl, rfl, ?_⟩⟩
    obtain ⟨n, hn⟩ : ∃ n : Nat, 1 + d = (n : Int) := ⟨(1 + d).toNat, by omega⟩
    have hn1 : 1 ≤ n := by omega
    have hn6 : n ≤ 6 := by omega
    dsimp only
    rw [hn]
    refine ⟨Nat.zero_le _, fun l hl => ?_⟩
    have nal : a ≠ l := p1.ne hl
    have o2 : Old [a] H (upd H1 l (.lst [])) := o1.new hl
    have p2 : Pot (upd H1 l (.lst [])) a (B0 + 1) := p1.old (W := []) ((Old.refl _ _).new hl) (by simp)
    have hl0 : H l = none := o1.free hl (by simp; exact nal.symm)
    refine ⟨.ref a, rfl, .int 12, rfl, 12, 1, rfl, rfl, a, 13, B0 + 1, rfl, p2, by decide, by decide, by omega, fun H3 m m0 m1 o3 p3 => ⟨m, rfl, by omega, by omega, ?_⟩⟩
    obtain ⟨k, rfl⟩ : ∃ k : Nat, m = (k : Int) := ⟨m.toNat, by omega⟩
    have hk : k ≤ 12 := by omega
    have hl3 : H3 l = some (.lst []) := o3 _ _ (by simp; exact nal.symm) upd_same
    refine for_range (lo := 0) (n := ((k : Int)).toNat) (fun i σ H' => ∃ (bs : List PD.Bd) (rs : List V) (y6 y7 : Option V), σ = [some (.ref a), some (.int 6), some (.int 12), some (.int wd), some (.int (n : Int)), some (.ref l), y6, y7] ∧
        bs.length = i ∧ H' l = some (.lst rs) ∧ DpAll K H' rs (bs.map bdD) ∧ (∀ b ∈ bs, (b.1 < n ∧ b.2.1 < n) ∧ -2000 ≤ b.2.2 ∧ b.2.2 ≤ 2000) ∧ Pot H' a (B0 + 2 + 4 * i) ∧ Old [a] H H')
      ⟨[], [], none, none, rfl, rfl, hl3, .nil, fun b hb => by simp at hb, p3, o2.trans o3⟩ ?_ ?_
    · rintro i σ H4 hi ⟨bs, rs, y6, y7, rfl, hbl, h4, hd4, hb4, p4, o4⟩
      have hi12 : i < 12 := by omega
      -- number
      refine ⟨.ref a, rfl, .int wd, rfl, 2, wd, rfl, rfl, .inl ⟨by decide, by decide⟩, _, 1, rfl, rfl, a, 2 * wd + 1, _, rfl, p4, by omega, by omega, by omega, fun H5 e1 e10 e11 o5 p5 => ?_⟩
      refine ⟨.ref a, rfl, .int wd, rfl, wd, 1, rfl, rfl, a, wd + 1, _, rfl, p5, by omega, by omega, by omega, fun H6 e2 e20 e21 o6 p6 => ⟨e1, e2, rfl, rfl, ?_⟩⟩
      have o46 : Old [a] H4 H6 := o5.trans o6
      have h6 : H6 l = some (.lst rs) := o46 _ _ (by simp; exact nal.symm) h4
      have hd6 : DpAll K H6 rs (bs.map bdD) := PL.Dp.keepAll (o46.tk p4.notup) _ _ (bdsD_only bs) hd4
      -- the bound
      refine ⟨.ref l, rfl, .inl ⟨rfl, _, SqL.of h6⟩, .ref a, rfl, .int (n : Int), rfl, a, _, _, rfl, p6, by omega, by omega, by omega, fun H7 x x0 x1 o7 p7 => .inl ⟨x, rfl, ?_⟩⟩
      refine ⟨.ref a, rfl, .int (n : Int), rfl, a, _, _, rfl, p7, by omega, by omega, by omega, fun H8 y y0 y1 o8 p8 => .inl ⟨y, rfl, ?_⟩⟩
      refine ⟨.int (e1 - e2), rfl, .int wd, rfl, wd, 2, rfl, rfl, ⟨by decide, by decide⟩, _, _, rfl, rfl, .inl ⟨_, rfl, ?_⟩⟩
      obtain ⟨x', rfl⟩ : ∃ x' : Nat, x = (x' : Int) := ⟨x.toNat, by omega⟩
      obtain ⟨y', rfl⟩ : ∃ y' : Nat, y = (y' : Int) := ⟨y.toNat, by omega⟩
      have hw2 : 0 ≤ wd.fdiv 2 ∧ wd.fdiv 2 ≤ 500 := by
        rw [Int.fdiv_eq_ediv_of_nonneg _ (by decide)]
        omega
      dsimp only
      generalize hc : e1 - e2 - wd.fdiv 2 = c
      have o68 : Old [a] H6 H8 := o7.trans o8
      refine ⟨(by show 3 ≤ sizeLine; decide), fun t ht => ?_⟩
      have h8 : H8 l = some (.lst rs) := o68 _ _ (by simp; exact nal.symm) h6
      have nlt : l ≠ t := ne_of_none h8 ht
      refine ⟨l, _, _, rfl, rfl, by rw [upd_ne nlt]; exact h8, ?_, ?_⟩
      · have := PL.DpAll.length hd6
        rw [List.length_map] at this
        rw [this]
        exact Nat.lt_of_lt_of_le (Nat.lt_of_le_of_lt (by omega : bs.length ≤ 12) (by decide : 12 < 13)) (by decide)
      · have t8 : Tk H8 (upd (upd H8 t (.tup [.int (x' : Int), .int (y' : Int), .int c])) l (.lst (rs ++ [.ref t]))) := by
          refine Old.tk (W := [l]) (((Old.refl _ _).new ht).put (by simp)) (NoTup.one h8)
        refine ⟨bs ++ [(x', y', c)], rs ++ [.ref t], some (.int (0 + (i : Int))), some (.int (e1 - e2)), rfl, by rw [List.length_append, hbl]; rfl, upd_same, ?_, fun b hb => ?_, ?_, ?_⟩
        · rw [List.map_append]
          refine PL.DpAll.append (PL.Dp.keepAll t8 _ _ (bdsD_only bs) (PL.Dp.keepAll (o68.tk p6.notup) _ _ (bdsD_only bs) hd6)) (.cons (.tup ?_ (PL.Dp.ofInts [(x' : Int), (y' : Int), c])) .nil)
          exact SqT.of (by rw [upd_ne nlt.symm]; exact upd_same)
        · rcases List.mem_append.mp hb with hb | hb
          · exact hb4 b hb
          · have : b = (x', y', c) := by simpa using hb
            subst this
            exact ⟨⟨by show x' < n; omega, by show y' < n; omega⟩, by show -2000 ≤ c; omega, by show c ≤ 2000; omega⟩
        · have := (p8.old (W := []) ((Old.refl _ _).new (o := .tup [.int (x' : Int), .int (y' : Int), .int c]) ht) (by simp)).old (W := [l]) ((Old.refl [l] _).put (p := l) (o := .lst (rs ++ [.ref t])) (by simp)) (by simp; exact nal)
          exact this.mono (by omega)
        · exact (((o4.trans o46).trans o68).new ht).put0 hl0
    · rintro σ H4 ⟨bs, rs, y6, y7, rfl, hbl, h4, hd4, hb4, p4, o4⟩
      have ek : ((k : Int)).toNat = k := by omega
      rw [ek] at hbl p4
      refine ⟨.int (n : Int), rfl, .ref l, rfl, l, rs, rfl, .inl ⟨SqL.of h4, fun b hb => ?_⟩⟩
      refine ⟨(by show 2 ≤ sizeLine; decide), fun t ht => ?_⟩
      have t1 : Tk H4 (upd H4 b (.tup rs)) := Old.tk (W := []) ((Old.refl _ _).new hb) NoTup.nil
      have t2 : Tk (upd H4 b (.tup rs)) (upd (upd H4 b (.tup rs)) t (.tup [.int (n : Int), .ref b])) := Old.tk (W := []) ((Old.refl _ _).new ht) NoTup.nil
      refine q _ t n bs ⟨hn1, hn6, by omega, fun b hb => (hb4 b hb).1, fun b hb => (hb4 b hb).2⟩ ((o4.new hb).new ht) ?_ ?_
      · exact (((p4.old (W := []) ((Old.refl _ _).new hb) (by simp)).old (W := []) ((Old.refl _ _).new ht) (by simp))).mono (by omega)
      · refine .tup (SqT.of upd_same) (.cons (.int _) (.cons (.tup (t2.seq (SqT.of upd_same)) ?_) .nil))
        exact PL.Dp.keepAll (t1.trans t2) _ _ (bdsD_only bs) hd4
end
end L2.T34

namespace L2.PL
open PySem PySem.Spec PyProof.Rows
/-! rules whose reading names K, not the context: within a comprehension's block -/
section
variable {X : Cx} {K : PySem.W.Frag}
theorem ix_listK (h : X.K = K := by rfl) : IxR X (rIxL K) := by subst h; exact ix_list
theorem ix_tupK (h : X.K = K := by rfl) : IxR X (rIxT K) := by subst h; exact ix_tup
theorem cr_allK (hc : X.calm = true) (h : X.K = K := by rfl) : CallR X (.builtin "all") (rAll K) := by subst h; exact cr_all hc
theorem cr_anyK (hc : X.calm = true) (h : X.K = K := by rfl) : CallR X (.builtin "any") (rAny K) := by subst h; exact cr_any hc
theorem cr_sumK (hc : X.calm = true) (h : X.K = K := by rfl) : CallR X (.builtin "sum") (rSum K) := by subst h; exact cr_sum hc
theorem call_isiK2 (h : X.K = K := by rfl) : CallR X (.builtin "isinstance") (rIsi K) := by subst h; exact call_isi
theorem call_len_seqK (h : X.K = K := by rfl) : CallR X (.builtin "len") (fun xs H Q => ∃ p ys, xs = [.ref p] ∧ (SqL K H p ys ∨ SqT K H p ys) ∧ Q (.int ys.length) H) := by subst h; exact call_len_seq
theorem call_list_ofK (h : X.K = K := by rfl) : CallR X (.type "list") (fun xs H Q => ∃ p ys, xs = [.ref p] ∧ (SqL K H p ys ∨ SqT K H p ys) ∧ ∀ l, H l = none → Q (.ref l) (upd H l (.lst ys))) := by subst h; exact call_list_of
theorem call_tuple_ofK (h : X.K = K := by rfl) : CallR X (.type "tuple") (fun xs H Q => ∃ p ys, xs = [.ref p] ∧ ((SqL K H p ys ∧ ∀ l, H l = none → Q (.ref l) (upd H l (.tup ys))) ∨ (SqT K H p ys ∧ Q (.ref p) H))) := by subst h; exact call_tuple_of
theorem op_in_seqK (h : X.K = K := by rfl) : OpR X (compareOp .In) (rIn K false) := by subst h; exact op_in_seq
theorem op_notIn_seqK (h : X.K = K := by rfl) : OpR X (compareOp .NotIn) (rIn K true) := by subst h; exact op_notIn_seq
theorem op_catAK (h : X.K = K := by rfl) : OpR X (binaryOp .Add) (rCatA K) := by subst h; exact op_catA
theorem op_eqDK (hu : X.A.units + 64 < cLine) (h : X.K = K := by rfl) : OpR X (compareOp .Eq) (rEqD K) := by subst h; exact op_eqD hu
theorem op_neDK (hu : X.A.units + 64 < cLine) (h : X.K = K := by rfl) : OpR X (compareOp .NotEq) (rNeD K) := by subst h; exact op_neD hu
theorem call_reprDK (hG : X.A.guards = some []) (hu : X.A.units + 64 < cLine) (h : X.K = K := by rfl) : CallR X (.builtin "repr") (rRepr K) := by subst h; exact call_reprD hG hu
theorem sl_listK (h : X.K = K := by rfl) : SlR X (rSlL K) := by subst h; exact sl_list
theorem pi_listK {tg l : Expr} {tl : TE} (hl : PE X l tl) (h : X.K = K := by rfl) : PI X tg l (iList K tl) := by subst h; exact pi_list hl
theorem pi_tupK {tg l : Expr} {tl : TE} (hl : PE X l tl) (h : X.K = K := by rfl) : PI X tg l (iTup K tl) := by subst h; exact pi_tup hl
end
end L2.PL

namespace PD
/-! ### holes -/
theorem fits : ∀ (n : Nat) (l : List Nat), l.Nodup → (∀ x ∈ l, x < n) → l.length ≤ n
  | 0, l, _, h => by
    cases l with
    | nil => exact Nat.le_refl _
    | cons a r => exact absurd (h a List.mem_cons_self) (Nat.not_lt_zero _)
  | n + 1, l, d, h => by
    have ih := fits n (l.erase n) (d.erase n) fun x hx => by
      have h1 := h x (List.mem_of_mem_erase hx)
      have h2 : x ≠ n := fun e => by
        subst e
        exact (List.Nodup.not_mem_erase d) hx
      omega
    have := List.length_erase (a := n) (l := l)
    split at this <;> omega
theorem twice {n : Nat} (f : Nat → Nat) (h : ∀ i, i ≤ n → f i < n) : ∃ i j, i < j ∧ j ≤ n ∧ f i = f j := by
  by_cases d : ((List.range (n + 1)).map f).Nodup
  · have := fits n _ d fun x hx => by
      obtain ⟨i, hi, rfl⟩ := List.mem_map.mp hx
      exact h i (by have := List.mem_range.mp hi; omega)
    simp at this
    omega
  · rw [List.Nodup, List.pairwise_iff_getElem] at d
    have : ∃ i j, i < j ∧ j ≤ n ∧ f i = f j := Classical.byContradiction fun hn => d fun i j hi hj hij => by
      intro e
      simp at hi hj
      rw [List.getElem_map, List.getElem_map, List.getElem_range, List.getElem_range] at e
      exact hn ⟨i, j, hij, by omega, e⟩
    exact this

def set1 {α : Type} (f : Nat → α) (x : Nat) (v : α) : Nat → α := fun z => if z = x then v else f z
theorem set1_same {α : Type} (f : Nat → α) (x : Nat) (v : α) : set1 f x v x = v := if_pos rfl
theorem set1_ne {α : Type} {f : Nat → α} {x z : Nat} {v : α} (h : z ≠ x) : set1 f x v z = f z := if_neg h

/-! ### laps over all bounds: heights, by which bound they came down last; beside: in which lap (t), by what chain (hist) -/
structure RB where
  h : Nat → Int
  by_ : Nat → Option Nat
  last : Option Nat
  t : Nat → Nat
  hist : Nat → List (Nat × Int)
def rbStep (k : Nat) (b : Bd) (i : Nat) (s : RB) : RB :=
  if s.h b.2.1 + b.2.2 < s.h b.1 then
    ⟨set1 s.h b.1 (s.h b.2.1 + b.2.2), set1 s.by_ b.1 (some i), some b.1, set1 s.t b.1 k, set1 s.hist b.1 ((b.1, s.h b.2.1 + b.2.2) :: s.hist b.2.1)⟩
  else s
def lapTo (B : List Bd) (k : Nat) (s : RB) : Nat → RB
  | 0 => { s with last := none }
  | i + 1 => match B[i]? with
    | none => lapTo B k s i
    | some b => rbStep k b i (lapTo B k s i)
def rb0 : RB := ⟨fun _ => 0, fun _ => none, none, fun _ => 0, fun x => [(x, 0)]⟩
def laps (B : List Bd) : Nat → RB
  | 0 => rb0
  | k + 1 => lapTo B (k + 1) (laps B k) B.length

def Step2 (B : List Bd) (u w : Nat × Int) : Prop := ∃ c, (u.1, w.1, c) ∈ B ∧ u.2 = w.2 + c
inductive Chn (B : List Bd) : List (Nat × Int) → Prop
  | one (u : Nat × Int) : Chn B [u]
  | cons {u w : Nat × Int} {r : List (Nat × Int)} : Step2 B u w → Chn B (w :: r) → Chn B (u :: w :: r)
/-- what holds in lap k behind i bounds -/
structure GI (n : Nat) (B : List Bd) (k i : Nat) (s : RB) : Prop where
  head : ∀ x, ∃ r, s.hist x = (x, s.h x) :: r
  chn : ∀ x, Chn B (s.hist x)
  above : ∀ x, ∀ u ∈ s.hist x, s.h u.1 ≤ u.2
  strict : ∀ x, (s.hist x).Pairwise fun u w => u.1 = w.1 → u.2 < w.2
  long : ∀ x, s.t x + 1 ≤ (s.hist x).length
  small : ∀ x, x < n → ∀ u ∈ s.hist x, u.1 < n
  sat : ∀ j b, B[j]? = some b → (s.t b.2.1 + 2 ≤ k ∨ (s.t b.2.1 + 1 ≤ k ∧ j < i)) → s.h b.1 ≤ s.h b.2.1 + b.2.2
  le : ∀ x, s.t x ≤ k
  lst : ∀ x, s.last = some x → s.t x = k ∧ x < n
  by1 : ∀ x, 1 ≤ s.t x → ∃ j b, s.by_ x = some j ∧ B[j]? = some b ∧ b.1 = x ∧ s.t x ≤ s.t b.2.1 + 1
  by0 : ∀ x j, s.by_ x = some j → ∃ b, B[j]? = some b ∧ b.1 = x
section
variable {n : Nat} {B : List Bd} (hB : ∀ b ∈ B, b.1 < n ∧ b.2.1 < n)
include hB
theorem gi_step {k i : Nat} {s : RB} {b : Bd} (hb : B[i]? = some b) (g : GI n B k i s) : GI n B k (i + 1) (rbStep k b i s) := by
  obtain ⟨x, y, c⟩ := b
  have hm : (x, y, c) ∈ B := List.mem_of_getElem? hb
  obtain ⟨hx, hy⟩ : x < n ∧ y < n := hB _ hm
  unfold rbStep
  by_cases hlt : s.h y + c < s.h x
  · rw [if_pos (show s.h (x, y, c).2.1 + (x, y, c).2.2 < s.h (x, y, c).1 from hlt)]
    show GI n B k (i + 1) ⟨set1 s.h x (s.h y + c), set1 s.by_ x (some i), some x, set1 s.t x k, set1 s.hist x ((x, s.h y + c) :: s.hist y)⟩
    -- y changed in this lap or in the one ahead
    have ty : k ≤ s.t y + 1 := by
      apply Classical.byContradiction
      intro hn
      have := g.sat i _ hb (.inl (by show s.t y + 2 ≤ k; omega))
      have this : s.h x ≤ s.h y + c := this
      omega
    have down : ∀ z, set1 s.h x (s.h y + c) z ≤ s.h z := fun z => by
      by_cases e : z = x
      · subst e; rw [set1_same]; omega
      · rw [set1_ne e]; omega
    have tup : ∀ z, s.t z ≤ set1 s.t x k z := fun z => by
      by_cases e : z = x
      · subst e; rw [set1_same]; exact g.le z
      · rw [set1_ne e]; omega
    refine ⟨fun z => ?_, fun z => ?_, fun z u hu => ?_, fun z => ?_, fun z => ?_, fun z hz u hu => ?_, fun j b hj hc => ?_, fun z => ?_, fun z e => ?_, fun z hz => ?_, fun z j e => ?_⟩
    · by_cases e : z = x
      · subst e
        exact ⟨s.hist y, by show set1 s.hist z _ z = (z, set1 s.h z _ z) :: _; rw [set1_same, set1_same]⟩
      · obtain ⟨r, hr⟩ := g.head z
        exact ⟨r, by show set1 s.hist x _ z = (z, set1 s.h x _ z) :: _; rw [set1_ne e, set1_ne e]; exact hr⟩
    · show Chn B (set1 s.hist x _ z)
      by_cases e : z = x
      · subst e
        rw [set1_same]
        have h1 := g.chn y
        obtain ⟨r, hr⟩ := g.head y
        rw [hr] at h1 ⊢
        exact .cons ⟨c, hm, rfl⟩ h1
      · rw [set1_ne e]; exact g.chn z
    · have hu : u ∈ set1 s.hist x ((x, s.h y + c) :: s.hist y) z := hu
      show set1 s.h x (s.h y + c) u.1 ≤ u.2
      by_cases e : z = x
      · subst e
        rw [set1_same] at hu
        rcases List.mem_cons.mp hu with rfl | hu
        · rw [set1_same]; exact Int.le_refl _
        · exact Int.le_trans (down _) (g.above y u hu)
      · rw [set1_ne e] at hu
        exact Int.le_trans (down _) (g.above z u hu)
    · show (set1 s.hist x _ z).Pairwise _
      by_cases e : z = x
      · subst e
        rw [set1_same]
        refine List.Pairwise.cons (fun w hw e => ?_) (g.strict y)
        have := g.above y w hw
        have e : z = w.1 := e
        rw [← e] at this
        show s.h y + c < w.2
        omega
      · rw [set1_ne e]; exact g.strict z
    · show set1 s.t x k z + 1 ≤ (set1 s.hist x _ z).length
      by_cases e : z = x
      · subst e
        rw [set1_same, set1_same, List.length_cons]
        have := g.long y
        omega
      · rw [set1_ne e, set1_ne e]; exact g.long z
    · have hu : u ∈ set1 s.hist x ((x, s.h y + c) :: s.hist y) z := hu
      by_cases e : z = x
      · subst e
        rw [set1_same] at hu
        rcases List.mem_cons.mp hu with rfl | hu
        · exact hz
        · exact g.small y hy u hu
      · rw [set1_ne e] at hu
        exact g.small z hz u hu
    · obtain ⟨x', y', c'⟩ := b
      have hc : set1 s.t x k y' + 2 ≤ k ∨ (set1 s.t x k y' + 1 ≤ k ∧ j < i + 1) := hc
      show set1 s.h x (s.h y + c) x' ≤ set1 s.h x (s.h y + c) y' + c'
      have ey : y' ≠ x := fun e => by
        rw [e, set1_same] at hc
        omega
      rw [set1_ne ey] at hc
      rw [set1_ne ey]
      by_cases ej : j = i
      · subst ej
        rw [hb] at hj
        cases hj
        rw [set1_same]; omega
      · exact Int.le_trans (down x') (g.sat j _ hj (by
          show s.t y' + 2 ≤ k ∨ (s.t y' + 1 ≤ k ∧ j < i)
          omega))
    · show set1 s.t x k z ≤ k
      by_cases e : z = x
      · subst e; rw [set1_same]; omega
      · rw [set1_ne e]; exact g.le z
    · have e : x = z := Option.some.inj e
      subst e
      exact ⟨set1_same .., hx⟩
    · have hz : 1 ≤ set1 s.t x k z := hz
      show ∃ j b, set1 s.by_ x (some i) z = some j ∧ B[j]? = some b ∧ b.1 = z ∧ set1 s.t x k z ≤ set1 s.t x k b.2.1 + 1
      by_cases e : z = x
      · subst e
        refine ⟨i, _, set1_same .., hb, rfl, ?_⟩
        rw [set1_same]
        have := tup y
        show k ≤ set1 s.t z k y + 1
        omega
      · rw [set1_ne e] at hz
        obtain ⟨j, b, h1, h2, h3, h4⟩ := g.by1 z hz
        refine ⟨j, b, by rw [set1_ne e]; exact h1, h2, h3, ?_⟩
        rw [set1_ne e]
        have := tup b.2.1
        omega
    · have e : set1 s.by_ x (some i) z = some j := e
      by_cases ez : z = x
      · subst ez
        rw [set1_same] at e
        cases e
        exact ⟨_, hb, rfl⟩
      · rw [set1_ne ez] at e
        exact g.by0 z j e
  · rw [if_neg (show ¬ s.h (x, y, c).2.1 + (x, y, c).2.2 < s.h (x, y, c).1 from hlt)]
    refine ⟨g.head, g.chn, g.above, g.strict, g.long, g.small, fun j b hj hc => ?_, g.le, g.lst, g.by1, g.by0⟩
    by_cases ej : j = i
    · subst ej
      rw [hb] at hj
      cases hj
      show s.h x ≤ s.h y + c
      omega
    · exact g.sat j b hj (by omega)
theorem gi_lap {k : Nat} {s : RB} (g : GI n B k 0 { s with last := none }) : ∀ i, GI n B k i (lapTo B k s i)
  | 0 => g
  | i + 1 => by
    have ih := gi_lap g i
    show GI n B k (i + 1) (match B[i]? with | none => lapTo B k s i | some b => rbStep k b i (lapTo B k s i))
    cases e : B[i]? with
    | some b => exact gi_step hB e ih
    | none =>
      show GI n B k (i + 1) (lapTo B k s i)
      refine ⟨ih.head, ih.chn, ih.above, ih.strict, ih.long, ih.small, fun j b hj hc => ?_, ih.le, ih.lst, ih.by1, ih.by0⟩
      refine ih.sat j b hj ?_
      have h1 := List.getElem?_eq_none_iff.mp e
      obtain ⟨h2, _⟩ := List.getElem?_eq_some_iff.mp hj
      omega
omit hB in
theorem gi_next {k : Nat} {s : RB} (g : GI n B k B.length s) : GI n B (k + 1) 0 { s with last := none } :=
  ⟨g.head, g.chn, g.above, g.strict, g.long, g.small, fun j b hj hc => by
    obtain ⟨h2, _⟩ := List.getElem?_eq_some_iff.mp hj
    exact g.sat j b hj (by have : s.t b.2.1 + 2 ≤ k + 1 ∨ (s.t b.2.1 + 1 ≤ k + 1 ∧ j < 0) := hc; omega), fun x => Nat.le_succ_of_le (g.le x), fun x e => (by cases e), g.by1, g.by0⟩
omit hB in
theorem gi0 : GI n B 0 B.length rb0 :=
  ⟨fun x => ⟨[], rfl⟩, fun x => .one _, fun x u hu => by
    have : u = (x, (0 : Int)) := by simpa [rb0] using hu
    subst this; exact Int.le_refl _, fun x => List.pairwise_singleton .., fun x => Nat.le_refl _, fun x hx u hu => by
    have : u = (x, (0 : Int)) := by simpa [rb0] using hu
    subst this; exact hx, fun j b hj hc => by
      have : (0 : Nat) + 2 ≤ 0 ∨ ((0 : Nat) + 1 ≤ 0 ∧ j < B.length) := hc
      omega, fun x => Nat.le_refl _, fun x e => (by cases e), fun x h => (by have : 1 ≤ 0 := h; omega), fun x j e => (by cases e)⟩
theorem gi_laps : ∀ k, GI n B k B.length (laps B k)
  | 0 => gi0
  | k + 1 => gi_lap hB (gi_next (gi_laps k)) B.length

omit hB in
theorem chn_down {v : Nat → Int} (hv : Vals B v) : ∀ {l : List (Nat × Int)} {u : Nat × Int}, Chn B (u :: l) → ∀ w ∈ l, w.2 - v w.1 ≤ u.2 - v u.1
  | [], _, _, w, hw => by cases hw
  | w' :: r, u, h, w, hw => by
    cases h with
    | cons s h =>
      obtain ⟨c, hm, e⟩ := s
      have h1 : v u.1 - v w'.1 ≤ c := hv _ hm
      have h2 : w'.2 - v w'.1 ≤ u.2 - v u.1 := by omega
      rcases List.mem_cons.mp hw with rfl | hw
      · exact h2
      · exact Int.le_trans (chn_down hv h w hw) h2
omit hB in
theorem chn_nodup {v : Nat → Int} (hv : Vals B v) : ∀ {l : List (Nat × Int)}, Chn B l → (l.Pairwise fun u w => u.1 = w.1 → u.2 < w.2) → (l.map (·.1)).Nodup
  | [], _, _ => List.nodup_nil
  | u :: l, h, p => by
    have p' := List.pairwise_cons.mp p
    rw [List.map_cons, List.nodup_cons]
    refine ⟨fun hm => ?_, ?_⟩
    · obtain ⟨w, hw, e⟩ := List.mem_map.mp hm
      have h1 := p'.1 w hw e.symm
      have h2 := chn_down hv h w hw
      rw [e] at h2
      omega
    · cases h with
      | one => exact List.nodup_nil
      | cons _ h => exact chn_nodup hv h p'.2
/-- values: in lap n nothing comes down -/
theorem laps_none (f : Feas B) : (laps B n).last = none := by
  obtain ⟨v, hv⟩ := f
  cases e : (laps B n).last with
  | none => rfl
  | some x =>
    have g := gi_laps hB n
    obtain ⟨h1, h2⟩ := g.lst x e
    have := fits n _ (chn_nodup hv (g.chn x) (g.strict x)) fun z hz => by
      obtain ⟨u, hu, rfl⟩ := List.mem_map.mp hz
      exact g.small x h2 u hu
    rw [List.length_map] at this
    have := g.long x
    omega
omit hB in
/-- nothing came down: all bounds are so -/
theorem lap_still {k : Nat} {s : RB} : ∀ {i : Nat}, (lapTo B k s i).last = none → (lapTo B k s i) = { s with last := none } ∧ ∀ j b, j < i → B[j]? = some b → s.h b.1 ≤ s.h b.2.1 + b.2.2
  | 0, _ => ⟨rfl, fun _ _ h => absurd h (Nat.not_lt_zero _)⟩
  | i + 1, e => by
    have e : (match B[i]? with | none => lapTo B k s i | some b => rbStep k b i (lapTo B k s i)).last = none := e
    show (match B[i]? with | none => lapTo B k s i | some b => rbStep k b i (lapTo B k s i)) = _ ∧ _
    cases hb : B[i]? with
    | none =>
      rw [hb] at e
      obtain ⟨h1, h2⟩ := lap_still (i := i) e
      refine ⟨h1, fun j b hj hjb => h2 j b ?_ hjb⟩
      obtain ⟨h3, _⟩ := List.getElem?_eq_some_iff.mp hjb
      have := List.getElem?_eq_none_iff.mp hb
      omega
    | some b =>
      rw [hb] at e
      have e : (rbStep k b i (lapTo B k s i)).last = none := e
      show rbStep k b i (lapTo B k s i) = _ ∧ _
      unfold rbStep at e ⊢
      by_cases hlt : (lapTo B k s i).h b.2.1 + b.2.2 < (lapTo B k s i).h b.1
      · rw [if_pos hlt] at e; cases e
      · rw [if_neg hlt] at e ⊢
        obtain ⟨h1, h2⟩ := lap_still (i := i) e
        refine ⟨h1, fun j b' hj hjb => ?_⟩
        by_cases ej : j = i
        · subst ej
          rw [hb] at hjb
          cases hjb
          rw [h1] at hlt
          have hlt : ¬ s.h b.2.1 + b.2.2 < s.h b.1 := hlt
          omega
        · exact h2 j b' (by omega) hjb
omit hB in
theorem feas_of_none {k : Nat} (e : (laps B (k + 1)).last = none) : Feas B := by
  obtain ⟨_, h⟩ := lap_still (B := B) (k := k + 1) (s := laps B k) (i := B.length) e
  refine ⟨(laps B k).h, fun b hb => ?_⟩
  obtain ⟨j, hj, e⟩ := List.mem_iff_getElem.mp hb
  have := h j b hj (by rw [List.getElem?_eq_getElem hj, e])
  omega

/-! ### the way back along by -/
def nxt (B : List Bd) (s : RB) (x : Nat) : Nat := match s.by_ x with
  | none => x
  | some j => match B[j]? with
    | none => x
    | some b => b.2.1
def iter (f : Nat → Nat) : Nat → Nat → Nat
  | 0, x => x
  | k + 1, x => f (iter f k x)
omit hB in
theorem iter_add (f : Nat → Nat) (x : Nat) : ∀ (m k : Nat), iter f (k + m) x = iter f k (iter f m x)
  | m, 0 => by rw [Nat.zero_add]; rfl
  | m, k + 1 => by
    rw [show k + 1 + m = (k + m) + 1 by omega]
    show f (iter f (k + m) x) = f (iter f k (iter f m x))
    rw [iter_add f x m k]
/-- a bound's number at which one goes on -/
def HasBy (B : List Bd) (s : RB) (n x : Nat) : Prop := ∃ j b, s.by_ x = some j ∧ B[j]? = some b ∧ b.1 = x ∧ b.2.1 < n ∧ nxt B s x = b.2.1
/-- something came down in lap n: n steps back one is in a ring -/
theorem back {x : Nat} (e : (laps B n).last = some x) :
    (∀ k, HasBy B (laps B n) n (iter (nxt B (laps B n)) k x)) ∧ ∃ d, 1 ≤ d ∧ d ≤ n ∧ iter (nxt B (laps B n)) d (iter (nxt B (laps B n)) n x) = iter (nxt B (laps B n)) n x := by
  have g := gi_laps hB n
  generalize hs : laps B n = s at *
  obtain ⟨h1, hxn⟩ := g.lst x e
  have has : ∀ z, 1 ≤ s.t z → HasBy B s n z ∧ s.t z ≤ s.t (nxt B s z) + 1 := fun z hz => by
    obtain ⟨j, b, q1, q2, q3, q4⟩ := g.by1 z hz
    have q5 : nxt B s z = b.2.1 := by
      unfold nxt
      rw [q1]
      show (match B[j]? with | none => z | some b => b.2.1) = _
      rw [q2]
    exact ⟨⟨j, b, q1, q2, q3, (hB b (List.mem_of_getElem? q2)).2, q5⟩, by rw [q5]; exact q4⟩
  have tt : ∀ k, k ≤ n → n ≤ s.t (iter (nxt B s) k x) + k ∧ iter (nxt B s) k x < n := by
    intro k
    induction k with
    | zero => intro _; exact ⟨by show n ≤ s.t x + 0; omega, hxn⟩
    | succ k ih =>
      intro hk
      obtain ⟨a1, a2⟩ := ih (by omega)
      obtain ⟨⟨j, b, _, _, _, h5, h6⟩, h7⟩ := has (iter (nxt B s) k x) (by omega)
      refine ⟨?_, ?_⟩
      · show n ≤ s.t (nxt B s (iter (nxt B s) k x)) + (k + 1)
        omega
      · show nxt B s (iter (nxt B s) k x) < n
        rw [h6]; exact h5
  obtain ⟨i, j, hij, hjn, heq⟩ := twice (fun k => iter (nxt B s) k x) (n := n) fun k hk => (tt k hk).2
  have heq : iter (nxt B s) i x = iter (nxt B s) j x := heq
  -- from i on it goes round
  have per : ∀ r, iter (nxt B s) (r + i) x = iter (nxt B s) (r + j) x := fun r => by rw [iter_add, iter_add, heq]
  have red : ∀ m, ∃ m', m' < j ∧ iter (nxt B s) m x = iter (nxt B s) m' x := by
    intro m
    induction m using Nat.strongRecOn with
    | _ m ih =>
      by_cases hm : m < j
      · exact ⟨m, hm, rfl⟩
      · obtain ⟨m', h1, h2⟩ := ih (m - j + i) (by omega)
        refine ⟨m', h1, ?_⟩
        rw [← h2, per (m - j)]
        rw [show m - j + j = m by omega]
  refine ⟨fun k => ?_, j - i, by omega, by omega, ?_⟩
  · obtain ⟨m', hm, e'⟩ := red k
    rw [e']
    have := (tt m' (by omega)).1
    exact (has _ (by omega)).1
  · rw [← iter_add]
    have := per (n - i)
    rw [show n - i + i = n by omega] at this
    rw [this]
    rw [show j - i + n = n - i + j by omega]
end
theorem lapTo_len {B : List Bd} {k : Nat} {s : RB} {i : Nat} (h : B.length ≤ i) : lapTo B k s i = lapTo B k s B.length := by
  induction h with
  | refl => rfl
  | step h ih =>
    rename_i m
    show (match B[m]? with | none => lapTo B k s m | some b => rbStep k b m (lapTo B k s m)) = _
    rw [List.getElem?_eq_none (by omega)]
    exact ih
theorem lapTo_step {B : List Bd} {k : Nat} {s : RB} {i : Nat} {b : Bd} (h : B[i]? = some b) : lapTo B k s (i + 1) = rbStep k b i (lapTo B k s i) := by
  show (match B[i]? with | none => lapTo B k s i | some b => rbStep k b i (lapTo B k s i)) = _
  rw [h]

/-! ### going over all bounds until nothing moves -/
def mvStep (b : Bd) (s : (Nat → Int) × Bool) : (Nat → Int) × Bool := if s.1 b.2.1 + b.2.2 < s.1 b.1 then (set1 s.1 b.1 (s.1 b.2.1 + b.2.2), true) else s
def mvTo (B : List Bd) (h : Nat → Int) : Nat → (Nat → Int) × Bool
  | 0 => (h, false)
  | i + 1 => match B[i]? with
    | none => mvTo B h i
    | some b => mvStep b (mvTo B h i)
theorem mvTo_step {B : List Bd} {h : Nat → Int} {i : Nat} {b : Bd} (e : B[i]? = some b) : mvTo B h (i + 1) = mvStep b (mvTo B h i) := by
  show (match B[i]? with | none => mvTo B h i | some b => mvStep b (mvTo B h i)) = _
  rw [e]
/-- the sum of n heights -/
def sumTo (h : Nat → Int) : Nat → Int
  | 0 => 0
  | i + 1 => sumTo h i + h i
theorem sumTo_le {f g : Nat → Int} : ∀ n, (∀ x, x < n → f x ≤ g x) → sumTo f n ≤ sumTo g n
  | 0, _ => Int.le_refl _
  | n + 1, h => by
    have := sumTo_le n fun x hx => h x (by omega)
    have := h n (by omega)
    show sumTo f n + f n ≤ sumTo g n + g n
    omega
theorem sumTo_lt {f g : Nat → Int} : ∀ n, (∀ x, x < n → f x ≤ g x) → (∃ x, x < n ∧ f x < g x) → sumTo f n < sumTo g n
  | 0, _, ⟨x, h, _⟩ => absurd h (Nat.not_lt_zero _)
  | n + 1, h, ⟨x, hx, hl⟩ => by
    have h1 := sumTo_le n fun x hx => h x (by omega)
    have h2 := h n (by omega)
    show sumTo f n + f n < sumTo g n + g n
    by_cases e : x = n
    · subst e; omega
    · have := sumTo_lt n (fun x hx => h x (by omega)) ⟨x, by omega, hl⟩
      omega
/-- heights above values: they stay above, and fall where something moves -/
structure Ab (n : Nat) (v h : Nat → Int) (m : Int) : Prop where
  ab : ∀ x, x < n → v x + m ≤ h x
theorem mvTo_ok {n : Nat} {B : List Bd} {v h : Nat → Int} {m : Int} (hB : ∀ b ∈ B, b.1 < n ∧ b.2.1 < n) (hv : Vals B v) (a : Ab n v h m) : ∀ i, Ab n v (mvTo B h i).1 m ∧ (∀ x, x < n → (mvTo B h i).1 x ≤ h x) ∧ ((mvTo B h i).2 = true → ∃ x, x < n ∧ (mvTo B h i).1 x < h x) ∧
    ((mvTo B h i).2 = false → (mvTo B h i).1 = h ∧ ∀ j b, j < i → B[j]? = some b → h b.1 ≤ h b.2.1 + b.2.2)
  | 0 => ⟨a, fun _ _ => Int.le_refl _, fun e => (by cases e), fun _ => ⟨rfl, fun _ _ h => absurd h (Nat.not_lt_zero _)⟩⟩
  | i + 1 => by
    obtain ⟨h1, h2, h3, h4⟩ := mvTo_ok hB hv a i
    cases e : B[i]? with
    | none =>
      have q : mvTo B h (i + 1) = mvTo B h i := by
        show (match B[i]? with | none => mvTo B h i | some b => mvStep b (mvTo B h i)) = _
        rw [e]
      rw [q]
      refine ⟨h1, h2, h3, fun z => ⟨(h4 z).1, fun j b hj hb => (h4 z).2 j b ?_ hb⟩⟩
      obtain ⟨p, _⟩ := List.getElem?_eq_some_iff.mp hb
      have := List.getElem?_eq_none_iff.mp e
      omega
    | some b =>
      rw [mvTo_step e]
      obtain ⟨x, y, c⟩ := b
      have hm : (x, y, c) ∈ B := List.mem_of_getElem? e
      obtain ⟨hx, hy⟩ : x < n ∧ y < n := hB _ hm
      have hvb : v x - v y ≤ c := hv _ hm
      generalize mvTo B h i = s at *
      unfold mvStep
      by_cases hlt : s.1 y + c < s.1 x
      · rw [if_pos (show s.1 (x, y, c).2.1 + (x, y, c).2.2 < s.1 (x, y, c).1 from hlt)]
        refine ⟨⟨fun z hz => ?_⟩, fun z hz => ?_, fun _ => ⟨x, hx, ?_⟩, fun z => (by cases z)⟩
        · show v z + m ≤ set1 s.1 x (s.1 y + c) z
          by_cases ez : z = x
          · subst ez
            rw [set1_same]
            have := h1.ab y hy
            omega
          · rw [set1_ne ez]; exact h1.ab z hz
        · show set1 s.1 x (s.1 y + c) z ≤ h z
          by_cases ez : z = x
          · subst ez
            rw [set1_same]
            have := h2 z hz
            omega
          · rw [set1_ne ez]; exact h2 z hz
        · show set1 s.1 x (s.1 y + c) x < h x
          rw [set1_same]
          have := h2 x hx
          omega
      · rw [if_neg (show ¬ s.1 (x, y, c).2.1 + (x, y, c).2.2 < s.1 (x, y, c).1 from hlt)]
        refine ⟨h1, h2, h3, fun z => ?_⟩
        obtain ⟨q1, q2⟩ := h4 z
        refine ⟨q1, fun j b hj hb => ?_⟩
        by_cases ej : j = i
        · subst ej
          rw [e] at hb
          cases hb
          rw [q1] at hlt
          show h x ≤ h y + c
          omega
        · exact q2 j b (by omega) hb
/-- nought lies above values, shifted -/
theorem shift (v : Nat → Int) : ∀ n : Nat, ∃ m : Int, ∀ x, x < n → v x + m ≤ 0
  | 0 => ⟨0, fun _ h => absurd h (Nat.not_lt_zero _)⟩
  | n + 1 => by
    obtain ⟨m, h⟩ := shift v n
    refine ⟨if m ≤ -v n then m else -v n, fun x hx => ?_⟩
    by_cases e : x = n
    · subst e; split <;> omega
    · have := h x (by omega)
      split <;> omega
end PD

namespace L2.PL
open PySem PySem.Spec PyProof.Rows
/-! ### rows told by a function -/
def rowG (n : Nat) (g : Nat → V) : List V := (List.range n).map g
theorem rowG_len (n : Nat) (g : Nat → V) : (rowG n g).length = n := by simp [rowG]
theorem rowG_get {n : Nat} {g : Nat → V} {j : Nat} (h : j < n) : (rowG n g)[j]? = some (g j) := by
  unfold rowG
  rw [List.getElem?_map, List.getElem?_range h]
  rfl
theorem rowG_at {n : Nat} {g : Nat → V} {j : Nat} (h : j < n) : atI (rowG n g) (j : Int) = some (g j) := atI_nat (rowG_get h)
theorem rowG_ix {n : Nat} {g : Nat → V} {j : Nat} (h : j < n) : ixN (rowG n g).length (j : Int) = some j := by
  unfold ixN
  rw [if_pos (by omega), if_pos (by rw [rowG_len]; omega)]
  simp
theorem rowG_set {n : Nat} {g : Nat → V} {y : Nat} {v : V} (h : y < n) : (rowG n g).set y v = rowG n (PD.set1 g y v) := by
  apply List.ext_getElem?
  intro j
  by_cases hj : j < n
  · by_cases e : j = y
    · subst e
      rw [List.getElem?_set_self (by rw [rowG_len]; exact h), rowG_get h, PD.set1_same]
    · rw [List.getElem?_set_ne (Ne.symm e), rowG_get hj, rowG_get hj, PD.set1_ne e]
  · rw [List.getElem?_eq_none (by rw [List.length_set, rowG_len]; omega), List.getElem?_eq_none (by rw [rowG_len]; omega)]
theorem rowG_const (n : Nat) (v : V) : (List.replicate n [v]).flatten = rowG n fun _ => v := by
  induction n with
  | zero => rfl
  | succ n ih =>
    rw [List.replicate_succ', List.flatten_append, ih]
    unfold rowG
    rw [List.range_succ, List.map_append]
    rfl
theorem set1_comp {α : Type} (f : Nat → α) (g : α → V) (x : Nat) (a : α) : PD.set1 (fun z => g (f z)) x (g a) = fun z => g (PD.set1 f x a z) := by
  funext z
  unfold PD.set1
  split <;> rfl
/-! ### lists of data -/
theorem canLay_ints : ∀ ns : List Int, PyData.canLayAll0 (ns.map PyData.int) = true
  | [] => rfl
  | n :: ns => by
    show (PyData.canLay0 (.int n) && PyData.canLayAll0 (ns.map PyData.int)) = true
    rw [canLay_ints ns]; rfl
theorem depth_ints : ∀ ns : List Int, PyData.depthAll (ns.map PyData.int) = 0
  | [] => rfl
  | n :: ns => by
    show max 0 (PyData.depthAll (ns.map PyData.int)) = 0
    rw [depth_ints ns]; rfl
theorem shaped_ints (ns : List Int) : SeqAt.shaped (.list (ns.map PyData.int)) = true := by
  unfold SeqAt.shaped
  rw [show (PyData.list (ns.map PyData.int)).canLay0 = PyData.canLayAll0 (ns.map PyData.int) from rfl, canLay_ints,
    show (PyData.list (ns.map PyData.int)).depth = PyData.depthAll (ns.map PyData.int) + 1 from rfl, depth_ints]
  rfl
theorem eqv_nil (ns : List Int) : PyData.eqv (.list (ns.map PyData.int)) (.list []) = ns.isEmpty := by
  cases ns with
  | nil => simp [PyData.eqv, PyData.eqvAll]
  | cons a r => simp [PyData.eqv, PyData.eqvAll]
theorem shaped_nil : SeqAt.shaped (.list []) = true := shaped_ints []
end L2.PL

namespace L2.T34
open PySem PySem.Spec PyProof.Rows L2.PL
/-- a ring below nought, or None -/
def spRing (K : PySem.W.Frag) : Sp := fun vs H Q _ => ∃ (v : V) (n : Nat) (B : List PD.Bd), vs = [.int (n : Int), v] ∧ Dp K H v (bdsD B) ∧ SysOk n B ∧
  (PD.Feas B → ∀ H', Old [] H H' → Q .non H') ∧ (¬ PD.Feas B → ∀ H' t (ids : List Int), Old [] H H' → H' t = some (.tup (ids.map V.int)) → Q (.ref t) H')
def hV (s : PD.RB) : Nat → V := fun z => .int (s.h z)
def nV : Option Nat → V
  | none => .non
  | some j => .int (j : Int)
def byV (s : PD.RB) : Nat → V := fun z => nV (s.by_ z)
section
variable {P : Program} {w : World} {K : PySem.W.Frag} {mg : Str → Option Value} {base : Heap}
/-! ring_below: slots many=0 bounds=1 heights=2 by=3 last=4 lap=5 number=6 x=7 y=8 c=9 found=10 here=11; cells [] -/
abbrev s_ring_below : Stmt := topS 17
abbrev N_ring_below : List Str := ["many", "bounds", "heights", "by", "last", "lap", "number", "x", "y", "c", "found", "here"]
theorem sc_ring_below : FnScope N_ring_below ["many", "bounds"] (defScope s_ring_below) := ⟨rfl, rfl, rfl, by decide +kernel, rfl, by decide +kernel, by decide +kernel⟩
theorem ok_ring {f : Addr} {fd : FuncData} (F : Fun K "ring_below" "ring_below" s_ring_below f fd) (T : Tx mg) : FnOk P w K mg base CX0 1 f fd ["many", "bounds"] (spRing K) := by
  refine F.ok sc_ring_below (fun vs H Q E h => ?_) (fun cdv A outer s H vs Q E hr h => ?_)
  · obtain ⟨v, n, B, rfl, _⟩ := h
    rfl
  · obtain ⟨v, n, B, rfl, hb, ok, q1, q2⟩ := h
    obtain ⟨b, xs, rfl, hxs, hlen, hget⟩ := bds_at hb
    have hn1 := ok.n1
    have hn2 := ok.n2
    have hB := ok.ix
    have en : ((n : Int)).toNat = n := by omega
    refine ⟨_, (pss_cons (ps_par3 (i := 2) (j := 3) (l := 4) (by rfl) sc_ring_below.nd rfl rfl rfl (by decide) (by decide) (by decide) rfl rfl rfl (pa_cons (pe_op op_rep (pe_lst (pa_cons pe_int pa_nil)) (pv 0)) (pa_cons (pe_op op_rep (pe_lst (pa_cons pe_non pa_nil)) (pv 0)) (pa_cons pe_non pa_nil))) (by rfl))
      (pss_cons (ps_for PassesOwn.never rfl (pi_range1 (by rfl) T.z_range (pa_cons (pv 0) pa_nil)) (pg_name (i := 5) sc_ring_below.nd rfl (Or.inl rfl))
       (pss_cons (ps_set (i := 4) sc_ring_below.nd rfl (.inl rfl) pe_non)
        (pss_cons (ps_for PassesOwn.never rfl (pi_enumT (by rfl) T.z_enumerate (pa_cons (pv 1) pa_nil)) (pg_tup (by rfl) (pgs_cons (pg_name (i := 6) sc_ring_below.nd rfl (Or.inl rfl)) (pgs_cons (pg_tup (by rfl) (pgs_cons (pg_name (i := 7) sc_ring_below.nd rfl (Or.inl rfl)) (pgs_cons (pg_name (i := 8) sc_ring_below.nd rfl (Or.inl rfl)) (pgs_cons (pg_name (i := 9) sc_ring_below.nd rfl (Or.inl rfl)) pgs_nil)))) pgs_nil)))
         (pss_one (ps_if (pt_cmpR op_lt (pe_op op_add (pe_ix ix_list (pv 2) (pv 8) (fun _ _ => rfl)) (pv 9)) (pe_ix ix_list (pv 2) (pv 7) (fun _ _ => rfl)) (nomark _))
           (pss_one (ps_asg (pe_tup (pa_cons (pe_op op_add (pe_ix ix_list (pv 2) (pv 8) (fun _ _ => rfl)) (pv 9)) (pa_cons (pv 6) (pa_cons (pv 7) pa_nil)))) (pg_tup (by rfl) (pgs_cons (pg_sub (pv 2) (pv 7) set_list) (pgs_cons (pg_sub (pv 3) (pv 7) set_list) (pgs_cons (pg_name (i := 4) sc_ring_below.nd rfl (Or.inl rfl)) pgs_nil))))))
           pss_nil)))
        (pss_one (ps_if (pt_cmpR op_isN (pv 4) pe_non (nomark _))
         (pss_one (ps_ret pe_non))
         pss_nil)))))
      (pss_cons (ps_for PassesOwn.never rfl (pi_range1 (by rfl) T.z_range (pa_cons (pv 0) pa_nil)) (pg_name (i := 5) sc_ring_below.nd rfl (Or.inl rfl))
       (pss_one (ps_set (i := 4) sc_ring_below.nd rfl (.inl rfl) (pe_ix ix_tup (pe_ix ix_tup (pv 1) (pe_ix ix_list (pv 3) (pv 4) (fun _ _ => rfl)) (fun _ _ => rfl)) pe_int (fun _ _ => rfl)))))
      (pss_cons (ps_par (i := 10) (j := 11) (by rfl) sc_ring_below.nd rfl rfl (by decide) rfl rfl (pa_cons (pe_lst pa_nil) (pa_cons (pv 4) pa_nil)) (by rfl))
      (pss_cons (ps_while PassesOwn.never (PW.pt (pw_or (pt_cmpR op_ne (pv 11) (pv 4) (nomark _)) (pw_or1 (pt_cmpR (op_eqD hr.units) (pv 10) (pe_lst pa_nil) (nomark _)))))
       (pss_cons (ps_expr (pe_bm PySem.F.plainAttrs_list PySem.F.slot_list_append PySem.F.type_list_append mt_append (pv 10) (pa_cons (pe_ix ix_list (pv 3) (pv 11) (fun _ _ => rfl)) pa_nil)))
        (pss_one (ps_set (i := 11) sc_ring_below.nd rfl (.inl rfl) (pe_ix ix_tup (pe_ix ix_tup (pv 1) (pe_ix ix_list (pv 3) (pv 11) (fun _ _ => rfl)) (fun _ _ => rfl)) pe_int (fun _ _ => rfl))))))
      (pss_one (ps_ret (pe_callTy call_tuple_of (by rfl) T.z_tuple bz_tuple (pa_cons (pv 10) pa_nil))))))))), ?_⟩
    -- heights, by, last
    refine ⟨Nat.le_trans (by decide : 1 ≤ 2) (by decide), fun p1 hp1 => ⟨.int (n : Int), rfl, p1, (n : Int), _, rfl, rfl, upd_same, by omega, by omega, ?_, fun h0 hh0 => ?_⟩⟩
    · show 1 * ((n : Int)).toNat ≤ sizeLine
      rw [en, Nat.one_mul]
      exact Nat.le_trans hn2 (by decide)
    refine ⟨Nat.le_trans (by decide : 1 ≤ 2) (by decide), fun p2 hp2 => ⟨.int (n : Int), rfl, p2, (n : Int), _, rfl, rfl, upd_same, by omega, by omega, ?_, fun y0 hy0 => ?_⟩⟩
    · show 1 * ((n : Int)).toNat ≤ sizeLine
      rw [en, Nat.one_mul]
      exact Nat.le_trans hn2 (by decide)
    simp only [en, rowG_const] at hp2 hy0 ⊢
    refine ⟨_, _, _, rfl, ?_⟩
    have oA : Old [] H (upd H p1 (.lst [.int 0])) := Old.new0 hp1
    have oB := oA.new (o := .lst (rowG n fun _ => V.int 0)) hh0
    have oC := oB.new (o := .lst [.non]) hp2
    have oD := oC.new (o := .lst (rowG n fun _ => V.non)) hy0
    have hh1 := oA.free hh0 (by simp)
    have hy1 := oC.free hy0 (by simp)
    have nhy : h0 ≠ y0 := fun z => by
      subst z
      rw [upd_ne (fun z => by subst z; rw [upd_same] at hp2; cases hp2), upd_same] at hy0
      cases hy0
    have eh : (upd (upd (upd (upd H p1 (.lst [.int 0])) h0 (.lst (rowG n fun _ => V.int 0))) p2 (.lst [.non])) y0 (.lst (rowG n fun _ => V.non))) h0 = some (.lst (rowG n fun _ => V.int 0)) := by
      rw [upd_ne nhy, upd_ne (fun z => by subst z; rw [upd_same] at hp2; cases hp2), upd_same]
    have ey : (upd (upd (upd (upd H p1 (.lst [.int 0])) h0 (.lst (rowG n fun _ => V.int 0))) p2 (.lst [.non])) y0 (.lst (rowG n fun _ => V.non))) y0 = some (.lst (rowG n fun _ => V.non)) := upd_same
    generalize upd (upd (upd (upd H p1 (.lst [.int 0])) h0 (.lst (rowG n fun _ => V.int 0))) p2 (.lst [.non])) y0 (.lst (rowG n fun _ => V.non)) = H1 at oD eh ey
    clear oA oB oC hp1 hh0 hp2 hy0
    -- the laps
    refine ⟨.int (n : Int), rfl, (n : Int), rfl, by omega, by omega, for_range (lo := 0) (n := ((n : Int)).toNat) (fun i σ H' => ∃ (y5 y6 y7 y8 y9 : Option V), σ = [some (.int (n : Int)), some (.ref b), some (.ref h0), some (.ref y0), some (nV (PD.laps B i).last), y5, y6, y7, y8, y9, none, none] ∧ Old [] H H' ∧
        H' h0 = some (.lst (rowG n (hV (PD.laps B i)))) ∧ H' y0 = some (.lst (rowG n (byV (PD.laps B i)))) ∧ (1 ≤ i → (PD.laps B i).last ≠ none))
      ⟨none, none, none, none, none, rfl, oD, eh, ey, fun h => absurd h (by decide)⟩ ?_ ?_⟩
    · rintro i σ H2 hi ⟨y5, y6, y7, y8, y9, rfl, o2, e2h, e2y, _⟩
      rw [en] at hi
      rw [Int.zero_add]
      have hxs2 : SqT K H2 b xs := (o2.tk NoTup.nil).seq hxs
      -- a lap
      refine ⟨.ref b, rfl, b, xs, rfl, hxs2, fun j m σ H' => ∃ (y6 y7 y8 y9 : Option V), m = xs.length - j ∧ j ≤ xs.length ∧ σ = [some (.int (n : Int)), some (.ref b), some (.ref h0), some (.ref y0), some (nV (PD.lapTo B (i + 1) (PD.laps B i) j).last), some (.int (i : Int)), y6, y7, y8, y9, none, none] ∧ Old [] H H' ∧
          H' h0 = some (.lst (rowG n (hV (PD.lapTo B (i + 1) (PD.laps B i) j)))) ∧ H' y0 = some (.lst (rowG n (byV (PD.lapTo B (i + 1) (PD.laps B i) j)))), ⟨xs.length, y6, y7, y8, y9, rfl, Nat.zero_le _, rfl, o2, e2h, e2y⟩, ?_⟩
      rintro j m σ H3 ⟨y6, y7, y8, y9, rfl, hj, rfl, o3, e3h, e3y⟩
      have hxs3 : SqT K H3 b xs := (o3.tk NoTup.nil).seq hxs
      by_cases hjl : j < xs.length
      · -- a bound
        refine .inr ⟨⟨xs, xs[j], hxs3, List.getElem?_eq_getElem hjl⟩, fun σ' H' => ∃ (y6 y7 y8 y9 : Option V), σ' = [some (.int (n : Int)), some (.ref b), some (.ref h0), some (.ref y0), some (nV (PD.lapTo B (i + 1) (PD.laps B i) (j + 1)).last), some (.int (i : Int)), y6, y7, y8, y9, none, none] ∧ Old [] H H' ∧
            H' h0 = some (.lst (rowG n (hV (PD.lapTo B (i + 1) (PD.laps B i) (j + 1))))) ∧ H' y0 = some (.lst (rowG n (byV (PD.lapTo B (i + 1) (PD.laps B i) (j + 1))))),
          fun σ' H' ⟨y6, y7, y8, y9, e1, e2, e3, e4⟩ => ⟨_, by omega, y6, y7, y8, y9, rfl, hjl, e1, e2, e3, e4⟩, ?_⟩
        rintro v H4 ⟨t, y, rfl, nt, rfl, hy⟩
        have hy := hy xs hxs3
        have hjB : j < B.length := by omega
        obtain ⟨r, hr1, hr2⟩ := hget j _ (List.getElem?_eq_getElem hjB)
        rw [hr1] at hy
        cases hy
        have hm' : B[j] ∈ B := List.getElem_mem hjB
        have hxy := hB _ hm'
        have hBj := List.getElem?_eq_getElem hjB
        rw [PD.lapTo_step hBj]
        generalize PD.lapTo B (i + 1) (PD.laps B i) j = s at e3h e3y ⊢
        generalize B[j] = e at hr2 hxy hBj hm' ⊢
        obtain ⟨x, z, c⟩ := e
        have hx : x < n := hxy.1
        have hz : z < n := hxy.2
        have o4 : Old [] H (upd H3 t (.tup [.int (j : Int), .ref r])) := o3.new nt
        have nht : h0 ≠ t := ne_of_none e3h nt
        have nyt : y0 ≠ t := ne_of_none e3y nt
        refine ⟨t, _, rfl, SqT.of upd_same, rfl, .int (j : Int), _, rfl, .ref r, _, rfl, ⟨r, _, rfl, (o4.tk NoTup.nil).seq hr2, rfl, _, _, rfl, _, _, rfl, _, _, rfl, rfl, rfl, ?_⟩⟩
        have e4h : (upd H3 t (.tup [.int (j : Int), .ref r])) h0 = some (.lst (rowG n (hV s))) := by rw [upd_ne nht]; exact e3h
        have e4y : (upd H3 t (.tup [.int (j : Int), .ref r])) y0 = some (.lst (rowG n (byV s))) := by rw [upd_ne nyt]; exact e3y
        generalize upd H3 t (.tup [.int (j : Int), .ref r]) = H4 at o4 e4h e4y ⊢
        refine ⟨.ref h0, rfl, .int (z : Int), rfl, h0, _, _, _, rfl, rfl, SqL.of e4h, rowG_at hz, .int c, rfl, s.h z, c, rfl, rfl, .ref h0, rfl, .int (x : Int), rfl, h0, _, _, _, rfl, rfl, SqL.of e4h, rowG_at hx, _, s.h x, rfl, rfl, _, rfl, ite2 (fun cc => ?_) (fun cc => ?_)⟩
        · have cc : s.h z + c < s.h x := of_decide_eq_true cc
          refine ⟨.ref h0, rfl, .int (z : Int), rfl, h0, _, _, _, rfl, rfl, SqL.of e4h, rowG_at hz, .int c, rfl, s.h z, c, rfl, rfl, .int (j : Int), rfl, .int (x : Int), rfl, (by show 3 ≤ sizeLine; decide), fun t2 nt2 => ?_⟩
          have nht2 : h0 ≠ t2 := ne_of_none e4h nt2
          have nyt2 : y0 ≠ t2 := ne_of_none e4y nt2
          refine ⟨t2, _, rfl, SqT.of upd_same, rfl, _, _, rfl, ?_⟩
          refine ⟨.ref h0, rfl, .int (x : Int), rfl, h0, _, _, x, rfl, rfl, by rw [upd_ne nht2]; exact e4h, rowG_ix hx, ?_⟩
          refine ⟨_, _, rfl, .ref y0, rfl, .int (x : Int), rfl, y0, _, _, x, rfl, rfl, by rw [upd_ne nhy.symm, upd_ne nyt2]; exact e4y, rowG_ix hx, ?_⟩
          refine ⟨_, _, rfl, rfl, ?_⟩
          have es : PD.rbStep (i + 1) (x, z, c) j s = ⟨PD.set1 s.h x (s.h z + c), PD.set1 s.by_ x (some j), some x, PD.set1 s.t x (i + 1), PD.set1 s.hist x ((x, s.h z + c) :: s.hist z)⟩ := by
            unfold PD.rbStep
            rw [if_pos (show s.h (x, z, c).2.1 + (x, z, c).2.2 < s.h (x, z, c).1 from cc)]
          rw [es]
          refine ⟨some (.int (j : Int)), some (.int (x : Int)), some (.int (z : Int)), some (.int c), rfl, ((o4.new nt2).put0 hh1).put0 hy1, ?_, ?_⟩
          · rw [upd_ne nhy, upd_same, rowG_set hx]
            have := set1_comp s.h V.int x (s.h z + c)
            rw [show hV s = fun z => V.int (s.h z) from rfl, this]; rfl
          · rw [upd_same, rowG_set hx]
            have := set1_comp s.by_ nV x (some j)
            rw [show byV s = fun z => nV (s.by_ z) from rfl, show V.int (j : Int) = nV (some j) from rfl, this]; rfl
        · have cc : ¬ s.h z + c < s.h x := fun q => cc (decide_eq_true q)
          have es : PD.rbStep (i + 1) (x, z, c) j s = s := by
            unfold PD.rbStep
            rw [if_neg (show ¬ s.h (x, z, c).2.1 + (x, z, c).2.2 < s.h (x, z, c).1 from cc)]
          rw [es]
          exact ⟨some (.int (j : Int)), some (.int (x : Int)), some (.int (z : Int)), some (.int c), rfl, o4, e4h, e4y⟩
      · -- the lap's end
        have ej : j = xs.length := by omega
        subst ej
        refine .inl ⟨⟨xs, hxs3, rfl⟩, ?_⟩
        have el : PD.lapTo B (i + 1) (PD.laps B i) xs.length = PD.laps B (i + 1) := by rw [hlen]; rfl
        rw [el] at e3h e3y ⊢
        cases hlast : (PD.laps B (i + 1)).last with
        | none =>
          refine ⟨.non, rfl, rfl, _, rfl, iteT ?_⟩
          exact q1 (PD.feas_of_none hlast) H3 o3
        | some x =>
          refine ⟨.int (x : Int), rfl, rfl, _, rfl, iteF ?_⟩
          exact ⟨some (.int (i : Int)), y6, y7, y8, y9, rfl, o3, e3h, e3y, fun _ z => nomatch z⟩
    · rintro σ H2 ⟨y5, y6, y7, y8, y9, rfl, o2, e2h, e2y, hl⟩
      rw [en] at e2h e2y hl ⊢
      obtain ⟨x, hx⟩ : ∃ x, (PD.laps B n).last = some x := by
        cases e : (PD.laps B n).last with
        | none => exact absurd e (hl hn1)
        | some x => exact ⟨x, rfl⟩
      have nf : ¬ PD.Feas B := fun f => by
        have := PD.laps_none hB f
        rw [hx] at this; cases this
      obtain ⟨hby, d, d1, d2, hd⟩ := PD.back hB hx
      rw [hx]
      generalize PD.laps B n = s at e2h e2y hby hd ⊢
      have hxs2 : SqT K H2 b xs := (o2.tk NoTup.nil).seq hxs
      -- one step back
      have stepB : ∀ k, ∃ j b', s.by_ (PD.iter (PD.nxt B s) k x) = some j ∧ B[j]? = some b' ∧ b'.1 = PD.iter (PD.nxt B s) k x ∧ b'.1 < n ∧ b'.2.1 = PD.iter (PD.nxt B s) (k + 1) x := fun k => by
        obtain ⟨j, b', h1, h2, h3, h4, h5⟩ := hby k
        exact ⟨j, b', h1, h2, h3, (hB _ (List.mem_of_getElem? h2)).1, h5.symm⟩
      refine ⟨.int (n : Int), rfl, (n : Int), rfl, by omega, by omega, for_range (lo := 0) (n := ((n : Int)).toNat) (fun i σ H' => ∃ (y5 : Option V), σ = [some (.int (n : Int)), some (.ref b), some (.ref h0), some (.ref y0), some (.int ((PD.iter (PD.nxt B s) i x : Nat) : Int)), y5, y6, y7, y8, y9, none, none] ∧ H' = H2)
        ⟨y5, rfl, rfl⟩ ?_ ?_⟩
      · rintro i σ H3 hi ⟨y5, rfl, rfl⟩
        obtain ⟨j, b', s1, s2, s3, s4, s5⟩ := stepB i
        obtain ⟨r, hr1, hr2⟩ := hget j b' s2
        have hlt : PD.iter (PD.nxt B s) i x < n := by rw [← s3]; exact s4
        refine ⟨.ref b, rfl, .ref y0, rfl, .int ((PD.iter (PD.nxt B s) i x : Nat) : Int), rfl, y0, _, _, .int (j : Int), rfl, rfl, SqL.of e2y, by rw [rowG_at hlt]; unfold byV; rw [s1]; rfl, b, xs, (j : Int), .ref r, rfl, rfl, hxs2, atI_nat hr1, r, _, 1, .int (b'.2.1 : Int), rfl, rfl, (o2.tk NoTup.nil).seq hr2, rfl, ?_⟩
        rw [s5]
        exact ⟨some (.int (0 + (i : Int))), rfl, rfl⟩
      · rintro σ H3 ⟨y5, rfl, rfl⟩
        rw [en]
        refine ⟨Nat.zero_le _, fun fd nfd => ⟨.int ((PD.iter (PD.nxt B s) n x : Nat) : Int), rfl, _, _, rfl, ?_⟩⟩
        have nyf : y0 ≠ fd := ne_of_none e2y nfd
        have nfd0 : H fd = none := o2.free nfd (by simp)
        refine ⟨fun m σ H' => ∃ (k : Nat) (ids : List Int), m = d - k ∧ k ≤ d ∧ ids.length = k ∧ σ = [some (.int (n : Int)), some (.ref b), some (.ref h0), some (.ref y0), some (.int ((PD.iter (PD.nxt B s) n x : Nat) : Int)), y5, y6, y7, y8, y9, some (.ref fd), some (.int ((PD.iter (PD.nxt B s) (n + k) x : Nat) : Int))] ∧ Old [] H H' ∧
            H' y0 = some (.lst (rowG n (byV s))) ∧ H' fd = some (.lst (ids.map V.int)),
          ⟨d, 0, [], rfl, Nat.zero_le _, rfl, rfl, o2.new nfd, by rw [upd_ne nyf]; exact e2y, upd_same⟩, ?_⟩
        rintro m σ H4 ⟨k, ids, rfl, hk, hids, rfl, o4, e4y, e4f⟩
        have hxs4 : SqT K H4 b xs := (o4.tk NoTup.nil).seq hxs
        -- one more
        have go : ∀ H5, Old [] H H5 → H5 y0 = some (.lst (rowG n (byV s))) → H5 fd = some (.lst (ids.map V.int)) → k < d → ∃ N : L2.St → Hp → Prop, (∀ σ' H', N σ' H' → ∃ m', m' < d - k ∧ ∃ (k : Nat) (ids : List Int), m' = d - k ∧ k ≤ d ∧ ids.length = k ∧ σ' = [some (.int (n : Int)), some (.ref b), some (.ref h0), some (.ref y0), some (.int ((PD.iter (PD.nxt B s) n x : Nat) : Int)), y5, y6, y7, y8, y9, some (.ref fd), some (.int ((PD.iter (PD.nxt B s) (n + k) x : Nat) : Int))] ∧ Old [] H H' ∧
            H' y0 = some (.lst (rowG n (byV s))) ∧ H' fd = some (.lst (ids.map V.int))) ∧ ∀ j : Nat, s.by_ (PD.iter (PD.nxt B s) (n + k) x) = some j → N [some (.int (n : Int)), some (.ref b), some (.ref h0), some (.ref y0), some (.int ((PD.iter (PD.nxt B s) n x : Nat) : Int)), y5, y6, y7, y8, y9, some (.ref fd), some (.int ((PD.iter (PD.nxt B s) (n + k + 1) x : Nat) : Int))] (upd H5 fd (.lst (ids.map V.int ++ [.int (j : Int)]))) := fun H5 o5 e5y e5f hkd => by
          refine ⟨fun σ' H' => ∃ (ids : List Int), ids.length = k + 1 ∧ σ' = [some (.int (n : Int)), some (.ref b), some (.ref h0), some (.ref y0), some (.int ((PD.iter (PD.nxt B s) n x : Nat) : Int)), y5, y6, y7, y8, y9, some (.ref fd), some (.int ((PD.iter (PD.nxt B s) (n + (k + 1)) x : Nat) : Int))] ∧ Old [] H H' ∧
            H' y0 = some (.lst (rowG n (byV s))) ∧ H' fd = some (.lst (ids.map V.int)), fun σ' H' ⟨ids, a1, a2, a3, a4, a5⟩ => ⟨d - (k + 1), by omega, k + 1, ids, rfl, hkd, a1, a2, a3, a4, a5⟩, fun j hj => ?_⟩
          refine ⟨ids ++ [(j : Int)], by rw [List.length_append, hids]; rfl, rfl, o5.put0 nfd0, by rw [upd_ne nyf]; exact e5y, ?_⟩
          rw [upd_same, List.map_append]; rfl
        by_cases hstop : 1 ≤ k ∧ PD.iter (PD.nxt B s) (n + k) x = PD.iter (PD.nxt B s) n x
        · -- round
          refine ⟨.int ((PD.iter (PD.nxt B s) (n + k) x : Nat) : Int), rfl, .int ((PD.iter (PD.nxt B s) n x : Nat) : Int), rfl, rfl, _, rfl, ?_⟩
          rw [hstop.2]
          refine iteNS rfl ?_
          refine ⟨.ref fd, rfl, Nat.zero_le _, fun p np => ?_⟩
          have nfp : fd ≠ p := ne_of_none e4f np
          refine ⟨.list (ids.map PyData.int), .list [], .lst (SqL.of (by rw [upd_ne nfp]; exact e4f)) (PL.Dp.ofInts ids), .lst (SqL.of upd_same) .nil, shaped_ints ids, shaped_nil, _, rfl, ?_⟩
          rw [eqv_nil, show ids.isEmpty = false by cases ids with | nil => simp at hids; omega | cons a r => rfl]
          refine iteF ?_
          -- return tuple(found)
          refine ⟨.ref fd, rfl, fd, ids.map V.int, rfl, .inl ⟨SqL.of (by rw [upd_ne nfp]; exact e4f), fun t nt => ?_⟩⟩
          exact q2 nf _ t ids ((o4.new np).new nt) upd_same
        · have hkd : k < d := by
            apply Nat.lt_of_le_of_ne hk
            intro e
            subst e
            refine hstop ⟨d1, ?_⟩
            rw [show n + k = k + n by omega, PD.iter_add]
            exact hd
          obtain ⟨j, b', s1, s2, s3, s4, s5⟩ := stepB (n + k)
          obtain ⟨r, hr1, hr2⟩ := hget j b' s2
          have hlt : PD.iter (PD.nxt B s) (n + k) x < n := by rw [← s3]; exact s4
          refine ⟨.int ((PD.iter (PD.nxt B s) (n + k) x : Nat) : Int), rfl, .int ((PD.iter (PD.nxt B s) n x : Nat) : Int), rfl, rfl, _, rfl, ?_⟩
          have hap : (ids.map V.int).length < sizeLine := by
            rw [List.length_map, hids]
            exact Nat.lt_of_lt_of_le (Nat.lt_of_lt_of_le hkd (Nat.le_trans d2 hn2)) (by decide)
          by_cases hne : PD.iter (PD.nxt B s) (n + k) x = PD.iter (PD.nxt B s) n x
          · rw [hne]
            refine iteNS rfl ?_
            have hk0 : k = 0 := by
              apply Classical.byContradiction
              intro h
              exact hstop ⟨by omega, hne⟩
            refine ⟨.ref fd, rfl, Nat.zero_le _, fun p np => ?_⟩
            have nfp : fd ≠ p := ne_of_none e4f np
            have nyp : y0 ≠ p := ne_of_none e4y np
            refine ⟨.list (ids.map PyData.int), .list [], .lst (SqL.of (by rw [upd_ne nfp]; exact e4f)) (PL.Dp.ofInts ids), .lst (SqL.of upd_same) .nil, shaped_ints ids, shaped_nil, _, rfl, ?_⟩
            rw [eqv_nil, show ids.isEmpty = true by cases ids with | nil => rfl | cons a r => simp at hids; omega]
            refine iteT ?_
            obtain ⟨N, hN1, hN2⟩ := go (upd H4 p (.lst [])) (o4.new np) (by rw [upd_ne nyp]; exact e4y) (by rw [upd_ne nfp]; exact e4f) hkd
            refine ⟨N, hN1, ?_⟩
            rw [← hne]
            refine ⟨.ref fd, rfl, .inl ⟨rfl, _, SqL.of (by rw [upd_ne nfp]; exact e4f)⟩, .ref y0, rfl, .int ((PD.iter (PD.nxt B s) (n + k) x : Nat) : Int), rfl, y0, _, _, .int (j : Int), rfl, rfl, SqL.of (by rw [upd_ne nyp]; exact e4y), by rw [rowG_at hlt]; unfold byV; rw [s1]; rfl, fd, _, _, rfl, rfl, by rw [upd_ne nfp]; exact e4f, hap, ?_⟩
            have oz : Old [] H (upd (upd H4 p (.lst [])) fd (.lst (ids.map V.int ++ [.int (j : Int)]))) := (o4.new np).put0 nfd0
            refine ⟨.ref b, rfl, .ref y0, rfl, .int ((PD.iter (PD.nxt B s) (n + k) x : Nat) : Int), rfl, y0, _, _, .int (j : Int), rfl, rfl, SqL.of (by rw [upd_ne nyf, upd_ne nyp]; exact e4y), by rw [rowG_at hlt]; unfold byV; rw [s1]; rfl, b, xs, (j : Int), .ref r, rfl, rfl, (oz.tk NoTup.nil).seq hxs, atI_nat hr1, r, _, 1, .int (b'.2.1 : Int), rfl, rfl, (oz.tk NoTup.nil).seq hr2, rfl, ?_⟩
            rw [s5]
            have e := hN2 j s1
            rw [← hne] at e
            exact e
          · rw [show (!decide (V.int ((PD.iter (PD.nxt B s) (n + k) x : Nat) : Int) = V.int ((PD.iter (PD.nxt B s) n x : Nat) : Int))) = true by
              rw [decide_eq_false (fun z => hne (by injection z; omega))]; rfl]
            refine iteT ?_
            obtain ⟨N, hN1, hN2⟩ := go H4 o4 e4y e4f hkd
            refine ⟨N, hN1, ?_⟩
            refine ⟨.ref fd, rfl, .inl ⟨rfl, _, SqL.of e4f⟩, .ref y0, rfl, .int ((PD.iter (PD.nxt B s) (n + k) x : Nat) : Int), rfl, y0, _, _, .int (j : Int), rfl, rfl, SqL.of e4y, by rw [rowG_at hlt]; unfold byV; rw [s1]; rfl, fd, _, _, rfl, rfl, e4f, hap, ?_⟩
            have oz : Old [] H (upd H4 fd (.lst (ids.map V.int ++ [.int (j : Int)]))) := o4.put0 nfd0
            refine ⟨.ref b, rfl, .ref y0, rfl, .int ((PD.iter (PD.nxt B s) (n + k) x : Nat) : Int), rfl, y0, _, _, .int (j : Int), rfl, rfl, SqL.of (by rw [upd_ne nyf]; exact e4y), by rw [rowG_at hlt]; unfold byV; rw [s1]; rfl, b, xs, (j : Int), .ref r, rfl, rfl, (oz.tk NoTup.nil).seq hxs, atI_nat hr1, r, _, 1, .int (b'.2.1 : Int), rfl, rfl, (oz.tk NoTup.nil).seq hr2, rfl, ?_⟩
            rw [s5]
            exact hN2 j s1
end
end L2.T34

namespace L2.T34
open PySem PySem.Spec PyProof.Rows L2.PL
def spHeights (K : PySem.W.Frag) : Sp := fun vs H Q _ => ∃ (v : V) (n : Nat) (B : List PD.Bd), vs = [.int (n : Int), v] ∧ Dp K H v (bdsD B) ∧ SysOk n B ∧ PD.Feas B ∧
  ∀ H' t (g : Nat → Int), PD.Vals B g → g 0 = 0 → Old [] H H' → H' t = some (.tup (rowG n fun x => V.int (g x))) → Q (.ref t) H'
/-- what solve tells: values, or a ring -/
def SolveEnd (H : Hp) (Q : VK) (n : Nat) (B : List PD.Bd) : Prop :=
  (PD.Feas B → ∀ H' t u (g : Nat → Int), PD.Vals B g → g 0 = 0 → Old [] H H' → H' u = some (.tup (rowG n fun x => V.int (g x))) → H' t = some (.tup [.str "values", .ref u]) → Q (.ref t) H') ∧
  (¬ PD.Feas B → ∀ H' t u, Old [] H H' → H' t = some (.tup [.str "round", .ref u]) → Q (.ref t) H')
def spSolved (K : PySem.W.Frag) : Sp := fun vs H Q _ => ∃ (v : V) (n : Nat) (B : List PD.Bd), vs = [.int (n : Int), v] ∧ Dp K H v (bdsD B) ∧ SysOk n B ∧ SolveEnd H Q n B
def spSolve (K : PySem.W.Frag) : Sp := fun vs H Q _ => ∃ (v : V) (n : Nat) (B : List PD.Bd), vs = [v] ∧ Dp K H v (sysD n B) ∧ SysOk n B ∧ SolveEnd H Q n B
section
variable {P : Program} {w : World} {K : PySem.W.Frag} {mg : Str → Option Value} {base : Heap}
/-! heights_of: slots many=0 bounds=1 heights=2 is_moved=3 x=4 y=5 c=6 height=7; cells ['heights'] -/
abbrev s_heights_of : Stmt := topS 18
abbrev N_heights_of : List Str := ["many", "bounds", "heights", "is_moved", "x", "y", "c", "height"]
theorem sc_heights_of : FnScope N_heights_of ["many", "bounds"] (defScope s_heights_of) := ⟨rfl, rfl, rfl, by decide +kernel, rfl, by decide +kernel, by decide +kernel⟩
theorem ok_heights {f : Addr} {fd : FuncData} (F : Fun K "heights_of" "heights_of" s_heights_of f fd) (T : Tx mg) : FnOk P w K mg base CX0 1 f fd ["many", "bounds"] (spHeights K) := by
  refine F.ok sc_heights_of (fun vs H Q E h => ?_) (fun cdv A outer s H vs Q E hr h => ?_)
  · obtain ⟨v, n, B, rfl, _⟩ := h
    rfl
  · obtain ⟨v, n, B, rfl, hb, ok, ⟨vv, hvv⟩, q⟩ := h
    obtain ⟨b, xs, rfl, hxs, hlen, hget⟩ := bds_at hb
    have hn1 := ok.n1
    have hn2 := ok.n2
    have hB := ok.ix
    have en : ((n : Int)).toNat = n := by omega
    refine ⟨_, (pss_cons (ps_set (i := 2) sc_heights_of.nd rfl (.inr rfl) (pe_op op_rep (pe_lst (pa_cons pe_int pa_nil)) (pv 0)))
      (pss_cons (ps_set (i := 3) sc_heights_of.nd rfl (.inl rfl) pe_bl)
      (pss_cons (ps_while PassesOwn.never (pt_val (pv 3))
       (pss_cons (ps_set (i := 3) sc_heights_of.nd rfl (.inl rfl) pe_bl)
        (pss_one (ps_for PassesOwn.never rfl (pi_tup (pv 1)) (pg_tup (by rfl) (pgs_cons (pg_name (i := 4) sc_heights_of.nd rfl (Or.inl rfl)) (pgs_cons (pg_name (i := 5) sc_heights_of.nd rfl (Or.inl rfl)) (pgs_cons (pg_name (i := 6) sc_heights_of.nd rfl (Or.inl rfl)) pgs_nil))))
         (pss_one (ps_if (pt_cmpR op_lt (pe_op op_add (pe_ix ix_list (pv 2) (pv 5) (fun _ _ => rfl)) (pv 6)) (pe_ix ix_list (pv 2) (pv 4) (fun _ _ => rfl)) (nomark _))
           (pss_one (ps_asg (pe_tup (pa_cons (pe_op op_add (pe_ix ix_list (pv 2) (pv 5) (fun _ _ => rfl)) (pv 6)) (pa_cons pe_bl pa_nil))) (pg_tup (by rfl) (pgs_cons (pg_sub (pv 2) (pv 4) set_list) (pgs_cons (pg_name (i := 3) sc_heights_of.nd rfl (Or.inl rfl)) pgs_nil)))))
           pss_nil))))))
      (pss_one (ps_ret (pe_callTy call_tuple_of (by rfl) T.z_tuple bz_tuple (pa_cons (pe_lc (own := [("height", 7)]) (g := gName 7) (tt := tYes) rfl sc_heights_of.nd (pi_list (pv 2)) (blkOk_by (N := N_heights_of) (sc := defScope s_heights_of) (by decide +kernel)) (fun _ _ _ _ _ => (pg_name (i := 7) sc_heights_of.nd rfl (Or.inl rfl))) (fun _ _ _ _ _ => pts_nil) (fun _ _ _ _ _ => (pe_op op_sub (pv 7) (pe_ix (ix_listK (K := K)) (pv 2) pe_int (fun _ _ => rfl))))) pa_nil))))))), ?_⟩
    refine ⟨Nat.le_trans (by decide : 1 ≤ 2) (by decide), fun p1 hp1 => ⟨.int (n : Int), rfl, p1, (n : Int), _, rfl, rfl, upd_same, by omega, by omega, ?_, fun h0 hh0 => ?_⟩⟩
    · show 1 * ((n : Int)).toNat ≤ sizeLine
      rw [en, Nat.one_mul]
      exact Nat.le_trans hn2 (by decide)
    simp only [en, rowG_const]
    have oA : Old [] H (upd H p1 (.lst [.int 0])) := Old.new0 hp1
    have oB := oA.new (o := .lst (rowG n fun _ => V.int 0)) hh0
    have hh1 := oA.free hh0 (by simp)
    have eh : (upd (upd H p1 (.lst [.int 0])) h0 (.lst (rowG n fun _ => V.int 0))) h0 = some (.lst (rowG n fun _ => V.int 0)) := upd_same
    generalize upd (upd H p1 (.lst [.int 0])) h0 (.lst (rowG n fun _ => V.int 0)) = H1 at oB eh ⊢
    clear oA hp1 hh0
    obtain ⟨sh, hsh⟩ := PD.shift vv n
    refine ⟨fun m σ H' => ∃ (g : Nat → Int) (mv : Bool) (y4 y5 y6 : Option V), m = 2 * (PD.sumTo g n - PD.sumTo (fun x => vv x + sh) n).toNat + (if mv then 1 else 0) ∧ σ = [some (.int (n : Int)), some (.ref b), some (.ref h0), some (.bl mv), y4, y5, y6, none] ∧ Old [] H H' ∧ H' h0 = some (.lst (rowG n fun x => V.int (g x))) ∧ PD.Ab n vv g sh ∧ (mv = false → PD.Vals B g),
      ⟨_, fun _ => 0, true, none, none, none, rfl, rfl, oB, eh, ⟨fun x hx => hsh x hx⟩, fun z => (by cases z)⟩, ?_⟩
    rintro m σ H2 ⟨g, mv, y4, y5, y6, rfl, rfl, o2, e2, ab, hv⟩
    refine ⟨.bl mv, rfl, mv, rfl, ?_⟩
    cases mv with
    | true =>
      refine iteT ?_
      refine ⟨fun σ' H' => ∃ (g' : Nat → Int) (mv : Bool) (y4 y5 y6 : Option V), σ' = [some (.int (n : Int)), some (.ref b), some (.ref h0), some (.bl mv), y4, y5, y6, none] ∧ Old [] H H' ∧ H' h0 = some (.lst (rowG n fun x => V.int (g' x))) ∧ PD.Ab n vv g' sh ∧ (mv = true → PD.sumTo g' n < PD.sumTo g n) ∧ (mv = false → g' = g ∧ PD.Vals B g'), ?_, ?_⟩
      · rintro σ' H' ⟨g', mv, y4, y5, y6, rfl, o', e', ab', h1, h2⟩
        have l1 : PD.sumTo (fun x => vv x + sh) n ≤ PD.sumTo g' n := PD.sumTo_le n fun x hx => ab'.ab x hx
        refine ⟨_, ?_, g', mv, y4, y5, y6, rfl, rfl, o', e', ab', fun z => (h2 z).2⟩
        cases mv with
        | true =>
          have := h1 rfl
          show 2 * (PD.sumTo g' n - PD.sumTo (fun x => vv x + sh) n).toNat + 1 < 2 * (PD.sumTo g n - PD.sumTo (fun x => vv x + sh) n).toNat + 1
          omega
        | false =>
          rw [(h2 rfl).1]
          show 2 * (PD.sumTo g n - PD.sumTo (fun x => vv x + sh) n).toNat + 0 < 2 * (PD.sumTo g n - PD.sumTo (fun x => vv x + sh) n).toNat + 1
          omega
      · -- a turn
        refine ⟨.ref b, rfl, b, rfl, ⟨_, (o2.tk NoTup.nil).seq hxs⟩, for_tup (K := K) (a := b) (xs := xs) (fun i σ H' => ∃ (y4 y5 y6 : Option V), σ = [some (.int (n : Int)), some (.ref b), some (.ref h0), some (.bl (PD.mvTo B g i).2), y4, y5, y6, none] ∧ Old [] H H' ∧ H' h0 = some (.lst (rowG n fun x => V.int ((PD.mvTo B g i).1 x))))
          ⟨y4, y5, y6, rfl, o2, e2⟩ (fun i σ H' _ ⟨_, _, _, _, o, _⟩ => (o.tk NoTup.nil).seq hxs) ?_ ?_⟩
        · rintro i y σ H3 hy ⟨y4, y5, y6, rfl, o3, e3⟩
          have hi : i < B.length := by rw [← hlen]; exact (List.getElem?_eq_some_iff.mp hy).1
          obtain ⟨r, hr1, hr2⟩ := hget i _ (List.getElem?_eq_getElem hi)
          rw [hy] at hr1
          cases hr1
          have hm' : B[i] ∈ B := List.getElem_mem hi
          have hxy := hB _ hm'
          have hBi := List.getElem?_eq_getElem hi
          rw [PD.mvTo_step hBi]
          generalize PD.mvTo B g i = s at e3 ⊢
          generalize B[i] = e at hr2 hxy hBi hm' ⊢
          obtain ⟨x, z, c⟩ := e
          have hx : x < n := hxy.1
          have hz : z < n := hxy.2
          refine ⟨r, _, rfl, (o3.tk NoTup.nil).seq hr2, rfl, _, _, rfl, _, _, rfl, _, _, rfl, rfl, ?_⟩
          refine ⟨.ref h0, rfl, .int (z : Int), rfl, h0, _, _, _, rfl, rfl, SqL.of e3, rowG_at hz, .int c, rfl, s.1 z, c, rfl, rfl, .ref h0, rfl, .int (x : Int), rfl, h0, _, _, _, rfl, rfl, SqL.of e3, rowG_at hx, _, s.1 x, rfl, rfl, _, rfl, ite2 (fun cc => ?_) (fun cc => ?_)⟩
          · have cc : s.1 z + c < s.1 x := of_decide_eq_true cc
            refine ⟨.ref h0, rfl, .int (z : Int), rfl, h0, _, _, _, rfl, rfl, SqL.of e3, rowG_at hz, .int c, rfl, s.1 z, c, rfl, rfl, (by show 2 ≤ sizeLine; decide), fun t2 nt2 => ?_⟩
            have nht2 : h0 ≠ t2 := ne_of_none e3 nt2
            refine ⟨t2, _, rfl, SqT.of upd_same, rfl, _, _, rfl, ?_⟩
            refine ⟨.ref h0, rfl, .int (x : Int), rfl, h0, _, _, x, rfl, rfl, by rw [upd_ne nht2]; exact e3, rowG_ix hx, ?_⟩
            refine ⟨_, _, rfl, rfl, ?_⟩
            have es : PD.mvStep (x, z, c) s = (PD.set1 s.1 x (s.1 z + c), true) := by
              unfold PD.mvStep
              rw [if_pos (show s.1 (x, z, c).2.1 + (x, z, c).2.2 < s.1 (x, z, c).1 from cc)]
            rw [es]
            refine ⟨some (.int (x : Int)), some (.int (z : Int)), some (.int c), rfl, (o3.new nt2).put0 hh1, ?_⟩
            rw [upd_same, rowG_set hx, set1_comp s.1 V.int x (s.1 z + c)]
          · have cc : ¬ s.1 z + c < s.1 x := fun q => cc (decide_eq_true q)
            have es : PD.mvStep (x, z, c) s = s := by
              unfold PD.mvStep
              rw [if_neg (show ¬ s.1 (x, z, c).2.1 + (x, z, c).2.2 < s.1 (x, z, c).1 from cc)]
            rw [es]
            exact ⟨some (.int (x : Int)), some (.int (z : Int)), some (.int c), rfl, o3, e3⟩
        · rintro σ H3 ⟨y4, y5, y6, rfl, o3, e3⟩
          obtain ⟨h1, h2, h3, h4⟩ := PD.mvTo_ok hB hvv ab xs.length
          refine ⟨_, _, y4, y5, y6, rfl, o3, e3, h1, fun z => PD.sumTo_lt n h2 (h3 z), fun z => ⟨(h4 z).1, ?_⟩⟩
          rw [(h4 z).1]
          intro b' hb'
          obtain ⟨j, hj, e⟩ := List.mem_iff_getElem.mp hb'
          have := (h4 z).2 j b' (by omega) (by rw [List.getElem?_eq_getElem hj, e])
          omega
    | false =>
      refine iteF ?_
      refine ⟨.ref h0, rfl, h0, rfl, ⟨_, SqL.of e2⟩, fun D hD => ?_⟩
      have nhD : h0 ≠ D := ne_of_none e2 hD
      refine lc_list (K := K) (a := h0) (xs := rowG n fun x => V.int (g x)) (fun i H' => Old [] H2 H' ∧ H' D = some (.lst (rowG i fun x => V.int (g x - g 0)))) ⟨Old.new0 hD, upd_same⟩ (fun i H' _ h => SqL.of (h.1 _ _ (by simp) e2)) ?_ ?_
      · rintro i y H3 hy ⟨o3, hD3⟩
        have hi : i < n := by have := (List.getElem?_eq_some_iff.mp hy).1; rw [rowG_len] at this; exact this
        rw [rowG_get hi] at hy
        cases hy
        refine ⟨rfl, .int (g i), rfl, .ref h0, rfl, h0, _, _, .int (g 0), rfl, rfl, SqL.of (o3 _ _ (by simp) e2), rowG_at (j := 0) (by omega), g i, g 0, rfl, rfl, _, hD3, ?_, o3.put0 hD, ?_⟩
        · rw [rowG_len]; exact Nat.lt_of_lt_of_le (Nat.lt_of_lt_of_le hi hn2) (by decide)
        · rw [upd_same]
          unfold rowG
          rw [List.range_succ, List.map_append]; rfl
      · rintro H3 ⟨o3, hD3⟩
        rw [rowG_len] at hD3
        refine ⟨D, _, rfl, .inl ⟨SqL.of hD3, fun t nt => ?_⟩⟩
        refine q _ t (fun x => g x - g 0) (fun b' hb' => ?_) (by omega) ((o2.trans o3).new nt) upd_same
        have := hv rfl b' hb'
        show g b'.1 - g 0 - (g b'.2.1 - g 0) ≤ b'.2.2
        omega
/-! solved: slots many=0 bounds=1 ring=2; cells [] -/
abbrev s_solved : Stmt := topS 19
abbrev N_solved : List Str := ["many", "bounds", "ring"]
theorem sc_solved : FnScope N_solved ["many", "bounds"] (defScope s_solved) := ⟨rfl, rfl, rfl, by decide +kernel, rfl, by decide +kernel, by decide +kernel⟩
theorem ok_solved {f : Addr} {fd : FuncData} (F : Fun K "solved" "solved" s_solved f fd) (T : Tx mg) (C_ring_below : Cal P w K mg base CX0 "ring_below" ["many", "bounds"] 1 (spRing K)) (C_heights_of : Cal P w K mg base CX0 "heights_of" ["many", "bounds"] 1 (spHeights K)) : FnOk P w K mg base CX0 2 f fd ["many", "bounds"] (spSolved K) := by
  refine F.ok sc_solved (fun vs H Q E h => ?_) (fun cdv A outer s H vs Q E hr h => ?_)
  · obtain ⟨v, n, B, rfl, _⟩ := h
    rfl
  · obtain ⟨v, n, B, rfl, hb, ok, q1, q2⟩ := h
    refine ⟨_, (pss_cons (ps_set (i := 2) sc_solved.nd rfl (.inl rfl) (pe_cal C_ring_below hr (by rfl) pass0 (pa_cons (pv 0) (pa_cons (pv 1) pa_nil))))
      (pss_cons (ps_if (pt_cmpR op_notN (pv 2) pe_non (nomark _))
       (pss_one (ps_ret (pe_tup (pa_cons (pe_gS (by rfl) T.g_ROUND) (pa_cons (pv 2) pa_nil)))))
       pss_nil)
      (pss_one (ps_ret (pe_tup (pa_cons (pe_gS (by rfl) T.g_VALUES) (pa_cons (pe_cal C_heights_of hr (by rfl) pass0 (pa_cons (pv 0) (pa_cons (pv 1) pa_nil))) pa_nil))))))), ?_⟩
    refine ⟨.int (n : Int), rfl, v, rfl, v, n, B, rfl, hb, ok, fun f H1 o1 => ?_, fun nf H1 t ids o1 ht => ?_⟩
    · refine ⟨.non, rfl, rfl, _, rfl, iteF ?_⟩
      have hb1 : Dp K H1 v (bdsD B) := PL.Dp.keep (o1.tk NoTup.nil) _ _ (bdsD_only B) hb
      refine ⟨.int (n : Int), rfl, v, rfl, v, n, B, rfl, hb1, ok, f, fun H2 u g hg g0 o2 hu => ⟨(by show 2 ≤ sizeLine; decide), fun t nt => ?_⟩⟩
      refine q1 f _ t u g hg g0 ((o1.trans o2).new nt) ?_ upd_same
      rw [upd_ne (ne_of_none hu nt)]; exact hu
    · refine ⟨.ref t, rfl, rfl, _, rfl, iteT ?_⟩
      refine ⟨.ref t, rfl, (by show 2 ≤ sizeLine; decide), fun u nu => ?_⟩
      exact q2 nf _ u t (o1.new nu) upd_same
/-! solve: slots system=0; cells [] -/
abbrev s_solve : Stmt := topS 20
abbrev N_solve : List Str := ["system"]
theorem sc_solve : FnScope N_solve ["system"] (defScope s_solve) := ⟨rfl, rfl, rfl, by decide +kernel, rfl, by decide +kernel, by decide +kernel⟩
theorem ok_solve {f : Addr} {fd : FuncData} (F : Fun K "solve" "solve" s_solve f fd) (C_look_at_system : Cal P w K mg base CX0 "look_at_system" ["system"] 4 (spLook K)) (C_solved : Cal P w K mg base CX0 "solved" ["many", "bounds"] 2 (spSolved K)) : FnOk P w K mg base CX0 5 f fd ["system"] (spSolve K) := by
  refine F.ok sc_solve (fun vs H Q E h => ?_) (fun cdv A outer s H vs Q E hr h => ?_)
  · obtain ⟨v, n, B, rfl, _⟩ := h
    rfl
  · obtain ⟨v, n, B, rfl, hd, ok, q1, q2⟩ := h
    refine ⟨_, (pss_cons (ps_expr (pe_cal C_look_at_system hr (by rfl) pass0 (pa_cons (pv 0) pa_nil)))
      (pss_one (ps_ret (pe_cal C_solved hr (by rfl) pass0 (pa_cons (pe_ix ix_tup (pv 0) pe_int (fun _ _ => rfl)) (pa_cons (pe_ix ix_tup (pv 0) pe_int (fun _ _ => rfl)) pa_nil)))))), ?_⟩
    refine ⟨v, rfl, v, n, B, rfl, hd, ok, fun H1 o1 => ?_⟩
    have hd1 : Dp K H1 v (sysD n B) := PL.Dp.keep (o1.tk NoTup.nil) _ _ (sysD_only n B) hd
    obtain ⟨a, b, rfl, ha, hb⟩ := sys_at hd1
    refine ⟨.ref a, rfl, a, _, 0, .int (n : Int), rfl, rfl, ha, rfl, .ref a, rfl, a, _, 1, .ref b, rfl, rfl, ha, rfl, .ref b, n, B, rfl, hb, ok, ?_, ?_⟩
    · exact fun f H2 t u g hg g0 o2 hu ht => q1 f H2 t u g hg g0 (o1.trans o2) hu ht
    · exact fun nf H2 t u o2 ht => q2 nf H2 t u (o1.trans o2) ht
end
end L2.T34

namespace L2.T34
open PySem PySem.Spec PyProof.Rows L2.PL
/-! ### matrices as lists of lists -/
def oV : Option Int → V
  | none => .non
  | some i => .int i
def rowV (n : Nat) (M : PD.Mx) (i : Nat) : List V := (List.range n).map fun j => oV (M i j)
theorem rowV_len (n : Nat) (M : PD.Mx) (i : Nat) : (rowV n M i).length = n := by simp [rowV]
theorem rowV_get {n : Nat} {M : PD.Mx} {i j : Nat} (h : j < n) : (rowV n M i)[j]? = some (oV (M i j)) := by
  unfold rowV
  rw [List.getElem?_map, List.getElem?_range h]
  rfl
def set2 (M : PD.Mx) (x y : Nat) (v : Option Int) : PD.Mx := fun a b => if a = x ∧ b = y then v else M a b
theorem set2_same (M : PD.Mx) (x y : Nat) (v : Option Int) : set2 M x y v x y = v := if_pos ⟨rfl, rfl⟩
theorem set2_ne {M : PD.Mx} {x y a b : Nat} {v : Option Int} (h : ¬ (a = x ∧ b = y)) : set2 M x y v a b = M a b := if_neg h
theorem rowV_set {n : Nat} {M : PD.Mx} {x y : Nat} {v : Option Int} (h : y < n) : (rowV n M x).set y (oV v) = rowV n (set2 M x y v) x := by
  apply List.ext_getElem?
  intro j
  by_cases hj : j < n
  · by_cases e : j = y
    · subst e
      rw [List.getElem?_set_self (by rw [rowV_len]; exact h), rowV_get h, set2_same]
    · rw [List.getElem?_set_ne (Ne.symm e), rowV_get hj, rowV_get hj, set2_ne (fun z => e z.2)]
  · rw [List.getElem?_eq_none (by rw [List.length_set, rowV_len]; omega), List.getElem?_eq_none (by rw [rowV_len]; omega)]
theorem rowV_other {n : Nat} {M : PD.Mx} {x y a : Nat} {v : Option Int} (h : a ≠ x) : rowV n (set2 M x y v) a = rowV n M a := by
  unfold rowV
  apply List.map_congr_left
  intro j _
  rw [set2_ne (fun z => h z.1)]
/-- a matrix of n rows at m, its rows at rs, all new since H0 -/
structure MxAt (H0 H : Hp) (m : Addr) (rs : List Addr) (n : Nat) (M : PD.Mx) : Prop where
  m0 : H0 m = none
  r0 : ∀ r ∈ rs, H0 r = none ∧ r ≠ m
  nd : rs.Nodup
  len : rs.length = n
  top : H m = some (.lst (rs.map V.ref))
  row : ∀ (i : Nat) r, rs[i]? = some r → H r = some (.lst (rowV n M i))
section
variable {H0 H H' : Hp} {m : Addr} {rs : List Addr} {n : Nat} {M : PD.Mx}
theorem MxAt.get (x : MxAt H0 H m rs n M) {i : Nat} (h : i < n) : ∃ r, rs[i]? = some r ∧ (rs.map V.ref)[i]? = some (.ref r) ∧ H r = some (.lst (rowV n M i)) := by
  have hi : i < rs.length := by rw [x.len]; exact h
  refine ⟨rs[i], List.getElem?_eq_getElem hi, ?_, x.row i _ (List.getElem?_eq_getElem hi)⟩
  rw [List.getElem?_map, List.getElem?_eq_getElem hi]; rfl
theorem MxAt.keep (x : MxAt H0 H m rs n M) (h : ∀ b, H0 b = none → ∀ o, H b = some o → H' b = some o) : MxAt H0 H' m rs n M :=
  ⟨x.m0, x.r0, x.nd, x.len, h _ x.m0 _ x.top, fun i r e => h r (x.r0 r (List.mem_of_getElem? e)).1 _ (x.row i r e)⟩
theorem MxAt.same (x : MxAt H0 H m rs n M) (h : Same H H') : MxAt H0 H' m rs n M := x.keep fun b _ o e => h b o e
theorem MxAt.new {p : Addr} {o : HO} (x : MxAt H0 H m rs n M) (h : H p = none) : MxAt H0 (upd H p o) m rs n M := x.same (Old.new0 (W := []) h).same
theorem MxAt.congr {M' : PD.Mx} (x : MxAt H0 H m rs n M) (h : ∀ i j, i < n → j < n → M' i j = M i j) : MxAt H0 H m rs n M' :=
  ⟨x.m0, x.r0, x.nd, x.len, x.top, fun i r e => by
    rw [x.row i r e]
    have hi : i < n := by rw [← x.len]; exact (List.getElem?_eq_some_iff.mp e).1
    congr 2
    unfold rowV
    apply List.map_congr_left
    intro j hj
    rw [h i j hi (List.mem_range.mp hj)]⟩
/-- a number stored -/
theorem MxAt.put (x : MxAt H0 H m rs n M) {i j : Nat} {r : Addr} {v : Option Int} (hi : rs[i]? = some r) (hj : j < n) : MxAt H0 (upd H r (.lst ((rowV n M i).set j (oV v)))) m rs n (set2 M i j v) := by
  refine ⟨x.m0, x.r0, x.nd, x.len, ?_, fun a q e => ?_⟩
  · rw [upd_ne (x.r0 r (List.mem_of_getElem? hi)).2.symm]; exact x.top
  · by_cases ea : a = i
    · subst ea
      rw [hi] at e; cases e
      rw [upd_same, rowV_set hj]
    · have hq : q ≠ r := fun z => by
        subst z
        obtain ⟨h1, e1⟩ := List.getElem?_eq_some_iff.mp hi
        obtain ⟨h2, e2⟩ := List.getElem?_eq_some_iff.mp e
        exact ea ((List.getElem_inj x.nd).mp (e2.trans e1.symm))
      rw [upd_ne hq, x.row a q e, rowV_other ea]
end
end L2.T34

namespace L2.PL
open PySem PySem.Spec PyProof.Rows
/-! ### instances with slots -/
section
variable {X : Cx} {K : PySem.W.Frag}
theorem pe_slK {e : Expr} {ta : TE} {f : Str} {pos : Pos} (he : PE X e ta) (h : X.K = K := by rfl) (hb : attributeBase e f X.env (eval e X.env) = eval e X.env := by rfl) : PE X (.Attribute e f pos) (SlX.tSl K ta f) := by
  subst h; exact SlX.pe_sl he hb
/-- o.f as a target -/
def gSl (K : PySem.W.Frag) (ta : TE) (f : Str) : TG := fun v σ H Q => ta σ H fun x H1 => ∃ a C dx p vs i, x = .ref a ∧ SlX.Slt H1 a C dx vs ∧ SlX.SCls K C ∧ SlX.Slot1 K C f p i ∧ Q σ (SlX.slH H1 a C dx (SlX.putS i v vs))
theorem pg_sl {o : Expr} {f : Str} {pos : Pos} {ta : TE} (ha : PE X o ta) : PG X (.Attribute o f pos) (gSl X.K ta f) := by
  refine ⟨fun pins s σ H v u Q I r h => ?_⟩
  rw [assign_Attribute]
  refine wpAny_bind (wpAny_holding (thn (ha.run pins s σ H _ I h) fun ov s1 ⟨x, H1, I1, r1, a, C, dx, p, vs, i, ex, hs, c, t, q⟩ => ?_))
  subst ex
  obtain rfl : ov = Value.ref a := r1
  refine wpAny_bind (wpAny_standAt (wpAny_bind (wpAny_holding (SlX.setslot_ok I1 hs c t r fun s2 I2 => ?_))))
  exact wpAny_release ⟨σ, _, I2, q⟩
theorem pe_methS {CX : CXT} {k j : Nat} {C g : Addr} {fd : FuncData} {ps : List Str} {sp : Sp} {E : XK} {pl : Sem Bool} {o e : Expr} {es : List Expr} {m : Str} {ta : TE} {t : TA} {pos apos : Pos} (he : PE X o ta) (c : SlX.SCls X.K C) (hm : Meth X.K C m g)
    (F : FnOk X.prog X.w X.K X.mg X.base CX k g fd ps sp) (hr : Room j X.A) (hb : Binds X.K fd ps []) (hx : Passes CX X E) (ha : PA X (e :: es) t) (hk : k ≤ j := by decide)
    (hst : starEach (e :: es) X.env = (false, eval e X.env) :: starEach es X.env := by rfl) (hpl : (backTo pos (starEach es X.env)).any (·.1) = false := by rfl)
    (ht : eval (.Call (.Attribute o m apos) (e :: es) [] pos) X.env = (do
      let ov ← eval o X.env
      standAt apos.atName
      let (f, first) ← holding [ov] (getMethod ov m pl)
      callWith pos f first (backTo pos (starEach (e :: es) X.env)) (backToKw pos (keywordEach [] X.env))) := by rfl) :
    PE X (.Call (.Attribute o m apos) (e :: es) [] pos) (SlX.tMethSl C sp E ta t) := by
  refine ⟨fun pins s σ H Q I h => ?_⟩
  refine PySem.W.methodCall_KW (pl := pl) (thn (he.run pins s σ H _ I h) fun u s1 ⟨x, H1, I1, rx, a, dx, vs, ex, hsl, q⟩ => ?_) ht
  subst ex
  obtain rfl : u = Value.ref a := rx
  refine SlX.getmethsl_ok I1 hsl c hm ?_
  refine PySem.W.callWith_K (first := [.ref a]) (h₀ := X.base) I.ok.mod.kin hm.kp (thn (ha.run pos pins s1 σ H1 _ I1 q) fun us s2 ⟨vs, H2, I2, r, q2⟩ => ⟨I2.kIn, ?_⟩) hst hpl
  refine run_fn (us := .ref a :: us) (vs := .ref a :: vs) F (hr.mono hk) hb .nil hx I2 (.cons rfl r) ?_
  rw [List.append_nil]
  exact q2
end
theorem Slt.same {H H' : Hp} {a C dx : Addr} {vs : List (Option V)} (s : Same H H') (h : SlX.Slt H a C dx vs) : SlX.Slt H' a C dx vs := by
  rcases h with ⟨h1, h2⟩ | ⟨h1, h2⟩
  · exact .inl ⟨s _ _ h1, h2⟩
  · exact .inr ⟨s _ _ h1, s _ _ h2⟩
/-- a store into an instance that is new -/
theorem Old.slot {W : List Addr} {H H' : Hp} {a C dx : Addr} {vs : List (Option V)} (o : Old W H H') (h1 : H a = none) (h2 : H dx = none) : Old W H (SlX.slH H' a C dx vs) := (o.put0 h2).put0 h1
/-! ### dicts with pairs of numbers as keys -/
def k2 (x y : Nat) : List Key := [.inl (x : Int), .inl (y : Int)]
theorem k2_inj {x y a b : Nat} (h : k2 x y = k2 a b) : x = a ∧ y = b := by
  unfold k2 at h
  simp only [List.cons.injEq, Sum.inl.injEq, and_true] at h
  omega
structure KvIs (n : Nat) (kvs : List (List Key × V)) (S : Nat → Nat → Option V) : Prop where
  val : ∀ x y, valV kvs (k2 x y) = S x y
  nd : (kvs.map (·.1)).Nodup
  key : ∀ k ∈ kvs.map (·.1), ∃ x y, x < n ∧ y < n ∧ k = k2 x y
theorem KvIs.nil (n : Nat) : KvIs n [] fun _ _ => none := ⟨fun _ _ => rfl, List.nodup_nil, fun k h => by simp at h⟩
theorem keys_putK {κ : Type} [DecidableEq κ] {kvs : List (κ × V)} {k : κ} {v : V} : (putK kvs k v).map (·.1) = if (kvs.any fun kv => decide (kv.1 = k)) = true then kvs.map (·.1) else kvs.map (·.1) ++ [k] := by
  unfold putK
  split
  · rw [List.map_map]
    apply List.map_congr_left
    intro p _
    show (if p.1 = k then (p.1, v) else p).1 = p.1
    split <;> rfl
  · rw [List.map_append]; rfl
theorem KvIs.put {n : Nat} {kvs : List (List Key × V)} {S : Nat → Nat → Option V} (h : KvIs n kvs S) {x y : Nat} (hx : x < n) (hy : y < n) (v : V) : KvIs n (putK kvs (k2 x y) v) fun a b => if a = x ∧ b = y then some v else S a b := by
  refine ⟨fun a b => ?_, ?_, ?_⟩
  · rw [valV_put, h.val]
    by_cases e : a = x ∧ b = y
    · obtain ⟨rfl, rfl⟩ := e
      rw [if_pos rfl, if_pos ⟨rfl, rfl⟩]
    · rw [if_neg (fun z => e (k2_inj z)), if_neg e]
  · rw [keys_putK]
    split
    · exact h.nd
    · rename_i hn
      rw [List.nodup_append]
      refine ⟨h.nd, by simp, fun a ha b hb => ?_⟩
      have eb : b = k2 x y := by simpa using hb
      subst eb
      intro e
      subst e
      apply hn
      obtain ⟨p, hp, e⟩ := List.mem_map.mp ha
      exact List.any_eq_true.mpr ⟨p, hp, decide_eq_true e⟩
  · rw [keys_putK]
    intro k hk
    split at hk
    · exact h.key k hk
    · rcases List.mem_append.mp hk with hk | hk
      · exact h.key k hk
      · have : k = k2 x y := by simpa using hk
        exact ⟨x, y, hx, hy, this⟩
theorem inj_len {α : Type} (m : Nat) (f : α → Nat) : ∀ (l : List α), l.Nodup → (∀ a ∈ l, f a < m) → (∀ a ∈ l, ∀ b ∈ l, f a = f b → a = b) → l.length ≤ m := fun l nd hf inj => by
  have := PD.fits m (l.map f) (by
    rw [List.Nodup, List.pairwise_map]
    exact List.Pairwise.imp_of_mem (fun ha hb hne e => hne (inj _ ha _ hb e)) nd) (fun x hx => by
      obtain ⟨a, ha, rfl⟩ := List.mem_map.mp hx
      exact hf a ha)
  rw [List.length_map] at this
  exact this
theorem KvIs.len {n : Nat} {kvs : List (List Key × V)} {S : Nat → Nat → Option V} (h : KvIs n kvs S) : kvs.length ≤ n * n := by
  have := inj_len (n * n) (fun k : List Key => match k with | [.inl x, .inl y] => x.toNat * n + y.toNat | _ => 0) (kvs.map (·.1)) h.nd (fun k hk => by
    obtain ⟨x, y, hx, hy, rfl⟩ := h.key k hk
    show ((x : Int)).toNat * n + ((y : Int)).toNat < n * n
    rw [Int.toNat_natCast, Int.toNat_natCast]
    have : (x + 1) * n ≤ n * n := Nat.mul_le_mul_right n hx
    rw [Nat.succ_mul] at this
    omega) (fun k hk k' hk' e => by
    obtain ⟨x, y, hx, hy, rfl⟩ := h.key k hk
    obtain ⟨a, b, ha, hb, rfl⟩ := h.key k' hk'
    have e : ((x : Int)).toNat * n + ((y : Int)).toNat = ((a : Int)).toNat * n + ((b : Int)).toNat := e
    rw [Int.toNat_natCast, Int.toNat_natCast, Int.toNat_natCast, Int.toNat_natCast] at e
    have h1 : (x * n + y) / n = x := by rw [Nat.mul_comm, Nat.mul_add_div (by omega), Nat.div_eq_of_lt hy, Nat.add_zero]
    have h2 : (a * n + b) / n = a := by rw [Nat.mul_comm, Nat.mul_add_div (by omega), Nat.div_eq_of_lt hb, Nat.add_zero]
    have e1 : x = a := by rw [← h1, ← h2, e]
    subst e1
    have e2 : y = b := by omega
    rw [e2])
  rw [List.length_map] at this
  exact this
end L2.PL

namespace L2.T34
open PySem PySem.Spec PyProof.Rows L2.PL
/-- what the text says of Chains -/
structure ChT (K : PySem.W.Frag) (C p0 p1 p2 p3 : Addr) : Prop where
  c : SlX.SCls K C
  s0 : SlX.Slot1 K C "last" p0 0
  s1 : SlX.Slot1 K C "many" p1 1
  s2 : SlX.Slot1 K C "ring" p2 2
  s3 : SlX.Slot1 K C "sums" p3 3
def oI (o : Option Int) : Option V := o.map V.int
/-- what a Chains is at its end -/
def ChEnd (H0 : Hp) (Q : VK) (C a dx : Addr) (n : Nat) (B : List PD.Bd) : Prop :=
  (PD.Feas B → ∀ H' dl ds kvs S, Old [] H0 H' → SlX.Slt H' a C dx [some (.ref dl), some (.int (n : Int)), some .non, some (.ref ds)] → H' ds = some (.dT kvs) → KvIs n kvs (fun x y => oI (S n x y)) → PD.Run n B S n → S 0 = PD.start0 B none → Q .non H') ∧
  (¬ PD.Feas B → ∀ H' dl ds r, Old [] H0 H' → SlX.Slt H' a C dx [some (.ref dl), some (.int (n : Int)), some (.ref r), some (.ref ds)] → Q .non H')
def spJoin (K : PySem.W.Frag) (C : Addr) : Sp := fun vs H Q _ => ∃ (H0 : Hp) (a dx dl ds : Addr) (v : V) (n : Nat) (B : List PD.Bd) (kvs lvs : List (List Key × V)) (L : Nat → Nat → Option V), vs = [.ref a, v] ∧ Dp K H0 v (bdsD B) ∧ SysOk n B ∧ Old [] H0 H ∧
  H0 a = none ∧ H0 dx = none ∧ dx ≠ a ∧ H0 dl = none ∧ H0 ds = none ∧ dl ≠ ds ∧ SlX.Slt H a C dx [some (.ref dl), some (.int (n : Int)), some .non, some (.ref ds)] ∧ H ds = some (.dT kvs) ∧ KvIs n kvs (fun x y => oI (PD.start0 B none x y)) ∧
  H dl = some (.dT lvs) ∧ KvIs n lvs L ∧ (∀ x y, (L x y).isSome = (PD.start0 B none x y).isSome) ∧ ChEnd H0 Q C a dx n B
def spInit (K : PySem.W.Frag) (C : Addr) : Sp := fun vs H Q _ => ∃ (H0 : Hp) (a dx : Addr) (v : V) (n : Nat) (B : List PD.Bd), vs = [.ref a, .int (n : Int), v] ∧ Dp K H0 v (bdsD B) ∧ SysOk n B ∧ Old [] H0 H ∧
  H0 a = none ∧ H0 dx = none ∧ dx ≠ a ∧ H a = some (.ins C dx []) ∧ ChEnd H0 Q C a dx n B
theorem slt_ne {H : Hp} {a C dx d : Addr} {vs : List (Option V)} {kvs : List (List Key × V)} (h : SlX.Slt H a C dx vs) (hv : vs ≠ []) (hd : H d = some (.dT kvs)) : a ≠ d ∧ dx ≠ d := by
  rcases h with ⟨_, e⟩ | ⟨h1, h2⟩
  · exact absurd e hv
  · exact ⟨ne_of h1 hd (fun z => nomatch z), ne_of h2 hd (fun z => nomatch z)⟩
theorem slt_put {H : Hp} {a C dx d : Addr} {vs : List (Option V)} {o : HO} (h : SlX.Slt H a C dx vs) (h1 : a ≠ d) (h2 : dx ≠ d) (hv : vs ≠ []) : SlX.Slt (upd H d o) a C dx vs := by
  rcases h with ⟨_, e⟩ | ⟨e1, e2⟩
  · exact absurd e hv
  · exact .inr ⟨by rw [upd_ne h1]; exact e1, by rw [upd_ne h2]; exact e2⟩
/-- where join stands within a turn of the middle i -/
structure JIn (K : PySem.W.Frag) (C : Addr) (H0 : Hp) (a dx ds dl hd tl : Addr) (n i : Nat) (Si : PD.Mx) (heads tails : List Nat) (D : Nat → Nat → Prop) (H' : Hp) (M : PD.Mx) (kvs lvs : List (List Key × V)) (L : Nat → Nat → Option V) : Prop where
  o : Old [] H0 H'
  slt : SlX.Slt H' a C dx [some (.ref dl), some (.int (n : Int)), some .non, some (.ref ds)]
  hds : H' ds = some (.dT kvs)
  kds : KvIs n kvs (fun x y => oI (M x y))
  hdl : H' dl = some (.dT lvs)
  kdl : KvIs n lvs L
  hL : ∀ x y, x < n → y < n → (M x y).isSome = true → (L x y).isSome = true
  hhd : H' hd = some (.lst (heads.map fun x => V.int ((x : Nat) : Int)))
  htl : H' tl = some (.lst (tails.map fun x => V.int ((x : Nat) : Int)))
  mid : PD.MidP n Si i D M
theorem isSome_of_ole {a b : Option Int} (h : PD.ole a b) (s : b.isSome = true) : ∃ d, a = some d := by
  cases b with
  | none => cases s
  | some y => obtain ⟨x, e, _⟩ := h y rfl; exact ⟨x, e⟩
section
variable {K : PySem.W.Frag} {C : Addr} {H0 : Hp} {a dx ds dl hd tl : Addr} {n i : Nat} {Si : PD.Mx} {heads tails : List Nat} {D : Nat → Nat → Prop} {H' : Hp} {M : PD.Mx} {kvs lvs : List (List Key × V)} {L : Nat → Nat → Option V}
theorem JIn.new {p : Addr} {u : HO} (j : JIn K C H0 a dx ds dl hd tl n i Si heads tails D H' M kvs lvs L) (hp : H' p = none) : JIn K C H0 a dx ds dl hd tl n i Si heads tails D (upd H' p u) M kvs lvs L := by
  have oo : Old [] H' (upd H' p u) := Old.new0 hp
  exact ⟨j.o.trans oo, Slt.same oo.same j.slt, oo _ _ (by simp) j.hds, j.kds, oo _ _ (by simp) j.hdl, j.kdl, j.hL, oo _ _ (by simp) j.hhd, oo _ _ (by simp) j.htl, j.mid⟩
theorem JIn.congr {D' : Nat → Nat → Prop} (j : JIn K C H0 a dx ds dl hd tl n i Si heads tails D H' M kvs lvs L) (h : ∀ a b, D' a b ↔ D a b) : JIn K C H0 a dx ds dl hd tl n i Si heads tails D' H' M kvs lvs L := by
  have : D' = D := by funext a b; exact propext (h a b)
  rw [this]; exact j
/-- nothing better at x, y -/
theorem JIn.stay {D' : Nat → Nat → Prop} {x y : Nat} {d1 d2 d : Int} (j : JIn K C H0 a dx ds dl hd tl n i Si heads tails D H' M kvs lvs L) (hi : i < n) (hx : x < n) (hy : y < n) (hD : ¬ D x y) (hD' : ∀ a b, D' a b ↔ D a b ∨ (a = x ∧ b = y))
    (e1 : M x i = some d1) (e2 : M i y = some d2) (e : M x y = some d) (hc : ¬ d1 + d2 < d) : JIn K C H0 a dx ds dl hd tl n i Si heads tails D' H' M kvs lvs L :=
  ⟨j.o, j.slt, j.hds, j.kds, j.hdl, j.kdl, j.hL, j.hhd, j.htl, j.mid.step hi hx hy hD hD' (by rw [e1, e2, e]; show some d = some (if d1 + d2 < d then d1 + d2 else d); rw [if_neg hc]) (fun _ _ _ => rfl)⟩
theorem JIn.put {D' : Nat → Nat → Prop} {x y : Nat} {d1 d2 : Int} {p : Addr} {u : HO} {l : V} (j : JIn K C H0 a dx ds dl hd tl n i Si heads tails D H' M kvs lvs L) (hs0 : H0 ds = none) (hl0 : H0 dl = none) (nls : dl ≠ ds) (hi : i < n) (hx : x < n) (hy : y < n) (hD : ¬ D x y) (hD' : ∀ a b, D' a b ↔ D a b ∨ (a = x ∧ b = y))
    (e1 : M x i = some d1) (e2 : M i y = some d2) (hc : ∀ d, M x y = some d → d1 + d2 < d)
    (hp : (upd H' ds (.dT (putK kvs (k2 x y) (.int (d1 + d2))))) p = none) :
    JIn K C H0 a dx ds dl hd tl n i Si heads tails D' (upd (upd (upd H' ds (.dT (putK kvs (k2 x y) (.int (d1 + d2))))) p u) dl (.dT (putK lvs (k2 x y) l)))
      (fun a b => if a = x ∧ b = y then some (d1 + d2) else M a b) (putK kvs (k2 x y) (.int (d1 + d2))) (putK lvs (k2 x y) l) (fun a b => if a = x ∧ b = y then some l else L a b) := by
  have vne : [some (V.ref dl), some (V.int (n : Int)), some .non, some (.ref ds)] ≠ [] := fun z => nomatch z
  obtain ⟨n1, n2⟩ := slt_ne j.slt vne j.hds
  obtain ⟨n3, n4⟩ := slt_ne j.slt vne j.hdl
  have s1 := slt_put (o := .dT (putK kvs (k2 x y) (.int (d1 + d2)))) j.slt n1 n2 vne
  have oo : Old [] (upd H' ds (.dT (putK kvs (k2 x y) (.int (d1 + d2))))) (upd (upd H' ds (.dT (putK kvs (k2 x y) (.int (d1 + d2))))) p u) := Old.new0 hp
  have s2 := Slt.same oo.same s1
  have s3 := slt_put (o := .dT (putK lvs (k2 x y) l)) s2 n3 n4 vne
  have nhd1 : hd ≠ ds := ne_of j.hhd j.hds (fun z => nomatch z)
  have nhd2 : hd ≠ dl := ne_of j.hhd j.hdl (fun z => nomatch z)
  have ntl1 : tl ≠ ds := ne_of j.htl j.hds (fun z => nomatch z)
  have ntl2 : tl ≠ dl := ne_of j.htl j.hdl (fun z => nomatch z)
  refine ⟨((j.o.put0 hs0).trans oo).put0 hl0, s3, ?_, ?_, upd_same, j.kdl.put hx hy l, ?_, ?_, ?_, ?_⟩
  · rw [upd_ne nls.symm]; exact oo _ _ (by simp) upd_same
  · have := j.kds.put hx hy (.int (d1 + d2))
    refine ⟨fun a b => ?_, this.nd, this.key⟩
    rw [this.val]
    show _ = oI (if a = x ∧ b = y then some (d1 + d2) else M a b)
    by_cases e : a = x ∧ b = y
    · rw [if_pos e, if_pos e]; rfl
    · rw [if_neg e, if_neg e]
  · intro a b ha hb h
    by_cases e : a = x ∧ b = y
    · rw [if_pos e]; rfl
    · rw [if_neg e]
      rw [if_neg e] at h
      exact j.hL a b ha hb h
  · rw [upd_ne nhd2]; exact oo _ _ (by simp) (by rw [upd_ne nhd1]; exact j.hhd)
  · rw [upd_ne ntl2]; exact oo _ _ (by simp) (by rw [upd_ne ntl1]; exact j.htl)
  · refine j.mid.step hi hx hy hD hD' ?_ (fun a b e => if_neg e)
    show (if x = x ∧ y = y then some (d1 + d2) else M x y) = _
    rw [if_pos ⟨rfl, rfl⟩, e1, e2]
    cases e : M x y with
    | none => rfl
    | some d =>
      show _ = some (if d1 + d2 < d then d1 + d2 else d)
      rw [if_pos (hc d e)]
end
section
variable {P : Program} {w : World} {K : PySem.W.Frag} {mg : Str → Option Value} {base : Heap}
/-! Chains.join: slots self=0 bounds=1 middle=2 heads=3 tails=4 x=5 y=6 total=7 below=8; cells ['middle', 'self'] -/
abbrev s_Ch_join : Stmt := inClass (topS 16) 2
abbrev N_Ch_join : List Str := ["self", "bounds", "middle", "heads", "tails", "x", "y", "total", "below"]
theorem sc_Ch_join : FnScope N_Ch_join ["self", "bounds"] (defScope s_Ch_join) := ⟨rfl, rfl, rfl, by decide +kernel, rfl, by decide +kernel, by decide +kernel⟩
theorem ok_join {f C p0 p1 p2 p3 : Addr} {fd : FuncData} (F : Fun K "join" "Chains.join" s_Ch_join f fd) (T : Tx mg) (Ch : ChT K C p0 p1 p2 p3) (C_ring_below : Cal P w K mg base CX0 "ring_below" ["many", "bounds"] 1 (spRing K)) : FnOk P w K mg base CX0 2 f fd ["self", "bounds"] (spJoin K C) := by
  refine F.ok sc_Ch_join (fun vs H Q E h => ?_) (fun cdv A outer s H vs Q E hr h => ?_)
  · obtain ⟨H0, a, dx, dl, ds, v, n, B, kvs, lvs, L, rfl, _⟩ := h
    rfl
  · obtain ⟨H0, a, dx, dl, ds, v, n, B, kvs, lvs, L, rfl, hb, ok, o0, ha0, hx0, ndx0, hl0, hs0, nls, slt, hds, kds, hdl, kdl, hL, q1, q2⟩ := h
    have hn1 := ok.n1
    have hn2 := ok.n2
    have en : ((n : Int)).toNat = n := by omega
    have hu := hu_of hr
    have hnn : n * n ≤ 6400 := Nat.mul_le_mul hn2 hn2
    have vne : ∀ r : V, [some (V.ref dl), some (.int (n : Int)), some r, some (.ref ds)] ≠ [] := fun _ z => nomatch z
    have ksz : ∀ {kvs : List (List Key × V)} {S : Nat → Nat → Option V}, KvIs n kvs S → kvs.length < sizeLine := fun k => Nat.lt_of_le_of_lt k.len (Nat.lt_of_le_of_lt hnn (by decide))
    refine ⟨_, (pss_one (ps_for PassesOwn.never rfl (pi_range1 (by rfl) T.z_range (pa_cons (SlX.pe_sl (pv 0)) pa_nil)) (pg_name (i := 2) sc_Ch_join.nd rfl (Or.inr rfl))
       (pss_cons (ps_setLc (i := 3) (own := [("x", 5)]) (g := gName 5) (tt := _) rfl sc_Ch_join.nd rfl rfl (sw_true rfl rfl rfl (by decide +kernel)) (pi_range1 (by rfl) T.z_range (pa_cons (SlX.pe_sl (pv 0)) pa_nil)) (blkOk_by (N := N_Ch_join) (sc := defScope s_Ch_join) (by decide +kernel)) (fun _ _ _ _ _ => (pg_name (i := 5) sc_Ch_join.nd rfl (Or.inl rfl))) (fun _ _ _ _ _ => pts_one (pt_cmp (pc_din hu (pe_tup (pa_cons (pv 5) (pa_cons (pv 2) pa_nil))) (pe_slK (K := K) (pv 0))) rfl)) (fun _ _ _ _ _ => (pv 5)))
        (pss_cons (ps_setLc (i := 4) (own := [("y", 6)]) (g := gName 6) (tt := _) rfl sc_Ch_join.nd rfl rfl (sw_true rfl rfl rfl (by decide +kernel)) (pi_range1 (by rfl) T.z_range (pa_cons (SlX.pe_sl (pv 0)) pa_nil)) (blkOk_by (N := N_Ch_join) (sc := defScope s_Ch_join) (by decide +kernel)) (fun _ _ _ _ _ => (pg_name (i := 6) sc_Ch_join.nd rfl (Or.inl rfl))) (fun _ _ _ _ _ => pts_one (pt_cmp (pc_din hu (pe_tup (pa_cons (pv 2) (pa_cons (pv 6) pa_nil))) (pe_slK (K := K) (pv 0))) rfl)) (fun _ _ _ _ _ => (pv 6)))
        (pss_cons (ps_for PassesOwn.never rfl (pi_list (pv 3)) (pg_name (i := 5) sc_Ch_join.nd rfl (Or.inl rfl))
         (pss_one (ps_for PassesOwn.never rfl (pi_list (pv 4)) (pg_name (i := 6) sc_Ch_join.nd rfl (Or.inl rfl))
           (pss_cons (ps_set (i := 7) sc_Ch_join.nd rfl (.inl rfl) (pe_op op_add (pe_dget hu (SlX.pe_sl (pv 0)) (pe_tup (pa_cons (pv 5) (pa_cons (pv 2) pa_nil))) (fun _ _ => rfl)) (pe_dget hu (SlX.pe_sl (pv 0)) (pe_tup (pa_cons (pv 2) (pa_cons (pv 6) pa_nil))) (fun _ _ => rfl))))
            (pss_one (ps_if (PW.pt (pw_or (pt_cmp (pc_dnotin hu (pe_tup (pa_cons (pv 5) (pa_cons (pv 6) pa_nil))) (SlX.pe_sl (pv 0))) rfl) (pw_or1 (pt_cmpR op_lt (pv 7) (pe_dget hu (SlX.pe_sl (pv 0)) (pe_tup (pa_cons (pv 5) (pa_cons (pv 6) pa_nil))) (fun _ _ => rfl)) (nomark _)))))
             (pss_one (ps_asg (pe_tup (pa_cons (pv 7) (pa_cons (pe_dget hu (SlX.pe_sl (pv 0)) (pe_tup (pa_cons (pv 2) (pa_cons (pv 6) pa_nil))) (fun _ _ => rfl)) pa_nil))) (pg_tup (by rfl) (pgs_cons (pg_sub (SlX.pe_sl (pv 0)) (pe_tup (pa_cons (pv 5) (pa_cons (pv 6) pa_nil))) (set_dict hu)) (pgs_cons (pg_sub (SlX.pe_sl (pv 0)) (pe_tup (pa_cons (pv 5) (pa_cons (pv 6) pa_nil))) (set_dict hu)) pgs_nil)))))
             pss_nil))))))
        (pss_cons (ps_setLc (i := 8) (own := [("x", 5)]) (g := gName 5) (tt := _) rfl sc_Ch_join.nd rfl rfl (sw_true rfl rfl rfl (by decide +kernel)) (pi_range1 (by rfl) T.z_range (pa_cons (SlX.pe_sl (pv 0)) pa_nil)) (blkOk_by (N := N_Ch_join) (sc := defScope s_Ch_join) (by decide +kernel)) (fun _ _ _ _ _ => (pg_name (i := 5) sc_Ch_join.nd rfl (Or.inl rfl))) (fun _ _ _ _ _ => pts_one (pt_cmpR op_lt (pe_dget2 hu (pe_slK (K := K) (pv 0)) (pe_tup (pa_cons (pv 5) (pa_cons (pv 5) pa_nil))) pe_int ⟨by rfl, by rfl, by rfl, by rfl⟩) pe_int (nomark _))) (fun _ _ _ _ _ => (pv 5)))
        (pss_one (ps_if (pt_cmpR (op_neD hr.units) (pv 8) (pe_lst pa_nil) (nomark _))
         (pss_cons (ps_asg (pe_cal C_ring_below hr (by rfl) pass0 (pa_cons (SlX.pe_sl (pv 0)) (pa_cons (pv 1) pa_nil))) (pg_sl (pv 0)))
          (pss_one ps_retN))
         pss_nil)))))))), ?_⟩
    refine ⟨.ref a, rfl, a, C, dx, p1, _, 1, .int (n : Int), rfl, slt, Ch.c, Ch.s1, rfl, (n : Int), rfl, by omega, by omega, for_range (lo := 0) (n := ((n : Int)).toNat) (fun i σ H' => ∃ (y2 y3 y4 y5 y6 y7 y8 : Option V) (S : Nat → PD.Mx) (kvs lvs : List (List Key × V)) (L : Nat → Nat → Option V),
        σ = [some (.ref a), some v, y2, y3, y4, y5, y6, y7, y8] ∧ Old [] H0 H' ∧ SlX.Slt H' a C dx [some (.ref dl), some (.int (n : Int)), some .non, some (.ref ds)] ∧ H' ds = some (.dT kvs) ∧ KvIs n kvs (fun x y => oI (S i x y)) ∧
        H' dl = some (.dT lvs) ∧ KvIs n lvs L ∧ (∀ x y, x < n → y < n → (S i x y).isSome = true → (L x y).isSome = true) ∧ PD.Run n B S i ∧ S 0 = PD.start0 B none ∧ (1 ≤ i → ∀ x, x < n → PD.Non (S i x x)))
      ⟨none, none, none, none, none, none, none, fun _ => PD.start0 B none, kvs, lvs, L, rfl, o0, slt, hds, kds, hdl, kdl, fun x y _ _ h => by rw [hL]; exact h, PD.Run.zero PD.start0_low (PD.start0_got (.inl rfl)), rfl, fun h => absurd h (by decide)⟩ ?_ ?_⟩
    · clear slt hds kds hdl kdl hL o0 kvs lvs L
      rintro i σ H1 hi ⟨y2, y3, y4, y5, y6, y7, y8, S, kvs, lvs, L, rfl, o1, slt, hds, kds, hdl, kdl, hL, R, hS0, _⟩
      rw [en] at hi
      rw [Int.zero_add]
      -- heads
      refine ⟨.ref a, rfl, a, C, dx, p1, _, 1, .int (n : Int), rfl, slt, Ch.c, Ch.s1, rfl, (n : Int), rfl, by omega, by omega, fun hd nhd => ?_⟩
      refine lc_range (lo := 0) (n := ((n : Int)).toNat) (fun j H' => Old [] H1 H' ∧ H' hd = some (.lst (((List.range j).filter fun x => (S i x i).isSome).map fun x => V.int ((x : Nat) : Int)))) ⟨Old.new0 nhd, upd_same⟩ ?_ ?_
      · rintro j H2 hj ⟨o2, h2⟩
        rw [en] at hj
        rw [Int.zero_add]
        have slt2 := Slt.same o2.same slt
        refine ⟨rfl, .int (j : Int), rfl, .int (i : Int), rfl, (by show 2 ≤ sizeLine; decide), fun p np => ?_⟩
        have nhp : hd ≠ p := ne_of_none h2 np
        have o3 : Old [] H1 (upd H2 p (.tup [.int (j : Int), .int (i : Int)])) := o2.new np
        refine ⟨.ref a, rfl, a, C, dx, p3, _, 3, .ref ds, rfl, Slt.same o3.same slt, Ch.c, Ch.s3, rfl, ds, _, rfl, DGet.t (k := k2 j i) (o3 _ _ (by simp) hds) upd_same, _, rfl, ?_⟩
        rw [kds.val]
        have hh3 : (upd H2 p (.tup [.int (j : Int), .int (i : Int)])) hd = some (.lst (((List.range j).filter fun x => (S i x i).isSome).map fun x => V.int ((x : Nat) : Int))) := by rw [upd_ne nhp]; exact h2
        cases hM : S i j i with
        | some d =>
          refine iteT ?_
          refine ⟨.int (j : Int), rfl, _, hh3, ?_, o3.put0 nhd, ?_⟩
          · rw [List.length_map]
            exact Nat.lt_of_le_of_lt (List.length_filter_le _ _) (by rw [List.length_range]; exact Nat.lt_of_lt_of_le (Nat.lt_of_lt_of_le hj hn2) (by decide))
          · rw [upd_same, List.range_succ, List.filter_append, List.map_append]
            simp [hM]
        | none =>
          refine iteF ?_
          refine ⟨o3, ?_⟩
          rw [hh3, List.range_succ, List.filter_append]
          simp [hM]
      rintro H2 ⟨o2, h2⟩
      rw [en] at h2
      generalize hheads : (List.range n).filter (fun x => (S i x i).isSome) = heads at h2
      have o02 : Old [] H0 H2 := o1.trans o2
      have slt2 := Slt.same o2.same slt
      -- tails
      refine ⟨.ref a, rfl, a, C, dx, p1, _, 1, .int (n : Int), rfl, slt2, Ch.c, Ch.s1, rfl, (n : Int), rfl, by omega, by omega, fun tl ntl => ?_⟩
      refine lc_range (lo := 0) (n := ((n : Int)).toNat) (fun j H' => Old [] H2 H' ∧ H' tl = some (.lst (((List.range j).filter fun y => (S i i y).isSome).map fun x => V.int ((x : Nat) : Int)))) ⟨Old.new0 ntl, upd_same⟩ ?_ ?_
      · rintro j H3 hj ⟨o3, h3⟩
        rw [en] at hj
        rw [Int.zero_add]
        refine ⟨rfl, .int (i : Int), rfl, .int (j : Int), rfl, (by show 2 ≤ sizeLine; decide), fun p np => ?_⟩
        have nhp : tl ≠ p := ne_of_none h3 np
        have o4 : Old [] H2 (upd H3 p (.tup [.int (i : Int), .int (j : Int)])) := o3.new np
        refine ⟨.ref a, rfl, a, C, dx, p3, _, 3, .ref ds, rfl, Slt.same o4.same slt2, Ch.c, Ch.s3, rfl, ds, _, rfl, DGet.t (k := k2 i j) (o4 _ _ (by simp) (o2 _ _ (by simp) hds)) upd_same, _, rfl, ?_⟩
        rw [kds.val]
        have hh4 : (upd H3 p (.tup [.int (i : Int), .int (j : Int)])) tl = some (.lst (((List.range j).filter fun y => (S i i y).isSome).map fun x => V.int ((x : Nat) : Int))) := by rw [upd_ne nhp]; exact h3
        cases hM : S i i j with
        | some d =>
          refine iteT ?_
          refine ⟨.int (j : Int), rfl, _, hh4, ?_, o4.put0 ntl, ?_⟩
          · rw [List.length_map]
            exact Nat.lt_of_le_of_lt (List.length_filter_le _ _) (by rw [List.length_range]; exact Nat.lt_of_lt_of_le (Nat.lt_of_lt_of_le hj hn2) (by decide))
          · rw [upd_same, List.range_succ, List.filter_append, List.map_append]
            simp [hM]
        | none =>
          refine iteF ?_
          refine ⟨o4, ?_⟩
          rw [hh4, List.range_succ, List.filter_append]
          simp [hM]
      rintro H3 ⟨o3, h3⟩
      rw [en] at h3
      generalize htails : (List.range n).filter (fun y => (S i i y).isSome) = tails at h3
      have o03 : Old [] H0 H3 := o02.trans o3
      have slt3 := Slt.same o3.same slt2
      have hds3 := o3 _ _ (by simp) (o2 _ _ (by simp) hds)
      have hdl3 := o3 _ _ (by simp) (o2 _ _ (by simp) hdl)
      have hhd3 : H3 hd = some (.lst (heads.map fun x => V.int ((x : Nat) : Int))) := o3 _ _ (by simp) h2
      have memH : ∀ x, x ∈ heads ↔ x < n ∧ (S i x i).isSome = true := fun x => by rw [← hheads, List.mem_filter, List.mem_range]
      have memT : ∀ y, y ∈ tails ↔ y < n ∧ (S i i y).isSome = true := fun y => by rw [← htails, List.mem_filter, List.mem_range]
      have ndH : heads.Nodup := by rw [← hheads]; exact List.nodup_range.filter _
      have ndT : tails.Nodup := by rw [← htails]; exact List.nodup_range.filter _
      have TS0 : ∀ {H' : Hp} {xs : List Nat} {ad : Addr}, H' ad = some (.lst (xs.map fun x => V.int ((x : Nat) : Int))) → SqL K H' ad (xs.map fun x => V.int ((x : Nat) : Int)) := fun h => SqL.of h
      refine ⟨.ref hd, rfl, hd, rfl, ⟨_, TS0 hhd3⟩, for_list (K := K) (a := hd) (xs := heads.map fun x => V.int ((x : Nat) : Int)) (fun j σ H' => ∃ (y5 y6 y7 y8 : Option V) (M : PD.Mx) (kvs lvs : List (List Key × V)) (L : Nat → Nat → Option V),
          σ = [some (.ref a), some v, some (.int (i : Int)), some (.ref hd), some (.ref tl), y5, y6, y7, y8] ∧ JIn K C H0 a dx ds dl hd tl n i (S i) heads tails (fun a b => a ∈ heads.take j ∧ b ∈ tails) H' M kvs lvs L)
        ⟨y5, y6, y7, y8, S i, kvs, lvs, L, rfl, o03, slt3, hds3, kds, hdl3, kdl, hL, hhd3, h3, PD.MidP.zero (fun x y h => by simp at h)⟩ (fun j σ H' _ ⟨_, _, _, _, _, _, _, _, _, h⟩ => TS0 h.hhd) ?_ ?_⟩
      · rintro j xv σ H4 hxv ⟨y5, y6, y7, y8, M, kvs, lvs, L, rfl, J⟩
        rw [List.getElem?_map] at hxv
        obtain ⟨x, hx, rfl⟩ := Option.map_eq_some_iff.mp hxv
        obtain ⟨jl, hx⟩ := List.getElem?_eq_some_iff.mp hx
        have xm : x ∈ heads := hx ▸ List.getElem_mem jl
        obtain ⟨xn, xs⟩ := (memH x).mp xm
        have xnew : x ∉ heads.take j := by
          intro q
          obtain ⟨k, hk, e⟩ := List.mem_iff_getElem.mp q
          rw [List.length_take] at hk
          rw [List.getElem_take] at e
          have : k = j := (List.getElem_inj ndH).mp (by rw [e, hx])
          omega
        refine ⟨.ref tl, rfl, tl, rfl, ⟨_, TS0 J.htl⟩, for_list (K := K) (a := tl) (xs := tails.map fun x => V.int ((x : Nat) : Int)) (fun l σ H' => ∃ (y6 y7 y8 : Option V) (M : PD.Mx) (kvs lvs : List (List Key × V)) (L : Nat → Nat → Option V),
            σ = [some (.ref a), some v, some (.int (i : Int)), some (.ref hd), some (.ref tl), some (.int (x : Int)), y6, y7, y8] ∧ JIn K C H0 a dx ds dl hd tl n i (S i) heads tails (fun a b => (a ∈ heads.take j ∧ b ∈ tails) ∨ (a = x ∧ b ∈ tails.take l)) H' M kvs lvs L)
          ⟨y6, y7, y8, M, kvs, lvs, L, rfl, J.congr (fun a b => by simp)⟩ (fun j σ H' _ ⟨_, _, _, _, _, _, _, _, h⟩ => TS0 h.htl) ?_ ?_⟩
        · clear J M kvs lvs L kds kdl hL hdl hds hds3 hdl3
          rintro l yv σ H5 hyv ⟨y6, y7, y8, M, kvs, lvs, L, rfl, J⟩
          rw [List.getElem?_map] at hyv
          obtain ⟨y, hy, rfl⟩ := Option.map_eq_some_iff.mp hyv
          obtain ⟨ll, hy⟩ := List.getElem?_eq_some_iff.mp hy
          have ym : y ∈ tails := hy ▸ List.getElem_mem ll
          obtain ⟨yn, ys⟩ := (memT y).mp ym
          have ynew : y ∉ tails.take l := by
            intro q
            obtain ⟨k, hk, e⟩ := List.mem_iff_getElem.mp q
            rw [List.length_take] at hk
            rw [List.getElem_take] at e
            have : k = l := (List.getElem_inj ndT).mp (by rw [e, hy])
            omega
          have hD : ¬ ((x ∈ heads.take j ∧ y ∈ tails) ∨ (x = x ∧ y ∈ tails.take l)) := by
            rintro (⟨q, _⟩ | ⟨_, q⟩)
            · exact xnew q
            · exact ynew q
          have hD' : ∀ a b, ((a ∈ heads.take j ∧ b ∈ tails) ∨ (a = x ∧ b ∈ tails.take (l + 1))) ↔ ((a ∈ heads.take j ∧ b ∈ tails) ∨ (a = x ∧ b ∈ tails.take l)) ∨ (a = x ∧ b = y) := by
            intro a b
            rw [List.take_succ_eq_append_getElem ll, List.mem_append, List.mem_singleton, hy]
            constructor
            · rintro (q | ⟨q, q' | q'⟩)
              · exact .inl (.inl q)
              · exact .inl (.inr ⟨q, q'⟩)
              · exact .inr ⟨q, q'⟩
            · rintro ((q | ⟨q, q'⟩) | ⟨q, q'⟩)
              · exact .inl q
              · exact .inr ⟨q, .inl q'⟩
              · exact .inr ⟨q, .inr q'⟩
          obtain ⟨d1, e1⟩ := isSome_of_ole (J.mid.mono x i xn hi) xs
          obtain ⟨d2, e2⟩ := isSome_of_ole (J.mid.mono i y hi yn) ys
          -- total
          refine ⟨.ref a, rfl, a, C, dx, p3, _, 3, .ref ds, rfl, J.slt, Ch.c, Ch.s3, rfl, .int (x : Int), rfl, .int (i : Int), rfl, (by show 2 ≤ sizeLine; decide), fun t1 nt1 => ?_⟩
          have J1 := J.new (u := .tup [.int (x : Int), .int (i : Int)]) nt1
          have ht1 : (upd H5 t1 (.tup [.int (x : Int), .int (i : Int)])) t1 = some (.tup [.int (x : Int), .int (i : Int)]) := upd_same
          generalize upd H5 t1 (.tup [.int (x : Int), .int (i : Int)]) = H6 at J1 ht1 ⊢
          clear J nt1 H5
          refine ⟨ds, .int d1, rfl, ?_, ?_⟩
          · have := DGet.t (k := k2 x i) J1.hds ht1
            rw [J1.kds.val, e1] at this
            exact this
          refine ⟨.ref a, rfl, a, C, dx, p3, _, 3, .ref ds, rfl, J1.slt, Ch.c, Ch.s3, rfl, .int (i : Int), rfl, .int (y : Int), rfl, (by show 2 ≤ sizeLine; decide), fun t2 nt2 => ?_⟩
          have J2 := J1.new (u := .tup [.int (i : Int), .int (y : Int)]) nt2
          have ht2 : (upd H6 t2 (.tup [.int (i : Int), .int (y : Int)])) t2 = some (.tup [.int (i : Int), .int (y : Int)]) := upd_same
          generalize upd H6 t2 (.tup [.int (i : Int), .int (y : Int)]) = H7 at J2 ht2 ⊢
          clear J1 nt2 ht1 H6
          refine ⟨ds, .int d2, rfl, ?_, ?_⟩
          · have := DGet.t (k := k2 i y) J2.hds ht2
            rw [J2.kds.val, e2] at this
            exact this
          refine ⟨d1, d2, rfl, rfl, ?_⟩
          clear ht2
          -- the test
          refine ⟨.int (x : Int), rfl, .int (y : Int), rfl, (by show 2 ≤ sizeLine; decide), fun t3 nt3 => ?_⟩
          have J3 := J2.new (u := .tup [.int (x : Int), .int (y : Int)]) nt3
          have ht3 : (upd H7 t3 (.tup [.int (x : Int), .int (y : Int)])) t3 = some (.tup [.int (x : Int), .int (y : Int)]) := upd_same
          generalize upd H7 t3 (.tup [.int (x : Int), .int (y : Int)]) = H8 at J3 ht3 ⊢
          clear J2 nt3 H7
          refine ⟨.ref a, rfl, a, C, dx, p3, _, 3, .ref ds, rfl, J3.slt, Ch.c, Ch.s3, rfl, ds, _, rfl, DGet.t (k := k2 x y) J3.hds ht3, ?_⟩
          rw [J3.kds.val]
          clear ht3
          cases e : M x y with
          | none =>
            refine ⟨true, rfl, ?_⟩
            refine iteT ?_
            refine iteT ?_
            refine ⟨_, rfl, .ref a, rfl, a, C, dx, p0, _, 0, .ref dl, rfl, J3.slt, Ch.c, Ch.s0, rfl, .int (i : Int), rfl, .int (y : Int), rfl, (by show 2 ≤ sizeLine; decide), fun t4 nt4 => ?_⟩
            have J4 := J3.new (u := .tup [.int (i : Int), .int (y : Int)]) nt4
            have ht4 : (upd H8 t4 (.tup [.int (i : Int), .int (y : Int)])) t4 = some (.tup [.int (i : Int), .int (y : Int)]) := upd_same
            generalize upd H8 t4 (.tup [.int (i : Int), .int (y : Int)]) = H9 at J4 ht4 ⊢
            clear J3 nt4
            obtain ⟨lv, el⟩ := Option.isSome_iff_exists.mp (J4.hL i y hi yn (by rw [e2]; rfl))
            refine ⟨dl, lv, rfl, ?_, (by show 2 ≤ sizeLine; decide), fun t5 nt5 => ?_⟩
            · have := DGet.t (k := k2 i y) J4.hdl ht4
              rw [J4.kdl.val, el] at this
              exact this
            have J5 := J4.new (u := .tup [.int (d1 + d2), lv]) nt5
            have ht5 : (upd H9 t5 (.tup [.int (d1 + d2), lv])) t5 = some (.tup [.int (d1 + d2), lv]) := upd_same
            generalize upd H9 t5 (.tup [.int (d1 + d2), lv]) = H10 at J5 ht5 ⊢
            clear J4 nt5 ht4 H9
            refine ⟨t5, _, rfl, SqT.of ht5, rfl, _, _, rfl, ?_⟩
            refine ⟨.ref a, rfl, a, C, dx, p3, _, 3, .ref ds, rfl, J5.slt, Ch.c, Ch.s3, rfl, .int (x : Int), rfl, .int (y : Int), rfl, (by show 2 ≤ sizeLine; decide), fun t6 nt6 => ?_⟩
            have J6 := J5.new (u := .tup [.int (x : Int), .int (y : Int)]) nt6
            have ht6 : (upd H10 t6 (.tup [.int (x : Int), .int (y : Int)])) t6 = some (.tup [.int (x : Int), .int (y : Int)]) := upd_same
            generalize upd H10 t6 (.tup [.int (x : Int), .int (y : Int)]) = H11 at J6 ht6 ⊢
            clear J5 nt6 ht5 H10
            refine ⟨ds, _, rfl, DPut.t (k := k2 x y) J6.hds ht6 (ksz J6.kds), _, _, rfl, ?_⟩
            obtain ⟨n1, n2⟩ := slt_ne J6.slt (vne _) J6.hds
            have sl6 := slt_put (o := .dT (putK kvs (k2 x y) (.int (d1 + d2)))) J6.slt n1 n2 (vne _)
            refine ⟨.ref a, rfl, a, C, dx, p0, _, 0, .ref dl, rfl, sl6, Ch.c, Ch.s0, rfl, .int (x : Int), rfl, .int (y : Int), rfl, (by show 2 ≤ sizeLine; decide), fun t7 nt7 => ?_⟩
            have hdl7 : (upd (upd H11 ds (.dT (putK kvs (k2 x y) (.int (d1 + d2))))) t7 (.tup [.int (x : Int), .int (y : Int)])) dl = some (.dT lvs) := by
              rw [upd_ne (ne_of_none (by rw [upd_ne nls]; exact J6.hdl) nt7), upd_ne nls]; exact J6.hdl
            refine ⟨dl, _, rfl, DPut.t (k := k2 x y) hdl7 upd_same (ksz J6.kdl), rfl, ?_⟩
            exact ⟨_, _, _, _, _, _, _, rfl, J6.put hs0 hl0 nls hi xn yn hD hD' e1 e2 (fun d q => by rw [e] at q; cases q) nt7⟩
          | some d =>
            refine ⟨false, rfl, ?_⟩
            refine iteF ?_
            refine ⟨.int (d1 + d2), rfl, .ref a, rfl, a, C, dx, p3, _, 3, .ref ds, rfl, J3.slt, Ch.c, Ch.s3, rfl, .int (x : Int), rfl, .int (y : Int), rfl, (by show 2 ≤ sizeLine; decide), fun u1 nu1 => ?_⟩
            have K4 := J3.new (u := .tup [.int (x : Int), .int (y : Int)]) nu1
            have hu1 : (upd H8 u1 (.tup [.int (x : Int), .int (y : Int)])) u1 = some (.tup [.int (x : Int), .int (y : Int)]) := upd_same
            generalize upd H8 u1 (.tup [.int (x : Int), .int (y : Int)]) = G8 at K4 hu1 ⊢
            clear J3 nu1 H8
            refine ⟨ds, .int d, rfl, ?_, d1 + d2, d, rfl, rfl, _, rfl, ite2 (fun cc => ?_) (fun cc => ?_)⟩
            · have := DGet.t (k := k2 x y) K4.hds hu1
              rw [K4.kds.val, e] at this
              exact this
            · have cc : d1 + d2 < d := of_decide_eq_true cc
              refine ⟨_, rfl, .ref a, rfl, a, C, dx, p0, _, 0, .ref dl, rfl, K4.slt, Ch.c, Ch.s0, rfl, .int (i : Int), rfl, .int (y : Int), rfl, (by show 2 ≤ sizeLine; decide), fun t4 nt4 => ?_⟩
              have J4 := K4.new (u := .tup [.int (i : Int), .int (y : Int)]) nt4
              have ht4 : (upd G8 t4 (.tup [.int (i : Int), .int (y : Int)])) t4 = some (.tup [.int (i : Int), .int (y : Int)]) := upd_same
              generalize upd G8 t4 (.tup [.int (i : Int), .int (y : Int)]) = H9 at J4 ht4 ⊢
              clear K4 nt4
              obtain ⟨lv, el⟩ := Option.isSome_iff_exists.mp (J4.hL i y hi yn (by rw [e2]; rfl))
              refine ⟨dl, lv, rfl, ?_, (by show 2 ≤ sizeLine; decide), fun t5 nt5 => ?_⟩
              · have := DGet.t (k := k2 i y) J4.hdl ht4
                rw [J4.kdl.val, el] at this
                exact this
              have J5 := J4.new (u := .tup [.int (d1 + d2), lv]) nt5
              have ht5 : (upd H9 t5 (.tup [.int (d1 + d2), lv])) t5 = some (.tup [.int (d1 + d2), lv]) := upd_same
              generalize upd H9 t5 (.tup [.int (d1 + d2), lv]) = H10 at J5 ht5 ⊢
              clear J4 nt5 ht4 H9
              refine ⟨t5, _, rfl, SqT.of ht5, rfl, _, _, rfl, ?_⟩
              refine ⟨.ref a, rfl, a, C, dx, p3, _, 3, .ref ds, rfl, J5.slt, Ch.c, Ch.s3, rfl, .int (x : Int), rfl, .int (y : Int), rfl, (by show 2 ≤ sizeLine; decide), fun t6 nt6 => ?_⟩
              have J6 := J5.new (u := .tup [.int (x : Int), .int (y : Int)]) nt6
              have ht6 : (upd H10 t6 (.tup [.int (x : Int), .int (y : Int)])) t6 = some (.tup [.int (x : Int), .int (y : Int)]) := upd_same
              generalize upd H10 t6 (.tup [.int (x : Int), .int (y : Int)]) = H11 at J6 ht6 ⊢
              clear J5 nt6 ht5 H10
              refine ⟨ds, _, rfl, DPut.t (k := k2 x y) J6.hds ht6 (ksz J6.kds), _, _, rfl, ?_⟩
              obtain ⟨n1, n2⟩ := slt_ne J6.slt (vne _) J6.hds
              have sl6 := slt_put (o := .dT (putK kvs (k2 x y) (.int (d1 + d2)))) J6.slt n1 n2 (vne _)
              refine ⟨.ref a, rfl, a, C, dx, p0, _, 0, .ref dl, rfl, sl6, Ch.c, Ch.s0, rfl, .int (x : Int), rfl, .int (y : Int), rfl, (by show 2 ≤ sizeLine; decide), fun t7 nt7 => ?_⟩
              have hdl7 : (upd (upd H11 ds (.dT (putK kvs (k2 x y) (.int (d1 + d2))))) t7 (.tup [.int (x : Int), .int (y : Int)])) dl = some (.dT lvs) := by
                rw [upd_ne (ne_of_none (by rw [upd_ne nls]; exact J6.hdl) nt7), upd_ne nls]; exact J6.hdl
              refine ⟨dl, _, rfl, DPut.t (k := k2 x y) hdl7 upd_same (ksz J6.kdl), rfl, ?_⟩
              exact ⟨_, _, _, _, _, _, _, rfl, J6.put hs0 hl0 nls hi xn yn hD hD' e1 e2 (fun d' q => by rw [e] at q; cases q; exact cc) nt7⟩
            · have cc : ¬ d1 + d2 < d := fun q => cc (decide_eq_true q)
              exact ⟨_, _, _, _, _, _, _, rfl, K4.stay hi xn yn hD hD' e1 e2 e cc⟩
        · rintro σ H5 ⟨y6, y7, y8, M, kvs, lvs, L, rfl, J⟩
          rw [List.length_map] at J
          refine ⟨_, y6, y7, y8, M, kvs, lvs, L, rfl, J.congr (fun a b => ?_)⟩
          rw [List.take_succ_eq_append_getElem jl, List.mem_append, List.mem_singleton, hx, List.take_length]
          constructor
          · rintro ⟨q | q, q'⟩
            · exact .inl ⟨q, q'⟩
            · exact .inr ⟨q, q'⟩
          · rintro (⟨q, q'⟩ | ⟨q, q'⟩)
            · exact ⟨.inl q, q'⟩
            · exact ⟨.inr q, q'⟩
      · rintro σ H4 ⟨y5, y6, y7, y8, M, kvs, lvs, L, rfl, J⟩
        rw [List.length_map] at J
        rw [List.take_length] at J
        have m := J.mid.mid (fun x y hx hy hn => by
          by_cases e1 : (S i x i).isSome = true
          · by_cases e2 : (S i i y).isSome = true
            · exact absurd ⟨(memH x).mpr ⟨hx, e1⟩, (memT y).mpr ⟨hy, e2⟩⟩ hn
            · exact .inr (by cases e : S i i y with | none => rfl | some _ => rw [e] at e2; exact absurd rfl e2)
          · exact .inl (by cases e : S i x i with | none => rfl | some _ => rw [e] at e1; exact absurd rfl e1))
        have R' := R.more m
        generalize hS' : (fun k => if k = i + 1 then M else S k) = S' at R'
        have S'i : S' (i + 1) = M := by rw [← hS']; exact if_pos rfl
        have S'0 : S' 0 = PD.start0 B none := by rw [← hS', ← hS0]; exact if_neg (by omega)
        have neg : ∀ x, decide ((M x x).getD 0 < 0) = false ↔ PD.Non (M x x) := by
          intro x
          rw [decide_eq_false_iff_not]
          constructor
          · intro h d e
            rw [e] at h
            show 0 ≤ d
            have : ¬ d < 0 := h
            omega
          · intro h
            cases e : M x x with
            | none => show ¬ (0 : Int) < 0; omega
            | some d => have := h d e; show ¬ d < 0; omega
        refine ⟨.ref a, rfl, a, C, dx, p1, _, 1, .int (n : Int), rfl, J.slt, Ch.c, Ch.s1, rfl, (n : Int), rfl, by omega, by omega, fun bl nbl => ?_⟩
        refine lc_range (lo := 0) (n := ((n : Int)).toNat) (fun j H' => Old [] H4 H' ∧ H' bl = some (.lst ((((List.range j).filter fun x => decide ((M x x).getD 0 < 0)).map fun x => ((x : Nat) : Int)).map V.int))) ⟨Old.new0 nbl, upd_same⟩ ?_ ?_
        · rintro j H5 hj ⟨o5, h5⟩
          rw [en] at hj
          rw [Int.zero_add]
          have hds5 := o5 _ _ (by simp) J.hds
          refine ⟨rfl, .ref a, rfl, a, C, dx, p3, _, 3, .ref ds, rfl, Slt.same o5.same J.slt, Ch.c, Ch.s3, rfl, ds, rfl, .inr ⟨kvs, .inl hds5⟩, .int (j : Int), rfl, .int (j : Int), rfl, (by show 2 ≤ sizeLine; decide), fun p np => ?_⟩
          have nbp : bl ≠ p := ne_of_none h5 np
          have o6 : Old [] H4 (upd H5 p (.tup [.int (j : Int), .int (j : Int)])) := o5.new np
          have h6 : (upd H5 p (.tup [.int (j : Int), .int (j : Int)])) bl = _ := (upd_ne nbp).trans h5
          refine ⟨_, DGet.t (k := k2 j j) (o6 _ _ (by simp) J.hds) upd_same, ?_⟩
          rw [J.kds.val]
          have ev : (oI (M j j)).getD (.int 0) = V.int ((M j j).getD 0) := by
            cases M j j <;> rfl
          refine ⟨(M j j).getD 0, 0, ev, rfl, _, rfl, ?_⟩
          have hln : (((List.range j).filter fun x => decide ((M x x).getD 0 < 0)).map fun x => ((x : Nat) : Int)).length < sizeLine := by
            rw [List.length_map]
            exact Nat.lt_of_le_of_lt (List.length_filter_le _ _) (by rw [List.length_range]; exact Nat.lt_of_lt_of_le (Nat.lt_of_lt_of_le hj hn2) (by decide))
          by_cases c : (M j j).getD 0 < 0
          · rw [decide_eq_true c]
            refine iteT ?_
            refine ⟨.int (j : Int), rfl, _, h6, by rw [List.length_map]; exact hln, o6.put0 nbl, ?_⟩
            rw [upd_same, List.range_succ, List.filter_append, List.map_append, List.map_append]
            simp [c]
          · rw [decide_eq_false c]
            refine iteF ?_
            refine ⟨o6, ?_⟩
            rw [h6, List.range_succ, List.filter_append, List.map_append, List.map_append]
            simp [c]
        · rintro H5 ⟨o5, h5⟩
          rw [en] at h5
          have slt5 := Slt.same o5.same J.slt
          refine ⟨.ref bl, rfl, Nat.zero_le _, fun p np => ?_⟩
          have nbp : bl ≠ p := ne_of_none h5 np
          have o6 : Old [] H4 (upd H5 p (.lst [])) := o5.new np
          refine ⟨.list (_), .list [], .lst (SqL.of ((upd_ne nbp).trans h5)) (PL.Dp.ofInts _), .lst (SqL.of upd_same) .nil, shaped_ints _, shaped_nil, _, rfl, ?_⟩
          rw [eqv_nil]
          have slt6 := Slt.same o6.same J.slt
          have oH0 := J.o.trans o6
          have hds6 := o6 _ _ (by simp) J.hds
          have hdl6 := o6 _ _ (by simp) J.hdl
          generalize upd H5 p (.lst []) = H6 at o6 slt6 oH0 hds6 hdl6 ⊢
          by_cases hall : ∀ x, x < n → PD.Non (M x x)
          · have e0 : (List.range n).filter (fun x => decide ((M x x).getD 0 < 0)) = [] := by
              rw [List.filter_eq_nil_iff]
              intro x hx
              rw [(neg x).mpr (hall x (List.mem_range.mp hx))]
              decide
            rw [e0]
            refine iteF ?_
            exact ⟨_, _, _, _, _, _, _, S', kvs, lvs, L, rfl, oH0, slt6, hds6, by rw [S'i]; exact J.kds, hdl6, J.kdl, by rw [S'i]; exact J.hL, R', S'0, fun _ => by rw [S'i]; exact hall⟩
          · have nf : ¬ PD.Feas B := by
              intro f
              apply hall
              have := R'.non f (by omega) (Nat.le_refl _)
              rw [S'i] at this
              exact this
            have e0 : ((List.range n).filter (fun x => decide ((M x x).getD 0 < 0)) |>.map fun x => ((x : Nat) : Int)).isEmpty = false := by
              rw [List.isEmpty_eq_false_iff]
              intro e
              rw [List.map_eq_nil_iff, List.filter_eq_nil_iff] at e
              apply hall
              intro x hx
              apply (neg x).mp
              have := e x (List.mem_range.mpr hx)
              exact Bool.eq_false_iff.mpr this
            rw [e0]
            refine iteT ?_
            have hb6 : Dp K H6 v (bdsD B) := PL.Dp.keep (oH0.tk NoTup.nil) _ _ (bdsD_only B) hb
            refine ⟨.ref a, rfl, a, C, dx, p1, _, 1, .int (n : Int), rfl, slt6, Ch.c, Ch.s1, rfl, v, rfl, v, n, B, rfl, hb6, ok, fun f => absurd f nf, fun _ H7 t ids o7 ht => ?_⟩
            have slt7 := Slt.same o7.same slt6
            have ndx : dx ≠ a := ndx0
            refine ⟨.ref a, rfl, a, C, dx, p2, _, 2, rfl, slt7, Ch.c, Ch.s2, ?_⟩
            refine q2 nf _ dl ds t ((oH0.trans o7).slot ha0 hx0) ?_
            exact SlX.slH_slt ndx
    · rintro σ H1 ⟨y2, y3, y4, y5, y6, y7, y8, S, kvs, lvs, L, rfl, o1, slt, hds, kds, hdl, kdl, hL, R, hS0, hn⟩
      rw [en] at kds R hn
      have f := R.feas ok.ix (hn hn1)
      exact q1 f H1 dl ds kvs S o1 slt hds kds R hS0
end
end L2.T34

namespace L2.PL
open PySem PySem.Spec PyProof.Rows
/-! ### methods, classes and keyword calls as one fact -/
structure MtC (P : Program) (w : World) (K : PySem.W.Frag) (mg : Str → Option Value) (base : Heap) (CX : CXT) (C : Addr) (m : Str) (ps : List Str) (k : Nat) (sp : Sp) : Prop where
  ex : ∃ (g : Addr) (fd : FuncData), Meth K C m g ∧ Binds K fd ps [] ∧ FnOk P w K mg base CX k g fd ps sp
structure MkC (P : Program) (w : World) (K : PySem.W.Frag) (mg : Str → Option Value) (base : Heap) (CX : CXT) (x : Str) (C : Addr) (ps : List Str) (k : Nat) (sp : Sp) : Prop where
  ex : ∃ (g : Addr) (fd : FuncData), mg x = some (.ref C) ∧ Mk K C g ∧ Binds K fd ps [] ∧ FnOk P w K mg base CX k g fd ps sp
structure CalK (P : Program) (w : World) (K : PySem.W.Frag) (mg : Str → Option Value) (base : Heap) (CX : CXT) (x : Str) (ps : List Str) (k : Nat) (sp : Sp) : Prop where
  ex : ∃ (f : Addr) (fd : FuncData), mg x = some (.ref f) ∧ PySem.W.keepIn K (.ref f) = true ∧ KBinds K fd ps ps (fun us ws => us ++ ws) (fun us ws => us ++ ws) ∧ FnOk P w K mg base CX k f fd ps sp
section
variable {X : Cx} {CX : CXT} {j k : Nat} {C : Addr} {ps : List Str} {sp : Sp} {E : XK} {pl : Sem Bool} {o e : Expr} {es : List Expr} {kws : List Keyword} {x m : Str} {ta : TE} {t tk : TA} {p pos apos : Pos}
theorem pe_metC (M : MtC X.prog X.w X.K X.mg X.base CX C m ps k sp) (he : PE X o ta) (c : SlX.SCls X.K C) (hr : Room j X.A) (hx : Passes CX X E) (ha : PA X (e :: es) t) (hk : k ≤ j := by decide)
    (hst : starEach (e :: es) X.env = (false, eval e X.env) :: starEach es X.env := by rfl) (hpl : (backTo pos (starEach es X.env)).any (·.1) = false := by rfl)
    (ht : eval (.Call (.Attribute o m apos) (e :: es) [] pos) X.env = (do
      let ov ← eval o X.env
      standAt apos.atName
      let (f, first) ← holding [ov] (getMethod ov m pl)
      callWith pos f first (backTo pos (starEach (e :: es) X.env)) (backToKw pos (keywordEach [] X.env))) := by rfl) :
    PE X (.Call (.Attribute o m apos) (e :: es) [] pos) (SlX.tMethSl C sp E ta t) := by
  obtain ⟨g, fd, hm, hb, F⟩ := M.ex
  exact pe_methS he c hm F hr hb hx ha hk hst hpl ht
theorem pe_makC (M : MkC X.prog X.w X.K X.mg X.base CX x C ps k sp) (hr : Room j X.A) (hg : Gl X x) (hx : Passes CX X E) (ha : PA X (e :: es) t) (hk : k + 1 ≤ j := by decide)
    (hdb : (x == ("__debug__" : Str)) = false := by decide) (he : starEach (e :: es) X.env = (false, eval e X.env) :: starEach es X.env := by rfl) (hpl : (backTo pos (starEach es X.env)).any (·.1) = false := by rfl) :
    PE X (.Call (.Name x p) (e :: es) [] pos) (tMake C sp [] E t) := by
  obtain ⟨g, fd, hm, mk, hb, F⟩ := M.ex
  exact pe_make mk F (hr.mono hk) hg hm hb .nil hx ha hdb he hpl
theorem pe_calK (M : CalK X.prog X.w X.K X.mg X.base CX x ps k sp) (hr : Room j X.A) (hg : Gl X x) (hx : Passes CX X E) (hkw : PK X kws tk) (hk : k ≤ j := by decide)
    (hall : (backToKw pos (keywordEach kws X.env)).all (·.1.isSome) = true := by rfl) (hks : (backToKw pos (keywordEach kws X.env)).filterMap (·.1) = ps := by rfl)
    (hdb : (x == ("__debug__" : Str)) = false := by decide)
    (hpl : ((backTo pos (starEach [] X.env)).any (·.1) || (backToKw pos (keywordEach kws X.env)).any (·.1.isNone)) = false := by rfl) :
    PE X (.Call (.Name x p) [] kws pos) (L2.tCallK sp (fun us ws => us ++ ws) E tNil tk) := by
  obtain ⟨f, fd, hm, kp, hb, F⟩ := M.ex
  exact pe_callK0 F (hr.mono hk) hg hm kp hb hx hkw hall hks hdb hpl
end
/-- how a keyword alone binds -/
theorem kbinds1 {K : PySem.W.Frag} {x qual p : Str} {st : Stmt} {f : Addr} {fd : FuncData} (F : Fun K x qual st f fd)
    (h1 : ∀ (kV doc pm : Value) (an : Option Addr) (cdv ct u : Value), bindArgs (PySem.W.fnOf x qual (defArgs st) (defBody st) (defScope st) .none kV doc pm an cdv ct) ⟨[u], []⟩ = pure [(p, u)])
    (h2 : ∀ (kV doc pm : Value) (an : Option Addr) (cdv ct u : Value), bindArgs (PySem.W.fnOf x qual (defArgs st) (defBody st) (defScope st) .none kV doc pm an cdv ct) ⟨[], [(p, u)]⟩ = pure [(p, u)]) :
    KBinds K fd [p] [p] (fun us ws => us ++ ws) (fun us ws => us ++ ws) := by
  obtain ⟨oc, od, kV, doc, pm, an, cdv, ct, osl, rfl, lk, hcd⟩ := F.ex
  refine ⟨fun s us ws _ hl => ?_, fun r z => r.append z⟩
  match us, ws, hl with
  | [u], [], _ => exact .of_eq (h1 ..)
  | [], [u], _ => exact .of_eq (h2 ..)
  | [_], _ :: _, hl => simp at hl
  | [], [], hl => simp at hl
  | [], _ :: _ :: _, hl => simp at hl
  | _ :: _ :: _, _, hl => simp at hl
end L2.PL

namespace L2.T34
open PySem PySem.Spec PyProof.Rows L2.PL
theorem minTo_step {B : List PD.Bd} {i x y : Nat} {c : Int} (h : B[i]? = some (x, y, c)) : ∀ a b, PD.minTo B a b (i + 1) = if a = x ∧ b = y then PD.omin (PD.minTo B x y i) (some c) else PD.minTo B a b i := by
  intro a b
  show (match B[i]? with | none => PD.minTo B a b i | some e => if e.1 = a ∧ e.2.1 = b then PD.omin (PD.minTo B a b i) (some e.2.2) else PD.minTo B a b i) = _
  rw [h]
  show (if x = a ∧ y = b then PD.omin (PD.minTo B a b i) (some c) else PD.minTo B a b i) = _
  by_cases e : a = x ∧ b = y
  · obtain ⟨rfl, rfl⟩ := e
    rw [if_pos (show a = a ∧ b = b from ⟨rfl, rfl⟩)]
  · rw [if_neg e, if_neg (show ¬ (x = a ∧ y = b) from fun z => e ⟨z.1.symm, z.2.symm⟩)]
theorem start0_none (B : List PD.Bd) (x y : Nat) : PD.start0 B none x y = PD.minTo B x y B.length := by
  unfold PD.start0
  rw [ite_self]; rfl
/-- where __init__ stands behind j bounds -/
structure IIn (K : PySem.W.Frag) (C : Addr) (H0 : Hp) (a dx ds dl : Addr) (n : Nat) (B : List PD.Bd) (j : Nat) (H' : Hp) (kvs lvs : List (List Key × V)) (L : Nat → Nat → Option V) : Prop where
  o : Old [] H0 H'
  slt : SlX.Slt H' a C dx [some (.ref dl), some (.int (n : Int)), some .non, some (.ref ds)]
  hds : H' ds = some (.dT kvs)
  kds : KvIs n kvs (fun x y => oI (PD.minTo B x y j))
  hdl : H' dl = some (.dT lvs)
  kdl : KvIs n lvs L
  hL : ∀ x y, (L x y).isSome = (PD.minTo B x y j).isSome
section
variable {K : PySem.W.Frag} {C : Addr} {H0 : Hp} {a dx ds dl : Addr} {n j : Nat} {B : List PD.Bd} {H' : Hp} {kvs lvs : List (List Key × V)} {L : Nat → Nat → Option V}
theorem IIn.new {p : Addr} {u : HO} (i : IIn K C H0 a dx ds dl n B j H' kvs lvs L) (hp : H' p = none) : IIn K C H0 a dx ds dl n B j (upd H' p u) kvs lvs L := by
  have oo : Old [] H' (upd H' p u) := Old.new0 hp
  exact ⟨i.o.trans oo, Slt.same oo.same i.slt, oo _ _ (by simp) i.hds, i.kds, oo _ _ (by simp) i.hdl, i.kdl, i.hL⟩
theorem IIn.stay {x y : Nat} {c d : Int} (i : IIn K C H0 a dx ds dl n B j H' kvs lvs L) (hB : B[j]? = some (x, y, c)) (e : PD.minTo B x y j = some d) (hc : ¬ c < d) : IIn K C H0 a dx ds dl n B (j + 1) H' kvs lvs L := by
  have q : (fun a b => PD.minTo B a b (j + 1)) = fun a b => PD.minTo B a b j := by
    funext a b
    rw [minTo_step hB]
    by_cases h : a = x ∧ b = y
    · rw [if_pos h, h.1, h.2, e]
      show some (if c < d then c else d) = some d
      rw [if_neg hc]
    · rw [if_neg h]
  have q' : ∀ a b, PD.minTo B a b (j + 1) = PD.minTo B a b j := fun a b => congrFun (congrFun q a) b
  refine ⟨i.o, i.slt, i.hds, ?_, i.hdl, i.kdl, fun a b => by rw [q']; exact i.hL a b⟩
  have := i.kds
  simp only [q']
  exact this
theorem IIn.put {x y : Nat} {c : Int} {p : Addr} {u : HO} {l : V} (i : IIn K C H0 a dx ds dl n B j H' kvs lvs L) (hs0 : H0 ds = none) (hl0 : H0 dl = none) (nls : dl ≠ ds) (hx : x < n) (hy : y < n) (hB : B[j]? = some (x, y, c))
    (hc : ∀ d, PD.minTo B x y j = some d → c < d) (hp : (upd H' ds (.dT (putK kvs (k2 x y) (.int c)))) p = none) :
    IIn K C H0 a dx ds dl n B (j + 1) (upd (upd (upd H' ds (.dT (putK kvs (k2 x y) (.int c)))) p u) dl (.dT (putK lvs (k2 x y) l))) (putK kvs (k2 x y) (.int c)) (putK lvs (k2 x y) l) (fun a b => if a = x ∧ b = y then some l else L a b) := by
  have vne : [some (V.ref dl), some (V.int (n : Int)), some .non, some (.ref ds)] ≠ [] := fun z => nomatch z
  obtain ⟨n1, n2⟩ := slt_ne i.slt vne i.hds
  obtain ⟨n3, n4⟩ := slt_ne i.slt vne i.hdl
  have s1 := slt_put (o := .dT (putK kvs (k2 x y) (.int c))) i.slt n1 n2 vne
  have oo : Old [] (upd H' ds (.dT (putK kvs (k2 x y) (.int c)))) (upd (upd H' ds (.dT (putK kvs (k2 x y) (.int c)))) p u) := Old.new0 hp
  have s2 := Slt.same oo.same s1
  have s3 := slt_put (o := .dT (putK lvs (k2 x y) l)) s2 n3 n4 vne
  have new : PD.omin (PD.minTo B x y j) (some c) = some c := by
    cases e : PD.minTo B x y j with
    | none => rfl
    | some d =>
      show some (if c < d then c else d) = some c
      rw [if_pos (hc d e)]
  refine ⟨((i.o.put0 hs0).trans oo).put0 hl0, s3, ?_, ?_, upd_same, i.kdl.put hx hy l, ?_⟩
  · rw [upd_ne nls.symm]; exact oo _ _ (by simp) upd_same
  · have := i.kds.put hx hy (.int c)
    refine ⟨fun a b => ?_, this.nd, this.key⟩
    rw [this.val, minTo_step hB]
    by_cases e : a = x ∧ b = y
    · rw [if_pos e, if_pos e, new]; rfl
    · rw [if_neg e, if_neg e]
  · intro a b
    rw [minTo_step hB]
    by_cases e : a = x ∧ b = y
    · rw [if_pos e, if_pos e, new]; rfl
    · rw [if_neg e, if_neg e]; exact i.hL a b
end
section
variable {P : Program} {w : World} {K : PySem.W.Frag} {mg : Str → Option Value} {base : Heap}
/-! Chains.__init__: slots self=0 many=1 bounds=2 number=3 x=4 y=5 c=6; cells [] -/
abbrev s_Ch_init : Stmt := inClass (topS 16) 1
abbrev N_Ch_init : List Str := ["self", "many", "bounds", "number", "x", "y", "c"]
theorem sc_Ch_init : FnScope N_Ch_init ["self", "many", "bounds"] (defScope s_Ch_init) := ⟨rfl, rfl, rfl, by decide +kernel, rfl, by decide +kernel, by decide +kernel⟩
theorem ok_init {f C p0 p1 p2 p3 : Addr} {fd : FuncData} (F : Fun K "__init__" "Chains.__init__" s_Ch_init f fd) (T : Tx mg) (T_Chains : ChT K C p0 p1 p2 p3) (M_Chains_join : MtC P w K mg base CX0 C "join" ["self", "bounds"] 2 (spJoin K C)) : FnOk P w K mg base CX0 3 f fd ["self", "many", "bounds"] (spInit K C) := by
  have Ch := T_Chains
  refine F.ok sc_Ch_init (fun vs H Q E h => ?_) (fun cdv A outer s H vs Q E hr h => ?_)
  · obtain ⟨H0, a, dx, v, n, B, rfl, _⟩ := h
    rfl
  · obtain ⟨H0, a, dx, v, n, B, rfl, hd0, ok, o0, ha0, hx0, ndx, hai, q⟩ := h
    obtain ⟨b, xs, rfl, hxs, hlen, hget⟩ := bds_at hd0
    have hn1 := ok.n1
    have hn2 := ok.n2
    have hB := ok.ix
    have hu := hu_of hr
    have hnn : n * n ≤ 6400 := Nat.mul_le_mul hn2 hn2
    have ksz : ∀ {kvs : List (List Key × V)} {S : Nat → Nat → Option V}, KvIs n kvs S → kvs.length < sizeLine := fun k => Nat.lt_of_le_of_lt k.len (Nat.lt_of_le_of_lt hnn (by decide))
    refine ⟨_, (pss_cons (ps_asg (pe_tup (pa_cons (pv 1) (pa_cons pe_non pa_nil))) (pg_tup (by rfl) (pgs_cons (pg_sl (pv 0)) (pgs_cons (pg_sl (pv 0)) pgs_nil))))
      (pss_cons (ps_asg (pe_tup (pa_cons pe_dnewT (pa_cons pe_dnewT pa_nil))) (pg_tup (by rfl) (pgs_cons (pg_sl (pv 0)) (pgs_cons (pg_sl (pv 0)) pgs_nil))))
      (pss_cons (ps_for PassesOwn.never rfl (pi_enumT (by rfl) T.z_enumerate (pa_cons (pv 2) pa_nil)) (pg_tup (by rfl) (pgs_cons (pg_name (i := 3) sc_Ch_init.nd rfl (Or.inl rfl)) (pgs_cons (pg_tup (by rfl) (pgs_cons (pg_name (i := 4) sc_Ch_init.nd rfl (Or.inl rfl)) (pgs_cons (pg_name (i := 5) sc_Ch_init.nd rfl (Or.inl rfl)) (pgs_cons (pg_name (i := 6) sc_Ch_init.nd rfl (Or.inl rfl)) pgs_nil)))) pgs_nil)))
       (pss_one (ps_if (PW.pt (pw_or (pt_cmp (pc_dnotin hu (pe_tup (pa_cons (pv 4) (pa_cons (pv 5) pa_nil))) (SlX.pe_sl (pv 0))) rfl) (pw_or1 (pt_cmpR op_lt (pv 6) (pe_dget hu (SlX.pe_sl (pv 0)) (pe_tup (pa_cons (pv 4) (pa_cons (pv 5) pa_nil))) (fun _ _ => rfl)) (nomark _)))))
         (pss_one (ps_asg (pe_tup (pa_cons (pv 6) (pa_cons (pv 3) pa_nil))) (pg_tup (by rfl) (pgs_cons (pg_sub (SlX.pe_sl (pv 0)) (pe_tup (pa_cons (pv 4) (pa_cons (pv 5) pa_nil))) (set_dict hu)) (pgs_cons (pg_sub (SlX.pe_sl (pv 0)) (pe_tup (pa_cons (pv 4) (pa_cons (pv 5) pa_nil))) (set_dict hu)) pgs_nil)))))
         pss_nil)))
      (pss_one (ps_expr (pe_metC M_Chains_join (pv 0) T_Chains.c hr pass0 (pa_cons (pv 2) pa_nil))))))), ?_⟩
    have s0 : SlX.Slt H a C dx [] := .inl ⟨hai, rfl⟩
    refine ⟨.int (n : Int), rfl, (by show 2 ≤ sizeLine; decide), fun t1 nt1 => ?_⟩
    have oA : Old [] H0 (upd H t1 (.tup [.int (n : Int), .non])) := o0.new nt1
    have sA := Slt.same (Old.new0 (o := .tup [.int (n : Int), .non]) nt1).same s0
    refine ⟨t1, _, rfl, SqT.of upd_same, rfl, _, _, rfl, ?_⟩
    generalize upd H t1 (.tup [.int (n : Int), .non]) = H1 at oA sA ⊢
    refine ⟨.ref a, rfl, a, C, dx, p1, _, 1, rfl, sA, Ch.c, Ch.s1, _, _, rfl, ?_⟩
    have sB : SlX.Slt (SlX.slH H1 a C dx (SlX.putS 1 (.int (n : Int)) [])) a C dx [none, some (.int (n : Int))] := SlX.slH_slt ndx
    have oB : Old [] H0 (SlX.slH H1 a C dx (SlX.putS 1 (.int (n : Int)) [])) := oA.slot ha0 hx0
    generalize SlX.slH H1 a C dx (SlX.putS 1 (.int (n : Int)) []) = H2 at oB sB ⊢
    refine ⟨.ref a, rfl, a, C, dx, p2, _, 2, rfl, sB, Ch.c, Ch.s2, rfl, ?_⟩
    have sC : SlX.Slt (SlX.slH H2 a C dx (SlX.putS 2 .non [none, some (.int (n : Int))])) a C dx [none, some (.int (n : Int)), some .non] := SlX.slH_slt ndx
    have oC : Old [] H0 (SlX.slH H2 a C dx (SlX.putS 2 .non [none, some (.int (n : Int))])) := oB.slot ha0 hx0
    generalize SlX.slH H2 a C dx (SlX.putS 2 .non [none, some (.int (n : Int))]) = H3 at oC sC ⊢
    clear sA oA sB oB s0 nt1 H1 H2
    -- the dicts
    refine fun ds nds => ?_
    have oD : Old [] H0 (upd H3 ds (.dT [])) := oC.new nds
    have sD := Slt.same (Old.new0 (o := .dT []) nds).same sC
    have hs0 : H0 ds = none := oC.free nds (by simp)
    have hds : (upd H3 ds (.dT [])) ds = some (.dT []) := upd_same
    generalize upd H3 ds (.dT []) = H4 at oD sD hds ⊢
    refine fun dl ndl => ?_
    have nls : dl ≠ ds := fun z => by rw [z, hds] at ndl; cases ndl
    have oE : Old [] H0 (upd H4 dl (.dT [])) := oD.new ndl
    have sE := Slt.same (Old.new0 (o := .dT []) ndl).same sD
    have hl0 : H0 dl = none := oD.free ndl (by simp)
    have hdl : (upd H4 dl (.dT [])) dl = some (.dT []) := upd_same
    have hds : (upd H4 dl (.dT [])) ds = some (.dT []) := by rw [upd_ne nls.symm]; exact hds
    generalize upd H4 dl (.dT []) = H5 at oE sE hds hdl ⊢
    refine ⟨(by show 2 ≤ sizeLine; decide), fun t2 nt2 => ?_⟩
    have oF : Old [] H0 (upd H5 t2 (.tup [.ref ds, .ref dl])) := oE.new nt2
    have oo : Old [] H5 (upd H5 t2 (.tup [.ref ds, .ref dl])) := Old.new0 nt2
    have sF := Slt.same oo.same sE
    have hds := oo _ _ (by simp) hds
    have hdl := oo _ _ (by simp) hdl
    refine ⟨t2, _, rfl, SqT.of upd_same, rfl, _, _, rfl, ?_⟩
    generalize upd H5 t2 (.tup [.ref ds, .ref dl]) = H6 at oF sF hds hdl ⊢
    clear oo sE oE sD oD oC sC
    have nad : a ≠ ds ∧ dx ≠ ds := slt_ne sF (fun z => nomatch z) hds
    have nal : a ≠ dl ∧ dx ≠ dl := slt_ne sF (fun z => nomatch z) hdl
    refine ⟨.ref a, rfl, a, C, dx, p3, _, 3, rfl, sF, Ch.c, Ch.s3, _, _, rfl, ?_⟩
    have sG : SlX.Slt (SlX.slH H6 a C dx (SlX.putS 3 (.ref ds) [none, some (.int (n : Int)), some .non])) a C dx [none, some (.int (n : Int)), some .non, some (.ref ds)] := SlX.slH_slt ndx
    have oG : Old [] H0 (SlX.slH H6 a C dx (SlX.putS 3 (.ref ds) [none, some (.int (n : Int)), some .non])) := oF.slot ha0 hx0
    have hds : (SlX.slH H6 a C dx (SlX.putS 3 (.ref ds) [none, some (.int (n : Int)), some .non])) ds = some (.dT []) := by rw [SlX.slH_ne nad.1.symm nad.2.symm]; exact hds
    have hdl : (SlX.slH H6 a C dx (SlX.putS 3 (.ref ds) [none, some (.int (n : Int)), some .non])) dl = some (.dT []) := by rw [SlX.slH_ne nal.1.symm nal.2.symm]; exact hdl
    generalize SlX.slH H6 a C dx (SlX.putS 3 (.ref ds) [none, some (.int (n : Int)), some .non]) = H7 at oG sG hds hdl ⊢
    refine ⟨.ref a, rfl, a, C, dx, p0, _, 0, rfl, sG, Ch.c, Ch.s0, rfl, ?_⟩
    have sI : SlX.Slt (SlX.slH H7 a C dx (SlX.putS 0 (.ref dl) [none, some (.int (n : Int)), some .non, some (.ref ds)])) a C dx [some (.ref dl), some (.int (n : Int)), some .non, some (.ref ds)] := SlX.slH_slt ndx
    have oI' : Old [] H0 (SlX.slH H7 a C dx (SlX.putS 0 (.ref dl) [none, some (.int (n : Int)), some .non, some (.ref ds)])) := oG.slot ha0 hx0
    have hds : (SlX.slH H7 a C dx (SlX.putS 0 (.ref dl) [none, some (.int (n : Int)), some .non, some (.ref ds)])) ds = some (.dT []) := by rw [SlX.slH_ne nad.1.symm nad.2.symm]; exact hds
    have hdl : (SlX.slH H7 a C dx (SlX.putS 0 (.ref dl) [none, some (.int (n : Int)), some .non, some (.ref ds)])) dl = some (.dT []) := by rw [SlX.slH_ne nal.1.symm nal.2.symm]; exact hdl
    generalize SlX.slH H7 a C dx (SlX.putS 0 (.ref dl) [none, some (.int (n : Int)), some .non, some (.ref ds)]) = H8 at oI' sI hds hdl ⊢
    have I0 : IIn K C H0 a dx ds dl n B 0 H8 [] [] (fun _ _ => none) := ⟨oI', sI, hds, KvIs.nil n, hdl, KvIs.nil n, fun _ _ => rfl⟩
    have hxs8 : SqT K H8 b xs := (I0.o.tk NoTup.nil).seq hxs
    refine ⟨.ref b, rfl, b, xs, rfl, hxs8, fun j m σ H' => ∃ (y3 y4 y5 y6 : Option V) (kvs lvs : List (List Key × V)) (L : Nat → Nat → Option V), m = xs.length - j ∧ j ≤ xs.length ∧ σ = [some (.ref a), some (.int (n : Int)), some (.ref b), y3, y4, y5, y6] ∧ IIn K C H0 a dx ds dl n B j H' kvs lvs L,
      ⟨xs.length, none, none, none, none, _, _, _, rfl, Nat.zero_le _, rfl, I0⟩, ?_⟩
    clear I0 hxs8
    rintro j m σ H3 ⟨y3, y4, y5, y6, kvs, lvs, L, rfl, hj, rfl, J⟩
    have hxs3 : SqT K H3 b xs := (J.o.tk NoTup.nil).seq hxs
    by_cases hjl : j < xs.length
    · refine .inr ⟨⟨xs, xs[j], hxs3, List.getElem?_eq_getElem hjl⟩, fun σ' H' => ∃ (y3 y4 y5 y6 : Option V) (kvs lvs : List (List Key × V)) (L : Nat → Nat → Option V), σ' = [some (.ref a), some (.int (n : Int)), some (.ref b), y3, y4, y5, y6] ∧ IIn K C H0 a dx ds dl n B (j + 1) H' kvs lvs L,
        fun σ' H' ⟨y3, y4, y5, y6, kvs, lvs, L, e1, e2⟩ => ⟨_, by omega, y3, y4, y5, y6, kvs, lvs, L, rfl, hjl, e1, e2⟩, ?_⟩
      rintro v H4 ⟨t, y, rfl, nt, rfl, hy⟩
      have hy := hy xs hxs3
      have hjB : j < B.length := by omega
      obtain ⟨r, hr1, hr2⟩ := hget j _ (List.getElem?_eq_getElem hjB)
      rw [hr1] at hy
      cases hy
      have hm' : B[j] ∈ B := List.getElem_mem hjB
      have hxy := hB _ hm'
      have hBj := List.getElem?_eq_getElem hjB
      generalize B[j] = e at hr2 hxy hBj hm' ⊢
      obtain ⟨x, z, c⟩ := e
      have hx : x < n := hxy.1
      have hz : z < n := hxy.2
      have J1 := J.new (u := .tup [.int (j : Int), .ref r]) nt
      refine ⟨t, _, rfl, SqT.of upd_same, rfl, .int (j : Int), _, rfl, .ref r, _, rfl, ⟨r, _, rfl, (J1.o.tk NoTup.nil).seq hr2, rfl, _, _, rfl, _, _, rfl, _, _, rfl, rfl, rfl, ?_⟩⟩
      generalize upd H3 t (.tup [.int (j : Int), .ref r]) = H4 at J1 ⊢
      clear J nt hxs3
      refine ⟨.int (x : Int), rfl, .int (z : Int), rfl, (by show 2 ≤ sizeLine; decide), fun t3 nt3 => ?_⟩
      have J3 := J1.new (u := .tup [.int (x : Int), .int (z : Int)]) nt3
      have ht3 : (upd H4 t3 (.tup [.int (x : Int), .int (z : Int)])) t3 = some (.tup [.int (x : Int), .int (z : Int)]) := upd_same
      generalize upd H4 t3 (.tup [.int (x : Int), .int (z : Int)]) = H8 at J3 ht3 ⊢
      clear J1 nt3 H4
      refine ⟨.ref a, rfl, a, C, dx, p3, _, 3, .ref ds, rfl, J3.slt, Ch.c, Ch.s3, rfl, ds, _, rfl, DGet.t (k := k2 x z) J3.hds ht3, ?_⟩
      rw [J3.kds.val]
      clear ht3
      cases e : PD.minTo B x z j with
      | none =>
        refine ⟨true, rfl, ?_⟩
        refine iteT ?_
        refine iteT ?_
        refine ⟨_, rfl, .int (j : Int), rfl, (by show 2 ≤ sizeLine; decide), fun t5 nt5 => ?_⟩
        have J5 := J3.new (u := .tup [.int c, .int (j : Int)]) nt5
        have ht5 : (upd H8 t5 (.tup [.int c, .int (j : Int)])) t5 = some (.tup [.int c, .int (j : Int)]) := upd_same
        generalize upd H8 t5 (.tup [.int c, .int (j : Int)]) = H10 at J5 ht5 ⊢
        clear J3 nt5
        refine ⟨t5, _, rfl, SqT.of ht5, rfl, _, _, rfl, ?_⟩
        refine ⟨.ref a, rfl, a, C, dx, p3, _, 3, .ref ds, rfl, J5.slt, Ch.c, Ch.s3, rfl, .int (x : Int), rfl, .int (z : Int), rfl, (by show 2 ≤ sizeLine; decide), fun t6 nt6 => ?_⟩
        have J6 := J5.new (u := .tup [.int (x : Int), .int (z : Int)]) nt6
        have ht6 : (upd H10 t6 (.tup [.int (x : Int), .int (z : Int)])) t6 = some (.tup [.int (x : Int), .int (z : Int)]) := upd_same
        generalize upd H10 t6 (.tup [.int (x : Int), .int (z : Int)]) = H11 at J6 ht6 ⊢
        clear J5 nt6 ht5 H10
        refine ⟨ds, _, rfl, DPut.t (k := k2 x z) J6.hds ht6 (ksz J6.kds), _, _, rfl, ?_⟩
        obtain ⟨n1, n2⟩ := slt_ne J6.slt (fun z => nomatch z) J6.hds
        have sl6 := slt_put (o := .dT (putK kvs (k2 x z) (.int c))) J6.slt n1 n2 (fun z => nomatch z)
        refine ⟨.ref a, rfl, a, C, dx, p0, _, 0, .ref dl, rfl, sl6, Ch.c, Ch.s0, rfl, .int (x : Int), rfl, .int (z : Int), rfl, (by show 2 ≤ sizeLine; decide), fun t7 nt7 => ?_⟩
        have hdl7 : (upd (upd H11 ds (.dT (putK kvs (k2 x z) (.int c)))) t7 (.tup [.int (x : Int), .int (z : Int)])) dl = some (.dT lvs) := by
          rw [upd_ne (ne_of_none (by rw [upd_ne nls]; exact J6.hdl) nt7), upd_ne nls]; exact J6.hdl
        refine ⟨dl, _, rfl, DPut.t (k := k2 x z) hdl7 upd_same (ksz J6.kdl), rfl, ?_⟩
        exact ⟨_, _, _, _, _, _, _, rfl, J6.put hs0 hl0 nls hx hz hBj (fun d q => by rw [e] at q; cases q) nt7⟩
      | some d =>
        refine ⟨false, rfl, ?_⟩
        refine iteF ?_
        refine ⟨.int c, rfl, .ref a, rfl, a, C, dx, p3, _, 3, .ref ds, rfl, J3.slt, Ch.c, Ch.s3, rfl, .int (x : Int), rfl, .int (z : Int), rfl, (by show 2 ≤ sizeLine; decide), fun u1 nu1 => ?_⟩
        have K4 := J3.new (u := .tup [.int (x : Int), .int (z : Int)]) nu1
        have hu1 : (upd H8 u1 (.tup [.int (x : Int), .int (z : Int)])) u1 = some (.tup [.int (x : Int), .int (z : Int)]) := upd_same
        generalize upd H8 u1 (.tup [.int (x : Int), .int (z : Int)]) = G8 at K4 hu1 ⊢
        clear J3 nu1 H8
        refine ⟨ds, .int d, rfl, ?_, c, d, rfl, rfl, _, rfl, ite2 (fun cc => ?_) (fun cc => ?_)⟩
        · have := DGet.t (k := k2 x z) K4.hds hu1
          rw [K4.kds.val, e] at this
          exact this
        · have cc : c < d := of_decide_eq_true cc
          refine ⟨_, rfl, .int (j : Int), rfl, (by show 2 ≤ sizeLine; decide), fun t5 nt5 => ?_⟩
          have J5 := K4.new (u := .tup [.int c, .int (j : Int)]) nt5
          have ht5 : (upd G8 t5 (.tup [.int c, .int (j : Int)])) t5 = some (.tup [.int c, .int (j : Int)]) := upd_same
          generalize upd G8 t5 (.tup [.int c, .int (j : Int)]) = H10 at J5 ht5 ⊢
          clear K4 nt5
          refine ⟨t5, _, rfl, SqT.of ht5, rfl, _, _, rfl, ?_⟩
          refine ⟨.ref a, rfl, a, C, dx, p3, _, 3, .ref ds, rfl, J5.slt, Ch.c, Ch.s3, rfl, .int (x : Int), rfl, .int (z : Int), rfl, (by show 2 ≤ sizeLine; decide), fun t6 nt6 => ?_⟩
          have J6 := J5.new (u := .tup [.int (x : Int), .int (z : Int)]) nt6
          have ht6 : (upd H10 t6 (.tup [.int (x : Int), .int (z : Int)])) t6 = some (.tup [.int (x : Int), .int (z : Int)]) := upd_same
          generalize upd H10 t6 (.tup [.int (x : Int), .int (z : Int)]) = H11 at J6 ht6 ⊢
          clear J5 nt6 ht5 H10
          refine ⟨ds, _, rfl, DPut.t (k := k2 x z) J6.hds ht6 (ksz J6.kds), _, _, rfl, ?_⟩
          obtain ⟨n1, n2⟩ := slt_ne J6.slt (fun z => nomatch z) J6.hds
          have sl6 := slt_put (o := .dT (putK kvs (k2 x z) (.int c))) J6.slt n1 n2 (fun z => nomatch z)
          refine ⟨.ref a, rfl, a, C, dx, p0, _, 0, .ref dl, rfl, sl6, Ch.c, Ch.s0, rfl, .int (x : Int), rfl, .int (z : Int), rfl, (by show 2 ≤ sizeLine; decide), fun t7 nt7 => ?_⟩
          have hdl7 : (upd (upd H11 ds (.dT (putK kvs (k2 x z) (.int c)))) t7 (.tup [.int (x : Int), .int (z : Int)])) dl = some (.dT lvs) := by
            rw [upd_ne (ne_of_none (by rw [upd_ne nls]; exact J6.hdl) nt7), upd_ne nls]; exact J6.hdl
          refine ⟨dl, _, rfl, DPut.t (k := k2 x z) hdl7 upd_same (ksz J6.kdl), rfl, ?_⟩
          exact ⟨_, _, _, _, _, _, _, rfl, J6.put hs0 hl0 nls hx hz hBj (fun d' q => by rw [e] at q; cases q; exact cc) nt7⟩
        · have cc : ¬ c < d := fun q => cc (decide_eq_true q)
          exact ⟨_, _, _, _, _, _, _, rfl, K4.stay hBj e cc⟩
    · have ej : j = xs.length := by omega
      subst ej
      refine .inl ⟨⟨xs, hxs3, rfl⟩, ?_⟩
      rw [hlen] at J
      refine ⟨.ref a, rfl, a, dx, _, rfl, J.slt, .ref b, rfl, ?_⟩
      have hb : Dp K H0 (.ref b) (bdsD B) := hd0
      refine ⟨H0, a, dx, dl, ds, .ref b, n, B, kvs, lvs, L, rfl, hb, ok, J.o, ha0, hx0, ndx, hl0, hs0, nls, J.slt, J.hds, ?_, J.hdl, J.kdl, ?_, q⟩
      · simp only [start0_none]; exact J.kds
      · intro x y; rw [start0_none]; exact J.hL x y
end
end L2.T34

namespace L2.T34
open PySem PySem.Spec PyProof.Rows L2.PL
/-! ### told matrices as data -/
def oD : Option Int → PyData
  | none => .none
  | some i => .int i
def rowD (n : Nat) (f : Nat → Option Int) : PyData := .tuple ((List.range n).map fun y => oD (f y))
def matD (n : Nat) (M : PD.Mx) : PyData := .tuple ((List.range n).map fun x => rowD n (M x))
def TM (M : PD.Mx) : PD.Mx := fun x y => if x = y then some 0 else M x y
theorem oD_only (o : Option Int) : tupOnly (oD o) = true := by cases o <;> rfl
theorem tupOnlyAll_of {ds : List PyData} (h : ∀ d ∈ ds, tupOnly d = true) : tupOnlyAll ds = true := by
  induction ds with
  | nil => rfl
  | cons d ds ih =>
    show (tupOnly d && tupOnlyAll ds) = true
    rw [h d (.head _), ih fun e he => h e (.tail _ he)]; rfl
theorem rowD_only (n : Nat) (f : Nat → Option Int) : tupOnly (rowD n f) = true := tupOnlyAll_of fun d hd => by
  obtain ⟨y, _, rfl⟩ := List.mem_map.mp hd
  exact oD_only _
theorem matD_only (n : Nat) (M : PD.Mx) : tupOnly (matD n M) = true := tupOnlyAll_of fun d hd => by
  obtain ⟨y, _, rfl⟩ := List.mem_map.mp hd
  exact rowD_only _ _
section
variable {K : PySem.W.Frag} {H : Hp}
theorem dp_oD {v : V} {o : Option Int} (h : Dp K H v (oD o)) : v = oV o := by
  cases o with
  | none => cases h; rfl
  | some i => cases h; rfl
theorem oD_dp (o : Option Int) : Dp K H (oV o) (oD o) := by
  cases o with
  | none => exact .non
  | some i => exact .int i
theorem dp_os {n : Nat} {f : Nat → Option Int} {xs : List V} (h : DpAll K H xs ((List.range n).map fun y => oD (f y))) : xs = (List.range n).map fun y => oV (f y) := by
  apply List.ext_getElem?
  intro i
  by_cases hi : i < n
  · obtain ⟨v, e, d⟩ := PL.DpAll.get h (i := i) (d := oD (f i)) (by rw [List.getElem?_map, List.getElem?_range hi]; rfl)
    rw [e, dp_oD d, List.getElem?_map, List.getElem?_range hi]; rfl
  · rw [List.getElem?_eq_none (by rw [PL.DpAll.length h, List.length_map, List.length_range]; omega), List.getElem?_eq_none (by rw [List.length_map, List.length_range]; omega)]
theorem os_dp (n : Nat) (f : Nat → Option Int) : DpAll K H ((List.range n).map fun y => oV (f y)) ((List.range n).map fun y => oD (f y)) := by
  refine PL.DpAll.of (by simp) fun i v d e1 e2 => ?_
  by_cases hi : i < n
  · rw [List.getElem?_map, List.getElem?_range hi] at e1 e2
    cases e1
    cases e2
    exact oD_dp _
  · rw [List.getElem?_eq_none (by rw [List.length_map, List.length_range]; omega)] at e1
    cases e1
theorem row_at {v : V} {n : Nat} {f : Nat → Option Int} (h : Dp K H v (rowD n f)) : ∃ a, v = .ref a ∧ SqT K H a ((List.range n).map fun y => oV (f y)) := by
  obtain ⟨a, xs, e, h1, h2⟩ := dp_tup h
  rw [dp_os h2] at h1
  exact ⟨a, e, h1⟩
theorem row_of {a : Addr} {n : Nat} {f : Nat → Option Int} (h : H a = some (.tup ((List.range n).map fun y => oV (f y)))) : Dp K H (.ref a) (rowD n f) := .tup (SqT.of h) (os_dp n f)
end
/-- what tight tells -/
def TightEnd (K : PySem.W.Frag) (H : Hp) (Q : VK) (n : Nat) (B : List PD.Bd) : Prop :=
  (PD.Feas B → ∀ H' t S, PD.Run n B S n → S 0 = PD.start0 B none → Old [] H H' → Dp K H' (.ref t) (matD n (TM (S n))) → Q (.ref t) H') ∧
  (¬ PD.Feas B → ∀ H', Old [] H H' → Q .non H')
def spTight (K : PySem.W.Frag) : Sp := fun vs H Q _ => ∃ (v : V) (n : Nat) (B : List PD.Bd), vs = [v] ∧ Dp K H v (sysD n B) ∧ SysOk n B ∧ TightEnd K H Q n B
def RowEnd (K : PySem.W.Frag) (H : Hp) (Q : VK) (n : Nat) (B : List PD.Bd) (g : PD.Mx → Nat → Option Int) : Prop :=
  (PD.Feas B → ∀ H' t S, PD.Run n B S n → S 0 = PD.start0 B none → Old [] H H' → Dp K H' (.ref t) (rowD n (g (TM (S n)))) → Q (.ref t) H') ∧
  (¬ PD.Feas B → ∀ H', Old [] H H' → Q .non H')
def lowOf (M : PD.Mx) (y : Nat) : Option Int := (M 0 y).map fun i => -i
def highOf (M : PD.Mx) (x : Nat) : Option Int := M x 0
def spLeast (K : PySem.W.Frag) : Sp := fun vs H Q _ => ∃ (v : V) (n : Nat) (B : List PD.Bd), vs = [v] ∧ Dp K H v (sysD n B) ∧ SysOk n B ∧ RowEnd K H Q n B lowOf
def spGreatest (K : PySem.W.Frag) : Sp := fun vs H Q _ => ∃ (v : V) (n : Nat) (B : List PD.Bd), vs = [v] ∧ Dp K H v (sysD n B) ∧ SysOk n B ∧ RowEnd K H Q n B highOf
section
variable {P : Program} {w : World} {K : PySem.W.Frag} {mg : Str → Option Value} {base : Heap}
abbrev sc1_tight : Scope := relS { kind := .function, names := [(PySem.Str.ofString ".0", .local), (PySem.Str.ofString "x", .cell), (PySem.Str.ofString "tuple", .globalImplicit), (PySem.Str.ofString "range", .globalImplicit), (PySem.Str.ofString "chains", .free), (PySem.Str.ofString "many", .free)], isGenerator := false, isCoroutine := false, more := [] } (defScope (topS 21))
/-! tight: slots system=0 many=1 bounds=2 chains=3 x=4 y=5; cells ['chains', 'many'] -/
abbrev s_tight : Stmt := topS 21
abbrev N_tight : List Str := ["system", "many", "bounds", "chains", "x", "y"]
theorem sc_tight : FnScope N_tight ["system"] (defScope s_tight) := ⟨rfl, rfl, rfl, by decide +kernel, rfl, by decide +kernel, by decide +kernel⟩
theorem ok_tight {f C p0 p1 p2 p3 : Addr} {fd : FuncData} (F : Fun K "tight" "tight" s_tight f fd) (T : Tx mg) (Ch : ChT K C p0 p1 p2 p3) (C_look_at_system : Cal P w K mg base CX0 "look_at_system" ["system"] 4 (spLook K)) (M_Chains : MkC P w K mg base CX0 "Chains" C ["self", "many", "bounds"] 3 (spInit K C)) : FnOk P w K mg base CX0 5 f fd ["system"] (spTight K) := by
  refine F.ok sc_tight (fun vs H Q E h => ?_) (fun cdv A outer s H vs Q E hr h => ?_)
  · obtain ⟨v, n, B, rfl, _⟩ := h
    rfl
  · obtain ⟨v, n, B, rfl, hd, ok, q1, q2⟩ := h
    have hn1 := ok.n1
    have hn2 := ok.n2
    have en : ((n : Int)).toNat = n := by omega
    have hu := hu_of hr
    refine ⟨_, (pss_cons (ps_expr (pe_cal C_look_at_system hr (by rfl) pass0 (pa_cons (pv 0) pa_nil)))
      (pss_cons (ps_asg (pv 0) (pg_tup (by rfl) (pgs_cons (pg_name (i := 1) sc_tight.nd rfl (Or.inr rfl)) (pgs_cons (pg_name (i := 2) sc_tight.nd rfl (Or.inl rfl)) pgs_nil))))
      (pss_cons (ps_set (i := 3) sc_tight.nd rfl (.inr rfl) (pe_makC M_Chains hr (by rfl) pass0 (pa_cons (pv 1) (pa_cons (pv 2) pa_nil))))
      (pss_cons (ps_if (pt_cmpR op_notN (SlX.pe_sl (pv 3)) pe_non (nomark _))
       (pss_one (ps_ret pe_non))
       pss_nil)
      (pss_one (ps_ret (pe_callTy call_tuple_of (by rfl) T.z_tuple bz_tuple (pa_cons (pe_lc (own := [("x", 4)]) (g := gName 4) (tt := tYes) rfl sc_tight.nd (pi_range1 (by rfl) T.z_range (pa_cons (pv 1) pa_nil)) (blkOk_by (N := N_tight) (sc := defScope s_tight) (by decide +kernel)) (fun _ _ _ _ _ => (pg_name (i := 4) sc_tight.nd rfl (Or.inr rfl))) (fun _ _ _ _ _ => pts_nil) (fun _ _ _ _ _ => (pe_callTy (call_tuple_ofK (K := K)) (by rfl) T.z_tuple bz_tuple (pa_cons (pe_lc (own := [("y", 5)]) (g := gName 5) (tt := tYes) rfl sc_tight.nd (pi_range1 (by rfl) T.z_range (pa_cons (pv 1) pa_nil)) (blkOk_by (N := N_tight) (sc := sc1_tight) (by decide +kernel)) (fun _ _ _ _ _ => (pg_name (i := 5) sc_tight.nd rfl (Or.inl rfl))) (fun _ _ _ _ _ => pts_nil) (fun _ _ _ _ _ => (pe_ifExp (pt_cmpR op_eq (pv 4) (pv 5) (nomark _)) pe_int (pe_dget1 hu (pe_slK (K := K) (pv 3)) (pe_tup (pa_cons (pv 4) (pa_cons (pv 5) pa_nil))) ⟨by rfl, by rfl, by rfl, by rfl⟩)))) pa_nil)))) pa_nil)))))))), ?_⟩
    refine ⟨v, rfl, v, n, B, rfl, hd, ok, fun H1 o1 => ?_⟩
    have hd1 : Dp K H1 v (sysD n B) := PL.Dp.keep (o1.tk NoTup.nil) _ _ (sysD_only n B) hd
    obtain ⟨a, b, rfl, ha, hb⟩ := sys_at hd1
    refine ⟨.ref a, rfl, a, _, rfl, ha, rfl, _, _, rfl, _, _, rfl, rfl, ?_⟩
    refine ⟨.int (n : Int), rfl, .ref b, rfl, fun c' dx nc ndx ndc => ?_⟩
    have oM : Old [] H1 (upd (upd H1 dx (.own c')) c' (.ins C dx [])) := (Old.new0 ndx).put0 nc
    refine ⟨H1, c', dx, .ref b, n, B, rfl, hb, ok, oM, nc, ndx, ndc, upd_same, fun fe H2 dl ds kvs S o2 slt hds kds R S0 => ⟨rfl, ?_⟩, fun nf H2 dl ds r o2 slt => ⟨rfl, ?_⟩⟩
    · -- told
      refine ⟨.ref c', rfl, c', C, dx, p2, _, 2, .non, rfl, slt, Ch.c, Ch.s2, rfl, rfl, _, rfl, iteF ?_⟩
      have o02 : Old [] H H2 := o1.trans o2
      have TMv : ∀ x y : Nat, oV (TM (S n) x y) = if x = y then .int 0 else oV (S n x y) := fun x y => by
        unfold TM
        by_cases e : x = y
        · rw [if_pos e, if_pos e]; rfl
        · rw [if_neg e, if_neg e]
      have tk_lst : ∀ {G : Hp} {l : Addr} {xs : List V} {o : HO}, G l = some (.lst xs) → Tk G (upd G l o) := fun hl => Old.tk (W := [_]) ((Old.refl _ _).put (by simp)) (NoTup.one hl)
      refine ⟨.int (n : Int), rfl, (n : Int), rfl, by omega, by omega, fun m nm => ?_⟩
      refine lc_range (lo := 0) (n := ((n : Int)).toNat) (fun i H' => ∃ rs : List V, Old [] H2 H' ∧ H' m = some (.lst rs) ∧ DpAll K H' rs ((List.range i).map fun x => rowD n (TM (S n) x))) ⟨[], Old.new0 nm, upd_same, .nil⟩ ?_ ?_
      · rintro i H3 hi ⟨rs, o3, hm3, hd3⟩
        rw [en] at hi
        rw [Int.zero_add]
        refine ⟨rfl, .int (n : Int), rfl, (n : Int), rfl, by omega, by omega, fun r nr => ?_⟩
        have nmr : m ≠ r := ne_of_none hm3 nr
        refine lc_range (lo := 0) (n := ((n : Int)).toNat) (fun j H' => Old [] H3 H' ∧ H' r = some (.lst ((List.range j).map fun y => oV (TM (S n) i y)))) ⟨Old.new0 nr, upd_same⟩ ?_ ?_
        · rintro j H4 hj ⟨o4, hr4⟩
          rw [en] at hj
          rw [Int.zero_add]
          have hln : ((List.range j).map fun y => oV (TM (S n) i y)).length < sizeLine := by
            rw [List.length_map, List.length_range]; exact Nat.lt_of_lt_of_le (Nat.lt_of_lt_of_le hj hn2) (by decide)
          refine ⟨rfl, .int (i : Int), rfl, .int (j : Int), rfl, rfl, _, rfl, ite2 (fun c => ?_) (fun c => ?_)⟩
          · have e : i = j := by have := of_decide_eq_true c; injection this; omega
            refine ⟨_, hr4, hln, o4.put0 nr, ?_⟩
            rw [upd_same, List.range_succ, List.map_append]
            show _ = some (HO.lst (_ ++ [oV (TM (S n) i j)]))
            rw [TMv, if_pos e]
          · have e : i ≠ j := fun z => c (by subst z; simp)
            have o24 : Old [] H2 H4 := o3.trans o4
            refine ⟨.ref c', rfl, c', C, dx, p3, _, 3, .ref ds, rfl, Slt.same o24.same slt, Ch.c, Ch.s3, rfl, ds, rfl, .inr ⟨kvs, .inl (o24 _ _ (by simp) hds)⟩, .int (i : Int), rfl, .int (j : Int), rfl, (by show 2 ≤ sizeLine; decide), fun p np => ?_⟩
            refine ⟨_, DGet.t (k := k2 i j) ((o24.new np) _ _ (by simp) hds) upd_same, ?_⟩
            rw [kds.val]
            have nrp : r ≠ p := ne_of_none hr4 np
            refine ⟨_, by rw [upd_ne nrp]; exact hr4, hln, (o4.new np).put0 nr, ?_⟩
            rw [upd_same, List.range_succ, List.map_append]
            show _ = some (HO.lst (_ ++ [oV (TM (S n) i j)]))
            rw [TMv, if_neg e]
            cases S n i j <;> rfl
        · rintro H4 ⟨o4, hr4⟩
          rw [en] at hr4
          refine ⟨r, _, rfl, .inl ⟨SqL.of hr4, fun t nt => ?_⟩⟩
          have hm4 : H4 m = some (.lst rs) := o4 _ _ (by simp) hm3
          have nmt : m ≠ t := ne_of_none hm4 nt
          have hl : rs.length = i := by rw [PL.DpAll.length hd3, List.length_map, List.length_range]
          have tA : Tk H3 (upd H4 t (.tup ((List.range n).map fun y => oV (TM (S n) i y)))) := (o4.new nt).tk NoTup.nil
          have hm5 : (upd H4 t (.tup ((List.range n).map fun y => oV (TM (S n) i y)))) m = some (.lst rs) := by rw [upd_ne nmt]; exact hm4
          have tB : Tk (upd H4 t (.tup ((List.range n).map fun y => oV (TM (S n) i y)))) (upd (upd H4 t (.tup ((List.range n).map fun y => oV (TM (S n) i y)))) m (.lst (rs ++ [.ref t]))) := tk_lst hm5
          refine ⟨_, hm5, by rw [hl]; exact Nat.lt_of_lt_of_le (Nat.lt_of_lt_of_le hi hn2) (by decide), _, ((o3.trans o4).new nt).put0 nm, upd_same, ?_⟩
          rw [List.range_succ, List.map_append]
          have only : tupOnlyAll ((List.range i).map fun x => rowD n (TM (S n) x)) = true := tupOnlyAll_of fun d hd => by
            obtain ⟨y, _, rfl⟩ := List.mem_map.mp hd
            exact rowD_only _ _
          refine PL.DpAll.append (PL.Dp.keepAll (tA.trans tB) _ _ only hd3) (.cons (PL.Dp.keep tB _ _ (rowD_only _ _) (row_of upd_same)) .nil)
      · rintro H3 ⟨rs, o3, hm3, hd3⟩
        rw [en] at hd3
        refine ⟨m, rs, rfl, .inl ⟨SqL.of hm3, fun t nt => ?_⟩⟩
        refine q1 fe _ t S R S0 ((o02.trans o3).new nt) ?_
        have only : tupOnlyAll ((List.range n).map fun x => rowD n (TM (S n) x)) = true := matD_only n (TM (S n))
        exact .tup (SqT.of upd_same) (PL.Dp.keepAll ((Old.new0 nt).tk NoTup.nil) _ _ only hd3)
    · refine ⟨.ref c', rfl, c', C, dx, p2, _, 2, .ref r, rfl, slt, Ch.c, Ch.s2, rfl, rfl, _, rfl, iteT ?_⟩
      exact q2 nf H2 (o1.trans o2)
/-! least: slots system=0 told=1 number=2; cells [] -/
abbrev s_least : Stmt := topS 22
abbrev N_least : List Str := ["system", "told", "number"]
theorem sc_least : FnScope N_least ["system"] (defScope s_least) := ⟨rfl, rfl, rfl, by decide +kernel, rfl, by decide +kernel, by decide +kernel⟩
theorem ok_least {f : Addr} {fd : FuncData} (F : Fun K "least" "least" s_least f fd) (T : Tx mg) (C_tight : Cal P w K mg base CX0 "tight" ["system"] 5 (spTight K)) : FnOk P w K mg base CX0 6 f fd ["system"] (spLeast K) := by
  refine F.ok sc_least (fun vs H Q E h => ?_) (fun cdv A outer s H vs Q E hr h => ?_)
  · obtain ⟨v, n, B, rfl, _⟩ := h
    rfl
  · obtain ⟨v, n, B, rfl, hd, ok, q1, q2⟩ := h
    have hn1 := ok.n1
    have hn2 := ok.n2
    refine ⟨_, (pss_cons (ps_set (i := 1) sc_least.nd rfl (.inl rfl) (pe_cal C_tight hr (by rfl) pass0 (pa_cons (pv 0) pa_nil)))
      (pss_cons (ps_if (pt_cmpR op_isN (pv 1) pe_non (nomark _))
       (pss_one (ps_ret pe_non))
       pss_nil)
      (pss_one (ps_ret (pe_callTy call_tuple_of (by rfl) T.z_tuple bz_tuple (pa_cons (pe_lc (own := [("number", 2)]) (g := gName 2) (tt := tYes) rfl sc_least.nd (pi_tup (pe_ix ix_tup (pv 1) pe_int (fun _ _ => rfl))) (blkOk_by (N := N_least) (sc := defScope s_least) (by decide +kernel)) (fun _ _ _ _ _ => (pg_name (i := 2) sc_least.nd rfl (Or.inl rfl))) (fun _ _ _ _ _ => pts_nil) (fun _ _ _ _ _ => (pe_ifExp (pt_cmpR op_isN (pv 2) pe_non (nomark _)) pe_non (pe_un un_neg (pv 2))))) pa_nil)))))), ?_⟩
    refine ⟨v, rfl, v, n, B, rfl, hd, ok, fun fe H1 t S R S0 o1 ht => ?_, fun nf H1 o1 => ?_⟩
    · refine ⟨.ref t, rfl, rfl, _, rfl, iteF ?_⟩
      obtain ⟨t', xs, e, ht1, ht2⟩ := dp_tup ht
      cases e
      obtain ⟨v0, e0, d0⟩ := PL.DpAll.get ht2 (i := 0) (d := rowD n (TM (S n) 0)) (by rw [List.getElem?_map, List.getElem?_range (by omega)]; rfl)
      obtain ⟨r, rfl, hr1⟩ := row_at d0
      refine ⟨.ref t, rfl, t, _, 0, .ref r, rfl, rfl, ht1, atI_nat (j := 0) e0, ?_⟩
      refine ⟨r, rfl, ⟨_, hr1⟩, fun D nD => ?_⟩
      refine lc_tup (K := K) (a := r) (xs := (List.range n).map fun y => oV (TM (S n) 0 y)) (fun i H' => Old [] H1 H' ∧ H' D = some (.lst ((List.range i).map fun y => oV (lowOf (TM (S n)) y)))) ⟨Old.new0 nD, upd_same⟩ (fun i H' _ h => (h.1.tk NoTup.nil).seq hr1) ?_ ?_
      · rintro i y H3 hy ⟨o3, hD3⟩
        have hi : i < n := by have := (List.getElem?_eq_some_iff.mp hy).1; rw [List.length_map, List.length_range] at this; exact this
        rw [List.getElem?_map, List.getElem?_range hi] at hy
        have ey : y = oV (TM (S n) 0 i) := (Option.some.inj hy).symm
        subst ey
        have hln : ((List.range i).map fun y => oV (lowOf (TM (S n)) y)).length < sizeLine := by
          rw [List.length_map, List.length_range]; exact Nat.lt_of_lt_of_le (Nat.lt_of_lt_of_le hi hn2) (by decide)
        have fin : ∀ v, v = oV (lowOf (TM (S n)) i) → Old [] H1 (upd H3 D (.lst (((List.range i).map fun y => oV (lowOf (TM (S n)) y)) ++ [v]))) ∧ (upd H3 D (.lst (((List.range i).map fun y => oV (lowOf (TM (S n)) y)) ++ [v]))) D = some (.lst ((List.range (i + 1)).map fun y => oV (lowOf (TM (S n)) y))) := fun v e => by
          refine ⟨o3.put0 nD, ?_⟩
          rw [upd_same, List.range_succ, List.map_append, e]; rfl
        refine ⟨rfl, _, rfl, rfl, ?_⟩
        cases e : TM (S n) 0 i with
        | none =>
          refine ⟨true, rfl, iteT ?_⟩
          exact ⟨_, hD3, hln, fin _ (by unfold lowOf; rw [e]; rfl)⟩
        | some d =>
          refine ⟨false, rfl, iteF ?_⟩
          exact ⟨.int d, rfl, d, rfl, _, hD3, hln, fin _ (by unfold lowOf; rw [e]; rfl)⟩
      · rintro H3 ⟨o3, hD3⟩
        rw [List.length_map, List.length_range] at hD3
        refine ⟨D, _, rfl, .inl ⟨SqL.of hD3, fun u nu => ?_⟩⟩
        exact q1 fe _ u S R S0 ((o1.trans o3).new nu) (row_of upd_same)
    · refine ⟨.non, rfl, rfl, _, rfl, iteT ?_⟩
      exact q2 nf H1 o1
/-! greatest: slots system=0 told=1 row=2; cells [] -/
abbrev s_greatest : Stmt := topS 23
abbrev N_greatest : List Str := ["system", "told", "row"]
theorem sc_greatest : FnScope N_greatest ["system"] (defScope s_greatest) := ⟨rfl, rfl, rfl, by decide +kernel, rfl, by decide +kernel, by decide +kernel⟩
theorem ok_greatest {f : Addr} {fd : FuncData} (F : Fun K "greatest" "greatest" s_greatest f fd) (T : Tx mg) (C_tight : Cal P w K mg base CX0 "tight" ["system"] 5 (spTight K)) : FnOk P w K mg base CX0 6 f fd ["system"] (spGreatest K) := by
  refine F.ok sc_greatest (fun vs H Q E h => ?_) (fun cdv A outer s H vs Q E hr h => ?_)
  · obtain ⟨v, n, B, rfl, _⟩ := h
    rfl
  · obtain ⟨v, n, B, rfl, hd, ok, q1, q2⟩ := h
    have hn1 := ok.n1
    have hn2 := ok.n2
    refine ⟨_, (pss_cons (ps_set (i := 1) sc_greatest.nd rfl (.inl rfl) (pe_cal C_tight hr (by rfl) pass0 (pa_cons (pv 0) pa_nil)))
      (pss_one (ps_ret (pe_ifExp (pt_cmpR op_isN (pv 1) pe_non (nomark _)) pe_non (pe_callTy call_tuple_of (by rfl) T.z_tuple bz_tuple (pa_cons (pe_lc (own := [("row", 2)]) (g := gName 2) (tt := tYes) rfl sc_greatest.nd (pi_tup (pv 1)) (blkOk_by (N := N_greatest) (sc := defScope s_greatest) (by decide +kernel)) (fun _ _ _ _ _ => (pg_name (i := 2) sc_greatest.nd rfl (Or.inl rfl))) (fun _ _ _ _ _ => pts_nil) (fun _ _ _ _ _ => (pe_ix (ix_tupK (K := K)) (pv 2) pe_int (fun _ _ => rfl)))) pa_nil)))))), ?_⟩
    refine ⟨v, rfl, v, n, B, rfl, hd, ok, fun fe H1 t S R S0 o1 ht => ?_, fun nf H1 o1 => ?_⟩
    · refine ⟨.ref t, rfl, rfl, _, rfl, iteF ?_⟩
      obtain ⟨t', xs, e, ht1, ht2⟩ := dp_tup ht
      cases e
      refine ⟨.ref t, rfl, t, rfl, ⟨_, ht1⟩, fun D nD => ?_⟩
      refine lc_tup (K := K) (a := t) (xs := xs) (fun i H' => Old [] H1 H' ∧ H' D = some (.lst ((List.range i).map fun y => oV (highOf (TM (S n)) y)))) ⟨Old.new0 nD, upd_same⟩ (fun i H' _ h => (h.1.tk NoTup.nil).seq ht1) ?_ ?_
      · rintro i y H3 hy ⟨o3, hD3⟩
        have hl := PL.DpAll.length ht2
        rw [List.length_map, List.length_range] at hl
        have hi : i < n := by have := (List.getElem?_eq_some_iff.mp hy).1; omega
        obtain ⟨v0, e0, d0⟩ := PL.DpAll.get ht2 (i := i) (d := rowD n (TM (S n) i)) (by rw [List.getElem?_map, List.getElem?_range hi]; rfl)
        rw [hy] at e0
        cases e0
        obtain ⟨r, rfl, hr1⟩ := row_at d0
        have hln : ((List.range i).map fun y => oV (highOf (TM (S n)) y)).length < sizeLine := by
          rw [List.length_map, List.length_range]; exact Nat.lt_of_lt_of_le (Nat.lt_of_lt_of_le hi hn2) (by decide)
        refine ⟨rfl, .ref r, rfl, r, _, 0, oV (TM (S n) i 0), rfl, rfl, (o3.tk NoTup.nil).seq hr1, atI_nat (j := 0) (by rw [List.getElem?_map, List.getElem?_range (by omega)]; rfl), _, hD3, hln, o3.put0 nD, ?_⟩
        rw [upd_same, List.range_succ, List.map_append]; rfl
      · rintro H3 ⟨o3, hD3⟩
        rw [PL.DpAll.length ht2, List.length_map, List.length_range] at hD3
        refine ⟨D, _, rfl, .inl ⟨SqL.of hD3, fun u nu => ?_⟩⟩
        exact q1 fe _ u S R S0 ((o1.trans o3).new nu) (row_of upd_same)
    · refine ⟨.non, rfl, rfl, _, rfl, iteT ?_⟩
      exact q2 nf H1 o1
end
end L2.T34

namespace L2.T34
open PySem PySem.Spec PyProof.Rows L2.PL
/-! ### are_values -/
def fnOf0 (ns : List Int) : Nat → Int := fun x => ns.getD x 0
def spAreValues (K : PySem.W.Frag) : Sp := fun vs H Q _ => ∃ (v : V) (t : Addr) (n : Nat) (B : List PD.Bd) (ns : List Int), vs = [v, .ref t] ∧ Dp K H v (sysD n B) ∧ SysOk n B ∧ SqT K H t (ns.map V.int) ∧ ns.length = n ∧ ns[0]? = some 0 ∧ PD.Vals B (fnOf0 ns) ∧
  ∀ H', Old [] H H' → Q (.bl true) H'
section
variable {P : Program} {w : World} {K : PySem.W.Frag} {mg : Str → Option Value} {base : Heap}
/-! _law_are_values: slots system=0 value=1 many=2 bounds=3 one=4 x=5 y=6 c=7; cells ['value'] -/
abbrev s_l_are_values : Stmt := topS 31
abbrev N_l_are_values : List Str := ["system", "value", "many", "bounds", "one", "x", "y", "c"]
theorem sc_l_are_values : FnScope N_l_are_values ["system", "value"] (defScope s_l_are_values) := ⟨rfl, rfl, rfl, by decide +kernel, rfl, by decide +kernel, by decide +kernel⟩
theorem ok_are_values {f : Addr} {fd : FuncData} (F : Fun K "_law_are_values" "_law_are_values" s_l_are_values f fd) (T : Tx mg) : FnOk P w K mg base CX0 1 f fd ["system", "value"] (spAreValues K) := by
  refine F.ok sc_l_are_values (fun vs H Q E h => ?_) (fun cdv A outer s H vs Q E hr h => ?_)
  · obtain ⟨v, t, n, B, ns, rfl, _⟩ := h
    rfl
  · obtain ⟨v, t, n, B, ns, rfl, hd, ok, ht, hl, h0, hv, q⟩ := h
    obtain ⟨a, b, rfl, ha, hb⟩ := sys_at hd
    obtain ⟨b', xs, eb, hxs, hlen, hget⟩ := bds_at hb
    cases eb
    refine ⟨_, (pss_cons (ps_asg (pv 0) (pg_tup (by rfl) (pgs_cons (pg_name (i := 2) sc_l_are_values.nd rfl (Or.inl rfl)) (pgs_cons (pg_name (i := 3) sc_l_are_values.nd rfl (Or.inl rfl)) pgs_nil))))
      (pss_cons (ps_if (PW.pt (pw_or (pt_not (pt_val (pe_callB call_isi (by rfl) T.z_isinstance bz_isinstance (pa_cons (pv 1) (pa_cons (pe_bltn (v := .ty "tuple") (by rfl) T.z_tuple bz_tuple rfl) pa_nil))))) (pw_or1 (pt_cmpR op_ne (pe_callB call_len_seq (by rfl) T.z_len bz_len (pa_cons (pv 1) pa_nil)) (pv 2) (nomark _)))))
       (pss_one (ps_ret pe_bl))
       pss_nil)
      (pss_cons (ps_if (PW.pt (pw_or (pt_not (pt_val (pe_callB (cr_all rfl) (by rfl) T.z_all bz_all (pa_cons (pe_lc (own := [("one", 4)]) (g := gName 4) (tt := tYes) rfl sc_l_are_values.nd (pi_tup (pv 1)) (blkOk_by (N := N_l_are_values) (sc := defScope s_l_are_values) (by decide +kernel)) (fun _ _ _ _ _ => (pg_name (i := 4) sc_l_are_values.nd rfl (Or.inl rfl))) (fun _ _ _ _ _ => pts_nil) (fun _ _ _ _ _ => (pe_and (pe_callB (call_isiK2 (K := K)) (by rfl) T.z_isinstance bz_isinstance (pa_cons (pv 4) (pa_cons (pe_bltn (v := .ty "int") (by rfl) T.z_int bz_int rfl) pa_nil))) (pe_one (pe_not (pe_callB (call_isiK2 (K := K)) (by rfl) T.z_isinstance bz_isinstance (pa_cons (pv 4) (pa_cons (pe_bltn (v := .ty "bool") (by rfl) T.z_bool bz_bool rfl) pa_nil)))))))) pa_nil)))) (pw_or1 (pt_cmpR op_ne (pe_ix ix_tup (pv 1) pe_int (fun _ _ => rfl)) pe_int (nomark _)))))
       (pss_one (ps_ret pe_bl))
       pss_nil)
      (pss_one (ps_ret (pe_callB (cr_all rfl) (by rfl) T.z_all bz_all (pa_cons (pe_lc (own := [("x", 5), ("y", 6), ("c", 7)]) (g := gTup K 3 (gCons (gName 5) (gCons (gName 6) (gCons (gName 7) gNil)))) (tt := tYes) rfl sc_l_are_values.nd (pi_tup (pv 3)) (blkOk_by (N := N_l_are_values) (sc := defScope s_l_are_values) (by decide +kernel)) (fun _ _ _ _ _ => (pg_tup (by rfl) (pgs_cons (pg_name (i := 5) sc_l_are_values.nd rfl (Or.inl rfl)) (pgs_cons (pg_name (i := 6) sc_l_are_values.nd rfl (Or.inl rfl)) (pgs_cons (pg_name (i := 7) sc_l_are_values.nd rfl (Or.inl rfl)) pgs_nil))))) (fun _ _ _ _ _ => pts_nil) (fun _ _ _ _ _ => (pe_cmpR op_le (pe_op op_sub (pe_ix (ix_tupK (K := K)) (pv 1) (pv 5) (fun _ _ => rfl)) (pe_ix (ix_tupK (K := K)) (pv 1) (pv 6) (fun _ _ => rfl))) (pv 7) (nomark _)))) pa_nil))))))), ?_⟩
    refine ⟨.ref a, rfl, a, _, rfl, ha, rfl, .int (n : Int), _, rfl, .ref b, _, rfl, rfl, ?_⟩
    refine ⟨.ref t, rfl, .ref t, .ty "tuple", _, _, true, rfl, .ty _, tyx_tup ht, kit_tup_tup, true, rfl, iteF ?_⟩
    refine ⟨.ref t, rfl, t, _, rfl, .inr ht, .int (n : Int), rfl, rfl, _, rfl, ?_⟩
    rw [show (!decide (V.int (((ns.map V.int).length : Nat) : Int) = V.int (n : Int))) = false by rw [List.length_map, hl]; simp]
    refine iteF ?_
    refine ⟨.ref t, rfl, t, rfl, ⟨_, ht⟩, fun D hD => ?_⟩
    refine lc_tup (K := K) (a := t) (xs := ns.map V.int) (fun i H' => Old [] H H' ∧ H' D = some (.lst (List.replicate i (V.bl true)))) ⟨Old.new0 hD, upd_same⟩ (fun i H' _ h => (h.1.tk NoTup.nil).seq ht) ?_ ?_
    · rintro i y H' hy ⟨o, hDl⟩
      have hi : i < ns.length := by have := (List.getElem?_eq_some_iff.mp hy).1; rw [List.length_map] at this; exact this
      rw [List.getElem?_map, List.getElem?_eq_getElem hi] at hy
      cases hy
      refine ⟨rfl, .int ns[i], rfl, .int ns[i], .ty "int", _, _, true, rfl, .ty _, tyx_int _, kit_int_int, true, rfl, iteT ?_⟩
      refine ⟨.int ns[i], rfl, .int ns[i], .ty "bool", _, _, false, rfl, .ty _, tyx_int _, kit_int_bool, false, rfl, _, hDl, ?_, o.put0 hD, ?_⟩
      · rw [List.length_replicate]
        have := ok.n2
        exact Nat.lt_of_lt_of_le (Nat.lt_of_lt_of_le hi (by rw [hl]; exact this)) (by decide)
      · rw [upd_same, List.replicate_succ']; rfl
    · rintro H1 ⟨o, hDl⟩
      refine ⟨D, List.replicate (ns.map V.int).length true, rfl, SqL.of (by rw [hDl, List.map_replicate]), true, by simp, iteF ?_⟩
      have ht1 : SqT K H1 t (ns.map V.int) := (o.tk NoTup.nil).seq ht
      have hxs1 : SqT K H1 b xs := (o.tk NoTup.nil).seq hxs
      refine ⟨.ref t, rfl, t, _, 0, .int 0, rfl, rfl, ht1, ?_, rfl, _, rfl, iteF ?_⟩
      · exact atI_nat (j := 0) (by rw [List.getElem?_map, h0]; rfl)
      refine ⟨.ref b, rfl, b, rfl, ⟨_, hxs1⟩, fun D2 hD2 => ?_⟩
      refine lc_tup (K := K) (a := b) (xs := xs) (fun i H' => Old [] H H' ∧ H' D2 = some (.lst (List.replicate i (V.bl true)))) ⟨o.new hD2, upd_same⟩ (fun i H' _ h => (h.1.tk NoTup.nil).seq hxs) ?_ ?_
      · rintro i y H' hy ⟨o2, hDl2⟩
        have hD20 : H D2 = none := o.free hD2 (by simp)
        have hi : i < B.length := by rw [← hlen]; exact (List.getElem?_eq_some_iff.mp hy).1
        obtain ⟨r, hr1, hr2⟩ := hget i _ (List.getElem?_eq_getElem hi)
        rw [hy] at hr1
        cases hr1
        have hm : B[i] ∈ B := List.getElem_mem hi
        have hxy := ok.ix _ hm
        have ht2 : SqT K H' t (ns.map V.int) := (o2.tk NoTup.nil).seq ht
        have at_ : ∀ x : Nat, x < n → atI (ns.map V.int) (x : Int) = some (.int (fnOf0 ns x)) := fun x hx => atI_nat (by
          have hx' : x < ns.length := by omega
          rw [List.getElem?_map, List.getElem?_eq_getElem hx', fnOf0, List.getD_eq_getElem?_getD, List.getElem?_eq_getElem hx']
          rfl)
        refine ⟨r, _, rfl, (o2.tk NoTup.nil).seq hr2, rfl, _, _, rfl, _, _, rfl, _, _, rfl, rfl, rfl, ?_⟩
        refine ⟨.ref t, rfl, .int (B[i].1 : Int), rfl, t, _, _, _, rfl, rfl, ht2, at_ _ hxy.1, .ref t, rfl, .int (B[i].2.1 : Int), rfl, t, _, _, _, rfl, rfl, ht2, at_ _ hxy.2, _, _, rfl, rfl, .int B[i].2.2, rfl, _, _, rfl, rfl, _, hDl2, ?_, o2.put0 hD20, ?_⟩
        · rw [List.length_replicate]; exact Nat.lt_of_lt_of_le (Nat.lt_of_lt_of_le hi ok.len) (by decide)
        · rw [upd_same, List.replicate_succ']
          have := hv _ hm
          dsimp only
          rw [decide_eq_true this]
      · rintro H2 ⟨o2, hDl2⟩
        refine ⟨D2, List.replicate xs.length true, rfl, SqL.of (by rw [hDl2, List.map_replicate]), ?_⟩
        have : (List.replicate xs.length true).all id = true := by simp
        rw [this]
        exact q H2 o2
end
end L2.T34

namespace L2.T34
open PySem PySem.Spec PyProof.Rows L2.PL
def spSums (K : PySem.W.Frag) : Sp := fun vs H Q _ => ∃ (v : V) (n : Nat) (B : List PD.Bd), vs = [.int (n : Int), v] ∧ Dp K H v (bdsD B) ∧ SysOk n B ∧
  (∀ S H', PD.Run n B S n → S 0 = PD.start0 B (some 0) → (∃ x, x < n ∧ ¬ PD.Non (S n x x)) → Old [] H H' → Q .non H') ∧
  (∀ S H' m rs, PD.Run n B S n → S 0 = PD.start0 B (some 0) → (∀ x, x < n → PD.Non (S n x x)) → Old [] H H' → MxAt H H' m rs n (S n) → Q (.ref m) H')
/-- the scope of the outer comprehension as it runs -/
abbrev sc1_l_sums : Scope := relS { kind := .function, names := [(PySem.Str.ofString ".0", .local), (PySem.Str.ofString "x", .cell), (PySem.Str.ofString "range", .globalImplicit), (PySem.Str.ofString "many", .free)], isGenerator := false, isCoroutine := false, more := [] } (defScope (topS 29))
/-- the first i bounds told -/
def M0 (B : List PD.Bd) (i : Nat) : PD.Mx := fun x y => PD.omin (if x = y then some 0 else none) (PD.minTo B x y i)
theorem M0_step {B : List PD.Bd} {i x y : Nat} {c : Int} (h : B[i]? = some (x, y, c)) : ∀ a b, M0 B (i + 1) a b = if a = x ∧ b = y then PD.omin (M0 B i x y) (some c) else M0 B i a b := by
  intro a b
  unfold M0
  show PD.omin _ (match B[i]? with | none => PD.minTo B a b i | some e => if e.1 = a ∧ e.2.1 = b then PD.omin (PD.minTo B a b i) (some e.2.2) else PD.minTo B a b i) = _
  rw [h]
  show PD.omin _ (if x = a ∧ y = b then PD.omin (PD.minTo B a b i) (some c) else PD.minTo B a b i) = _
  by_cases e : a = x ∧ b = y
  · obtain ⟨rfl, rfl⟩ := e
    rw [if_pos (show a = a ∧ b = b from ⟨rfl, rfl⟩), if_pos (show a = a ∧ b = b from ⟨rfl, rfl⟩), PD.omin_assoc]
  · rw [if_neg e, if_neg (show ¬ (x = a ∧ y = b) from fun z => e ⟨z.1.symm, z.2.symm⟩)]
theorem oV_none {o : Option Int} (h : oV o = .non) : o = none := by
  cases o with
  | none => rfl
  | some i => cases h
section
variable {P : Program} {w : World} {K : PySem.W.Frag} {mg : Str → Option Value} {base : Heap}
/-! _law_sums: slots many=0 bounds=1 sums=2 x=3 y=4 c=5 middle=6 total=7; cells ['many', 'sums'] -/
abbrev s_l_sums : Stmt := topS 29
abbrev N_l_sums : List Str := ["many", "bounds", "sums", "x", "y", "c", "middle", "total"]
theorem sc_l_sums : FnScope N_l_sums ["many", "bounds"] (defScope s_l_sums) := ⟨rfl, rfl, rfl, by decide +kernel, rfl, by decide +kernel, by decide +kernel⟩
theorem ok_sums {f : Addr} {fd : FuncData} (F : Fun K "_law_sums" "_law_sums" s_l_sums f fd) (T : Tx mg) : FnOk P w K mg base CX0 1 f fd ["many", "bounds"] (spSums K) := by
  refine F.ok sc_l_sums (fun vs H Q E h => ?_) (fun cdv A outer s H vs Q E hr h => ?_)
  · obtain ⟨v, n, B, rfl, _⟩ := h
    rfl
  · obtain ⟨v, n, B, rfl, hb, ok, q1, q2⟩ := h
    obtain ⟨b, xs, rfl, hxs, hlen, hget⟩ := bds_at hb
    have hn2 := ok.n2
    refine ⟨_, (pss_cons (ps_set (i := 2) sc_l_sums.nd rfl (.inr rfl) (pe_lc (own := [("x", 3)]) (g := gName 3) (tt := tYes) rfl sc_l_sums.nd (pi_range1 (by rfl) T.z_range (pa_cons (pv 0) pa_nil)) (blkOk_by (N := N_l_sums) (sc := defScope s_l_sums) (by decide +kernel)) (fun _ _ _ _ _ => (pg_name (i := 3) sc_l_sums.nd rfl (Or.inr rfl))) (fun _ _ _ _ _ => pts_nil) (fun _ _ _ _ _ => (pe_lc (own := [("y", 4)]) (g := gName 4) (tt := tYes) rfl sc_l_sums.nd (pi_range1 (by rfl) T.z_range (pa_cons (pv 0) pa_nil)) (blkOk_by (N := N_l_sums) (sc := sc1_l_sums) (by decide +kernel)) (fun _ _ _ _ _ => (pg_name (i := 4) sc_l_sums.nd rfl (Or.inl rfl))) (fun _ _ _ _ _ => pts_nil) (fun _ _ _ _ _ => (pe_ifExp (pt_cmpR op_eq (pv 3) (pv 4) (nomark _)) pe_int pe_non))))))
      (pss_cons (ps_for PassesOwn.never rfl (pi_tup (pv 1)) (pg_tup (by rfl) (pgs_cons (pg_name (i := 3) sc_l_sums.nd rfl (Or.inl rfl)) (pgs_cons (pg_name (i := 4) sc_l_sums.nd rfl (Or.inl rfl)) (pgs_cons (pg_name (i := 5) sc_l_sums.nd rfl (Or.inl rfl)) pgs_nil))))
       (pss_one (ps_if (PW.pt (pw_or (pt_cmpR op_isN (pe_ix ix_list (pe_ix ix_list (pv 2) (pv 3) (fun _ _ => rfl)) (pv 4) (fun _ _ => rfl)) pe_non (nomark _)) (pw_or1 (pt_cmpR op_lt (pv 5) (pe_ix ix_list (pe_ix ix_list (pv 2) (pv 3) (fun _ _ => rfl)) (pv 4) (fun _ _ => rfl)) (nomark _)))))
         (pss_one (ps_asg (pv 5) (pg_sub (pe_ix ix_list (pv 2) (pv 3) (fun _ _ => rfl)) (pv 4) set_list)))
         pss_nil)))
      (pss_cons (ps_for PassesOwn.never rfl (pi_range1 (by rfl) T.z_range (pa_cons (pv 0) pa_nil)) (pg_name (i := 6) sc_l_sums.nd rfl (Or.inl rfl))
       (pss_one (ps_for PassesOwn.never rfl (pi_range1 (by rfl) T.z_range (pa_cons (pv 0) pa_nil)) (pg_name (i := 3) sc_l_sums.nd rfl (Or.inl rfl))
         (pss_one (ps_for PassesOwn.never rfl (pi_range1 (by rfl) T.z_range (pa_cons (pv 0) pa_nil)) (pg_name (i := 4) sc_l_sums.nd rfl (Or.inl rfl))
           (pss_one (ps_if (PW.pt (pw_and (pt_cmpR op_notN (pe_ix ix_list (pe_ix ix_list (pv 2) (pv 3) (fun _ _ => rfl)) (pv 6) (fun _ _ => rfl)) pe_non (nomark _)) (pw_and1 (pt_cmpR op_notN (pe_ix ix_list (pe_ix ix_list (pv 2) (pv 6) (fun _ _ => rfl)) (pv 4) (fun _ _ => rfl)) pe_non (nomark _)))))
             (pss_cons (ps_set (i := 7) sc_l_sums.nd rfl (.inl rfl) (pe_op op_add (pe_ix ix_list (pe_ix ix_list (pv 2) (pv 3) (fun _ _ => rfl)) (pv 6) (fun _ _ => rfl)) (pe_ix ix_list (pe_ix ix_list (pv 2) (pv 6) (fun _ _ => rfl)) (pv 4) (fun _ _ => rfl))))
              (pss_one (ps_asg (pe_ifExp (pt_cmpR op_isN (pe_ix ix_list (pe_ix ix_list (pv 2) (pv 3) (fun _ _ => rfl)) (pv 4) (fun _ _ => rfl)) pe_non (nomark _)) (pv 7) (pe_callB (call_min2 rfl) (by rfl) T.z_min bz_min (pa_cons (pv 7) (pa_cons (pe_ix ix_list (pe_ix ix_list (pv 2) (pv 3) (fun _ _ => rfl)) (pv 4) (fun _ _ => rfl)) pa_nil)))) (pg_sub (pe_ix ix_list (pv 2) (pv 3) (fun _ _ => rfl)) (pv 4) set_list))))
             pss_nil)))))))
      (pss_one (ps_ret (pe_ifExp (pt_val (pe_callB (cr_all rfl) (by rfl) T.z_all bz_all (pa_cons (pe_lc (own := [("x", 3)]) (g := gName 3) (tt := tYes) rfl sc_l_sums.nd (pi_range1 (by rfl) T.z_range (pa_cons (pv 0) pa_nil)) (blkOk_by (N := N_l_sums) (sc := defScope s_l_sums) (by decide +kernel)) (fun _ _ _ _ _ => (pg_name (i := 3) sc_l_sums.nd rfl (Or.inl rfl))) (fun _ _ _ _ _ => pts_nil) (fun _ _ _ _ _ => (pe_cmpR op_ge (pe_ix (ix_listK (K := K)) (pe_ix (ix_listK (K := K)) (pv 2) (pv 3) (fun _ _ => rfl)) (pv 3) (fun _ _ => rfl)) pe_int (nomark _)))) pa_nil))) (pv 2) pe_non)))))), ?_⟩
    refine ⟨.int (n : Int), rfl, (n : Int), rfl, by omega, by omega, fun m hm => ?_⟩
    have en : ((n : Int)).toNat = n := by omega
    refine lc_range (lo := 0) (n := ((n : Int)).toNat) (fun i H' => ∃ rs : List Addr, Old [] H H' ∧ rs.length = i ∧ rs.Nodup ∧ (∀ r ∈ rs, H r = none ∧ r ≠ m) ∧ H' m = some (.lst (rs.map V.ref)) ∧ ∀ (j : Nat) r, rs[j]? = some r → H' r = some (.lst (rowV n (M0 B 0) j)))
      ⟨[], Old.new0 hm, rfl, List.nodup_nil, fun r hr => by simp at hr, upd_same, fun j r e => by simp at e⟩ ?_ ?_
    · rintro i H1 hi ⟨rs, o, hl, nd, hr0, htop, hrow⟩
      rw [en] at hi
      -- a row
      refine ⟨rfl, .int (n : Int), rfl, (n : Int), rfl, by omega, by omega, fun r hr => ?_⟩
      have nmr : m ≠ r := ne_of_none htop hr
      refine lc_range (lo := 0) (n := ((n : Int)).toNat) (fun j H' => Old [] H1 H' ∧ H' r = some (.lst ((List.range j).map fun y => oV (M0 B 0 i y)))) ⟨Old.new0 hr, upd_same⟩ ?_ ?_
      · rintro j H2 hj ⟨o2, hr2⟩
        rw [en] at hj
        refine ⟨rfl, .int (0 + (i : Int)), rfl, .int (0 + (j : Int)), rfl, rfl, _, rfl, ite2 (fun c => ?_) (fun c => ?_)⟩
        · have e : i = j := by have := of_decide_eq_true c; injection this; omega
          refine ⟨_, hr2, ?_, o2.put0 hr, ?_⟩
          · rw [List.length_map, List.length_range]; exact Nat.lt_of_lt_of_le (Nat.lt_of_lt_of_le hj hn2) (by decide)
          · rw [upd_same, List.range_succ, List.map_append]
            subst e
            have : M0 B 0 i i = some 0 := by unfold M0; rw [if_pos rfl]; rfl
            show _ = some (HO.lst (_ ++ [oV (M0 B 0 i i)]))
            rw [this]; rfl
        · have e : i ≠ j := fun z => c (by subst z; simp)
          refine ⟨_, hr2, ?_, o2.put0 hr, ?_⟩
          · rw [List.length_map, List.length_range]; exact Nat.lt_of_lt_of_le (Nat.lt_of_lt_of_le hj hn2) (by decide)
          · rw [upd_same, List.range_succ, List.map_append]
            have : M0 B 0 i j = none := by unfold M0; rw [if_neg e]; rfl
            show _ = some (HO.lst (_ ++ [oV (M0 B 0 i j)]))
            rw [this]; rfl
      · rintro H2 ⟨o2, hr2⟩
        rw [en] at hr2
        have hm2 : H2 m = some (.lst (rs.map V.ref)) := o2 _ _ (by simp) htop
        have hr00 : H r = none := o.free hr (by simp)
        have nrs : ∀ (j : Nat) q, rs[j]? = some q → q ≠ r := fun j q e z => by
          have := hrow j q e
          rw [z, hr] at this
          cases this
        refine ⟨_, hm2, ?_, rs ++ [r], ?_, ?_, ?_, ?_, ?_, ?_⟩
        · rw [List.length_map, hl]; exact Nat.lt_of_lt_of_le (Nat.lt_of_lt_of_le hi hn2) (by decide)
        · exact (o.trans o2).put0 hm
        · rw [List.length_append, hl]; rfl
        · rw [List.nodup_append]
          refine ⟨nd, by simp, fun x hx y hy => ?_⟩
          have ey : y = r := by simpa using hy
          subst ey
          obtain ⟨j, hj, e⟩ := List.mem_iff_getElem.mp hx
          exact nrs j x (by rw [List.getElem?_eq_getElem hj, e])
        · intro z hz
          rcases List.mem_append.mp hz with hz | hz
          · exact hr0 z hz
          · have ez : z = r := by simpa using hz
            subst ez
            exact ⟨hr00, nmr.symm⟩
        · rw [upd_same, List.map_append]; rfl
        · intro j z e
          by_cases hj : j < rs.length
          · rw [List.getElem?_append_left hj] at e
            have nz : z ≠ m := (hr0 z (List.mem_of_getElem? e)).2
            rw [upd_ne nz]
            exact o2 _ _ (by simp) (hrow j z e)
          · rw [List.getElem?_append_right (by omega)] at e
            have hj0 : j - rs.length = 0 := by
              have := (List.getElem?_eq_some_iff.mp e).1
              simp at this; omega
            rw [hj0] at e
            have ez : r = z := by simpa using e
            subst ez
            have ej : j = i := by omega
            subst ej
            rw [upd_ne nmr.symm, hr2]; rfl
    · rintro H1 ⟨rs, o1, hl, nd, hr0, htop, hrow⟩
      rw [en] at hl
      have X0 : MxAt H H1 m rs n (M0 B 0) := ⟨hm, hr0, nd, hl, htop, hrow⟩
      -- the bounds
      refine ⟨.ref b, rfl, b, rfl, ⟨_, (o1.tk NoTup.nil).seq hxs⟩, for_tup (K := K) (a := b) (xs := xs) (fun i σ H' => ∃ (y3 y4 y5 : Option V), σ = [some (.int (n : Int)), some (.ref b), some (.ref m), y3, y4, y5, none, none] ∧ Old [] H H' ∧ MxAt H H' m rs n (M0 B i))
        ⟨none, none, none, rfl, o1, X0⟩ (fun i σ H' _ ⟨_, _, _, _, o, _⟩ => (o.tk NoTup.nil).seq hxs) ?_ ?_⟩
      · rintro i y σ H2 hy ⟨y3, y4, y5, rfl, o2, X2⟩
        have hi : i < B.length := by rw [← hlen]; exact (List.getElem?_eq_some_iff.mp hy).1
        obtain ⟨r, hr1, hr2⟩ := hget i _ (List.getElem?_eq_getElem hi)
        rw [hy] at hr1
        cases hr1
        have hm' : B[i] ∈ B := List.getElem_mem hi
        have hxy := ok.ix _ hm'
        have hBi := List.getElem?_eq_getElem hi
        generalize B[i] = e at hr2 hxy hBi hm'
        obtain ⟨x, y, c⟩ := e
        have hx : x < n := hxy.1
        have hy' : y < n := hxy.2
        obtain ⟨rx, g1, g2, g3⟩ := X2.get hx
        refine ⟨r, _, rfl, (o2.tk NoTup.nil).seq hr2, rfl, _, _, rfl, _, _, rfl, _, _, rfl, rfl, ?_⟩
        have up : ∀ {b' : Bool} {A' B' : Prop}, True := fun {_ _ _} => trivial
        -- the test
        refine ⟨.ref m, rfl, .int (x : Int), rfl, m, _, _, .ref rx, rfl, rfl, SqL.of X2.top, atI_nat g2, .int (y : Int), rfl, rx, _, _, _, rfl, rfl, SqL.of g3, atI_nat (rowV_get hy'), rfl, _, rfl, ?_⟩
        have store : ∀ (Hn : Hp), PD.omin (M0 B i x y) (some c) = some c → MxAt H (upd H2 rx (.lst ((rowV n (M0 B i) x).set y (.int c)))) m rs n (M0 B (i + 1)) := fun _ hc => by
          refine (X2.put (v := some c) g1 hy').congr fun a b' ha hb' => ?_
          rw [M0_step hBi]
          unfold set2
          by_cases e : a = x ∧ b' = y
          · rw [if_pos e, if_pos e, hc]
          · rw [if_neg e, if_neg e]
        have skip : PD.omin (M0 B i x y) (some c) = M0 B i x y → MxAt H H2 m rs n (M0 B (i + 1)) := fun hc => by
          refine X2.congr fun a b' ha hb' => ?_
          rw [M0_step hBi]
          by_cases e : a = x ∧ b' = y
          · rw [if_pos e, hc, e.1, e.2]
          · rw [if_neg e]
        have doput : ∀ (σ' : L2.St), σ' = [some (.int (n : Int)), some (.ref b), some (.ref m), some (.int (x : Int)), some (.int (y : Int)), some (.int c), none, none] → PD.omin (M0 B i x y) (some c) = some c →
            ∃ y3 y4 y5 : Option V, σ' = [some (.int (n : Int)), some (.ref b), some (.ref m), y3, y4, y5, none, none] ∧ Old [] H (upd H2 rx (.lst ((rowV n (M0 B i) x).set y (.int c)))) ∧ MxAt H (upd H2 rx (.lst ((rowV n (M0 B i) x).set y (.int c)))) m rs n (M0 B (i + 1)) :=
          fun σ' e hc => ⟨_, _, _, e, o2.put0 (X2.r0 rx (List.mem_of_getElem? g1)).1, store H2 hc⟩
        have ixy : ixN (rowV n (M0 B i) x).length (y : Int) = some y := by
          unfold ixN; rw [if_pos (by omega), if_pos (by rw [rowV_len]; omega)]; simp
        cases hM : M0 B i x y with
        | none =>
          refine iteT ?_
          refine iteT ?_
          refine ⟨.int c, rfl, .ref m, rfl, .int (x : Int), rfl, m, _, _, .ref rx, rfl, rfl, SqL.of X2.top, atI_nat g2, .int (y : Int), rfl, rx, _, _, y, rfl, rfl, g3, ixy, ?_⟩
          exact doput _ rfl (by rw [hM]; rfl)
        | some d =>
          refine iteF ?_
          refine ⟨.int c, rfl, .ref m, rfl, .int (x : Int), rfl, m, _, _, .ref rx, rfl, rfl, SqL.of X2.top, atI_nat g2, .int (y : Int), rfl, rx, _, _, .int d, rfl, rfl, SqL.of g3, atI_nat (by rw [rowV_get hy', hM]; rfl), _, _, rfl, rfl, _, rfl, ite2 (fun cc => ?_) (fun cc => ?_)⟩
          · have cc : c < d := of_decide_eq_true cc
            refine ⟨.int c, rfl, .ref m, rfl, .int (x : Int), rfl, m, _, _, .ref rx, rfl, rfl, SqL.of X2.top, atI_nat g2, .int (y : Int), rfl, rx, _, _, y, rfl, rfl, g3, ixy, ?_⟩
            exact doput _ rfl (by rw [hM]; show some (if c < d then c else d) = some c; rw [if_pos cc])
          · have cc : ¬ c < d := fun z => cc (decide_eq_true z)
            exact ⟨_, _, _, rfl, o2, skip (by rw [hM]; show some (if c < d then c else d) = some d; rw [if_neg cc])⟩
      · rintro σ H2 ⟨y3, y4, y5, rfl, o2, X2⟩
        have eM : M0 B xs.length = PD.start0 B (some 0) := by rw [hlen]; rfl
        rw [eM] at X2
        refine ⟨.int (n : Int), rfl, (n : Int), rfl, by omega, by omega, for_range (lo := 0) (n := ((n : Int)).toNat) (fun i σ H' => ∃ (y3 y4 y5 y6 y7 : Option V) (S : Nat → PD.Mx), σ = [some (.int (n : Int)), some (.ref b), some (.ref m), y3, y4, y5, y6, y7] ∧ Old [] H H' ∧
            PD.Run n B S i ∧ S 0 = PD.start0 B (some 0) ∧ MxAt H H' m rs n (S i))
          ⟨y3, y4, y5, none, none, fun _ => PD.start0 B (some 0), rfl, o2, PD.Run.zero PD.start0_low (PD.start0_got (.inr rfl)), rfl, X2⟩ ?_ ?_⟩
        · rintro i σ H3 hi ⟨y3, y4, y5, y6, y7, S, rfl, o3, R, hS0, X3⟩
          rw [en] at hi
          rw [Int.zero_add]
          refine ⟨.int (n : Int), rfl, (n : Int), rfl, by omega, by omega, for_range (lo := 0) (n := ((n : Int)).toNat) (fun j σ H' => ∃ (y3 y4 y7 : Option V) (M : PD.Mx), σ = [some (.int (n : Int)), some (.ref b), some (.ref m), y3, y4, y5, some (.int (i : Int)), y7] ∧ Old [] H H' ∧
              PD.MidP n (S i) i (fun a b => a < j) M ∧ MxAt H H' m rs n M)
            ⟨y3, y4, y7, S i, rfl, o3, PD.MidP.zero (fun _ _ h => absurd h (Nat.not_lt_zero _)), X3⟩ ?_ ?_⟩
          · rintro j σ H4 hj ⟨y3, y4, y7, M, rfl, o4, mp, X4⟩
            rw [en] at hj
            rw [Int.zero_add]
            refine ⟨.int (n : Int), rfl, (n : Int), rfl, by omega, by omega, for_range (lo := 0) (n := ((n : Int)).toNat) (fun l σ H' => ∃ (y4 y7 : Option V) (M : PD.Mx), σ = [some (.int (n : Int)), some (.ref b), some (.ref m), some (.int (j : Int)), y4, y5, some (.int (i : Int)), y7] ∧ Old [] H H' ∧
                PD.MidP n (S i) i (fun a b => a < j ∨ (a = j ∧ b < l)) M ∧ MxAt H H' m rs n M)
              ⟨y4, y7, M, rfl, o4, ?_, X4⟩ ?_ ?_⟩
            · have : (fun a b => a < j ∨ (a = j ∧ b < 0)) = (fun a (b : Nat) => a < j) := by funext a b; simp
              rw [this]; exact mp
            · clear mp X4 o4 M y4 y7
              rintro l σ H5 hl ⟨y4, y7, M, rfl, o5, mp, X5⟩
              rw [en] at hl
              rw [Int.zero_add]
              obtain ⟨rj, a1, a2, a3⟩ := X5.get hj
              obtain ⟨ri, b1, b2, b3⟩ := X5.get hi
              have ixy : ixN (rowV n M j).length (l : Int) = some l := by
                unfold ixN; rw [if_pos (by omega), if_pos (by rw [rowV_len]; omega)]; simp
              have Dlt : ∀ a b, (a < j ∨ (a = j ∧ b < l + 1)) ↔ (a < j ∨ (a = j ∧ b < l)) ∨ (a = j ∧ b = l) := fun a b => by omega
              have nD : ¬ (j < j ∨ (j = j ∧ l < l)) := by omega
              have skip : PD.oadd (M j i) (M i l) = none → PD.MidP n (S i) i (fun a b => a < j ∨ (a = j ∧ b < l + 1)) M := fun hc =>
                mp.step (M'' := M) hi hj hl nD Dlt (by rw [hc]; cases M j l <;> rfl) (fun _ _ _ => rfl)
              -- both there?
              refine ⟨.ref m, rfl, .int (j : Int), rfl, m, _, _, .ref rj, rfl, rfl, SqL.of X5.top, atI_nat a2, .int (i : Int), rfl, rj, _, _, _, rfl, rfl, SqL.of a3, atI_nat (rowV_get hi), rfl, _, rfl, ?_⟩
              cases h1 : M j i with
              | none =>
                refine iteF ?_
                refine iteF ?_
                exact ⟨_, _, M, rfl, o5, skip (by rw [h1]; rfl), X5⟩
              | some p =>
                refine iteT ?_
                refine ⟨.ref m, rfl, .int (i : Int), rfl, m, _, _, .ref ri, rfl, rfl, SqL.of X5.top, atI_nat b2, .int (l : Int), rfl, ri, _, _, _, rfl, rfl, SqL.of b3, atI_nat (rowV_get hl), rfl, _, rfl, ?_⟩
                cases h2 : M i l with
                | none =>
                  refine iteF ?_
                  exact ⟨_, _, M, rfl, o5, skip (by rw [h1, h2]; rfl), X5⟩
                | some q =>
                  refine iteT ?_
                  refine ⟨.ref m, rfl, .int (j : Int), rfl, m, _, _, .ref rj, rfl, rfl, SqL.of X5.top, atI_nat a2, .int (i : Int), rfl, rj, _, _, .int p, rfl, rfl, SqL.of a3, atI_nat (by rw [rowV_get hi, h1]; rfl),
                    .ref m, rfl, .int (i : Int), rfl, m, _, _, .ref ri, rfl, rfl, SqL.of X5.top, atI_nat b2, .int (l : Int), rfl, ri, _, _, .int q, rfl, rfl, SqL.of b3, atI_nat (by rw [rowV_get hl, h2]; rfl), p, q, rfl, rfl, ?_⟩
                  have fin : ∀ (t : Int) (σ' : L2.St), (some t = PD.omin (M j l) (some (p + q))) → σ' = [some (.int (n : Int)), some (.ref b), some (.ref m), some (.int (j : Int)), some (.int (l : Int)), y5, some (.int (i : Int)), some (.int (p + q))] →
                      ∃ (y4 y7 : Option V) (M' : PD.Mx), σ' = [some (.int (n : Int)), some (.ref b), some (.ref m), some (.int (j : Int)), y4, y5, some (.int (i : Int)), y7] ∧ Old [] H (upd H5 rj (.lst ((rowV n M j).set l (.int t)))) ∧
                        PD.MidP n (S i) i (fun a b => a < j ∨ (a = j ∧ b < l + 1)) M' ∧ MxAt H (upd H5 rj (.lst ((rowV n M j).set l (.int t)))) m rs n M' := fun t σ' ht e => by
                    refine ⟨_, _, set2 M j l (some t), e, o5.put0 (X5.r0 rj (List.mem_of_getElem? a1)).1, mp.step hi hj hl nD Dlt ?_ (fun a b h => set2_ne h), X5.put (v := some t) a1 hl⟩
                    rw [set2_same, h1, h2]; exact ht
                  refine ⟨.ref m, rfl, .int (j : Int), rfl, m, _, _, .ref rj, rfl, rfl, SqL.of X5.top, atI_nat a2, .int (l : Int), rfl, rj, _, _, _, rfl, rfl, SqL.of a3, atI_nat (rowV_get hl), rfl, _, rfl, ?_⟩
                  cases h3 : M j l with
                  | none =>
                    refine iteT ?_
                    refine ⟨.int (p + q), rfl, .ref m, rfl, .int (j : Int), rfl, m, _, _, .ref rj, rfl, rfl, SqL.of X5.top, atI_nat a2, .int (l : Int), rfl, rj, _, _, l, rfl, rfl, a3, ixy, ?_⟩
                    exact fin (p + q) _ (by rw [h3]; rfl) rfl
                  | some d =>
                    refine iteF ?_
                    refine ⟨.int (p + q), rfl, .ref m, rfl, .int (j : Int), rfl, m, _, _, .ref rj, rfl, rfl, SqL.of X5.top, atI_nat a2, .int (l : Int), rfl, rj, _, _, .int d, rfl, rfl, SqL.of a3, atI_nat (by rw [rowV_get hl, h3]; rfl), _, _, rfl, ?_⟩
                    refine ⟨.ref m, rfl, .int (j : Int), rfl, m, _, _, .ref rj, rfl, rfl, SqL.of X5.top, atI_nat a2, .int (l : Int), rfl, rj, _, _, l, rfl, rfl, a3, ixy, ?_⟩
                    exact fin _ _ (by rw [h3]; show some _ = some (if p + q < d then p + q else d); congr 1; split <;> split <;> omega) rfl
            · rintro σ H5 ⟨y4, y7, M, rfl, o5, mp, X5⟩
              rw [en] at mp
              refine ⟨_, _, _, M, rfl, o5, ⟨mp.mono, fun hn a b ha hb => ?_⟩, X5⟩
              have q := mp.exact hn a b ha hb
              exact ⟨fun d => q.1 (by omega), fun d => q.2 (by omega)⟩
          · rintro σ H4 ⟨y3, y4, y7, M, rfl, o4, mp, X4⟩
            rw [en] at mp
            have md : PD.Mid n (S i) i M := mp.mid fun x y hx hy d => absurd hx d
            refine ⟨_, _, _, _, _, _, rfl, o4, R.more md, ?_, ?_⟩
            · show (if 0 = i + 1 then M else S 0) = _
              rw [if_neg (by omega)]; exact hS0
            · show MxAt H H4 m rs n (if i + 1 = i + 1 then M else S (i + 1))
              rw [if_pos rfl]; exact X4
        · rintro σ H3 ⟨y3, y4, y5, y6, y7, S, rfl, o3, R, hS0, X3⟩
          rw [en] at R X3
          -- the middle line
          have dg : ∀ x, x < n → ∃ d, S n x x = some d := fun x hx => by
            have h0 : PD.ole (S 0 x x) (some 0) := by
              rw [hS0]; unfold PD.start0; rw [if_pos rfl]; exact PD.omin_l _ _
            obtain ⟨d, e, _⟩ := PD.ole_trans (R.mono (Nat.zero_le n) (Nat.le_refl n) x x hx hx) h0 0 rfl
            exact ⟨d, e⟩
          refine ⟨.int (n : Int), rfl, (n : Int), rfl, by omega, by omega, fun D hD => ?_⟩
          refine lc_range (lo := 0) (n := ((n : Int)).toNat) (fun i H' => Old [] H3 H' ∧ H' D = some (.lst (((List.range i).map fun x => decide (0 ≤ (S n x x).getD 0)).map V.bl))) ⟨Old.new0 hD, upd_same⟩ ?_ ?_
          · rintro i H4 hi ⟨o4, hD4⟩
            rw [en] at hi
            rw [Int.zero_add]
            have X4 := X3.same o4.same
            obtain ⟨r, a1, a2, a3⟩ := X4.get hi
            obtain ⟨d, hd⟩ := dg i hi
            refine ⟨rfl, .ref m, rfl, .int (i : Int), rfl, m, _, _, .ref r, rfl, rfl, SqL.of X4.top, atI_nat a2, .int (i : Int), rfl, r, _, _, .int d, rfl, rfl, SqL.of a3, atI_nat (by rw [rowV_get hi, hd]; rfl), d, 0, rfl, rfl, _, hD4, ?_, o4.put0 hD, ?_⟩
            · rw [List.length_map, List.length_map, List.length_range]; exact Nat.lt_of_lt_of_le (Nat.lt_of_lt_of_le hi hn2) (by decide)
            · rw [upd_same, List.range_succ, List.map_append, List.map_append]
              show _ = some (HO.lst (_ ++ [V.bl (decide (0 ≤ (S n i i).getD 0))]))
              rw [hd]; rfl
          · rintro H4 ⟨o4, hD4⟩
            rw [en] at hD4
            refine ⟨D, _, rfl, SqL.of hD4, _, rfl, ?_⟩
            by_cases hall : ∀ x, x < n → PD.Non (S n x x)
            · have e : (((List.range n).map fun x => decide (0 ≤ (S n x x).getD 0)).all id) = true := by
                rw [List.all_eq_true]
                intro b hb
                obtain ⟨x, hx, rfl⟩ := List.mem_map.mp hb
                obtain ⟨d, hd⟩ := dg x (List.mem_range.mp hx)
                have := hall x (List.mem_range.mp hx) d hd
                rw [hd]
                exact decide_eq_true this
              rw [e]
              refine iteT ?_
              exact ⟨.ref m, rfl, q2 S H4 m rs R hS0 hall (o3.trans o4) (X3.same o4.same)⟩
            · have : ∃ x, x < n ∧ ¬ PD.Non (S n x x) := Classical.byContradiction fun hn => hall fun x hx => Classical.byContradiction fun h => hn ⟨x, hx, h⟩
              obtain ⟨x, hx, hnx⟩ := this
              have e : (((List.range n).map fun x => decide (0 ≤ (S n x x).getD 0)).all id) = false := by
                rw [List.all_eq_false]
                obtain ⟨d, hd⟩ := dg x hx
                refine ⟨_, List.mem_map.mpr ⟨x, List.mem_range.mpr hx, rfl⟩, ?_⟩
                intro hc
                have hc : 0 ≤ (S n x x).getD 0 := of_decide_eq_true hc
                rw [hd] at hc
                exact hnx fun d' e' => by
                  rw [hd] at e'
                  cases e'
                  exact hc
              rw [e]
              refine iteF ?_
              exact q1 S H4 R hS0 ⟨x, hx, hnx⟩ (o3.trans o4)
end
end L2.T34

/-! plain mathematics of what is told of bounds on differences: no program in sight -/
namespace PD
def tm (M : Mx) : Mx := fun x y => if x = y then some 0 else M x y
structure Told (n : Nat) (B : List Bd) (M : Mx) : Prop where
  diag : ∀ x, x < n → M x x = some 0
  tri : ∀ x y z, x < n → y < n → z < n → ole (M x z) (oadd (M x y) (M y z))
  low : ∀ b ∈ B, ole (M b.1 b.2.1) (some b.2.2)
  sound : ∀ v, Vals B v → ∀ x y a, x < n → y < n → M x y = some a → v x - v y ≤ a
theorem oadd0_l (b : Option Int) : oadd (some 0) b = b := by
  cases b with
  | none => rfl
  | some i => show some (0 + i) = some i; rw [Int.zero_add]
theorem oadd0_r (b : Option Int) : oadd b (some 0) = b := by
  cases b with
  | none => rfl
  | some i => show some (i + 0) = some i; rw [Int.add_zero]
section
variable {n : Nat} {B : List Bd} {S : Nat → Mx}
theorem told_of_run (R : Run n B S n) (f : Feas B) (hB : ∀ b ∈ B, b.1 < n ∧ b.2.1 < n) : Told n B (tm (S n)) := by
  have non := R.non f (Nat.le_refl n) (Nat.le_refl n)
  have cl := R.closed non n (Nat.le_refl n)
  have sd := R.sound f (Nat.le_refl n) n (Nat.le_refl n)
  refine ⟨fun x _ => if_pos rfl, fun x y z hx hy hz => ?_, fun b hb => ?_, fun v hv x y a hx hy e => ?_⟩
  · by_cases e1 : x = y
    · subst e1
      rw [show tm (S n) x x = some 0 from if_pos rfl, oadd0_l]
      exact ole_refl _
    · by_cases e2 : y = z
      · subst e2
        rw [show tm (S n) y y = some 0 from if_pos rfl, oadd0_r]
        exact ole_refl _
      · rw [show tm (S n) x y = S n x y from if_neg e1, show tm (S n) y z = S n y z from if_neg e2]
        have q := cl y x z hy hx hz
        by_cases e3 : x = z
        · subst e3
          rw [show tm (S n) x x = some 0 from if_pos rfl]
          intro d e
          obtain ⟨d', e', l'⟩ := q d e
          exact ⟨0, rfl, by have := non x hx d' e'; omega⟩
        · rw [show tm (S n) x z = S n x z from if_neg e3]; exact q
  · by_cases e : b.1 = b.2.1
    · rw [show tm (S n) b.1 b.2.1 = some 0 from if_pos e]
      intro d ed
      cases ed
      obtain ⟨v, hv⟩ := f
      have := hv b hb
      rw [e] at this
      exact ⟨0, rfl, by omega⟩
    · rw [show tm (S n) b.1 b.2.1 = S n b.1 b.2.1 from if_neg e]
      exact ole_trans (R.mono (Nat.zero_le n) (Nat.le_refl n) _ _ (hB b hb).1 (hB b hb).2) (R.low b hb)
  · by_cases h : x = y
    · subst h
      rw [show tm (S n) x x = some 0 from if_pos rfl] at e
      cases e
      omega
    · rw [show tm (S n) x y = S n x y from if_neg h] at e
      exact sd v hv x y a hx hy e
theorem told_alike {T : Nat → Mx} (R : Run n B S n) (Q : Run n B T n) (f : Feas B) (hS : S 0 = start0 B none) (hT : T 0 = start0 B (some 0)) : ∀ x y, x < n → y < n → T n x y = tm (S n) x y := by
  intro x y hx hy
  by_cases e : x = y
  · subst e
    rw [show tm (S n) x x = some 0 from if_pos rfl]
    have h0 : ole (T 0 x x) (some 0) := by
      rw [hT]
      unfold start0
      rw [if_pos rfl]
      exact omin_l _ _
    obtain ⟨d, e1, l1⟩ := ole_trans (Q.mono (Nat.zero_le n) (Nat.le_refl n) x x hx hx) h0 0 rfl
    have := Q.non f (Nat.le_refl n) (Nat.le_refl n) x hx d e1
    rw [e1, show d = 0 by omega]
  · rw [show tm (S n) x y = S n x y from if_neg e]
    refine (runs_alike R Q (Nat.le_refl n) f (fun a b _ _ hne => ?_) n (Nat.le_refl n) x y hx hy e).symm
    rw [hS, hT]
    exact start0_off hne
/-- how great the numbers told are -/
theorem run_size {C : Int} (hC : 0 ≤ C) (R : Run n B S n) (f : Feas B) (hB : ∀ b ∈ B, -C ≤ b.2.2 ∧ b.2.2 ≤ C) : ∀ k, k ≤ n → ∀ x y d, x < n → y < n → S k x y = some d → -(2 ^ k * C) ≤ d ∧ d ≤ 2 ^ k * C := by
  intro k
  induction k with
  | zero =>
    intro _ x y d _ _ e
    rw [Int.pow_zero, Int.one_mul]
    rcases R.got x y d e with ⟨_, h⟩ | h
    · omega
    · exact hB _ h
  | succ k ih =>
    intro hk x y d hx hy e
    have ih := ih (by omega)
    have hkn : k < n := by omega
    have nS := R.non f (Nat.le_refl n) (k := k) (by omega) k hkn
    rw [(R.mid k (by omega)).exact nS x y hx hy] at e
    have hp : (2 : Int) ^ (k + 1) * C = 2 * (2 ^ k * C) := by rw [Int.pow_succ, Int.mul_comm (2 ^ k) 2, Int.mul_assoc]
    have hpos : 0 ≤ (2 : Int) ^ k * C := Int.mul_nonneg (Int.pow_nonneg (by decide)) hC
    rw [hp]
    generalize (2 : Int) ^ k * C = D at ih hpos ⊢
    have e : omin (S k x y) (oadd (S k x k) (S k k y)) = some d := e
    rcases omin_cases (S k x y) (oadd (S k x k) (S k k y)) with q | q
    · rw [q] at e
      have := ih x y d hx hy e
      omega
    · rw [q] at e
      cases e1 : S k x k with
      | none => rw [e1] at e; cases e
      | some a =>
        cases e2 : S k k y with
        | none => rw [e1, e2] at e; cases e
        | some b =>
          rw [e1, e2] at e
          have e : a + b = d := Option.some.inj e
          have := ih x k a hx hkn e1
          have := ih k y b hkn hy e2
          omega
theorem tm_size {C D : Int} (hC : 0 ≤ C) (R : Run n B S n) (f : Feas B) (hB : ∀ b ∈ B, -C ≤ b.2.2 ∧ b.2.2 ≤ C) (hD : 2 ^ n * C ≤ D) : ∀ x y d, x < n → y < n → tm (S n) x y = some d → -D ≤ d ∧ d ≤ D := by
  intro x y d hx hy e
  have hpos : 0 ≤ (2 : Int) ^ n * C := Int.mul_nonneg (Int.pow_nonneg (by decide)) hC
  by_cases h : x = y
  · rw [show tm (S n) x y = some 0 from if_pos h] at e
    cases e
    omega
  · rw [show tm (S n) x y = S n x y from if_neg h] at e
    have := run_size hC R f hB n (Nat.le_refl n) x y d hx hy e
    omega
variable {M : Mx}
theorem Told.lows (t : Told n B M) (hB : ∀ b ∈ B, b.1 < n ∧ b.2.1 < n) {l : Nat → Int} (h : ∀ x, x < n → M 0 x = some (-(l x))) : Vals B l := fun b hb => by
  obtain ⟨h1, h2⟩ := hB b hb
  obtain ⟨d, e1, l1⟩ := t.low b hb b.2.2 rfl
  obtain ⟨d', e2, l2⟩ := t.tri 0 b.1 b.2.1 (by omega) h1 h2 (-(l b.1) + d) (by rw [h _ h1, e1]; rfl)
  rw [h _ h2] at e2
  cases e2
  omega
theorem Told.highs (t : Told n B M) (hB : ∀ b ∈ B, b.1 < n ∧ b.2.1 < n) {l : Nat → Int} (h : ∀ x, x < n → M x 0 = some (l x)) : Vals B l := fun b hb => by
  obtain ⟨h1, h2⟩ := hB b hb
  obtain ⟨d, e1, l1⟩ := t.low b hb b.2.2 rfl
  obtain ⟨d', e2, l2⟩ := t.tri b.1 b.2.1 0 h1 h2 (by omega) (d + l b.2.1) (by rw [h _ h2, e1]; rfl)
  rw [h _ h1] at e2
  cases e2
  omega
/-- a great number above all that is wanted of a list -/
theorem great (l : List Bd) (g : Bd → Int) : ∃ T : Int, 0 ≤ T ∧ ∀ b ∈ l, g b ≤ T := by
  induction l with
  | nil => exact ⟨0, by omega, fun b h => by simp at h⟩
  | cons a l ih =>
    obtain ⟨T, h0, h⟩ := ih
    refine ⟨if g a ≤ T then T else g a, by split <;> omega, fun b hb => ?_⟩
    rcases List.mem_cons.mp hb with rfl | hb
    · split <;> omega
    · have := h b hb
      split <;> omega
/-- values where all that nought sets no bound to is moved down as far as one likes -/
theorem Told.down (t : Told n B M) (f : Feas B) (hB : ∀ b ∈ B, b.1 < n ∧ b.2.1 < n) (hn : 1 ≤ n) : ∃ w : Nat → Int, ∃ T0 : Int, ∀ T, T0 ≤ T → Vals B fun x => match M 0 x with | some d => -d | none => w x - T := by
  obtain ⟨w, hw⟩ := f
  obtain ⟨T0, _, hT⟩ := great B fun b => w b.1 + (match M 0 b.2.1 with | some d => d | none => 0) - b.2.2
  refine ⟨w, T0, fun T hTT b hb => ?_⟩
  obtain ⟨h1, h2⟩ := hB b hb
  have hb1 := hT b hb
  have hb2 := hw b hb
  dsimp only at hb1 ⊢
  obtain ⟨d, e1, l1⟩ := t.low b hb b.2.2 rfl
  cases ex : M 0 b.1 with
  | some a =>
    obtain ⟨d', e2, l2⟩ := t.tri 0 b.1 b.2.1 (by omega) h1 h2 (a + d) (by rw [ex, e1]; rfl)
    rw [e2]
    dsimp only
    omega
  | none =>
    cases ey : M 0 b.2.1 with
    | some a =>
      rw [ey] at hb1
      dsimp only at hb1 ⊢
      omega
    | none => dsimp only; omega
theorem Told.far (t : Told n B M) (f : Feas B) (hB : ∀ b ∈ B, b.1 < n ∧ b.2.1 < n) (hn : 1 ≤ n) {a : Nat} (e : M 0 a = none) (c : Int) : Feas (B ++ [(a, 0, c)]) := by
  obtain ⟨w, T0, h⟩ := t.down f hB hn
  refine ⟨fun x => match M 0 x with | some d => -d | none => w x - (if T0 ≤ w a - c then w a - c else T0), fun b hb => ?_⟩
  · rcases List.mem_append.mp hb with hb | hb
    · exact h _ (by split <;> omega) b hb
    · have : b = (a, 0, c) := by simpa using hb
      subst this
      dsimp only
      rw [e, t.diag 0 (by omega)]
      dsimp only
      split <;> omega
theorem Told.near (t : Told n B M) (f : Feas B) (hB : ∀ b ∈ B, b.1 < n ∧ b.2.1 < n) (hn : 1 ≤ n) {a : Nat} {d : Int} (e : M 0 a = some d) : Feas (B ++ [(a, 0, -d)]) := by
  obtain ⟨w, T0, h⟩ := t.down f hB hn
  refine ⟨fun x => match M 0 x with | some d => -d | none => w x - T0, fun b hb => ?_⟩
  · rcases List.mem_append.mp hb with hb | hb
    · exact h T0 (Int.le_refl _) b hb
    · have : b = (a, 0, -d) := by simpa using hb
      subst this
      dsimp only
      rw [e, t.diag 0 (by omega)]
      dsimp only
      omega
theorem Told.near_at (t : Told n B M) (hn : 1 ≤ n) {a : Nat} (ha : a < n) {d : Int} (e : M 0 a = some d) {g : Nat → Int} (hg : Vals (B ++ [(a, 0, -d)]) g) (g0 : g 0 = 0) : g a = -d := by
  have h1 := t.sound g (fun b hb => hg b (List.mem_append_left _ hb)) 0 a d (by omega) ha e
  have h2 := hg (a, 0, -d) (by simp)
  dsimp only at h2
  omega
theorem Told.over (t : Told n B M) (hn : 1 ≤ n) {a : Nat} (ha : a < n) {d : Int} (e : M 0 a = some d) : ¬ Feas (B ++ [(a, 0, -d - 1)]) := by
  rintro ⟨g, hg⟩
  have h1 := t.sound g (fun b hb => hg b (List.mem_append_left _ hb)) 0 a d (by omega) ha e
  have h2 := hg (a, 0, -d - 1) (by simp)
  dsimp only at h2
  omega
end
end PD

namespace L2.T34
open PySem PySem.Spec PyProof.Rows L2.PL
/-- data that may be shown -/
structure ShowD (L k : Nat) (d : PyData) : Prop where
  sh : d.showable = true
  nd : d.hasDict = false
  dp : d.depth ≤ k
  ln : d.shown.length ≤ L
theorem ShowD.int {i : Int} (h : -10000000 ≤ i) (h2 : i ≤ 10000000) : ShowD 1921 0 (.int i) := by
  have hl : i.natAbs.log2 < 1920 := by
    by_cases e : i.natAbs = 0
    · rw [e]; decide
    · have : i.natAbs.log2 < 24 := (Nat.log2_lt e).mpr (by omega)
      omega
  exact ⟨decide_eq_true hl, rfl, Nat.le_refl _, int_text_len_1921 hl⟩
theorem ShowD.non : ShowD 1921 0 .none := ⟨rfl, rfl, Nat.le_refl _, by show ("None" : Str).length ≤ 1921; decide +kernel⟩
theorem ShowD.tup {L k : Nat} : ∀ {ds : List PyData}, (∀ d ∈ ds, ShowD L k d) → ShowD (ds.length * (L + 2) + 3) (k + 1) (.tuple ds) := fun {ds} h => by
  have all : PyData.showableAll ds = true ∧ PyData.hasDictAll ds = false ∧ PyData.depthAll ds ≤ k ∧ ((PyData.shownAll ds).map (·.length)).sum ≤ ds.length * L ∧ (PyData.shownAll ds).length = ds.length := by
    induction ds with
    | nil => exact ⟨rfl, rfl, Nat.zero_le _, Nat.zero_le _, rfl⟩
    | cons d ds ih =>
      obtain ⟨a1, a2, a3, a4, a5⟩ := ih fun e he => h e (.tail _ he)
      have hd := h d (.head _)
      refine ⟨?_, ?_, ?_, ?_, ?_⟩
      · show (d.showable && PyData.showableAll ds) = true
        rw [hd.sh, a1]; rfl
      · show (d.hasDict || PyData.hasDictAll ds) = false
        rw [hd.nd, a2]; rfl
      · show max d.depth (PyData.depthAll ds) ≤ k
        exact Nat.max_le.mpr ⟨hd.dp, a3⟩
      · show d.shown.length + ((PyData.shownAll ds).map (·.length)).sum ≤ (ds.length + 1) * L
        have := hd.ln
        rw [Nat.succ_mul]
        omega
      · show (PyData.shownAll ds).length + 1 = ds.length + 1
        rw [a5]
  obtain ⟨a1, a2, a3, a4, a5⟩ := all
  refine ⟨a1, a2, Nat.succ_le_succ a3, ?_⟩
  have := tupleText_len_le (PyData.shownAll ds)
  show (tupleText (PyData.shownAll ds)).length ≤ _
  rw [a5] at this
  rw [Nat.mul_add]
  omega
/-- all that is told is small -/
def Sml (o : Option Int) : Prop := ∀ d, o = some d → -9000000 ≤ d ∧ d ≤ 9000000
theorem ShowD.o {o : Option Int} (h : Sml o) : ShowD 1921 0 (oD o) := by
  cases o with
  | none => exact .non
  | some i => exact .int (by have := h i rfl; omega) (by have := h i rfl; omega)
theorem ShowD.row {n : Nat} {f : Nat → Option Int} (hn : n ≤ 6) (h : ∀ y, y < n → Sml (f y)) : ShowD 12000 1 (rowD n f) := by
  have := ShowD.tup (L := 1921) (k := 0) (ds := (List.range n).map fun y => oD (f y)) fun d hd => by
    obtain ⟨y, hy, rfl⟩ := List.mem_map.mp hd
    exact .o (h y (List.mem_range.mp hy))
  refine ⟨this.sh, this.nd, this.dp, Nat.le_trans this.ln ?_⟩
  rw [List.length_map, List.length_range]
  have : n * (1921 + 2) ≤ 6 * (1921 + 2) := Nat.mul_le_mul_right _ hn
  omega
theorem ShowD.mat {n : Nat} {M : PD.Mx} (hn : n ≤ 6) (h : ∀ x y, x < n → y < n → Sml (M x y)) : ShowD 100000 2 (matD n M) := by
  have := ShowD.tup (L := 12000) (k := 1) (ds := (List.range n).map fun x => rowD n (M x)) fun d hd => by
    obtain ⟨y, hy, rfl⟩ := List.mem_map.mp hd
    exact .row hn fun z hz => h y z (List.mem_range.mp hy) hz
  refine ⟨this.sh, this.nd, this.dp, Nat.le_trans this.ln ?_⟩
  rw [List.length_map, List.length_range]
  have : n * (12000 + 2) ≤ 6 * (12000 + 2) := Nat.mul_le_mul_right _ hn
  omega
theorem os_flat (n : Nat) (f : Nat → Option Int) : ((List.range n).map fun y => oV (f y)).all flatV = true := by
  rw [List.all_eq_true]
  intro x hx
  obtain ⟨y, _, rfl⟩ := List.mem_map.mp hx
  cases f y <;> rfl
theorem eqV_non (o : Option Int) : eqV (oV o) .non = o.isNone := by cases o <;> rfl
theorem os_in (n : Nat) (f : Nat → Option Int) : inV .non ((List.range n).map fun y => oV (f y)) = true ↔ ∃ y, y < n ∧ f y = none := by
  unfold inV
  rw [List.any_eq_true]
  constructor
  · rintro ⟨x, hx, e⟩
    obtain ⟨y, hy, rfl⟩ := List.mem_map.mp hx
    rw [eqV_non] at e
    exact ⟨y, List.mem_range.mp hy, Option.isNone_iff_eq_none.mp e⟩
  · rintro ⟨y, hy, e⟩
    exact ⟨_, List.mem_map.mpr ⟨y, List.mem_range.mpr hy, rfl⟩, by rw [eqV_non, e]; rfl⟩
theorem os_ints {n : Nat} {f : Nat → Option Int} {g : Nat → Int} (h : ∀ y, y < n → f y = some (g y)) : ((List.range n).map fun y => oV (f y)) = ((List.range n).map g).map V.int := by
  rw [List.map_map]
  apply List.map_congr_left
  intro y hy
  rw [h y (List.mem_range.mp hy)]; rfl
theorem os_at {n y : Nat} {f : Nat → Option Int} (h : y < n) : atI ((List.range n).map fun y => oV (f y)) (y : Int) = some (oV (f y)) := atI_nat (j := y) (by rw [List.getElem?_map, List.getElem?_range h]; rfl)
theorem rowD_congr {n : Nat} {f g : Nat → Option Int} (h : ∀ y, y < n → f y = g y) : rowD n f = rowD n g := by
  unfold rowD
  congr 1
  apply List.map_congr_left
  intro y hy
  rw [h y (List.mem_range.mp hy)]
theorem SysSm.ext {n : Nat} {B : List PD.Bd} (s : SysSm n B) {x : Nat} {c : Int} (hx : x < n) (h1 : -10000000 ≤ c) (h2 : c ≤ 10000000) : SysOk n (B ++ [(x, 0, c)]) := by
  have ok := s.ok
  have hn1 := s.n1
  have hl := s.len
  refine ⟨ok.n1, ok.n2, by rw [List.length_append, List.length_singleton]; omega, fun b hb => ?_, fun b hb => ?_⟩
  · rcases List.mem_append.mp hb with hb | hb
    · exact ok.ix b hb
    · have : b = (x, 0, c) := by simpa using hb
      subst this
      exact ⟨hx, by show 0 < n; omega⟩
  · rcases List.mem_append.mp hb with hb | hb
    · exact ok.sz b hb
    · have : b = (x, 0, c) := by simpa using hb
      subst this
      exact ⟨h1, h2⟩
/-- bounds and one more -/
theorem cat_bd {K : PySem.W.Frag} {G : Hp} {vb t1 t2 : Addr} {x : Nat} {c : Int} {B : List PD.Bd} {Q : VK} (hl : B.length ≤ 12) (hb : Dp K G (.ref vb) (bdsD B)) (h1 : G t1 = some (.tup [.int (x : Int), .int 0, .int c])) (h2 : G t2 = some (.tup [.ref t1]))
    (q : ∀ p G', Old [] G G' → Dp K G' (.ref p) (bdsD (B ++ [(x, 0, c)])) → Q (.ref p) G') : rCatA K (.ref vb) (.ref t2) G Q := by
  obtain ⟨b', xs, e, hxs, hds⟩ := dp_tup hb
  cases e
  have hlen := PL.DpAll.length hds
  rw [List.length_map] at hlen
  have hone : DpAll K G [.ref t1] [bdD (x, 0, c)] := .cons (.tup (SqT.of h1) (PL.Dp.ofInts [(x : Int), 0, c])) .nil
  refine ⟨vb, t2, xs, [.ref t1], rfl, rfl, hxs, SqT.of h2, ?_, fun e => ?_, fun _ e => absurd e (by simp), fun _ _ p np => ?_⟩
  · rw [hlen, List.length_singleton]; exact Nat.le_trans (Nat.succ_le_succ hl) (by decide)
  · subst e
    have : B = [] := by cases B with | nil => rfl | cons b r => simp at hlen
    subst this
    exact q t2 G (Old.refl _ _) (.tup (SqT.of h2) hone)
  · have tk : Tk G (upd G p (.tup (xs ++ [.ref t1]))) := (Old.new0 np).tk NoTup.nil
    refine q p _ (Old.new0 np) (.tup (SqT.of upd_same) ?_)
    have only := bdsD_only (B ++ [(x, 0, c)])
    have := PL.DpAll.append hds hone
    rw [show B.map bdD ++ [bdD (x, 0, c)] = (B ++ [(x, 0, c)]).map bdD by rw [List.map_append]; rfl] at this
    exact PL.Dp.keepAll tk _ _ only this
/-- a system told right -/
def spIsRight (K : PySem.W.Frag) : Sp := fun vs H Q _ => ∃ (a : Addr) (v : V) (n : Nat) (B : List PD.Bd) (B0 : Nat), vs = [.ref a, v] ∧ Pot H a B0 ∧ B0 + 10 ≤ 1000000 ∧ Dp K H v (sysD n B) ∧ SysSm n B ∧
  ∀ H', Old [a] H H' → Pot H' a (B0 + 1) → Q (.bl true) H'
section
variable {P : Program} {w : World} {K : PySem.W.Frag} {mg : Str → Option Value} {base : Heap}
/-! _law_is_right: slots pot=0 system=1 many=2 bounds=3 sums=4 told=5 lows=6 highs=7 values=8 one=9 at=10 more=11 less=12 row=13 number=14; cells [] -/
abbrev s_l_is_right : Stmt := topS 32
abbrev N_l_is_right : List Str := ["pot", "system", "many", "bounds", "sums", "told", "lows", "highs", "values", "one", "at", "more", "less", "row", "number"]
theorem sc_l_is_right : FnScope N_l_is_right ["pot", "system"] (defScope s_l_is_right) := ⟨rfl, rfl, rfl, by decide +kernel, rfl, by decide +kernel, by decide +kernel⟩
theorem ok_is_right {f : Addr} {fd : FuncData} (F : Fun K "_law_is_right" "_law_is_right" s_l_is_right f fd) (T : Tx mg) (C_l_sums : Cal P w K mg base CX0 "_law_sums" ["many", "bounds"] 1 (spSums K)) (K_tight : CalK P w K mg base CX0 "tight" ["system"] 5 (spTight K))
    (C_least : Cal P w K mg base CX0 "least" ["system"] 6 (spLeast K)) (K_least : CalK P w K mg base CX0 "least" ["system"] 6 (spLeast K)) (C_greatest : Cal P w K mg base CX0 "greatest" ["system"] 6 (spGreatest K)) (K_greatest : CalK P w K mg base CX0 "greatest" ["system"] 6 (spGreatest K))
    (C_l_are_values : Cal P w K mg base CX0 "_law_are_values" ["system", "value"] 1 (spAreValues K)) (C_solve : Cal P w K mg base CX0 "solve" ["system"] 5 (spSolve K)) (C_l_take : Cal P w K mg base CX0 "_law_take" ["pot", "upto"] 1 spTake) : FnOkG P w K mg base CX0 7 f fd ["pot", "system"] (spIsRight K) := by
  refine F.okG sc_l_is_right (fun vs H Q E h => ?_) (fun cdv A outer s H vs Q E hr hG h => ?_)
  · obtain ⟨a, v, n, B, B0, rfl, _⟩ := h
    rfl
  · obtain ⟨a, v, n, B, B0, rfl, hP, hB0, hd, sm, q⟩ := h
    have ok := sm.ok
    have hn1 := sm.n1
    have hn2 := sm.n2
    have en : ((n : Int)).toNat = n := by omega
    refine ⟨_, (pss_cons (ps_asg (pv 1) (pg_tup (by rfl) (pgs_cons (pg_name (i := 2) sc_l_is_right.nd rfl (Or.inl rfl)) (pgs_cons (pg_name (i := 3) sc_l_is_right.nd rfl (Or.inl rfl)) pgs_nil))))
      (pss_cons (ps_par (i := 4) (j := 5) (by rfl) sc_l_is_right.nd rfl rfl (by decide) rfl rfl (pa_cons (pe_cal C_l_sums hr (by rfl) pass0 (pa_cons (pv 2) (pa_cons (pv 3) pa_nil))) (pa_cons (pe_calK K_tight hr (by rfl) pass0 (pk_cons (pv 1) pk_nil)) pa_nil)) (by rfl))
      (pss_cons (ps_if (pt_cmpR op_isN (pv 4) pe_non (nomark _))
       (pss_one (ps_ret (pe_and (pe_cmpR op_isN (pv 5) pe_non (nomark _)) (pe_and (pe_cmpR op_isN (pe_cal C_least hr (by rfl) pass0 (pa_cons (pv 1) pa_nil)) pe_non (nomark _)) (pe_one (pe_cmpR op_isN (pe_calK K_greatest hr (by rfl) pass0 (pk_cons (pv 1) pk_nil)) pe_non (nomark _)))))))
       pss_nil)
      (pss_cons (ps_if (pt_cmpR op_ne (pe_callB (call_reprD hG hr.units) (by rfl) T.z_repr bz_repr (pa_cons (pv 5) pa_nil)) (pe_callB (call_reprD hG hr.units) (by rfl) T.z_repr bz_repr (pa_cons (pe_callTy call_tuple_of (by rfl) T.z_tuple bz_tuple (pa_cons (pe_lc (own := [("row", 13)]) (g := gName 13) (tt := tYes) rfl sc_l_is_right.nd (pi_list (pv 4)) (blkOk_by (N := N_l_is_right) (sc := defScope s_l_is_right) (by decide +kernel)) (fun _ _ _ _ _ => (pg_name (i := 13) sc_l_is_right.nd rfl (Or.inl rfl))) (fun _ _ _ _ _ => pts_nil) (fun _ _ _ _ _ => (pe_callTy (call_tuple_ofK (K := K)) (by rfl) T.z_tuple bz_tuple (pa_cons (pv 13) pa_nil)))) pa_nil)) pa_nil)) (nomark _))
       (pss_one (ps_ret pe_bl))
       pss_nil)
      (pss_cons (ps_set (i := 6) sc_l_is_right.nd rfl (.inl rfl) (pe_callTy call_tuple_of (by rfl) T.z_tuple bz_tuple (pa_cons (pe_lc (own := [("number", 14)]) (g := gName 14) (tt := tYes) rfl sc_l_is_right.nd (pi_list (pe_ix ix_list (pv 4) pe_int (fun _ _ => rfl))) (blkOk_by (N := N_l_is_right) (sc := defScope s_l_is_right) (by decide +kernel)) (fun _ _ _ _ _ => (pg_name (i := 14) sc_l_is_right.nd rfl (Or.inl rfl))) (fun _ _ _ _ _ => pts_nil) (fun _ _ _ _ _ => (pe_ifExp (pt_cmpR op_isN (pv 14) pe_non (nomark _)) pe_non (pe_un un_neg (pv 14))))) pa_nil)))
      (pss_cons (ps_set (i := 7) sc_l_is_right.nd rfl (.inl rfl) (pe_callTy call_tuple_of (by rfl) T.z_tuple bz_tuple (pa_cons (pe_lc (own := [("row", 13)]) (g := gName 13) (tt := tYes) rfl sc_l_is_right.nd (pi_list (pv 4)) (blkOk_by (N := N_l_is_right) (sc := defScope s_l_is_right) (by decide +kernel)) (fun _ _ _ _ _ => (pg_name (i := 13) sc_l_is_right.nd rfl (Or.inl rfl))) (fun _ _ _ _ _ => pts_nil) (fun _ _ _ _ _ => (pe_ix (ix_listK (K := K)) (pv 13) pe_int (fun _ _ => rfl)))) pa_nil)))
      (pss_cons (ps_if (PW.pt (pw_or (pt_cmpR op_ne (pe_callB (call_reprD hG hr.units) (by rfl) T.z_repr bz_repr (pa_cons (pe_calK K_least hr (by rfl) pass0 (pk_cons (pv 1) pk_nil)) pa_nil)) (pe_callB (call_reprD hG hr.units) (by rfl) T.z_repr bz_repr (pa_cons (pv 6) pa_nil)) (nomark _)) (pw_or1 (pt_cmpR op_ne (pe_callB (call_reprD hG hr.units) (by rfl) T.z_repr bz_repr (pa_cons (pe_cal C_greatest hr (by rfl) pass0 (pa_cons (pv 1) pa_nil)) pa_nil)) (pe_callB (call_reprD hG hr.units) (by rfl) T.z_repr bz_repr (pa_cons (pv 7) pa_nil)) (nomark _)))))
       (pss_one (ps_ret pe_bl))
       pss_nil)
      (pss_cutP (ps_if (PW.pt (pw_and (pt_cmpR op_notIn_seq pe_non (pv 6) (by rfl)) (pw_and1 (pt_not (pt_val (pe_cal C_l_are_values hr (by rfl) pass0 (pa_cons (pv 1) (pa_cons (pv 6) pa_nil))))))))
       (pss_one (ps_ret pe_bl))
       pss_nil)
      (pss_cutP (ps_if (PW.pt (pw_and (pt_cmpR op_notIn_seq pe_non (pv 7) (by rfl)) (pw_and1 (pt_not (pt_val (pe_cal C_l_are_values hr (by rfl) pass0 (pa_cons (pv 1) (pa_cons (pv 7) pa_nil))))))))
       (pss_one (ps_ret pe_bl))
       pss_nil)
      (pss_cons (ps_set (i := 8) sc_l_is_right.nd rfl (.inl rfl) (pe_ix ix_tup (pe_cal C_solve hr (by rfl) pass0 (pa_cons (pv 1) pa_nil)) pe_int (fun _ _ => rfl)))
      (pss_cons (ps_for PassesOwn.never rfl (pi_range1 (by rfl) T.z_range (pa_cons (pv 2) pa_nil)) (pg_name (i := 9) sc_l_is_right.nd rfl (Or.inl rfl))
       (pss_one (ps_if (PW.pt (pw_or (PW.pt (pw_and (pt_cmpR op_notN (pe_ix ix_tup (pv 6) (pv 9) (fun _ _ => rfl)) pe_non (nomark _)) (pw_and1 (pt_cmpR op_lt (pe_ix ix_tup (pv 8) (pv 9) (fun _ _ => rfl)) (pe_ix ix_tup (pv 6) (pv 9) (fun _ _ => rfl)) (nomark _))))) (pw_or1 (PW.pt (pw_and (pt_cmpR op_notN (pe_ix ix_tup (pv 7) (pv 9) (fun _ _ => rfl)) pe_non (nomark _)) (pw_and1 (pt_cmpR op_gt (pe_ix ix_tup (pv 8) (pv 9) (fun _ _ => rfl)) (pe_ix ix_tup (pv 7) (pv 9) (fun _ _ => rfl)) (nomark _))))))))
         (pss_one (ps_ret pe_bl))
         pss_nil)))
      (pss_cons (ps_set (i := 10) sc_l_is_right.nd rfl (.inl rfl) (pe_cal C_l_take hr (by rfl) pass0 (pa_cons (pv 0) (pa_cons (pv 2) pa_nil))))
      (pss_cons (ps_if (pt_cmpR op_isN (pe_ix ix_tup (pv 6) (pv 10) (fun _ _ => rfl)) pe_non (nomark _))
       (pss_one (ps_ret (pe_cmpR op_eq (pe_ix ix_tup (pe_cal C_solve hr (by rfl) pass0 (pa_cons (pe_tup (pa_cons (pv 2) (pa_cons (pe_op op_catA (pv 3) (pe_tup (pa_cons (pe_tup (pa_cons (pv 10) (pa_cons pe_int (pa_cons (pe_un un_neg pe_int) pa_nil)))) pa_nil))) pa_nil))) pa_nil)) pe_int (fun _ _ => rfl)) pe_str (nomark _))))
       pss_nil)
      (pss_cons (ps_par (i := 11) (j := 12) (by rfl) sc_l_is_right.nd rfl rfl (by decide) rfl rfl (pa_cons (pe_cal C_solve hr (by rfl) pass0 (pa_cons (pe_tup (pa_cons (pv 2) (pa_cons (pe_op op_catA (pv 3) (pe_tup (pa_cons (pe_tup (pa_cons (pv 10) (pa_cons pe_int (pa_cons (pe_ix ix_tup (pv 6) (pv 10) (fun _ _ => rfl)) pa_nil)))) pa_nil))) pa_nil))) pa_nil)) (pa_cons (pe_cal C_solve hr (by rfl) pass0 (pa_cons (pe_tup (pa_cons (pv 2) (pa_cons (pe_op op_catA (pv 3) (pe_tup (pa_cons (pe_tup (pa_cons (pv 10) (pa_cons pe_int (pa_cons (pe_op op_sub (pe_ix ix_tup (pv 6) (pv 10) (fun _ _ => rfl)) pe_int) pa_nil)))) pa_nil))) pa_nil))) pa_nil)) pa_nil)) (by rfl))
      (pss_one (ps_ret (pe_and (pe_cmpR op_eq (pe_ix ix_tup (pv 11) pe_int (fun _ _ => rfl)) pe_str (nomark _)) (pe_and (pe_cmpR op_eq (pe_ix ix_tup (pe_ix ix_tup (pv 11) pe_int (fun _ _ => rfl)) (pv 10) (fun _ _ => rfl)) (pe_ix ix_tup (pv 6) (pv 10) (fun _ _ => rfl)) (nomark _)) (pe_one (pe_cmpR op_eq (pe_ix ix_tup (pv 12) pe_int (fun _ _ => rfl)) pe_str (nomark _))))))))))))))))))))), ?_⟩
    obtain ⟨va, vb, rfl, ha, hb⟩ := sys_at hd
    refine ⟨.ref va, rfl, va, _, rfl, ha, rfl, _, _, rfl, _, _, rfl, rfl, ?_⟩
    refine ⟨.int (n : Int), rfl, .ref vb, rfl, .ref vb, n, B, rfl, hb, ok, fun T1 H1 Q1 T0 bad o1 => ?_, fun T1 H1 m rs Q1 T0 good o1 mx => ?_⟩
    · -- no values
      have nf : ¬ PD.Feas B := fun f => by
        obtain ⟨x, hx, hb⟩ := bad
        exact hb (Q1.non f (Nat.le_refl n) (Nat.le_refl n) x hx)
      have hd1 : Dp K H1 (.ref va) (sysD n B) := PL.Dp.keep (o1.tk NoTup.nil) _ _ (sysD_only n B) hd
      refine ⟨.ref va, rfl, .ref va, n, B, rfl, hd1, ok, fun f => absurd f nf, fun _ H2 o2 => ⟨_, _, rfl, ?_⟩⟩
      refine ⟨.non, rfl, rfl, _, rfl, iteT ?_⟩
      have hd2 : Dp K H2 (.ref va) (sysD n B) := PL.Dp.keep (o2.tk NoTup.nil) _ _ (sysD_only n B) hd1
      refine ⟨.non, rfl, rfl, true, rfl, iteT ?_⟩
      refine ⟨.ref va, rfl, .ref va, n, B, rfl, hd2, ok, fun f => absurd f nf, fun _ H3 o3 => ⟨rfl, true, rfl, iteT ?_⟩⟩
      have hd3 : Dp K H3 (.ref va) (sysD n B) := PL.Dp.keep (o3.tk NoTup.nil) _ _ (sysD_only n B) hd2
      refine ⟨.ref va, rfl, .ref va, n, B, rfl, hd3, ok, fun f => absurd f nf, fun _ H4 o4 => ⟨rfl, ?_⟩⟩
      have oo : Old [] H H4 := ((o1.trans o2).trans o3).trans o4
      exact q H4 (oo.mono fun x h => by simp at h) ((hP.old oo (by simp)).mono (by omega))
    · have fe : PD.Feas B := Q1.feas sm.ix good
      have hd1 : Dp K H1 (.ref va) (sysD n B) := PL.Dp.keep (o1.tk NoTup.nil) _ _ (sysD_only n B) hd
      refine ⟨.ref va, rfl, .ref va, n, B, rfl, hd1, ok, fun _ H2 t S R S0 o2 ht => ⟨_, _, rfl, ?_⟩, fun nf => absurd fe nf⟩
      have told : PD.Told n B (TM (S n)) := PD.told_of_run R fe sm.ix
      have mx2 : MxAt H H2 m rs n (TM (S n)) := (mx.congr fun x y hx hy => (PD.told_alike R Q1 fe S0 T0 x y hx hy).symm).same o2.same
      have sml : ∀ x y, x < n → y < n → Sml (TM (S n) x y) := fun x y hx hy d e => PD.tm_size (C := 2000) (D := 9000000) (by decide) R fe sm.sz ((by decide : ∀ n : Nat, n < 7 → (2 : Int) ^ n * 2000 ≤ 9000000) n (by omega)) x y d hx hy e
      have o02 : Old [] H H2 := o1.trans o2
      have uniq : ∀ S', PD.Run n B S' n → S' 0 = PD.start0 B none → ∀ x y, x < n → y < n → TM (S' n) x y = TM (S n) x y := fun S' R' e x y hx hy => (PD.told_alike R' Q1 fe e T0 x y hx hy).symm.trans (PD.told_alike R Q1 fe S0 T0 x y hx hy)
      generalize TM (S n) = M at told mx2 sml ht uniq
      clear mx T0 good Q1 T1 hd1 o1 o2 R S0 S H1
      refine ⟨.ref m, rfl, rfl, _, rfl, iteF ?_⟩
      have shm := ShowD.mat hn2 sml
      -- the matrices shown
      refine ⟨.ref t, rfl, t, matD n M, rfl, ht, shm.sh, shm.nd, Nat.le_trans shm.dp (by decide), Nat.le_trans shm.ln (by decide), ?_⟩
      have tk_lst : ∀ {G : Hp} {l : Addr} {xs : List V} {o : HO}, G l = some (.lst xs) → Tk G (upd G l o) := fun hl => Old.tk (W := [_]) ((Old.refl _ _).put (by simp)) (NoTup.one hl)
      have hlrs : rs.length = n := mx2.len
      refine ⟨.ref m, rfl, m, rfl, ⟨_, SqL.of mx2.top⟩, fun D nD => ?_⟩
      refine lc_list (K := K) (a := m) (xs := rs.map V.ref) (fun i H' => ∃ us : List V, Old [] H2 H' ∧ H' D = some (.lst us) ∧ DpAll K H' us ((List.range i).map fun x => rowD n (M x))) ⟨[], Old.new0 nD, upd_same, .nil⟩ (fun i H' _ ⟨_, h, _⟩ => SqL.of (h _ _ (by simp) mx2.top)) ?_ ?_
      · rintro i y H3 hy ⟨us, o3, hD3, hu3⟩
        have hi : i < n := by have := (List.getElem?_eq_some_iff.mp hy).1; rw [List.length_map, hlrs] at this; exact this
        obtain ⟨r, e1, e2, e3⟩ := mx2.get hi
        rw [e2] at hy
        cases hy
        have hr3 : H3 r = some (.lst (rowV n M i)) := o3 _ _ (by simp) e3
        refine ⟨rfl, .ref r, rfl, r, rowV n M i, rfl, .inl ⟨SqL.of hr3, fun u nu => ?_⟩⟩
        have nDu : D ≠ u := ne_of_none hD3 nu
        have hl : us.length = i := by rw [PL.DpAll.length hu3, List.length_map, List.length_range]
        have hD4 : (upd H3 u (.tup (rowV n M i))) D = some (.lst us) := by rw [upd_ne nDu]; exact hD3
        have tA : Tk H3 (upd H3 u (.tup (rowV n M i))) := (Old.new0 nu).tk NoTup.nil
        have tB := tk_lst (o := .lst (us ++ [.ref u])) hD4
        refine ⟨us, hD4, by rw [hl]; exact Nat.lt_of_lt_of_le (Nat.lt_of_lt_of_le hi ok.n2) (by decide), _, (o3.new nu).put0 nD, upd_same, ?_⟩
        rw [List.range_succ, List.map_append]
        have only : tupOnlyAll ((List.range i).map fun x => rowD n (M x)) = true := tupOnlyAll_of fun d hd => by
          obtain ⟨y, _, rfl⟩ := List.mem_map.mp hd
          exact rowD_only _ _
        exact PL.DpAll.append (PL.Dp.keepAll (tA.trans tB) _ _ only hu3) (.cons (PL.Dp.keep tB _ _ (rowD_only _ _) (row_of upd_same)) .nil)
      rintro H3 ⟨us, o3, hD3, hu3⟩
      rw [List.length_map, hlrs] at hu3
      refine ⟨D, us, rfl, .inl ⟨SqL.of hD3, fun t2 nt2 => ?_⟩⟩
      have o4 : Old [] H2 (upd H3 t2 (.tup us)) := o3.new nt2
      have ht2 : Dp K (upd H3 t2 (.tup us)) (.ref t2) (matD n M) := .tup (SqT.of upd_same) (PL.Dp.keepAll ((Old.new0 nt2).tk NoTup.nil) _ _ (matD_only n M) hu3)
      generalize upd H3 t2 (.tup us) = H4 at o4 ht2 ⊢
      clear o3 hD3 hu3 nt2 H3 nD
      refine ⟨t2, matD n M, rfl, ht2, shm.sh, shm.nd, Nat.le_trans shm.dp (by decide), Nat.le_trans shm.ln (by decide), rfl, false, by simp, iteF ?_⟩
      -- the lows
      have mx4 := mx2.same o4.same
      have o04 : Old [] H H4 := o02.trans o4
      clear ht2 t2 D ht mx2 o4 H2 o02
      obtain ⟨r0, e1, e2, e3⟩ := mx4.get (i := 0) (by omega)
      refine ⟨.ref m, rfl, m, _, 0, .ref r0, rfl, rfl, SqL.of mx4.top, atI_nat (j := 0) e2, ?_⟩
      refine ⟨r0, rfl, ⟨_, SqL.of e3⟩, fun D nD => ?_⟩
      refine lc_list (K := K) (a := r0) (xs := rowV n M 0) (fun i H' => Old [] H4 H' ∧ H' D = some (.lst ((List.range i).map fun y => oV (lowOf M y)))) ⟨Old.new0 nD, upd_same⟩ (fun i H' _ h => SqL.of (h.1 _ _ (by simp) e3)) ?_ ?_
      · rintro i y H5 hy ⟨o5, hD5⟩
        have hi : i < n := by have := (List.getElem?_eq_some_iff.mp hy).1; rw [rowV_len] at this; exact this
        rw [rowV_get hi] at hy
        have ey : y = oV (M 0 i) := (Option.some.inj hy).symm
        subst ey
        have hln : ((List.range i).map fun y => oV (lowOf M y)).length < sizeLine := by
          rw [List.length_map, List.length_range]; exact Nat.lt_of_lt_of_le (Nat.lt_of_lt_of_le hi ok.n2) (by decide)
        have fin : ∀ v, v = oV (lowOf M i) → Old [] H4 (upd H5 D (.lst (((List.range i).map fun y => oV (lowOf M y)) ++ [v]))) ∧ (upd H5 D (.lst (((List.range i).map fun y => oV (lowOf M y)) ++ [v]))) D = some (.lst ((List.range (i + 1)).map fun y => oV (lowOf M y))) := fun v e => by
          refine ⟨o5.put0 nD, ?_⟩
          rw [upd_same, List.range_succ, List.map_append, e]; rfl
        refine ⟨rfl, _, rfl, rfl, ?_⟩
        cases e : M 0 i with
        | none =>
          refine ⟨true, rfl, iteT ?_⟩
          exact ⟨_, hD5, hln, fin _ (by unfold lowOf; rw [e]; rfl)⟩
        | some d =>
          refine ⟨false, rfl, iteF ?_⟩
          exact ⟨.int d, rfl, d, rfl, _, hD5, hln, fin _ (by unfold lowOf; rw [e]; rfl)⟩
      rintro H5 ⟨o5, hD5⟩
      rw [rowV_len] at hD5
      refine ⟨D, _, rfl, .inl ⟨SqL.of hD5, fun tl ntl => ?_⟩⟩
      have o6 : Old [] H4 (upd H5 tl (.tup ((List.range n).map fun y => oV (lowOf M y)))) := o5.new ntl
      have htl : (upd H5 tl (.tup ((List.range n).map fun y => oV (lowOf M y)))) tl = some (.tup ((List.range n).map fun y => oV (lowOf M y))) := upd_same
      generalize upd H5 tl (.tup ((List.range n).map fun y => oV (lowOf M y))) = H6 at o6 htl ⊢
      clear o5 hD5 ntl H5 nD D
      have mx6 := mx4.same o6.same
      have o06 : Old [] H H6 := o04.trans o6
      clear mx4 o04 o6 e1 e2 e3 r0 H4
      -- the highs
      refine ⟨.ref m, rfl, m, rfl, ⟨_, SqL.of mx6.top⟩, fun D nD => ?_⟩
      refine lc_list (K := K) (a := m) (xs := rs.map V.ref) (fun i H' => Old [] H6 H' ∧ H' D = some (.lst ((List.range i).map fun y => oV (highOf M y)))) ⟨Old.new0 nD, upd_same⟩ (fun i H' _ h => SqL.of (h.1 _ _ (by simp) mx6.top)) ?_ ?_
      · rintro i y H5 hy ⟨o5, hD5⟩
        have hi : i < n := by have := (List.getElem?_eq_some_iff.mp hy).1; rw [List.length_map, hlrs] at this; exact this
        obtain ⟨r, e1, e2, e3⟩ := mx6.get hi
        rw [e2] at hy
        cases hy
        have hln : ((List.range i).map fun y => oV (highOf M y)).length < sizeLine := by
          rw [List.length_map, List.length_range]; exact Nat.lt_of_lt_of_le (Nat.lt_of_lt_of_le hi ok.n2) (by decide)
        refine ⟨rfl, .ref r, rfl, r, _, 0, oV (M i 0), rfl, rfl, SqL.of (o5 _ _ (by simp) e3), atI_nat (j := 0) (rowV_get (by omega)), _, hD5, hln, o5.put0 nD, ?_⟩
        rw [upd_same, List.range_succ, List.map_append]; rfl
      rintro H5 ⟨o5, hD5⟩
      rw [List.length_map, hlrs] at hD5
      refine ⟨D, _, rfl, .inl ⟨SqL.of hD5, fun th nth => ?_⟩⟩
      have o7 : Old [] H6 (upd H5 th (.tup ((List.range n).map fun y => oV (highOf M y)))) := o5.new nth
      have hth : (upd H5 th (.tup ((List.range n).map fun y => oV (highOf M y)))) th = some (.tup ((List.range n).map fun y => oV (highOf M y))) := upd_same
      generalize upd H5 th (.tup ((List.range n).map fun y => oV (highOf M y))) = H7 at o7 hth ⊢
      clear o5 hD5 nth H5 nD D
      have htl7 := o7 _ _ (by simp) htl
      have o07 : Old [] H H7 := o06.trans o7
      clear mx6 o06 o7 htl H6 hlrs tk_lst
      have hd7 : Dp K H7 (.ref va) (sysD n B) := PL.Dp.keep (o07.tk NoTup.nil) _ _ (sysD_only n B) hd
      -- both told and shown
      have smlL : ∀ y, y < n → Sml (lowOf M y) := fun y hy d e => by
        unfold lowOf at e
        cases e1 : M 0 y with
        | none => rw [e1] at e; cases e
        | some d' =>
          rw [e1] at e
          have := sml 0 y (by omega) hy d' e1
          have e : -d' = d := Option.some.inj e
          omega
      have smlH : ∀ y, y < n → Sml (highOf M y) := fun y hy => sml y 0 hy (by omega)
      have shL := ShowD.row hn2 smlL
      have shH := ShowD.row hn2 smlH
      refine ⟨.ref va, rfl, .ref va, n, B, rfl, hd7, ok, fun _ H8 t8 S' R' S0' o8 ht8 => ?_, fun nf => absurd fe nf⟩
      rw [rowD_congr (g := lowOf M) fun y hy => by unfold lowOf; rw [uniq S' R' S0' 0 y (by omega) hy]] at ht8
      have htl8 := o8 _ _ (by simp) htl7
      have hd8 : Dp K H8 (.ref va) (sysD n B) := PL.Dp.keep (o8.tk NoTup.nil) _ _ (sysD_only n B) hd7
      refine ⟨t8, rowD n (lowOf M), rfl, ht8, shL.sh, shL.nd, Nat.le_trans shL.dp (by decide), Nat.le_trans shL.ln (by decide), ?_⟩
      refine ⟨.ref tl, rfl, tl, rowD n (lowOf M), rfl, row_of htl8, shL.sh, shL.nd, Nat.le_trans shL.dp (by decide), Nat.le_trans shL.ln (by decide), rfl, false, by simp, iteF ?_⟩
      refine ⟨.ref va, rfl, .ref va, n, B, rfl, hd8, ok, fun _ H9 t9 S9 R9 S09 o9 ht9 => ?_, fun nf => absurd fe nf⟩
      rw [rowD_congr (g := highOf M) fun y hy => by unfold highOf; rw [uniq S9 R9 S09 y 0 hy (by omega)]] at ht9
      have htl9 := o9 _ _ (by simp) htl8
      have hth9 := o9 _ _ (by simp) (o8 _ _ (by simp) hth)
      have hd9 : Dp K H9 (.ref va) (sysD n B) := PL.Dp.keep (o9.tk NoTup.nil) _ _ (sysD_only n B) hd8
      have o09 : Old [] H H9 := (o07.trans o8).trans o9
      refine ⟨t9, rowD n (highOf M), rfl, ht9, shH.sh, shH.nd, Nat.le_trans shH.dp (by decide), Nat.le_trans shH.ln (by decide), ?_⟩
      refine ⟨.ref th, rfl, th, rowD n (highOf M), rfl, row_of hth9, shH.sh, shH.nd, Nat.le_trans shH.dp (by decide), Nat.le_trans shH.ln (by decide), rfl, false, by simp, iteF ?_⟩
      clear ht8 ht9 t8 t9 R9 S09 S9 R' S0' S' htl8 hd8 htl7 hd7 hth o07 o8 o9 H8 H7 shL shH uniq shm
      -- both are values
      have vals : ∀ (G : Hp) (tx : Addr) (fx : Nat → Option Int), G tx = some (.tup ((List.range n).map fun y => oV (fx y))) → (∀ y, y < n → fx y ≠ none) → fx 0 = some 0 → (∀ l : Nat → Int, (∀ y, y < n → fx y = some (l y)) → PD.Vals B l) →
          ∃ ns : List Int, SqT K G tx (ns.map V.int) ∧ ns.length = n ∧ ns[0]? = some 0 ∧ PD.Vals B (fnOf0 ns) := by
        intro G tx fx ht hne h0 hv
        have hl : ∀ y, y < n → fx y = some ((fx y).getD 0) := fun y hy => by
          cases e : fx y with
          | none => exact absurd e (hne y hy)
          | some d => rfl
        refine ⟨(List.range n).map fun y => (fx y).getD 0, ?_, by simp, ?_, ?_⟩
        · have := os_ints (n := n) (f := fx) (g := fun y => (fx y).getD 0) hl
          rw [this] at ht
          exact SqT.of ht
        · rw [List.getElem?_map, List.getElem?_range (by omega), Option.map_some, h0]; rfl
        · apply hv
          intro y hy
          rw [hl y hy]
          congr 1
          unfold fnOf0
          rw [List.getD_eq_getElem?_getD, List.getElem?_map, List.getElem?_range hy]; rfl
      refine ⟨fun σ' G => σ' = [some (.ref a), some (.ref va), some (.int (n : Int)), some (.ref vb), some (.ref m), some (.ref t), some (.ref tl), some (.ref th), none, none, none, none, none, none, none] ∧ Old [] H9 G, ?_, ?_⟩
      · refine ⟨.ref tl, rfl, tl, _, rfl, .inr (SqT.of htl9), rfl, os_flat n _, ?_⟩
        cases hin : inV V.non ((List.range n).map fun y => oV (lowOf M y)) with
        | true => exact ⟨false, rfl, iteF ⟨rfl, Old.refl _ _⟩⟩
        | false =>
          refine ⟨true, rfl, iteT ?_⟩
          obtain ⟨ns, v1, v2, v3, v4⟩ : ∃ ns : List Int, SqT K H9 tl (ns.map V.int) ∧ ns.length = n ∧ ns[0]? = some 0 ∧ PD.Vals B (fnOf0 ns) := by
            refine vals H9 tl (lowOf M) htl9 (fun y hy e => ?_) (by unfold lowOf; rw [told.diag 0 (by omega)]; rfl) (fun l hl => told.lows sm.ix fun x hx => ?_)
            · rw [(os_in n (lowOf M)).mpr ⟨y, hy, e⟩] at hin; cases hin
            · have := hl x hx
              unfold lowOf at this
              cases e : M 0 x with
              | none => rw [e] at this; cases this
              | some d =>
                rw [e] at this
                have : -d = l x := Option.some.inj this
                rw [← this, Int.neg_neg]
          exact ⟨.ref va, rfl, .ref tl, rfl, .ref va, tl, n, B, ns, rfl, hd9, ok, v1, v2, v3, v4, fun G' oG => ⟨true, rfl, iteF ⟨rfl, oG⟩⟩⟩
      rintro σ' H10 ⟨rfl, o10⟩
      have htl10 := o10 _ _ (by simp) htl9
      have hth10 := o10 _ _ (by simp) hth9
      have hd10 : Dp K H10 (.ref va) (sysD n B) := PL.Dp.keep (o10.tk NoTup.nil) _ _ (sysD_only n B) hd9
      have o010 := o09.trans o10
      clear htl9 hth9 hd9 o09 o10 H9
      refine ⟨fun σ' G => σ' = [some (.ref a), some (.ref va), some (.int (n : Int)), some (.ref vb), some (.ref m), some (.ref t), some (.ref tl), some (.ref th), none, none, none, none, none, none, none] ∧ Old [] H10 G, ?_, ?_⟩
      · refine ⟨.ref th, rfl, th, _, rfl, .inr (SqT.of hth10), rfl, os_flat n _, ?_⟩
        cases hin : inV V.non ((List.range n).map fun y => oV (highOf M y)) with
        | true => exact ⟨false, rfl, iteF ⟨rfl, Old.refl _ _⟩⟩
        | false =>
          refine ⟨true, rfl, iteT ?_⟩
          obtain ⟨ns, v1, v2, v3, v4⟩ : ∃ ns : List Int, SqT K H10 th (ns.map V.int) ∧ ns.length = n ∧ ns[0]? = some 0 ∧ PD.Vals B (fnOf0 ns) := by
            refine vals H10 th (highOf M) hth10 (fun y hy e => ?_) (by unfold highOf; rw [told.diag 0 (by omega)]) (fun l hl => told.highs sm.ix hl)
            rw [(os_in n (highOf M)).mpr ⟨y, hy, e⟩] at hin; cases hin
          exact ⟨.ref va, rfl, .ref th, rfl, .ref va, th, n, B, ns, rfl, hd10, ok, v1, v2, v3, v4, fun G' oG => ⟨true, rfl, iteF ⟨rfl, oG⟩⟩⟩
      rintro σ' H11 ⟨rfl, o11⟩
      have htl11 := o11 _ _ (by simp) htl10
      have hth11 := o11 _ _ (by simp) hth10
      have hd11 : Dp K H11 (.ref va) (sysD n B) := PL.Dp.keep (o11.tk NoTup.nil) _ _ (sysD_only n B) hd10
      have o011 := o010.trans o11
      clear htl10 hth10 hd10 o010 o11 H10 vals
      refine ⟨.ref va, rfl, .ref va, n, B, rfl, hd11, ok, fun _ H12 tsv u g hg g0 o12 hu htsv => ?_, fun nf => absurd fe nf⟩
      refine ⟨tsv, _, 1, .ref u, rfl, rfl, SqT.of htsv, rfl, ?_⟩
      have htl12 := o12 _ _ (by simp) htl11
      have hth12 := o12 _ _ (by simp) hth11
      have hd12 : Dp K H12 (.ref va) (sysD n B) := PL.Dp.keep (o12.tk NoTup.nil) _ _ (sysD_only n B) hd11
      have o012 := o011.trans o12
      clear htl11 hth11 hd11 o011 o12 H11 htsv
      refine ⟨.int (n : Int), rfl, (n : Int), rfl, by omega, by omega, for_range (lo := 0) (n := ((n : Int)).toNat) (fun i σ H' => ∃ y9 : Option V, σ = [some (.ref a), some (.ref va), some (.int (n : Int)), some (.ref vb), some (.ref m), some (.ref t), some (.ref tl), some (.ref th), some (.ref u), y9, none, none, none, none, none] ∧ H' = H12)
        ⟨none, rfl, rfl⟩ ?_ ?_⟩
      · rintro i σ H' hi ⟨y9, rfl, rfl⟩
        rw [en] at hi
        rw [Int.zero_add]
        have hL := os_at (f := lowOf M) hi
        have hH := os_at (f := highOf M) hi
        have lowOk : ∀ d, lowOf M i = some d → d ≤ g i := fun d e => by
          unfold lowOf at e
          cases e1 : M 0 i with
          | none => rw [e1] at e; cases e
          | some d' =>
            rw [e1] at e
            have e : -d' = d := Option.some.inj e
            have := told.sound g hg 0 i d' (by omega) hi e1
            omega
        have highOk : ∀ d, highOf M i = some d → g i ≤ d := fun d e => by
          have := told.sound g hg i 0 d hi (by omega) e
          omega
        cases eL : lowOf M i with
        | none =>
          rw [eL] at hL
          cases eH : highOf M i with
          | none =>
            rw [eH] at hH
            refine ⟨.ref tl, rfl, .int (i : Int), rfl, tl, _, (i : Int), .non, rfl, rfl, SqT.of htl12, hL, rfl, false, rfl, iteF (iteF ?_)⟩
            refine ⟨.ref th, rfl, .int (i : Int), rfl, th, _, (i : Int), .non, rfl, rfl, SqT.of hth12, hH, rfl, false, rfl, iteF (iteF ?_)⟩
            exact ⟨_, rfl, rfl⟩
          | some dth =>
            rw [eH] at hH
            refine ⟨.ref tl, rfl, .int (i : Int), rfl, tl, _, (i : Int), .non, rfl, rfl, SqT.of htl12, hL, rfl, false, rfl, iteF (iteF ?_)⟩
            refine ⟨.ref th, rfl, .int (i : Int), rfl, th, _, (i : Int), .int dth, rfl, rfl, SqT.of hth12, hH, rfl, true, rfl, iteT ⟨.ref u, rfl, .int (i : Int), rfl, u, _, (i : Int), .int (g i), rfl, rfl, SqT.of hu, rowG_at hi, .ref th, rfl, .int (i : Int), rfl, th, _, (i : Int), .int dth, rfl, rfl, SqT.of hth12, hH, g i, dth, rfl, rfl, false, congrArg V.bl (decide_eq_false (by have := highOk dth eH; omega)), iteF ?_⟩⟩
            exact ⟨_, rfl, rfl⟩
        | some dtl =>
          rw [eL] at hL
          cases eH : highOf M i with
          | none =>
            rw [eH] at hH
            refine ⟨.ref tl, rfl, .int (i : Int), rfl, tl, _, (i : Int), .int dtl, rfl, rfl, SqT.of htl12, hL, rfl, true, rfl, iteT ⟨.ref u, rfl, .int (i : Int), rfl, u, _, (i : Int), .int (g i), rfl, rfl, SqT.of hu, rowG_at hi, .ref tl, rfl, .int (i : Int), rfl, tl, _, (i : Int), .int dtl, rfl, rfl, SqT.of htl12, hL, g i, dtl, rfl, rfl, false, congrArg V.bl (decide_eq_false (by have := lowOk dtl eL; omega)), iteF ?_⟩⟩
            refine ⟨.ref th, rfl, .int (i : Int), rfl, th, _, (i : Int), .non, rfl, rfl, SqT.of hth12, hH, rfl, false, rfl, iteF (iteF ?_)⟩
            exact ⟨_, rfl, rfl⟩
          | some dth =>
            rw [eH] at hH
            refine ⟨.ref tl, rfl, .int (i : Int), rfl, tl, _, (i : Int), .int dtl, rfl, rfl, SqT.of htl12, hL, rfl, true, rfl, iteT ⟨.ref u, rfl, .int (i : Int), rfl, u, _, (i : Int), .int (g i), rfl, rfl, SqT.of hu, rowG_at hi, .ref tl, rfl, .int (i : Int), rfl, tl, _, (i : Int), .int dtl, rfl, rfl, SqT.of htl12, hL, g i, dtl, rfl, rfl, false, congrArg V.bl (decide_eq_false (by have := lowOk dtl eL; omega)), iteF ?_⟩⟩
            refine ⟨.ref th, rfl, .int (i : Int), rfl, th, _, (i : Int), .int dth, rfl, rfl, SqT.of hth12, hH, rfl, true, rfl, iteT ⟨.ref u, rfl, .int (i : Int), rfl, u, _, (i : Int), .int (g i), rfl, rfl, SqT.of hu, rowG_at hi, .ref th, rfl, .int (i : Int), rfl, th, _, (i : Int), .int dth, rfl, rfl, SqT.of hth12, hH, g i, dth, rfl, rfl, false, congrArg V.bl (decide_eq_false (by have := highOk dth eH; omega)), iteF ?_⟩⟩
            exact ⟨_, rfl, rfl⟩
      rintro σ H' ⟨y9, rfl, rfl⟩
      have p12 : Pot H' a B0 := hP.old o012 (by simp)
      refine ⟨.ref a, rfl, .int (n : Int), rfl, a, (n : Int), B0, rfl, p12, by omega, by omega, by omega, fun H13 d d0 d1 o13 p13 => ?_⟩
      obtain ⟨x, rfl⟩ : ∃ x : Nat, d = (x : Int) := ⟨d.toNat, by omega⟩
      have hx : x < n := by omega
      have nal : a ≠ tl := fun z => by obtain ⟨_, _, _, e, _⟩ := p12.ex; rw [z, htl12] at e; cases e
      have htl13 := o13 _ _ (by simp; exact nal.symm) htl12
      have hd13 : Dp K H13 (.ref va) (sysD n B) := PL.Dp.keep (o13.tk p12.notup) _ _ (sysD_only n B) hd12
      have hbH13 : Dp K H13 (.ref vb) (bdsD B) := PL.Dp.keep ((o012.tk NoTup.nil).trans (o13.tk p12.notup)) _ _ (bdsD_only B) hb
      have o013 : Old [a] H H13 := (o012.mono (fun x h => by simp at h)).trans o13
      clear hd12 htl12 hth12 o012 p12 o13
      have hL := os_at (f := lowOf M) hx
      have fin : ∀ G, Old [] H13 G → Q (.bl true) G := fun G oG => q G (o013.trans (oG.mono (fun x h => by simp at h))) (p13.old oG (by simp))
      cases eL : lowOf M x with
      | none =>
        rw [eL] at hL
        refine ⟨.ref tl, rfl, .int (x : Int), rfl, tl, _, (x : Int), .non, rfl, rfl, SqT.of htl13, hL, rfl, true, rfl, iteT ?_⟩
        have eM : M 0 x = none := by
          unfold lowOf at eL
          cases e : M 0 x with
          | none => rfl
          | some d => rw [e] at eL; cases eL
        refine ⟨.int (n : Int), rfl, .ref vb, rfl, .int (x : Int), rfl, 100000, rfl, (by show 3 ≤ sizeLine; decide), fun t1 nt1 => ⟨(by show 1 ≤ sizeLine; decide), fun t2 nt2 => ?_⟩⟩
        have oA : Old [] H13 (upd H13 t1 (.tup [.int (x : Int), .int 0, .int (-100000)])) := Old.new0 nt1
        have oB : Old [] H13 (upd (upd H13 t1 (.tup [.int (x : Int), .int 0, .int (-100000)])) t2 (.tup [.ref t1])) := oA.new nt2
        have ht1 : (upd (upd H13 t1 (.tup [.int (x : Int), .int 0, .int (-100000)])) t2 (.tup [.ref t1])) t1 = some (.tup [.int (x : Int), .int 0, .int (-100000)]) := by rw [upd_ne (ne_of_none upd_same nt2)]; exact upd_same
        have ht2 : (upd (upd H13 t1 (.tup [.int (x : Int), .int 0, .int (-100000)])) t2 (.tup [.ref t1])) t2 = some (.tup [.ref t1]) := upd_same
        generalize upd (upd H13 t1 (.tup [.int (x : Int), .int 0, .int (-100000)])) t2 (.tup [.ref t1]) = H13' at oB ht1 ht2 ⊢
        refine cat_bd (x := x) (c := (-100000)) sm.len (PL.Dp.keep (oB.tk NoTup.nil) _ _ (bdsD_only B) hbH13) ht1 ht2 fun p H13'' oC hp => ?_
        have oD := oB.trans oC
        clear oA nt1 nt2 ht1 ht2 oB oC t1 t2
        refine ⟨(by show 2 ≤ sizeLine; decide), fun ts nts => ?_⟩
        have oE := oD.new (o := .tup [.int (n : Int), .ref p]) nts
        have hsys : Dp K (upd H13'' ts (.tup [.int (n : Int), .ref p])) (.ref ts) (sysD n (B ++ [(x, 0, (-100000))])) := .tup (SqT.of upd_same) (.cons (.int _) (.cons (PL.Dp.keep ((Old.new0 nts).tk NoTup.nil) _ _ (bdsD_only _) hp) .nil))
        generalize upd H13'' ts (.tup [.int (n : Int), .ref p]) = H133 at oE hsys ⊢
        clear oD hp nts
        refine ⟨.ref ts, n, _, rfl, hsys, sm.ext hx (by decide) (by decide), fun _ G tv tu g' hg' g0' oG _ htv => ?_, fun nf => absurd (told.far fe sm.ix hn1 eM (-100000)) nf⟩
        refine ⟨tv, _, 0, .str "values", rfl, rfl, SqT.of htv, rfl, rfl, ?_⟩
        rw [decide_eq_true rfl]
        exact fin G (oE.trans oG)
      | some dl =>
        rw [eL] at hL
        refine ⟨.ref tl, rfl, .int (x : Int), rfl, tl, _, (x : Int), .int dl, rfl, rfl, SqT.of htl13, hL, rfl, false, rfl, iteF ?_⟩
        have eM : M 0 x = some (-dl) := by
          unfold lowOf at eL
          cases e : M 0 x with
          | none => rw [e] at eL; cases eL
          | some d =>
            rw [e] at eL
            have : -d = dl := Option.some.inj eL
            rw [← this, Int.neg_neg]
        have hsm := sml 0 x (by omega) hx _ eM
        have near := told.near fe sm.ix hn1 eM
        have over := told.over hn1 hx eM
        have nat := fun g => told.near_at hn1 hx eM (g := g)
        rw [Int.neg_neg] at near over nat
        refine ⟨.int (n : Int), rfl, .ref vb, rfl, .int (x : Int), rfl, .ref tl, rfl, .int (x : Int), rfl, tl, _, (x : Int), .int dl, rfl, rfl, SqT.of htl13, hL, (by show 3 ≤ sizeLine; decide), fun t1 nt1 => ⟨(by show 1 ≤ sizeLine; decide), fun t2 nt2 => ?_⟩⟩
        have oA : Old [] H13 (upd H13 t1 (.tup [.int (x : Int), .int 0, .int dl])) := Old.new0 nt1
        have oB : Old [] H13 (upd (upd H13 t1 (.tup [.int (x : Int), .int 0, .int dl])) t2 (.tup [.ref t1])) := oA.new nt2
        have ht1 : (upd (upd H13 t1 (.tup [.int (x : Int), .int 0, .int dl])) t2 (.tup [.ref t1])) t1 = some (.tup [.int (x : Int), .int 0, .int dl]) := by rw [upd_ne (ne_of_none upd_same nt2)]; exact upd_same
        have ht2 : (upd (upd H13 t1 (.tup [.int (x : Int), .int 0, .int dl])) t2 (.tup [.ref t1])) t2 = some (.tup [.ref t1]) := upd_same
        generalize upd (upd H13 t1 (.tup [.int (x : Int), .int 0, .int dl])) t2 (.tup [.ref t1]) = H13' at oB ht1 ht2 ⊢
        refine cat_bd (x := x) (c := dl) sm.len (PL.Dp.keep (oB.tk NoTup.nil) _ _ (bdsD_only B) hbH13) ht1 ht2 fun p H13'' oC hp => ?_
        have oD := oB.trans oC
        clear oA nt1 nt2 ht1 ht2 oB oC t1 t2
        refine ⟨(by show 2 ≤ sizeLine; decide), fun ts nts => ?_⟩
        have oE := oD.new (o := .tup [.int (n : Int), .ref p]) nts
        have hsys : Dp K (upd H13'' ts (.tup [.int (n : Int), .ref p])) (.ref ts) (sysD n (B ++ [(x, 0, dl)])) := .tup (SqT.of upd_same) (.cons (.int _) (.cons (PL.Dp.keep ((Old.new0 nts).tk NoTup.nil) _ _ (bdsD_only _) hp) .nil))
        generalize upd H13'' ts (.tup [.int (n : Int), .ref p]) = H133 at oE hsys ⊢
        clear oD hp nts
        refine ⟨.ref ts, n, _, rfl, hsys, sm.ext hx (by omega) (by omega), fun _ G tv tu g' hg' g0' oG htu htv => ?_, fun nf => absurd near nf⟩
        have oFG := oE.trans oG
        have htlG := oFG _ _ (by simp) htl13
        have hbG : Dp K G (.ref vb) (bdsD B) := PL.Dp.keep (oFG.tk NoTup.nil) _ _ (bdsD_only B) hbH13
        clear oE hsys oG
        have htvG := htv
        refine ⟨.int (n : Int), rfl, .ref vb, rfl, .int (x : Int), rfl, .ref tl, rfl, .int (x : Int), rfl, tl, _, (x : Int), .int dl, rfl, rfl, SqT.of htlG, hL, dl, 1, rfl, rfl, (by show 3 ≤ sizeLine; decide), fun t1 nt1 => ⟨(by show 1 ≤ sizeLine; decide), fun t2 nt2 => ?_⟩⟩
        have oA : Old [] G (upd G t1 (.tup [.int (x : Int), .int 0, .int (dl - 1)])) := Old.new0 nt1
        have oB : Old [] G (upd (upd G t1 (.tup [.int (x : Int), .int 0, .int (dl - 1)])) t2 (.tup [.ref t1])) := oA.new nt2
        have ht1 : (upd (upd G t1 (.tup [.int (x : Int), .int 0, .int (dl - 1)])) t2 (.tup [.ref t1])) t1 = some (.tup [.int (x : Int), .int 0, .int (dl - 1)]) := by rw [upd_ne (ne_of_none upd_same nt2)]; exact upd_same
        have ht2 : (upd (upd G t1 (.tup [.int (x : Int), .int 0, .int (dl - 1)])) t2 (.tup [.ref t1])) t2 = some (.tup [.ref t1]) := upd_same
        generalize upd (upd G t1 (.tup [.int (x : Int), .int 0, .int (dl - 1)])) t2 (.tup [.ref t1]) = G' at oB ht1 ht2 ⊢
        refine cat_bd (x := x) (c := (dl - 1)) sm.len (PL.Dp.keep (oB.tk NoTup.nil) _ _ (bdsD_only B) hbG) ht1 ht2 fun p G'' oC hp => ?_
        have oD := oB.trans oC
        clear oA nt1 nt2 ht1 ht2 oB oC t1 t2
        refine ⟨(by show 2 ≤ sizeLine; decide), fun ts nts => ?_⟩
        have oE := oD.new (o := .tup [.int (n : Int), .ref p]) nts
        have hsys : Dp K (upd G'' ts (.tup [.int (n : Int), .ref p])) (.ref ts) (sysD n (B ++ [(x, 0, (dl - 1))])) := .tup (SqT.of upd_same) (.cons (.int _) (.cons (PL.Dp.keep ((Old.new0 nts).tk NoTup.nil) _ _ (bdsD_only _) hp) .nil))
        generalize upd G'' ts (.tup [.int (n : Int), .ref p]) = G3 at oE hsys ⊢
        clear oD hp nts
        refine ⟨.ref ts, n, _, rfl, hsys, sm.ext hx (by omega) (by omega), fun f => absurd f over, fun _ G5 tw tx o5 htw => ⟨_, _, rfl, ?_⟩⟩
        have htv5 := o5 _ _ (by simp) (oE _ _ (by simp) htv)
        have htu5 := o5 _ _ (by simp) (oE _ _ (by simp) htu)
        have htl5 := o5 _ _ (by simp) (oE _ _ (by simp) htlG)
        refine ⟨.ref tv, rfl, tv, _, 0, .str "values", rfl, rfl, SqT.of htv5, rfl, rfl, true, congrArg V.bl (decide_eq_true rfl), iteT ?_⟩
        refine ⟨.ref tv, rfl, tv, _, 1, .ref tu, rfl, rfl, SqT.of htv5, rfl, .int (x : Int), rfl, tu, _, (x : Int), .int (g' x), rfl, rfl, SqT.of htu5, rowG_at hx, .ref tl, rfl, .int (x : Int), rfl, tl, _, (x : Int), .int dl, rfl, rfl, SqT.of htl5, hL, rfl, true, congrArg V.bl (decide_eq_true (congrArg V.int (nat g' hg' g0'))), iteT ?_⟩
        refine ⟨.ref tw, rfl, tw, _, 0, .str "round", rfl, rfl, SqT.of htw, rfl, rfl, ?_⟩
        rw [decide_eq_true rfl]
        exact fin G5 ((oFG.trans oE).trans o5)
end
end L2.T34

namespace L2.T34
open PySem PySem.Spec PyProof.Rows L2.PL
def spRight : Sp := fun vs H Q _ => ∃ (a : Addr), vs = [.ref a] ∧ Pot H a 0 ∧ ∀ H', Old [a] H H' → Q (.bl true) H'
def spLaw (K : PySem.W.Frag) : Sp := fun vs H Q _ => ∃ (a : Addr) (ns : List Int), vs = [.ref a] ∧ SqL K H a (ns.map V.int) ∧ ns.length ≤ 63 ∧ ∀ H', Q (.bl true) H'
section
variable {P : Program} {w : World} {K : PySem.W.Frag} {mg : Str → Option Value} {base : Heap}
/-! _law_right: slots pot=0 lap=1; cells ['pot'] -/
abbrev s_l_right : Stmt := topS 33
abbrev N_l_right : List Str := ["pot", "lap"]
theorem sc_l_right : FnScope N_l_right ["pot"] (defScope s_l_right) := ⟨rfl, rfl, rfl, by decide +kernel, rfl, by decide +kernel, by decide +kernel⟩
theorem ok_right {f : Addr} {fd : FuncData} (F : Fun K "_law_right" "_law_right" s_l_right f fd) (T : Tx mg) (C_l_is_right : CalG P w K mg base CX0 "_law_is_right" ["pot", "system"] 7 (spIsRight K)) (C_l_system : Cal P w K mg base CX0 "_law_system" ["pot", "many", "most", "wide"] 2 (spSystem K))
    (C_l_of : Cal P w K mg base CX0 "_law_of" ["pot", "some"] 2 (spOf K)) : FnOkG P w K mg base CX0 8 f fd ["pot"] spRight := by
  refine F.okG sc_l_right (fun vs H Q E h => ?_) (fun cdv A outer s H vs Q E hr hG h => ?_)
  · obtain ⟨a, rfl, _⟩ := h
    rfl
  · obtain ⟨a, rfl, hP, q⟩ := h
    refine ⟨_, (pss_one (ps_ret (pe_callB (cr_all rfl) (by rfl) T.z_all bz_all (pa_cons (pe_lc (own := [("lap", 1)]) (g := gName 1) (tt := tYes) rfl sc_l_right.nd (pi_range1 (by rfl) T.z_range (pa_cons pe_int pa_nil)) (blkOk_by (N := N_l_right) (sc := defScope s_l_right) (by decide +kernel)) (fun _ _ _ _ _ => (pg_name (i := 1) sc_l_right.nd rfl (Or.inl rfl))) (fun _ _ _ _ _ => pts_nil) (fun _ _ _ _ _ => (pe_calG C_l_is_right hr hG (by rfl) pass0 (pa_cons (pv 0) (pa_cons (pe_cal C_l_system hr (by rfl) pass0 (pa_cons (pv 0) (pa_cons pe_int (pa_cons pe_int (pa_cons (pe_cal C_l_of hr (by rfl) pass0 (pa_cons (pv 0) (pa_cons (pe_lst (pa_cons pe_int (pa_cons pe_int (pa_cons pe_int pa_nil)))) pa_nil))) pa_nil))))) pa_nil))))) pa_nil)))), ?_⟩
    refine ⟨8, rfl, by decide, by decide, fun D nD => ?_⟩
    have naD : a ≠ D := hP.ne nD
    have nlst : ∀ {G : Hp} {xs : List V}, G D = some (.lst xs) → NoTup [D] G := fun h => NoTup.one h
    refine lc_range (lo := 0) (n := (8 : Int).toNat) (fun i H' => Old [a] H H' ∧ H' D = some (.lst ((List.replicate i true).map V.bl)) ∧ Pot H' a (70 * i)) ⟨(Old.refl _ _).new nD, upd_same, by rw [Nat.mul_zero]; exact hP.old (W := []) (Old.new0 nD) (by simp)⟩ ?_ ?_
    · rintro i H1 hi ⟨o1, h1, p1⟩
      have hi : i < 8 := hi
      refine ⟨rfl, .ref a, rfl, .ref a, rfl, .ref a, rfl, (by show 3 ≤ sizeLine; decide), fun l nl => ?_⟩
      have nDl : D ≠ l := ne_of_none h1 nl
      have nal : a ≠ l := p1.ne nl
      have oL : Old [] H1 (upd H1 l (.lst [.int 2, .int 5, .int 1000])) := Old.new0 nl
      refine ⟨a, l, _, 70 * i, rfl, p1.old oL (by simp), SqL.of upd_same, nal.symm, by show 0 < 3; decide, by show 3 < 1000; decide, by omega, fun H2 x hx o2 p2 => ?_⟩
      obtain ⟨wd, rfl, w1, w2⟩ : ∃ wd : Int, x = .int wd ∧ 0 < wd ∧ wd ≤ 1000 := by
        simp only [List.mem_cons, List.not_mem_nil, or_false] at hx
        rcases hx with rfl | rfl | rfl
        · exact ⟨2, rfl, by decide, by decide⟩
        · exact ⟨5, rfl, by decide, by decide⟩
        · exact ⟨1000, rfl, by decide, by decide⟩
      refine ⟨a, wd, _, rfl, p2, w1, w2, by omega, fun H3 v n B sm o3 p3 hd => ?_⟩
      refine ⟨a, .ref v, n, B, _, rfl, p3, by omega, hd, sm, fun H4 o4 p4 => ?_⟩
      have o14 : Old [a] H1 H4 := (((oL.mono (fun x h => by simp at h)).trans o2).trans o3).trans o4
      have h4 : H4 D = some (.lst ((List.replicate i true).map V.bl)) := o14 _ _ (by simp; exact naD.symm) h1
      refine ⟨_, h4, ?_, (o1.trans o14).put0 nD, ?_, ?_⟩
      · rw [List.length_map, List.length_replicate]; exact Nat.lt_trans hi (by decide)
      · rw [upd_same, List.replicate_succ', List.map_append]; rfl
      · exact (p4.old (W := [D]) ((Old.refl _ _).put (by simp)) (by simp; exact naD)).mono (by omega)
    · rintro H1 ⟨o1, h1, p1⟩
      refine ⟨D, _, rfl, SqL.of h1, ?_⟩
      have e : (List.replicate (8 : Int).toNat true).all id = true := rfl
      rw [e]
      exact q H1 o1
/-! law: slots script=0 at=1; cells ['script'] -/
abbrev s_law : Stmt := topS 34
abbrev N_law : List Str := ["script", "at"]
theorem sc_law : FnScope N_law ["script"] (defScope s_law) := ⟨rfl, rfl, rfl, by decide +kernel, rfl, by decide +kernel, by decide +kernel⟩
theorem ok_law {f : Addr} {fd : FuncData} (F : Fun K "law" "law" s_law f fd) (T : Tx mg) (C_l_right : CalG P w K mg base CX0 "_law_right" ["pot"] 8 spRight) (C_l_pot : Cal P w K mg base CX0 "_law_pot" ["script", "place"] 1 (spPot K)) (C_l_cells : Cal P w K mg base CX0 "_law_cells" ["script", "most"] 1 (spCells K)) : FnOkG P w K mg base CX0 9 f fd ["script"] (spLaw K) := by
  refine F.okG sc_law (fun vs H Q E h => ?_) (fun cdv A outer s H vs Q E hr hG h => ?_)
  · obtain ⟨a, ns, rfl, _⟩ := h
    rfl
  · obtain ⟨a, ns, rfl, hs, hl, q⟩ := h
    refine ⟨_, (pss_one (ps_ret (pe_callB (cr_all rfl) (by rfl) T.z_all bz_all (pa_cons (pe_lc (own := [("at", 1)]) (g := gName 1) (tt := tYes) rfl sc_law.nd (pi_list (pe_cal C_l_cells hr (by rfl) pass0 (pa_cons (pv 0) (pa_cons pe_int pa_nil)))) (blkOk_by (N := N_law) (sc := defScope s_law) (by decide +kernel)) (fun _ _ _ _ _ => (pg_name (i := 1) sc_law.nd rfl (Or.inl rfl))) (fun _ _ _ _ _ => pts_nil) (fun _ _ _ _ _ => (pe_calG C_l_right hr hG (by rfl) pass0 (pa_cons (pe_cal C_l_pot hr (by rfl) pass0 (pa_cons (pv 0) (pa_cons (pv 1) pa_nil))) pa_nil)))) pa_nil)))), ?_⟩
    refine ⟨.ref a, rfl, a, ns, 3, rfl, hs, hl, by decide, by decide, fun H1 c k k1 k2 o1 _ hc => ?_⟩
    refine ⟨c, rfl, ⟨_, SqL.of hc⟩, fun D nD => ?_⟩
    have ncD : c ≠ D := ne_of_none hc nD
    refine lc_list (K := K) (a := c) (xs := (List.range k).map fun i => V.int ((i : Nat) : Int)) (fun i H' => Old [] H1 H' ∧ H' D = some (.lst ((List.replicate i true).map V.bl))) ⟨Old.new0 nD, upd_same⟩ (fun i H' _ h => SqL.of (h.1 _ _ (by simp) hc)) ?_ ?_
    · rintro i y H2 hy ⟨o2, h2⟩
      have hi : i < k := by have := (List.getElem?_eq_some_iff.mp hy).1; rw [List.length_map, List.length_range] at this; exact this
      rw [List.getElem?_map, List.getElem?_range hi] at hy
      have ey : y = .int (i : Int) := (Option.some.inj hy).symm
      subst ey
      refine ⟨rfl, .ref a, rfl, .int (i : Int), rfl, a, ns, (i : Int), rfl, (o1.trans o2).seqL hs (by simp), hl, by omega, by omega, fun H3 p o3 np hp => ?_⟩
      have nDp : D ≠ p := fun z => by rw [z, np] at h2; cases h2
      refine ⟨p, rfl, hp, fun H4 o4 => ?_⟩
      have o24 : Old [] H2 H4 := fun b o _ e => o4 b o (by simp; intro z; rw [z, np] at e; cases e) (o3 b o (by simp) e)
      refine ⟨_, o24 _ _ (by simp) h2, ?_, (o2.trans o24).put0 nD, ?_⟩
      · rw [List.length_map, List.length_replicate]; exact Nat.lt_of_lt_of_le (Nat.lt_of_lt_of_le hi k2) (by decide)
      · rw [upd_same, List.replicate_succ', List.map_append]; rfl
    · rintro H2 ⟨o2, h2⟩
      refine ⟨D, _, rfl, SqL.of h2, ?_⟩
      have e : (List.replicate ((List.range k).map fun i => V.int ((i : Nat) : Int)).length true).all id = true := by
        rw [List.all_eq_true]
        intro b hb
        rw [(List.mem_replicate.mp hb).2]; rfl
      rw [e]
      exact q H2
end
end L2.T34

namespace L2.PL
open PySem PySem.Spec PyProof.Rows
/-! ### the head, for a law that shows things: nothing is being shown where it is called -/
/-- a heap in which at most the script, at a, is tracked -/
structure Scr (P : Program) (w : World) (K : PySem.W.Frag) (h : Heap) (a : Addr) (ns : List Int) (H : Hp) : Prop where
  only : Only H
  seq : SqL K H a (ns.map V.int)
  hok : HOk P w H h
  here : ∀ {b : Addr}, H b ≠ none → b = a
  out : H a ≠ none → K.lookup a = none
section
variable {P : Program} {w : World} {K : PySem.W.Frag} {mg mb : Str → Option Value} {CX : CXT} {k : Nat} {fa a : Addr} {fd : FuncData} {x : Str} {sp : Sp} {s₁ : Shared} {vs : List Value} {ns : List Int} {H : Hp}
/-- what a law's call comes to -/
abbrev LawDone (P : Program) (w : World) (fa a : Addr) (s₁ : Shared) : Prop :=
  codeAny (model P w) callerA (.call (.ref fa) ⟨[.ref a], []⟩) (fun r s' => r = .ok (.ret (.bool true)) ∧ OldK s₁.heap s'.heap ∧ s'.os = s₁.os ∧ AllBare s'.gens) s₁
theorem Scr.hid (c : Scr P w K s₁.heap a ns H) {b : Addr} {o : Obj} (e : s₁.heap.get? b = some o) (n : b = a → H a = none) : (hidT s₁.heap H).get? b = some o := by
  apply hidT_get e
  cases q : H b with
  | none => rfl
  | some u =>
    have z : b = a := c.here (by rw [q]; exact fun y => nomatch y)
    have := n z
    rw [← z, q] at this
    cases this
theorem Scr.mod (c : Scr P w K s₁.heap a ns H) (KX : K.In s₁.heap) (g : s₁.heap.Ns mainGlobals mg) (b : s₁.heap.Ns builtinsNs mb) (bb : ∀ x : Str, x ≠ "__name__" → mb x = bootBuiltins x) (lim : s₁.heap.NoLimit)
    (ha : s₁.heap.get? a = some { cls := .type "list", data := .seq vs.toArray }) : Mod K mg (hidT s₁.heap H) := by
  have ns_ : ∀ {d : Addr} {m : Str → Option Value}, s₁.heap.Ns d m → (hidT s₁.heap H).Ns d m := by
    rintro d m ⟨o, es, ep, e, dd, r⟩
    refine ⟨o, es, ep, c.hid e fun z => ?_, dd, r⟩
    rw [z, ha] at e
    have : Data.seq vs.toArray = Data.dict es ep := by rw [← dd, ← Option.some.inj e]
    cases this
  have kin : K.In (hidT s₁.heap H) := fun d o e => c.hid (KX d o e) fun z => by
    cases q : H a with
    | none => rfl
    | some u =>
      have := c.out (by rw [q]; exact fun y => nomatch y)
      rw [← z, e] at this
      cases this
  obtain ⟨mc, l1, l2⟩ := lim
  exact ⟨kin, ns_ g, ⟨mb, ns_ b, bb⟩, mc, ns_ l1, l2⟩
theorem Scr.done (c : Scr P w K s₁.heap a ns H) (KX : K.In s₁.heap) (g : s₁.heap.Ns mainGlobals mg) (b : s₁.heap.Ns builtinsNs mb) (bb : ∀ x : Str, x ≠ "__name__" → mb x = bootBuiltins x) (lim : s₁.heap.NoLimit) (gens : s₁.gens = #[])
    (ha : s₁.heap.get? a = some { cls := .type "list", data := .seq vs.toArray }) (hr : Room k callerA)
    (F : ∀ base : Heap, K.In base → base.Ns mainGlobals mg → FnOkG P w K mg base CX k fa fd [x] sp) (hbind : ∀ (s : Shared) (u : Value), BindsTo s fd ⟨[u], []⟩ [(x, u)])
    (hsp : sp [.ref a] H (fun v _ => v = .bl true) fun _ _ _ => False) (hCX : ∀ H e s', CX [] H s₁ (fun _ _ _ => False) e s' → False) : LawDone P w fa a s₁ := by
  have M := c.mod KX g b bb lim ha
  have E : Env0 P w K mg (hidT s₁.heap H) callerA [] s₁ H :=
    ⟨rfl, M, fun b o e => of_hidT e, Nat.le_of_eq (hidT_size _ _), trivial, fun b hb => (by cases hb), c.hok, .of_eq gens⟩
  have run := (F _ M.kin M.glob).run callerA [] s₁ H ⟨[.ref a], []⟩ [.ref a] [.ref a] _ _ hr rfl E (hbind s₁ (.ref a)) (.cons rfl .nil) hsp
  refine codeAny_mono run fun r s' h => ?_
  match r, h with
  | .error e, h => exact (hCX H e s' h).elim
  | .ok .next, h => exact h.elim
  | .ok .brk, h => exact h.elim
  | .ok .cont, h => exact h.elim
  | .ok (.ret u), h =>
    obtain ⟨v, H', hos, bare, un, hok', rv, ev⟩ := h
    have ev : v = .bl true := ev
    subst ev
    obtain rfl : u = Value.bool true := rv
    refine ⟨rfl, OldK.of_keep fun d o e => ?_, hos, bare⟩
    rcases c.only d with z | ⟨ob, xs, z⟩
    · exact un.keep d o e z (fun y => by cases y) (fun y => by cases y)
    · obtain ⟨e1, _⟩ := c.hok d _ z
      obtain ⟨e2, _⟩ := hok' d _ (un.frzs d ob _ z)
      rw [e1] at e
      rw [← Option.some.inj e]
      exact e2
/-- the head of a law that shows things -/
theorem law_callG (KX : K.In s₁.heap) (g : s₁.heap.Ns mainGlobals mg) (b : s₁.heap.Ns builtinsNs mb) (bb : ∀ x : Str, x ≠ "__name__" → mb x = bootBuiltins x) (lim : s₁.heap.NoLimit) (gens : s₁.gens = #[])
    (ha : s₁.heap.get? a = some { cls := .type "list", data := .seq vs.toArray }) (hi : IntsAre vs ns) (hl : ns.length ≤ sizeLine) (hr : Room k callerA)
    (F : ∀ base : Heap, K.In base → base.Ns mainGlobals mg → FnOkG P w K mg base CX k fa fd [x] sp) (hbind : ∀ (s : Shared) (u : Value), BindsTo s fd ⟨[u], []⟩ [(x, u)])
    (hsp : ∀ H : Hp, Only H → SqL K H a (ns.map V.int) → sp [.ref a] H (fun v _ => v = .bl true) fun _ _ _ => False) (hCX : ∀ H e s', CX [] H s₁ (fun _ _ _ => False) e s' → False) : LawDone P w fa a s₁ := by
  have rv : Vals (ns.map V.int) vs := vals_ints hi
  have go : ∀ H : Hp, Scr P w K s₁.heap a ns H → LawDone P w fa a s₁ := fun H c => c.done KX g b bb lim gens ha hr F hbind (hsp H c.only c.seq) hCX
  cases hk : K.lookup a with
  | some o =>
    have e := (KX a o hk).symm.trans ha
    cases e
    refine go (fun _ => none) ⟨fun _ => .inl rfl, .inr ⟨_, vs.toArray, _, hk, rfl, rfl, rfl, ?_, by simpa using rv⟩, fun b u z => (nomatch z), fun z => (z rfl).elim, fun z => (z rfl).elim⟩
    rw [List.size_toArray, hi.length]; exact hl
  | none =>
    have hH : ∀ b : Addr, b ≠ a → (fun b => if b = a then some (HO.frz { cls := .type "list", data := .seq vs.toArray } (.lst (ns.map V.int))) else none : Hp) b = none := fun b h => if_neg h
    refine go _ ⟨fun b => ?_, .inl (.inr ⟨_, if_pos rfl⟩), fun b u z => ?_, fun {b} z => Classical.byContradiction fun h => z (hH b h), fun _ => hk⟩
    · by_cases h : b = a
      · exact .inr ⟨_, _, if_pos h⟩
      · exact .inl (hH b h)
    · by_cases h : b = a
      · have q := (if_pos h).symm.trans z
        cases q
        subst h
        exact ⟨ha, by rw [List.length_map]; exact hl, vs, _, rv, ha⟩
      · have q := (hH b h).symm.trans z
        cases q
end
/-- the goal that the head leaves, from the promise of a law that shows things -/
theorem walk_ofG {l : PySem.W.OpenLaw} {n k : Nat} {q : Program} {loose : List Str} {XP : (Str → Option Value) → Heap → Prop} {YP : World → Heap → Prop} {d : DefRec} {K : Params → PySem.W.Frag} {sp : PySem.W.Frag → Sp} {x : Str}
    (most : l.most = some n) (small : n ≤ sizeLine) (df : d.params.defaults = []) (hr : Room k callerA) (inY : ∀ (w : World) (h : Heap), YP w h → (K w.params).In h)
    (F : ∀ (w : World) (mg : Str → Option Value) (fa : Addr) (h : Heap), (K w.params).In h → h.Ns mainGlobals mg → mg d.name = some (.ref fa) → ∃ fd : FuncData, (∀ (s : Shared) (u : Value), BindsTo s fd ⟨[u], []⟩ [(x, u)]) ∧
        ∀ base : Heap, (K w.params).In base → base.Ns mainGlobals mg → FnOkG l.prog w (K w.params) mg base CX0 k fa fd [x] (sp (K w.params)))
    (right : ∀ (K : PySem.W.Frag) (H : Hp) (a : Addr) (ns : List Int), ns.length ≤ n → SqL K H a (ns.map V.int) → sp K [.ref a] H (fun v _ => v = .bl true) fun _ _ _ => False) :
    PySem.W.WalkO q loose XP YP l.row.toRowW d [] (fun f vs => PySem.call f vs) :=
  Att.attach_call most df fun w _ _ mg _ fa _ _ _ _ a _ ns G Y _ _ _ hmg hobj hints hlen hg => by
    obtain ⟨fd, hb, hF⟩ := F w mg fa _ (inY w _ Y) G.T.g hmg
    exact law_callG (inY w _ Y) G.T.g G.T.b G.T.builtins G.T.nolimit hg hobj hints (Nat.le_trans hlen small) hr hF hb (fun H _ hS => right _ H a ns hlen hS) fun H e s' h => h
end L2.PL

open PySem PySem.W PyProof.Rows
open_top hd34 for PySem.Challenge.rw_passedastold_k34_tight_bounds_and_least

namespace L2.T34
open PySem PySem.Spec PyProof.Rows L2.PL
/-! what the top has written, each a fact that k_is finds; and the law's own head -/
theorem all_mk {l : PySem.W.OpenLaw} {w : World} {K : PySem.W.Frag} {h : Heap} {mg : Str → Option Value} {fa C_Chains p0_Chains p1_Chains p2_Chains p3_Chains f_is_int f_is_bound f_is_system f_look_at_system f_ring_below f_Ch_join f_Ch_init f_heights_of f_solved f_solve f_tight f_least f_greatest f_l_pot f_l_take f_l_of f_l_cells f_l_sums f_l_system f_l_are_values f_l_is_right f_l_right f_law : Addr} {tk_MOST_VARIABLES tk_MOST_BOUNDS tk_MOST_NUMBER tk_THREE tk_VALUES tk_ROUND : Tok}
    {od_is_int an_is_int od_is_bound an_is_bound od_is_system an_is_system od_look_at_system an_look_at_system od_ring_below an_ring_below od_Ch_join an_Ch_join od_Ch_init an_Ch_init od_heights_of an_heights_of od_solved an_solved od_solve an_solve od_tight an_tight od_least an_least od_greatest an_greatest od_l_pot an_l_pot od_l_take an_l_take od_l_of an_l_of od_l_cells an_l_cells od_l_sums an_l_sums od_l_system an_l_system od_l_are_values an_l_are_values od_l_is_right an_l_is_right od_l_right an_l_right od_law an_law : Option Addr} {sl_is_int sl_is_bound sl_is_system sl_look_at_system sl_ring_below sl_Ch_join sl_Ch_init sl_heights_of sl_solved sl_solve sl_tight sl_least sl_greatest sl_l_pot sl_l_take sl_l_of sl_l_cells sl_l_sums sl_l_system sl_l_are_values sl_l_is_right sl_l_right sl_law : Array (Option Value)} {oc_is_int kV_is_int dc_is_int pm_is_int cd_is_int ct_is_int oc_is_bound kV_is_bound dc_is_bound pm_is_bound cd_is_bound ct_is_bound oc_is_system kV_is_system dc_is_system pm_is_system cd_is_system ct_is_system oc_look_at_system kV_look_at_system dc_look_at_system pm_look_at_system cd_look_at_system ct_look_at_system oc_ring_below kV_ring_below dc_ring_below pm_ring_below cd_ring_below ct_ring_below oc_Ch_join kV_Ch_join dc_Ch_join pm_Ch_join cd_Ch_join ct_Ch_join oc_Ch_init kV_Ch_init dc_Ch_init pm_Ch_init cd_Ch_init ct_Ch_init oc_heights_of kV_heights_of dc_heights_of pm_heights_of cd_heights_of ct_heights_of oc_solved kV_solved dc_solved pm_solved cd_solved ct_solved oc_solve kV_solve dc_solve pm_solve cd_solve ct_solve oc_tight kV_tight dc_tight pm_tight cd_tight ct_tight oc_least kV_least dc_least pm_least cd_least ct_least oc_greatest kV_greatest dc_greatest pm_greatest cd_greatest ct_greatest oc_l_pot kV_l_pot dc_l_pot pm_l_pot cd_l_pot ct_l_pot oc_l_take kV_l_take dc_l_take pm_l_take cd_l_take ct_l_take oc_l_of kV_l_of dc_l_of pm_l_of cd_l_of ct_l_of oc_l_cells kV_l_cells dc_l_cells pm_l_cells cd_l_cells ct_l_cells oc_l_sums kV_l_sums dc_l_sums pm_l_sums cd_l_sums ct_l_sums oc_l_system kV_l_system dc_l_system pm_l_system cd_l_system ct_l_system oc_l_are_values kV_l_are_values dc_l_are_values pm_l_are_values cd_l_are_values ct_l_are_values oc_l_is_right kV_l_is_right dc_l_is_right pm_l_is_right cd_l_is_right ct_l_is_right oc_l_right kV_l_right dc_l_right pm_l_right cd_l_right ct_l_right oc_law kV_law dc_law pm_law cd_law ct_law : Value}
    (X : K.In h) (G : h.Ns mainGlobals mg) (hfa : mg "law" = some (.ref fa))
    (g_MOST_VARIABLES : PySem.W.nsIn K mainGlobals "MOST_VARIABLES" = some (some (.int 80 tk_MOST_VARIABLES)))
    (g_MOST_BOUNDS : PySem.W.nsIn K mainGlobals "MOST_BOUNDS" = some (some (.int 4000 tk_MOST_BOUNDS)))
    (g_MOST_NUMBER : PySem.W.nsIn K mainGlobals "MOST_NUMBER" = some (some (.int 10000000 tk_MOST_NUMBER)))
    (g_THREE : PySem.W.nsIn K mainGlobals "THREE" = some (some (.int 3 tk_THREE)))
    (g_VALUES : PySem.W.nsIn K mainGlobals "VALUES" = some (some (.str "values" tk_VALUES)))
    (g_ROUND : PySem.W.nsIn K mainGlobals "ROUND" = some (some (.str "round" tk_ROUND)))
    (z_isinstance : PySem.W.nsIn K mainGlobals "isinstance" = some none)
    (z_len : PySem.W.nsIn K mainGlobals "len" = some none)
    (z_all : PySem.W.nsIn K mainGlobals "all" = some none)
    (z_any : PySem.W.nsIn K mainGlobals "any" = some none)
    (z_min : PySem.W.nsIn K mainGlobals "min" = some none)
    (z_max : PySem.W.nsIn K mainGlobals "max" = some none)
    (z_abs : PySem.W.nsIn K mainGlobals "abs" = some none)
    (z_sum : PySem.W.nsIn K mainGlobals "sum" = some none)
    (z_repr : PySem.W.nsIn K mainGlobals "repr" = some none)
    (z_sorted : PySem.W.nsIn K mainGlobals "sorted" = some none)
    (z_int : PySem.W.nsIn K mainGlobals "int" = some none)
    (z_bool : PySem.W.nsIn K mainGlobals "bool" = some none)
    (z_str : PySem.W.nsIn K mainGlobals "str" = some none)
    (z_tuple : PySem.W.nsIn K mainGlobals "tuple" = some none)
    (z_list : PySem.W.nsIn K mainGlobals "list" = some none)
    (z_range : PySem.W.nsIn K mainGlobals "range" = some none)
    (z_enumerate : PySem.W.nsIn K mainGlobals "enumerate" = some none)
    (z_zip : PySem.W.nsIn K mainGlobals "zip" = some none)
    (cn_Chains : PySem.W.nsIn K mainGlobals "Chains" = some (some (.ref C_Chains)))
    (pg_Chains : PySem.W.plainGet K C_Chains Str.empty = true)
    (ic_Chains : PySem.W.isClsIn K C_Chains = true)
    (po_Chains : PySem.W.plainOver K C_Chains = true)
    (sa_Chains : PySem.W.findIn K (.ref C_Chains) "__setattr__" = some (some (.builtin "object.__setattr__")))
    (mk_Chains : PySem.W.makesIn K C_Chains = true)
    (kc_Chains : PySem.W.keepIn K (.ref C_Chains) = true)
    (q0_Chains : PySem.W.findIn K (.ref C_Chains) "last" = some (some (.ref p0_Chains)))
    (u0_Chains : PySem.W.specialIn K (.ref p0_Chains) "__get__" = some (some (.builtin "member_descriptor.__get__")))
    (v0_Chains : PySem.W.takesIn K (.ref p0_Chains) = some true)
    (w0_Chains : PySem.W.typeIn K (.ref p0_Chains) = some (.type "member_descriptor"))
    (x0_Chains : PySem.W.slotIn K p0_Chains C_Chains = some 0)
    (q1_Chains : PySem.W.findIn K (.ref C_Chains) "many" = some (some (.ref p1_Chains)))
    (u1_Chains : PySem.W.specialIn K (.ref p1_Chains) "__get__" = some (some (.builtin "member_descriptor.__get__")))
    (v1_Chains : PySem.W.takesIn K (.ref p1_Chains) = some true)
    (w1_Chains : PySem.W.typeIn K (.ref p1_Chains) = some (.type "member_descriptor"))
    (x1_Chains : PySem.W.slotIn K p1_Chains C_Chains = some 1)
    (q2_Chains : PySem.W.findIn K (.ref C_Chains) "ring" = some (some (.ref p2_Chains)))
    (u2_Chains : PySem.W.specialIn K (.ref p2_Chains) "__get__" = some (some (.builtin "member_descriptor.__get__")))
    (v2_Chains : PySem.W.takesIn K (.ref p2_Chains) = some true)
    (w2_Chains : PySem.W.typeIn K (.ref p2_Chains) = some (.type "member_descriptor"))
    (x2_Chains : PySem.W.slotIn K p2_Chains C_Chains = some 2)
    (q3_Chains : PySem.W.findIn K (.ref C_Chains) "sums" = some (some (.ref p3_Chains)))
    (u3_Chains : PySem.W.specialIn K (.ref p3_Chains) "__get__" = some (some (.builtin "member_descriptor.__get__")))
    (v3_Chains : PySem.W.takesIn K (.ref p3_Chains) = some true)
    (w3_Chains : PySem.W.typeIn K (.ref p3_Chains) = some (.type "member_descriptor"))
    (x3_Chains : PySem.W.slotIn K p3_Chains C_Chains = some 3)
    (a_is_int : PySem.W.nsIn K mainGlobals "is_int" = some (some (.ref f_is_int)))
    (l_is_int : K.lookup f_is_int = some ⟨oc_is_int, od_is_int, .func (PySem.W.fnOf "is_int" "is_int" (defArgs s_is_int) (defBody s_is_int) (defScope s_is_int) .none kV_is_int dc_is_int pm_is_int an_is_int cd_is_int ct_is_int), sl_is_int⟩)
    (c_is_int : PySem.W.codeIn K cd_is_int "is_int" = true)
    (k_is_int : PySem.W.keepIn K (.ref f_is_int) = true)
    (a_is_bound : PySem.W.nsIn K mainGlobals "is_bound" = some (some (.ref f_is_bound)))
    (l_is_bound : K.lookup f_is_bound = some ⟨oc_is_bound, od_is_bound, .func (PySem.W.fnOf "is_bound" "is_bound" (defArgs s_is_bound) (defBody s_is_bound) (defScope s_is_bound) .none kV_is_bound dc_is_bound pm_is_bound an_is_bound cd_is_bound ct_is_bound), sl_is_bound⟩)
    (c_is_bound : PySem.W.codeIn K cd_is_bound "is_bound" = true)
    (k_is_bound : PySem.W.keepIn K (.ref f_is_bound) = true)
    (a_is_system : PySem.W.nsIn K mainGlobals "is_system" = some (some (.ref f_is_system)))
    (l_is_system : K.lookup f_is_system = some ⟨oc_is_system, od_is_system, .func (PySem.W.fnOf "is_system" "is_system" (defArgs s_is_system) (defBody s_is_system) (defScope s_is_system) .none kV_is_system dc_is_system pm_is_system an_is_system cd_is_system ct_is_system), sl_is_system⟩)
    (c_is_system : PySem.W.codeIn K cd_is_system "is_system" = true)
    (k_is_system : PySem.W.keepIn K (.ref f_is_system) = true)
    (a_look_at_system : PySem.W.nsIn K mainGlobals "look_at_system" = some (some (.ref f_look_at_system)))
    (l_look_at_system : K.lookup f_look_at_system = some ⟨oc_look_at_system, od_look_at_system, .func (PySem.W.fnOf "look_at_system" "look_at_system" (defArgs s_look_at_system) (defBody s_look_at_system) (defScope s_look_at_system) .none kV_look_at_system dc_look_at_system pm_look_at_system an_look_at_system cd_look_at_system ct_look_at_system), sl_look_at_system⟩)
    (c_look_at_system : PySem.W.codeIn K cd_look_at_system "look_at_system" = true)
    (k_look_at_system : PySem.W.keepIn K (.ref f_look_at_system) = true)
    (a_ring_below : PySem.W.nsIn K mainGlobals "ring_below" = some (some (.ref f_ring_below)))
    (l_ring_below : K.lookup f_ring_below = some ⟨oc_ring_below, od_ring_below, .func (PySem.W.fnOf "ring_below" "ring_below" (defArgs s_ring_below) (defBody s_ring_below) (defScope s_ring_below) .none kV_ring_below dc_ring_below pm_ring_below an_ring_below cd_ring_below ct_ring_below), sl_ring_below⟩)
    (c_ring_below : PySem.W.codeIn K cd_ring_below "ring_below" = true)
    (k_ring_below : PySem.W.keepIn K (.ref f_ring_below) = true)
    (a_Ch_join : PySem.W.findIn K (.ref C_Chains) "join" = some (some (.ref f_Ch_join)))
    (i_Ch_join : PySem.W.isFn K (.ref f_Ch_join) = true)
    (l_Ch_join : K.lookup f_Ch_join = some ⟨oc_Ch_join, od_Ch_join, .func (PySem.W.fnOf "join" "Chains.join" (defArgs s_Ch_join) (defBody s_Ch_join) (defScope s_Ch_join) .none kV_Ch_join dc_Ch_join pm_Ch_join an_Ch_join cd_Ch_join ct_Ch_join), sl_Ch_join⟩)
    (c_Ch_join : PySem.W.codeIn K cd_Ch_join "Chains.join" = true)
    (k_Ch_join : PySem.W.keepIn K (.ref f_Ch_join) = true)
    (a_Ch_init : PySem.W.findIn K (.ref C_Chains) "__init__" = some (some (.ref f_Ch_init)))
    (i_Ch_init : PySem.W.isFn K (.ref f_Ch_init) = true)
    (l_Ch_init : K.lookup f_Ch_init = some ⟨oc_Ch_init, od_Ch_init, .func (PySem.W.fnOf "__init__" "Chains.__init__" (defArgs s_Ch_init) (defBody s_Ch_init) (defScope s_Ch_init) .none kV_Ch_init dc_Ch_init pm_Ch_init an_Ch_init cd_Ch_init ct_Ch_init), sl_Ch_init⟩)
    (c_Ch_init : PySem.W.codeIn K cd_Ch_init "Chains.__init__" = true)
    (k_Ch_init : PySem.W.keepIn K (.ref f_Ch_init) = true)
    (a_heights_of : PySem.W.nsIn K mainGlobals "heights_of" = some (some (.ref f_heights_of)))
    (l_heights_of : K.lookup f_heights_of = some ⟨oc_heights_of, od_heights_of, .func (PySem.W.fnOf "heights_of" "heights_of" (defArgs s_heights_of) (defBody s_heights_of) (defScope s_heights_of) .none kV_heights_of dc_heights_of pm_heights_of an_heights_of cd_heights_of ct_heights_of), sl_heights_of⟩)
    (c_heights_of : PySem.W.codeIn K cd_heights_of "heights_of" = true)
    (k_heights_of : PySem.W.keepIn K (.ref f_heights_of) = true)
    (a_solved : PySem.W.nsIn K mainGlobals "solved" = some (some (.ref f_solved)))
    (l_solved : K.lookup f_solved = some ⟨oc_solved, od_solved, .func (PySem.W.fnOf "solved" "solved" (defArgs s_solved) (defBody s_solved) (defScope s_solved) .none kV_solved dc_solved pm_solved an_solved cd_solved ct_solved), sl_solved⟩)
    (c_solved : PySem.W.codeIn K cd_solved "solved" = true)
    (k_solved : PySem.W.keepIn K (.ref f_solved) = true)
    (a_solve : PySem.W.nsIn K mainGlobals "solve" = some (some (.ref f_solve)))
    (l_solve : K.lookup f_solve = some ⟨oc_solve, od_solve, .func (PySem.W.fnOf "solve" "solve" (defArgs s_solve) (defBody s_solve) (defScope s_solve) .none kV_solve dc_solve pm_solve an_solve cd_solve ct_solve), sl_solve⟩)
    (c_solve : PySem.W.codeIn K cd_solve "solve" = true)
    (k_solve : PySem.W.keepIn K (.ref f_solve) = true)
    (a_tight : PySem.W.nsIn K mainGlobals "tight" = some (some (.ref f_tight)))
    (l_tight : K.lookup f_tight = some ⟨oc_tight, od_tight, .func (PySem.W.fnOf "tight" "tight" (defArgs s_tight) (defBody s_tight) (defScope s_tight) .none kV_tight dc_tight pm_tight an_tight cd_tight ct_tight), sl_tight⟩)
    (c_tight : PySem.W.codeIn K cd_tight "tight" = true)
    (k_tight : PySem.W.keepIn K (.ref f_tight) = true)
    (a_least : PySem.W.nsIn K mainGlobals "least" = some (some (.ref f_least)))
    (l_least : K.lookup f_least = some ⟨oc_least, od_least, .func (PySem.W.fnOf "least" "least" (defArgs s_least) (defBody s_least) (defScope s_least) .none kV_least dc_least pm_least an_least cd_least ct_least), sl_least⟩)
    (c_least : PySem.W.codeIn K cd_least "least" = true)
    (k_least : PySem.W.keepIn K (.ref f_least) = true)
    (a_greatest : PySem.W.nsIn K mainGlobals "greatest" = some (some (.ref f_greatest)))
    (l_greatest : K.lookup f_greatest = some ⟨oc_greatest, od_greatest, .func (PySem.W.fnOf "greatest" "greatest" (defArgs s_greatest) (defBody s_greatest) (defScope s_greatest) .none kV_greatest dc_greatest pm_greatest an_greatest cd_greatest ct_greatest), sl_greatest⟩)
    (c_greatest : PySem.W.codeIn K cd_greatest "greatest" = true)
    (k_greatest : PySem.W.keepIn K (.ref f_greatest) = true)
    (a_l_pot : PySem.W.nsIn K mainGlobals "_law_pot" = some (some (.ref f_l_pot)))
    (l_l_pot : K.lookup f_l_pot = some ⟨oc_l_pot, od_l_pot, .func (PySem.W.fnOf "_law_pot" "_law_pot" (defArgs s_l_pot) (defBody s_l_pot) (defScope s_l_pot) .none kV_l_pot dc_l_pot pm_l_pot an_l_pot cd_l_pot ct_l_pot), sl_l_pot⟩)
    (c_l_pot : PySem.W.codeIn K cd_l_pot "_law_pot" = true)
    (k_l_pot : PySem.W.keepIn K (.ref f_l_pot) = true)
    (a_l_take : PySem.W.nsIn K mainGlobals "_law_take" = some (some (.ref f_l_take)))
    (l_l_take : K.lookup f_l_take = some ⟨oc_l_take, od_l_take, .func (PySem.W.fnOf "_law_take" "_law_take" (defArgs s_l_take) (defBody s_l_take) (defScope s_l_take) .none kV_l_take dc_l_take pm_l_take an_l_take cd_l_take ct_l_take), sl_l_take⟩)
    (c_l_take : PySem.W.codeIn K cd_l_take "_law_take" = true)
    (k_l_take : PySem.W.keepIn K (.ref f_l_take) = true)
    (a_l_of : PySem.W.nsIn K mainGlobals "_law_of" = some (some (.ref f_l_of)))
    (l_l_of : K.lookup f_l_of = some ⟨oc_l_of, od_l_of, .func (PySem.W.fnOf "_law_of" "_law_of" (defArgs s_l_of) (defBody s_l_of) (defScope s_l_of) .none kV_l_of dc_l_of pm_l_of an_l_of cd_l_of ct_l_of), sl_l_of⟩)
    (c_l_of : PySem.W.codeIn K cd_l_of "_law_of" = true)
    (k_l_of : PySem.W.keepIn K (.ref f_l_of) = true)
    (a_l_cells : PySem.W.nsIn K mainGlobals "_law_cells" = some (some (.ref f_l_cells)))
    (l_l_cells : K.lookup f_l_cells = some ⟨oc_l_cells, od_l_cells, .func (PySem.W.fnOf "_law_cells" "_law_cells" (defArgs s_l_cells) (defBody s_l_cells) (defScope s_l_cells) .none kV_l_cells dc_l_cells pm_l_cells an_l_cells cd_l_cells ct_l_cells), sl_l_cells⟩)
    (c_l_cells : PySem.W.codeIn K cd_l_cells "_law_cells" = true)
    (k_l_cells : PySem.W.keepIn K (.ref f_l_cells) = true)
    (a_l_sums : PySem.W.nsIn K mainGlobals "_law_sums" = some (some (.ref f_l_sums)))
    (l_l_sums : K.lookup f_l_sums = some ⟨oc_l_sums, od_l_sums, .func (PySem.W.fnOf "_law_sums" "_law_sums" (defArgs s_l_sums) (defBody s_l_sums) (defScope s_l_sums) .none kV_l_sums dc_l_sums pm_l_sums an_l_sums cd_l_sums ct_l_sums), sl_l_sums⟩)
    (c_l_sums : PySem.W.codeIn K cd_l_sums "_law_sums" = true)
    (k_l_sums : PySem.W.keepIn K (.ref f_l_sums) = true)
    (a_l_system : PySem.W.nsIn K mainGlobals "_law_system" = some (some (.ref f_l_system)))
    (l_l_system : K.lookup f_l_system = some ⟨oc_l_system, od_l_system, .func (PySem.W.fnOf "_law_system" "_law_system" (defArgs s_l_system) (defBody s_l_system) (defScope s_l_system) .none kV_l_system dc_l_system pm_l_system an_l_system cd_l_system ct_l_system), sl_l_system⟩)
    (c_l_system : PySem.W.codeIn K cd_l_system "_law_system" = true)
    (k_l_system : PySem.W.keepIn K (.ref f_l_system) = true)
    (a_l_are_values : PySem.W.nsIn K mainGlobals "_law_are_values" = some (some (.ref f_l_are_values)))
    (l_l_are_values : K.lookup f_l_are_values = some ⟨oc_l_are_values, od_l_are_values, .func (PySem.W.fnOf "_law_are_values" "_law_are_values" (defArgs s_l_are_values) (defBody s_l_are_values) (defScope s_l_are_values) .none kV_l_are_values dc_l_are_values pm_l_are_values an_l_are_values cd_l_are_values ct_l_are_values), sl_l_are_values⟩)
    (c_l_are_values : PySem.W.codeIn K cd_l_are_values "_law_are_values" = true)
    (k_l_are_values : PySem.W.keepIn K (.ref f_l_are_values) = true)
    (a_l_is_right : PySem.W.nsIn K mainGlobals "_law_is_right" = some (some (.ref f_l_is_right)))
    (l_l_is_right : K.lookup f_l_is_right = some ⟨oc_l_is_right, od_l_is_right, .func (PySem.W.fnOf "_law_is_right" "_law_is_right" (defArgs s_l_is_right) (defBody s_l_is_right) (defScope s_l_is_right) .none kV_l_is_right dc_l_is_right pm_l_is_right an_l_is_right cd_l_is_right ct_l_is_right), sl_l_is_right⟩)
    (c_l_is_right : PySem.W.codeIn K cd_l_is_right "_law_is_right" = true)
    (k_l_is_right : PySem.W.keepIn K (.ref f_l_is_right) = true)
    (a_l_right : PySem.W.nsIn K mainGlobals "_law_right" = some (some (.ref f_l_right)))
    (l_l_right : K.lookup f_l_right = some ⟨oc_l_right, od_l_right, .func (PySem.W.fnOf "_law_right" "_law_right" (defArgs s_l_right) (defBody s_l_right) (defScope s_l_right) .none kV_l_right dc_l_right pm_l_right an_l_right cd_l_right ct_l_right), sl_l_right⟩)
    (c_l_right : PySem.W.codeIn K cd_l_right "_law_right" = true)
    (k_l_right : PySem.W.keepIn K (.ref f_l_right) = true)
    (a_law : PySem.W.nsIn K mainGlobals "law" = some (some (.ref f_law)))
    (l_law : K.lookup f_law = some ⟨oc_law, od_law, .func (PySem.W.fnOf "law" "law" (defArgs s_law) (defBody s_law) (defScope s_law) .none kV_law dc_law pm_law an_law cd_law ct_law), sl_law⟩)
    (c_law : PySem.W.codeIn K cd_law "law" = true)
    (k_law : PySem.W.keepIn K (.ref f_law) = true)
    : ∃ fd : FuncData, (∀ (s : Shared) (v : Value), BindsTo s fd ⟨[v], []⟩ [("script", v)]) ∧ ∀ base : Heap, K.In base → base.Ns mainGlobals mg → FnOkG l.prog w K mg base CX0 9 fa fd ["script"] (spLaw K) := by
  have e := hfa.symm.trans (PySem.W.mg_of X G a_law)
  cases e
  have B : Bt mg := ⟨PySem.W.mg_none_of X G z_isinstance, PySem.W.mg_none_of X G z_len, PySem.W.mg_none_of X G z_all, PySem.W.mg_none_of X G z_any, PySem.W.mg_none_of X G z_min, PySem.W.mg_none_of X G z_max, PySem.W.mg_none_of X G z_abs, PySem.W.mg_none_of X G z_sum, PySem.W.mg_none_of X G z_repr, PySem.W.mg_none_of X G z_sorted, PySem.W.mg_none_of X G z_int, PySem.W.mg_none_of X G z_bool, PySem.W.mg_none_of X G z_str, PySem.W.mg_none_of X G z_tuple, PySem.W.mg_none_of X G z_list, PySem.W.mg_none_of X G z_range, PySem.W.mg_none_of X G z_enumerate, PySem.W.mg_none_of X G z_zip⟩
  have T : Tx mg := ⟨B, ⟨⟨_, PySem.W.mg_of X G g_MOST_VARIABLES⟩, ⟨_, PySem.W.mg_of X G g_MOST_BOUNDS⟩, ⟨_, PySem.W.mg_of X G g_MOST_NUMBER⟩, ⟨_, PySem.W.mg_of X G g_THREE⟩, ⟨_, PySem.W.mg_of X G g_VALUES⟩, ⟨_, PySem.W.mg_of X G g_ROUND⟩⟩⟩
  refine ⟨PySem.W.fnOf "law" "law" (defArgs s_law) (defBody s_law) (defScope s_law) .none kV_law dc_law pm_law an_law cd_law ct_law, fun s v => .of_eq rfl, fun base _ _ => ?_⟩
  have T_Chains : ChT K C_Chains p0_Chains p1_Chains p2_Chains p3_Chains := ⟨⟨pg_Chains, ic_Chains, po_Chains, sa_Chains⟩, ⟨q0_Chains, u0_Chains, v0_Chains, w0_Chains, x0_Chains, by decide⟩, ⟨q1_Chains, u1_Chains, v1_Chains, w1_Chains, x1_Chains, by decide⟩, ⟨q2_Chains, u2_Chains, v2_Chains, w2_Chains, x2_Chains, by decide⟩, ⟨q3_Chains, u3_Chains, v3_Chains, w3_Chains, x3_Chains, by decide⟩⟩
  have F_is_int := fun_mk (st := s_is_int) l_is_int c_is_int k_is_int
  have b_is_int := F_is_int.binds (ps := ["value", "low", "high"]) fun _ _ _ _ _ _ us hl => match us, hl with | [_, _, _], _ => rfl
  have C_is_int : PL.Cal l.prog w K mg base CX0 "is_int" ["value", "low", "high"] 1 (spIsInt) := ⟨_, _, PySem.W.mg_of X G a_is_int, k_is_int, b_is_int, fun _ => trivial, ok_is_int F_is_int B⟩
  have F_is_bound := fun_mk (st := s_is_bound) l_is_bound c_is_bound k_is_bound
  have b_is_bound := F_is_bound.binds (ps := ["many", "value"]) fun _ _ _ _ _ _ us hl => match us, hl with | [_, _], _ => rfl
  have C_is_bound : PL.Cal l.prog w K mg base CX0 "is_bound" ["many", "value"] 2 (spIsBound K) := ⟨_, _, PySem.W.mg_of X G a_is_bound, k_is_bound, b_is_bound, fun _ => trivial, ok_is_bound F_is_bound T C_is_int⟩
  have F_is_system := fun_mk (st := s_is_system) l_is_system c_is_system k_is_system
  have b_is_system := F_is_system.binds (ps := ["value"]) fun _ _ _ _ _ _ us hl => match us, hl with | [_], _ => rfl
  have C_is_system : PL.Cal l.prog w K mg base CX0 "is_system" ["value"] 3 (spIsSys K) := ⟨_, _, PySem.W.mg_of X G a_is_system, k_is_system, b_is_system, fun _ => trivial, ok_is_system F_is_system T C_is_int C_is_bound⟩
  have F_look_at_system := fun_mk (st := s_look_at_system) l_look_at_system c_look_at_system k_look_at_system
  have b_look_at_system := F_look_at_system.binds (ps := ["system"]) fun _ _ _ _ _ _ us hl => match us, hl with | [_], _ => rfl
  have C_look_at_system : PL.Cal l.prog w K mg base CX0 "look_at_system" ["system"] 4 (spLook K) := ⟨_, _, PySem.W.mg_of X G a_look_at_system, k_look_at_system, b_look_at_system, fun _ => trivial, ok_look F_look_at_system C_is_system⟩
  have F_ring_below := fun_mk (st := s_ring_below) l_ring_below c_ring_below k_ring_below
  have b_ring_below := F_ring_below.binds (ps := ["many", "bounds"]) fun _ _ _ _ _ _ us hl => match us, hl with | [_, _], _ => rfl
  have C_ring_below : PL.Cal l.prog w K mg base CX0 "ring_below" ["many", "bounds"] 1 (spRing K) := ⟨_, _, PySem.W.mg_of X G a_ring_below, k_ring_below, b_ring_below, fun _ => trivial, ok_ring F_ring_below T⟩
  have F_Ch_join := fun_mk (st := s_Ch_join) l_Ch_join c_Ch_join k_Ch_join
  have b_Ch_join := F_Ch_join.binds (ps := ["self", "bounds"]) fun _ _ _ _ _ _ us hl => match us, hl with | [_, _], _ => rfl
  have M_Chains_join : MtC l.prog w K mg base CX0 C_Chains "join" ["self", "bounds"] 2 (spJoin K C_Chains) := ⟨_, _, ⟨a_Ch_join, i_Ch_join, k_Ch_join⟩, b_Ch_join, ok_join F_Ch_join T T_Chains C_ring_below⟩
  have F_Ch_init := fun_mk (st := s_Ch_init) l_Ch_init c_Ch_init k_Ch_init
  have b_Ch_init := F_Ch_init.binds (ps := ["self", "many", "bounds"]) fun _ _ _ _ _ _ us hl => match us, hl with | [_, _, _], _ => rfl
  have M_Chains : MkC l.prog w K mg base CX0 "Chains" C_Chains ["self", "many", "bounds"] 3 (spInit K C_Chains) := ⟨_, _, PySem.W.mg_of X G cn_Chains, ⟨mk_Chains, a_Ch_init, i_Ch_init, kc_Chains⟩, b_Ch_init, ok_init F_Ch_init T T_Chains M_Chains_join⟩
  have F_heights_of := fun_mk (st := s_heights_of) l_heights_of c_heights_of k_heights_of
  have b_heights_of := F_heights_of.binds (ps := ["many", "bounds"]) fun _ _ _ _ _ _ us hl => match us, hl with | [_, _], _ => rfl
  have C_heights_of : PL.Cal l.prog w K mg base CX0 "heights_of" ["many", "bounds"] 1 (spHeights K) := ⟨_, _, PySem.W.mg_of X G a_heights_of, k_heights_of, b_heights_of, fun _ => trivial, ok_heights F_heights_of T⟩
  have F_solved := fun_mk (st := s_solved) l_solved c_solved k_solved
  have b_solved := F_solved.binds (ps := ["many", "bounds"]) fun _ _ _ _ _ _ us hl => match us, hl with | [_, _], _ => rfl
  have C_solved : PL.Cal l.prog w K mg base CX0 "solved" ["many", "bounds"] 2 (spSolved K) := ⟨_, _, PySem.W.mg_of X G a_solved, k_solved, b_solved, fun _ => trivial, ok_solved F_solved T C_ring_below C_heights_of⟩
  have F_solve := fun_mk (st := s_solve) l_solve c_solve k_solve
  have b_solve := F_solve.binds (ps := ["system"]) fun _ _ _ _ _ _ us hl => match us, hl with | [_], _ => rfl
  have C_solve : PL.Cal l.prog w K mg base CX0 "solve" ["system"] 5 (spSolve K) := ⟨_, _, PySem.W.mg_of X G a_solve, k_solve, b_solve, fun _ => trivial, ok_solve F_solve C_look_at_system C_solved⟩
  have F_tight := fun_mk (st := s_tight) l_tight c_tight k_tight
  have b_tight := F_tight.binds (ps := ["system"]) fun _ _ _ _ _ _ us hl => match us, hl with | [_], _ => rfl
  have C_tight : PL.Cal l.prog w K mg base CX0 "tight" ["system"] 5 (spTight K) := ⟨_, _, PySem.W.mg_of X G a_tight, k_tight, b_tight, fun _ => trivial, ok_tight F_tight T T_Chains C_look_at_system M_Chains⟩
  have K_tight : CalK l.prog w K mg base CX0 "tight" ["system"] 5 (spTight K) := ⟨_, _, PySem.W.mg_of X G a_tight, k_tight, kbinds1 F_tight (fun _ _ _ _ _ _ _ => rfl) fun _ _ _ _ _ _ _ => rfl, ok_tight F_tight T T_Chains C_look_at_system M_Chains⟩
  have F_least := fun_mk (st := s_least) l_least c_least k_least
  have b_least := F_least.binds (ps := ["system"]) fun _ _ _ _ _ _ us hl => match us, hl with | [_], _ => rfl
  have C_least : PL.Cal l.prog w K mg base CX0 "least" ["system"] 6 (spLeast K) := ⟨_, _, PySem.W.mg_of X G a_least, k_least, b_least, fun _ => trivial, ok_least F_least T C_tight⟩
  have K_least : CalK l.prog w K mg base CX0 "least" ["system"] 6 (spLeast K) := ⟨_, _, PySem.W.mg_of X G a_least, k_least, kbinds1 F_least (fun _ _ _ _ _ _ _ => rfl) fun _ _ _ _ _ _ _ => rfl, ok_least F_least T C_tight⟩
  have F_greatest := fun_mk (st := s_greatest) l_greatest c_greatest k_greatest
  have b_greatest := F_greatest.binds (ps := ["system"]) fun _ _ _ _ _ _ us hl => match us, hl with | [_], _ => rfl
  have C_greatest : PL.Cal l.prog w K mg base CX0 "greatest" ["system"] 6 (spGreatest K) := ⟨_, _, PySem.W.mg_of X G a_greatest, k_greatest, b_greatest, fun _ => trivial, ok_greatest F_greatest T C_tight⟩
  have K_greatest : CalK l.prog w K mg base CX0 "greatest" ["system"] 6 (spGreatest K) := ⟨_, _, PySem.W.mg_of X G a_greatest, k_greatest, kbinds1 F_greatest (fun _ _ _ _ _ _ _ => rfl) fun _ _ _ _ _ _ _ => rfl, ok_greatest F_greatest T C_tight⟩
  have F_l_pot := fun_mk (st := s_l_pot) l_l_pot c_l_pot k_l_pot
  have b_l_pot := F_l_pot.binds (ps := ["script", "place"]) fun _ _ _ _ _ _ us hl => match us, hl with | [_, _], _ => rfl
  have C_l_pot : PL.Cal l.prog w K mg base CX0 "_law_pot" ["script", "place"] 1 (spPot K) := ⟨_, _, PySem.W.mg_of X G a_l_pot, k_l_pot, b_l_pot, fun _ => trivial, ok_pot F_l_pot B⟩
  have F_l_take := fun_mk (st := s_l_take) l_l_take c_l_take k_l_take
  have b_l_take := F_l_take.binds (ps := ["pot", "upto"]) fun _ _ _ _ _ _ us hl => match us, hl with | [_, _], _ => rfl
  have C_l_take : PL.Cal l.prog w K mg base CX0 "_law_take" ["pot", "upto"] 1 (spTake) := ⟨_, _, PySem.W.mg_of X G a_l_take, k_l_take, b_l_take, fun _ => trivial, ok_take F_l_take B⟩
  have F_l_of := fun_mk (st := s_l_of) l_l_of c_l_of k_l_of
  have b_l_of := F_l_of.binds (ps := ["pot", "some"]) fun _ _ _ _ _ _ us hl => match us, hl with | [_, _], _ => rfl
  have C_l_of : PL.Cal l.prog w K mg base CX0 "_law_of" ["pot", "some"] 2 (spOf K) := ⟨_, _, PySem.W.mg_of X G a_l_of, k_l_of, b_l_of, fun _ => trivial, ok_of F_l_of B C_l_take⟩
  have F_l_cells := fun_mk (st := s_l_cells) l_l_cells c_l_cells k_l_cells
  have b_l_cells := F_l_cells.binds (ps := ["script", "most"]) fun _ _ _ _ _ _ us hl => match us, hl with | [_, _], _ => rfl
  have C_l_cells : PL.Cal l.prog w K mg base CX0 "_law_cells" ["script", "most"] 1 (spCells K) := ⟨_, _, PySem.W.mg_of X G a_l_cells, k_l_cells, b_l_cells, fun _ => trivial, ok_cells F_l_cells B⟩
  have F_l_sums := fun_mk (st := s_l_sums) l_l_sums c_l_sums k_l_sums
  have b_l_sums := F_l_sums.binds (ps := ["many", "bounds"]) fun _ _ _ _ _ _ us hl => match us, hl with | [_, _], _ => rfl
  have C_l_sums : PL.Cal l.prog w K mg base CX0 "_law_sums" ["many", "bounds"] 1 (spSums K) := ⟨_, _, PySem.W.mg_of X G a_l_sums, k_l_sums, b_l_sums, fun _ => trivial, ok_sums F_l_sums T⟩
  have F_l_system := fun_mk (st := s_l_system) l_l_system c_l_system k_l_system
  have b_l_system := F_l_system.binds (ps := ["pot", "many", "most", "wide"]) fun _ _ _ _ _ _ us hl => match us, hl with | [_, _, _, _], _ => rfl
  have C_l_system : PL.Cal l.prog w K mg base CX0 "_law_system" ["pot", "many", "most", "wide"] 2 (spSystem K) := ⟨_, _, PySem.W.mg_of X G a_l_system, k_l_system, b_l_system, fun _ => trivial, ok_system F_l_system T C_l_take⟩
  have F_l_are_values := fun_mk (st := s_l_are_values) l_l_are_values c_l_are_values k_l_are_values
  have b_l_are_values := F_l_are_values.binds (ps := ["system", "value"]) fun _ _ _ _ _ _ us hl => match us, hl with | [_, _], _ => rfl
  have C_l_are_values : PL.Cal l.prog w K mg base CX0 "_law_are_values" ["system", "value"] 1 (spAreValues K) := ⟨_, _, PySem.W.mg_of X G a_l_are_values, k_l_are_values, b_l_are_values, fun _ => trivial, ok_are_values F_l_are_values T⟩
  have F_l_is_right := fun_mk (st := s_l_is_right) l_l_is_right c_l_is_right k_l_is_right
  have b_l_is_right := F_l_is_right.binds (ps := ["pot", "system"]) fun _ _ _ _ _ _ us hl => match us, hl with | [_, _], _ => rfl
  have C_l_is_right : CalG l.prog w K mg base CX0 "_law_is_right" ["pot", "system"] 7 (spIsRight K) := ⟨_, _, PySem.W.mg_of X G a_l_is_right, k_l_is_right, b_l_is_right, ok_is_right F_l_is_right T C_l_sums K_tight C_least K_least C_greatest K_greatest C_l_are_values C_solve C_l_take⟩
  have F_l_right := fun_mk (st := s_l_right) l_l_right c_l_right k_l_right
  have b_l_right := F_l_right.binds (ps := ["pot"]) fun _ _ _ _ _ _ us hl => match us, hl with | [_], _ => rfl
  have C_l_right : CalG l.prog w K mg base CX0 "_law_right" ["pot"] 8 (spRight) := ⟨_, _, PySem.W.mg_of X G a_l_right, k_l_right, b_l_right, ok_right F_l_right T C_l_is_right C_l_system C_l_of⟩
  have F_law := fun_mk (st := s_law) l_law c_law k_law
  have b_law := F_law.binds (ps := ["script"]) fun _ _ _ _ _ _ us hl => match us, hl with | [_], _ => rfl
  exact ok_law F_law T C_l_right C_l_pot C_l_cells
end L2.T34
open PySem PySem.W PyProof.Rows
set_option maxRecDepth 100000 in
set_option maxHeartbeats 0 in
theorem PySem.Challenge.cw_passedastold_k34_tight_bounds_and_least_holds : PySem.Challenge.rw_passedastold_k34_tight_bounds_and_least.Holds := by
  refine hd34 ?_
  k_fill
  refine L2.PL.walk_ofG (l := PySem.Challenge.rw_passedastold_k34_tight_bounds_and_least) (n := 63) (k := 9) (x := "script") (sp := fun K => L2.T34.spLaw K) rfl (by decide) rfl ⟨rfl, by decide, by decide⟩ (fun w h Y => PySem.W.kIn_of Y) ?F (fun K H a ns hl hS => ⟨a, ns, rfl, hS, hl, fun _ => rfl⟩)
  case F =>
    intro w mg fa h KX G hmg
    refine' L2.T34.all_mk (l := PySem.Challenge.rw_passedastold_k34_tight_bounds_and_least) (w := w) KX G hmg ?g_MOST_VARIABLES ?g_MOST_BOUNDS ?g_MOST_NUMBER ?g_THREE ?g_VALUES ?g_ROUND ?z_isinstance ?z_len ?z_all ?z_any ?z_min ?z_max ?z_abs ?z_sum ?z_repr ?z_sorted ?z_int ?z_bool ?z_str ?z_tuple ?z_list ?z_range ?z_enumerate ?z_zip ?cn_Chains ?pg_Chains ?ic_Chains ?po_Chains ?sa_Chains ?mk_Chains ?kc_Chains ?q0_Chains ?u0_Chains ?v0_Chains ?w0_Chains ?x0_Chains ?q1_Chains ?u1_Chains ?v1_Chains ?w1_Chains ?x1_Chains ?q2_Chains ?u2_Chains ?v2_Chains ?w2_Chains ?x2_Chains ?q3_Chains ?u3_Chains ?v3_Chains ?w3_Chains ?x3_Chains ?a_is_int ?l_is_int ?c_is_int ?k_is_int ?a_is_bound ?l_is_bound ?c_is_bound ?k_is_bound ?a_is_system ?l_is_system ?c_is_system ?k_is_system ?a_look_at_system ?l_look_at_system ?c_look_at_system ?k_look_at_system ?a_ring_below ?l_ring_below ?c_ring_below ?k_ring_below ?a_Ch_join ?i_Ch_join ?l_Ch_join ?c_Ch_join ?k_Ch_join ?a_Ch_init ?i_Ch_init ?l_Ch_init ?c_Ch_init ?k_Ch_init ?a_heights_of ?l_heights_of ?c_heights_of ?k_heights_of ?a_solved ?l_solved ?c_solved ?k_solved ?a_solve ?l_solve ?c_solve ?k_solve ?a_tight ?l_tight ?c_tight ?k_tight ?a_least ?l_least ?c_least ?k_least ?a_greatest ?l_greatest ?c_greatest ?k_greatest ?a_l_pot ?l_l_pot ?c_l_pot ?k_l_pot ?a_l_take ?l_l_take ?c_l_take ?k_l_take ?a_l_of ?l_l_of ?c_l_of ?k_l_of ?a_l_cells ?l_l_cells ?c_l_cells ?k_l_cells ?a_l_sums ?l_l_sums ?c_l_sums ?k_l_sums ?a_l_system ?l_l_system ?c_l_system ?k_l_system ?a_l_are_values ?l_l_are_values ?c_l_are_values ?k_l_are_values ?a_l_is_right ?l_l_is_right ?c_l_is_right ?k_l_is_right ?a_l_right ?l_l_right ?c_l_right ?k_l_right ?a_law ?l_law ?c_law ?k_law
    (case g_MOST_VARIABLES => k_is)
    (case g_MOST_BOUNDS => k_is)
    (case g_MOST_NUMBER => k_is)
    (case g_THREE => k_is)
    (case g_VALUES => k_is)
    (case g_ROUND => k_is)
    (case z_isinstance => k_is)
    (case z_len => k_is)
    (case z_all => k_is)
    (case z_any => k_is)
    (case z_min => k_is)
    (case z_max => k_is)
    (case z_abs => k_is)
    (case z_sum => k_is)
    (case z_repr => k_is)
    (case z_sorted => k_is)
    (case z_int => k_is)
    (case z_bool => k_is)
    (case z_str => k_is)
    (case z_tuple => k_is)
    (case z_list => k_is)
    (case z_range => k_is)
    (case z_enumerate => k_is)
    (case z_zip => k_is)
    (case cn_Chains => k_is)
    (case pg_Chains => k_is)
    (case ic_Chains => k_is)
    (case po_Chains => k_is)
    (case sa_Chains => k_is)
    (case mk_Chains => k_is)
    (case kc_Chains => k_is)
    (case q0_Chains => k_is)
    (case u0_Chains => k_is)
    (case v0_Chains => k_is)
    (case w0_Chains => k_is)
    (case x0_Chains => k_is)
    (case q1_Chains => k_is)
    (case u1_Chains => k_is)
    (case v1_Chains => k_is)
    (case w1_Chains => k_is)
    (case x1_Chains => k_is)
    (case q2_Chains => k_is)
    (case u2_Chains => k_is)
    (case v2_Chains => k_is)
    (case w2_Chains => k_is)
    (case x2_Chains => k_is)
    (case q3_Chains => k_is)
    (case u3_Chains => k_is)
    (case v3_Chains => k_is)
    (case w3_Chains => k_is)
    (case x3_Chains => k_is)
    (case a_is_int => k_is)
    (case l_is_int => k_is)
    (case c_is_int => k_is)
    (case k_is_int => k_is)
    (case a_is_bound => k_is)
    (case l_is_bound => k_is)
    (case c_is_bound => k_is)
    (case k_is_bound => k_is)
    (case a_is_system => k_is)
    (case l_is_system => k_is)
    (case c_is_system => k_is)
    (case k_is_system => k_is)
    (case a_look_at_system => k_is)
    (case l_look_at_system => k_is)
    (case c_look_at_system => k_is)
    (case k_look_at_system => k_is)
    (case a_ring_below => k_is)
    (case l_ring_below => k_is)
    (case c_ring_below => k_is)
    (case k_ring_below => k_is)
    (case a_Ch_join => k_is)
    (case i_Ch_join => k_is)
    (case l_Ch_join => k_is)
    (case c_Ch_join => k_is)
    (case k_Ch_join => k_is)
    (case a_Ch_init => k_is)
    (case i_Ch_init => k_is)
    (case l_Ch_init => k_is)
    (case c_Ch_init => k_is)
    (case k_Ch_init => k_is)
    (case a_heights_of => k_is)
    (case l_heights_of => k_is)
    (case c_heights_of => k_is)
    (case k_heights_of => k_is)
    (case a_solved => k_is)
    (case l_solved => k_is)
    (case c_solved => k_is)
    (case k_solved => k_is)
    (case a_solve => k_is)
    (case l_solve => k_is)
    (case c_solve => k_is)
    (case k_solve => k_is)
    (case a_tight => k_is)
    (case l_tight => k_is)
    (case c_tight => k_is)
    (case k_tight => k_is)
    (case a_least => k_is)
    (case l_least => k_is)
    (case c_least => k_is)
    (case k_least => k_is)
    (case a_greatest => k_is)
    (case l_greatest => k_is)
    (case c_greatest => k_is)
    (case k_greatest => k_is)
    (case a_l_pot => k_is)
    (case l_l_pot => k_is)
    (case c_l_pot => k_is)
    (case k_l_pot => k_is)
    (case a_l_take => k_is)
    (case l_l_take => k_is)
    (case c_l_take => k_is)
    (case k_l_take => k_is)
    (case a_l_of => k_is)
    (case l_l_of => k_is)
    (case c_l_of => k_is)
    (case k_l_of => k_is)
    (case a_l_cells => k_is)
    (case l_l_cells => k_is)
    (case c_l_cells => k_is)
    (case k_l_cells => k_is)
    (case a_l_sums => k_is)
    (case l_l_sums => k_is)
    (case c_l_sums => k_is)
    (case k_l_sums => k_is)
    (case a_l_system => k_is)
    (case l_l_system => k_is)
    (case c_l_system => k_is)
    (case k_l_system => k_is)
    (case a_l_are_values => k_is)
    (case l_l_are_values => k_is)
    (case c_l_are_values => k_is)
    (case k_l_are_values => k_is)
    (case a_l_is_right => k_is)
    (case l_l_is_right => k_is)
    (case c_l_is_right => k_is)
    (case k_l_is_right => k_is)
    (case a_l_right => k_is)
    (case l_l_right => k_is)
    (case c_l_right => k_is)
    (case k_l_right => k_is)
    (case a_law => k_is)
    (case l_law => k_is)
    (case c_law => k_is)
    (case k_law => k_is)

