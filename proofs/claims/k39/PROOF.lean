import PyProof.Rows.All
import HandS.ForMost
import HandS.IsInst
import HandS.SlotsVar
import HandS.Small
import HandS.Style
import HandS.Flow
import HandS.Conv
import HandS.TupAny
import HandS.Star
import HandS.Wide
import HandS.Exc
import KE.GoesEnum
import PyProof.ReprRoads
import PySem.Challenge.RW_passedastold_k39_packets_of_the_least_nu
import HandS.Slots
import KE.GoesZip
import HandS.Iter
import PyProof.CollectIter
import PyProof.WalksMore
import HandS.SlotsOwn
import HandS.RaiseMore
import PyProof.DictUpdate
import HandS.Text
import PyProof.Rows.StrDigitsNeg
import HandS.Walk
import KE.KDictZip
import HandS.OwnIter
import PyProof.ReprLen
import PyProof.Rows.RegStrFacts
import HandS.Ends
set_option Elab.async false
set_option linter.all false
set_option maxRecDepth 100000
set_option maxHeartbeats 4000000
/-! A layer of our own over HandS: what stays, callees as one fact, calls by keywords alone, defs that know that nothing is being shown (repr), repr of data, great powers, enumerate of a tuple, an attribute with a slot as a target. -/
namespace L2.PL
open PySem PySem.Spec PyProof.Rows

/-! ### what stays -/
/-- all that was tracked, but at W, is as it was -/
def Old (W : List Addr) (H H' : Hp) : Prop := ∀ b o, b ∉ W → H b = some o → H' b = some o
theorem Old.refl (W : List Addr) (H : Hp) : Old W H H := fun _ _ _ h => h
theorem Old.trans {W : List Addr} {H H1 H2 : Hp} (a : Old W H H1) (b : Old W H1 H2) : Old W H H2 := fun c o n h => b c o n (a c o n h)
theorem Old.mono {W W' : List Addr} {H H' : Hp} (a : Old W H H') (h : ∀ x ∈ W, x ∈ W') : Old W' H H' := fun c o n e => a c o (fun m => n (h c m)) e
theorem Old.new {W : List Addr} {H H' : Hp} {p : Addr} {o : HO} (a : Old W H H') (n : H' p = none) : Old W H (upd H' p o) := fun c u nc e => by
  have e' := a c u nc e
  rw [upd_ne (ne_of_none e' n)]
  exact e'
theorem Old.new0 {W : List Addr} {H : Hp} {p : Addr} {o : HO} (n : H p = none) : Old W H (upd H p o) := (Old.refl W H).new n
theorem Old.put {W : List Addr} {H H' : Hp} {p : Addr} {o : HO} (a : Old W H H') (m : p ∈ W) : Old W H (upd H' p o) := fun c u nc e => by
  have q : c ≠ p := fun z => nc (by rw [z]; exact m)
  rw [upd_ne q]
  exact a c u nc e
/-- written where nothing stood at first -/
theorem Old.put0 {W : List Addr} {H H' : Hp} {p : Addr} {o : HO} (a : Old W H H') (m : H p = none) : Old W H (upd H' p o) := fun c u nc e => by
  rw [upd_ne (ne_of_none e m)]
  exact a c u nc e
theorem Old.free {W : List Addr} {H H' : Hp} (a : Old W H H') {p : Addr} (h : H' p = none) (n : p ∉ W) : H p = none := by
  cases q : H p with
  | none => rfl
  | some o =>
    rw [a p o n q] at h
    cases h
theorem Old.same {H H' : Hp} (a : Old [] H H') : Same H H' := fun b o e => a b o (by simp) e
/-- a step at W that stood not ahead: nothing of the old changed -/
theorem Old.drop {a : Addr} {W : List Addr} {H H1 H2 : Hp} (s : Old W H H1) (t : Old (a :: W) H1 H2) (n : H a = none) : Old W H H2 := fun b o nb e =>
  t b o (fun m => by
    rcases List.mem_cons.mp m with z | z
    · rw [z, n] at e; cases e
    · exact nb z) (s b o nb e)
/-- tuples and locked things stay -/
def Tk (H H' : Hp) : Prop := (∀ b xs, H b = some (.tup xs) → H' b = some (.tup xs)) ∧ ∀ b o u, H b = some (.frz o u) → H' b = some (.frz o u)
theorem Tk.refl (H : Hp) : Tk H H := ⟨fun _ _ h => h, fun _ _ _ h => h⟩
theorem Tk.trans {H H1 H2 : Hp} (a : Tk H H1) (b : Tk H1 H2) : Tk H H2 := ⟨fun c xs h => b.1 c xs (a.1 c xs h), fun c o u h => b.2 c o u (a.2 c o u h)⟩
theorem Tk.seq {K : PySem.W.Frag} {H H' : Hp} {a : Addr} {xs : List V} (e : Tk H H') (h : SqT K H a xs) : SqT K H' a xs := by
  rcases h with (h | ⟨o, h⟩) | h
  · exact .inl (.inl (e.1 _ _ h))
  · exact .inl (.inr ⟨o, e.2 _ _ _ h⟩)
  · exact .inr h
/-- what may change is no tuple -/
def NoTup (W : List Addr) (H : Hp) : Prop := ∀ a ∈ W, (∀ xs, H a ≠ some (.tup xs)) ∧ ∀ o u, H a ≠ some (.frz o u)
theorem Old.tk {W : List Addr} {H H' : Hp} (a : Old W H H') (n : NoTup W H) : Tk H H' :=
  ⟨fun b xs e => a b _ (fun m => (n b m).1 xs e) e, fun b o u e => a b _ (fun m => (n b m).2 o u e) e⟩
theorem NoTup.nil {H : Hp} : NoTup [] H := fun _ h => by simp at h
theorem NoTup.one {a : Addr} {H : Hp} {xs : List V} (h : H a = some (.lst xs)) : NoTup [a] H := fun b m => by
  have e : b = a := by simpa using m
  subst e
  exact ⟨fun ys q => (by rw [h] at q; cases q), fun o u q => (by rw [h] at q; cases q)⟩
theorem SqT.seq0 {K : PySem.W.Frag} {H H' : Hp} {a : Addr} {xs : List V} (h : SqT K H a xs) (e : Same H H') : SqT K H' a xs := by
  rcases h with (h | ⟨o, h⟩) | h
  · exact .inl (.inl (e _ _ h))
  · exact .inl (.inr ⟨o, e _ _ h⟩)
  · exact .inr h

/-! ### data of tuples -/
mutual
/-- tuples, ints, texts, .. alone -/
def tupOnly : PyData → Bool
  | .none => true
  | .bool _ => true
  | .int _ => true
  | .str _ => true
  | .list _ => false
  | .tuple ds => tupOnlyAll ds
  | .dict _ => false
def tupOnlyAll : List PyData → Bool
  | [] => true
  | d :: ds => tupOnly d && tupOnlyAll ds
end
mutual
theorem Dp.keep {K : PySem.W.Frag} {H H' : Hp} (t : Tk H H') : ∀ (d : PyData) (v : V), tupOnly d = true → Dp K H v d → Dp K H' v d
  | .none, _, _, h => by cases h; exact .non
  | .bool _, _, _, h => by cases h; exact .bl _
  | .int _, _, _, h => by cases h; exact .int _
  | .str _, _, _, h => by cases h; exact .str _
  | .list _, _, q, _ => by cases q
  | .tuple ds, _, q, h => by
    cases h with
    | tup hs ha => exact .tup (t.seq hs) (Dp.keepAll t ds _ q ha)
  | .dict _, _, q, _ => by cases q
theorem Dp.keepAll {K : PySem.W.Frag} {H H' : Hp} (t : Tk H H') : ∀ (ds : List PyData) (vs : List V), tupOnlyAll ds = true → DpAll K H vs ds → DpAll K H' vs ds
  | [], _, _, h => by cases h; exact .nil
  | d :: ds, _, q, h => by
    cases h with
    | cons h1 h2 =>
      have q' : (tupOnly d && tupOnlyAll ds) = true := q
      rw [Bool.and_eq_true] at q'
      exact .cons (Dp.keep t d _ q'.1 h1) (Dp.keepAll t ds _ q'.2 h2)
end
theorem DpAll.get {K : PySem.W.Frag} {H : Hp} : ∀ {vs : List V} {ds : List PyData} {i : Nat} {d : PyData}, DpAll K H vs ds → ds[i]? = some d → ∃ v, vs[i]? = some v ∧ Dp K H v d
  | _, _, _, _, .nil, e => by simp at e
  | _, _, 0, _, .cons h _, e => by simp at e; subst e; exact ⟨_, rfl, h⟩
  | _, _, i + 1, d, .cons _ t, e => by
    obtain ⟨v, h1, h2⟩ := DpAll.get (i := i) (d := d) t (by simpa using e)
    exact ⟨v, by simpa using h1, h2⟩
theorem DpAll.length {K : PySem.W.Frag} {H : Hp} : ∀ {vs : List V} {ds : List PyData}, DpAll K H vs ds → vs.length = ds.length
  | _, _, .nil => rfl
  | _, _, .cons _ t => by simp [DpAll.length t]
theorem DpAll.of {K : PySem.W.Frag} {H : Hp} : ∀ {vs : List V} {ds : List PyData}, vs.length = ds.length → (∀ (i : Nat) v d, vs[i]? = some v → ds[i]? = some d → Dp K H v d) → DpAll K H vs ds
  | [], [], _, _ => .nil
  | [], _ :: _, h, _ => by simp at h
  | _ :: _, [], h, _ => by simp at h
  | v :: vs, d :: ds, h, f => .cons (f 0 v d rfl rfl) (DpAll.of (by simpa using h) fun i x y e1 e2 => f (i + 1) x y (by simpa using e1) (by simpa using e2))
theorem DpAll.append {K : PySem.W.Frag} {H : Hp} : ∀ {vs ws : List V} {ds es : List PyData}, DpAll K H vs ds → DpAll K H ws es → DpAll K H (vs ++ ws) (ds ++ es)
  | _, _, _, _, .nil, h => h
  | _, _, _, _, .cons a t, h => .cons a (DpAll.append t h)
theorem Dp.ofInts {K : PySem.W.Frag} {H : Hp} : ∀ (ns : List Int), DpAll K H (ns.map V.int) (ns.map PyData.int)
  | [] => .nil
  | n :: ns => .cons (.int n) (Dp.ofInts ns)

/-! ### callees as one fact -/
structure Cal (P : Program) (w : World) (K : PySem.W.Frag) (mg : Str → Option Value) (base : Heap) (CX : CXT) (x : Str) (ps : List Str) (k : Nat) (sp : Sp) : Prop where
  ex : ∃ (f : Addr) (fd : FuncData), mg x = some (.ref f) ∧ PySem.W.keepIn K (.ref f) = true ∧ Binds K fd ps [] ∧ (∀ ks : List Str, True) ∧ FnOk P w K mg base CX k f fd ps sp
section
variable {X : Cx} {CX : CXT} {j k : Nat} {ps : List Str} {sp : Sp} {E : XK} {x : Str} {p pos : Pos} {e : Expr} {es : List Expr} {t : TA}
theorem pe_cal (C : Cal X.prog X.w X.K X.mg X.base CX x ps k sp) (hr : Room j X.A) (hg : Gl X x) (hx : Passes CX X E) (ha : PA X (e :: es) t) (hk : k ≤ j := by decide)
    (hdb : (x == ("__debug__" : Str)) = false := by decide) (he : starEach (e :: es) X.env = (false, eval e X.env) :: starEach es X.env := by rfl) (hpl : (backTo pos (starEach es X.env)).any (·.1) = false := by rfl) :
    PE X (.Call (.Name x p) (e :: es) [] pos) (tCall sp [] E t) := by
  obtain ⟨f, fd, hm, kp, hb, _, F⟩ := C.ex
  exact pe_call F (hr.mono hk) hg hm kp hb .nil hx ha hdb he hpl
theorem pe_cal0 (C : Cal X.prog X.w X.K X.mg X.base CX x ps k sp) (hr : Room j X.A) (hg : Gl X x) (hx : Passes CX X E) (hk : k ≤ j := by decide) (hdb : (x == ("__debug__" : Str)) = false := by decide) :
    PE X (.Call (.Name x p) [] [] pos) (tCall sp [] E tNil) := by
  obtain ⟨f, fd, hm, kp, hb, _, F⟩ := C.ex
  exact pe_call0 F (hr.mono hk) hg hm kp hb .nil hx hdb
end

/-! ### defs that are called where nothing is being shown -/
structure FnOkG (P : Program) (w : World) (K : PySem.W.Frag) (mg : Str → Option Value) (base : Heap) (CX : CXT) (k : Nat) (f : Addr) (fd : FuncData) (ps : List Str) (sp : Sp) : Prop where
  len : ∀ vs H Q E, sp vs H Q E → vs.length = ps.length
  run : ∀ (A : Around) (outer : List Env) (s : Shared) (H : Hp) (args : Args) (us : List Value) (vs : List V) (Q : VK) (E : XK), Room k A → A.guards = some [] → Env0 P w K mg base A outer s H → BindsTo s fd args (ps.zip us) → Vals vs us → sp vs H Q E →
    codeAny (model P w) A (.call (.ref f) args) (CR CX outer P w H s Q E) s
theorem FnOk.g {P : Program} {w : World} {K : PySem.W.Frag} {mg : Str → Option Value} {base : Heap} {CX : CXT} {k : Nat} {f : Addr} {fd : FuncData} {ps : List Str} {sp : Sp} (F : FnOk P w K mg base CX k f fd ps sp) : FnOkG P w K mg base CX k f fd ps sp :=
  ⟨F.len, fun A outer s H args us vs Q E hr _ => F.run A outer s H args us vs Q E hr⟩
theorem FnOkG.mono {P : Program} {w : World} {K : PySem.W.Frag} {mg : Str → Option Value} {base : Heap} {CX : CXT} {j k : Nat} {f : Addr} {fd : FuncData} {ps : List Str} {sp : Sp} (F : FnOkG P w K mg base CX j f fd ps sp) (h : j ≤ k) :
    FnOkG P w K mg base CX k f fd ps sp := ⟨F.len, fun A outer s H args us vs Q E hr => F.run A outer s H args us vs Q E (hr.mono h)⟩
structure CalG (P : Program) (w : World) (K : PySem.W.Frag) (mg : Str → Option Value) (base : Heap) (CX : CXT) (x : Str) (ps : List Str) (k : Nat) (sp : Sp) : Prop where
  ex : ∃ (f : Addr) (fd : FuncData), mg x = some (.ref f) ∧ PySem.W.keepIn K (.ref f) = true ∧ Binds K fd ps [] ∧ FnOkG P w K mg base CX k f fd ps sp
section
variable {X : Cx} {CX : CXT} {j k : Nat} {f : Addr} {fd : FuncData} {ps ks : List Str} {sp : Sp} {E : XK} {x : Str} {p pos : Pos} {e : Expr} {es : List Expr} {kws : List Keyword} {t tk : TA} {ds : List Value} {dvs : List V}
theorem run_fnG {pins : List (Addr × Obj)} {σ : L2.St} {H : Hp} {s : Shared} {Q : VK} {us : List Value} {vs : List V} (F : FnOkG X.prog X.w X.K X.mg X.base CX k f fd ps sp) (hr : Room k X.A) (hG : X.A.guards = some []) (hb : Binds X.K fd ps []) (hx : Passes CX X E)
    (I : Inv X pins σ H s) (r : Vals vs us) (h : sp vs H Q E) : wpAny (model X.prog X.w) X.A (call (.ref f) us) (EP X pins σ Q) X.xe s := by
  have hl : us.length = ps.length := by rw [← r.length]; exact F.len _ _ _ _ h
  have hb' : BindsTo s fd ⟨us, []⟩ (ps.zip us) := by
    have q := hb s us I.kIn (by rw [List.append_nil]; exact hl)
    rw [List.append_nil] at q
    exact q
  refine wpAny_call (codeAny_mono (F.run X.A X.stack s H ⟨us, []⟩ us vs Q E hr hG I.env0 hb' r h) fun r s' hq => ?_)
  cases r with
  | error e => exact hx pins σ H s e s' I hq
  | ok fl =>
    cases fl with
    | ret u => exact I.after hq
    | next => exact False.elim hq
    | brk => exact False.elim hq
    | cont => exact False.elim hq
theorem pe_calG (C : CalG X.prog X.w X.K X.mg X.base CX x ps k sp) (hr : Room j X.A) (hG : X.A.guards = some []) (hg : Gl X x) (hx : Passes CX X E) (ha : PA X (e :: es) t) (hk : k ≤ j := by decide)
    (hdb : (x == ("__debug__" : Str)) = false := by decide) (he : starEach (e :: es) X.env = (false, eval e X.env) :: starEach es X.env := by rfl) (hpl : (backTo pos (starEach es X.env)).any (·.1) = false := by rfl) :
    PE X (.Call (.Name x p) (e :: es) [] pos) (tCall sp [] E t) := by
  obtain ⟨f, fd, hm, kp, hb, F⟩ := C.ex
  refine ⟨fun pins s σ H Q I h => ?_⟩
  refine wpAny_Call_Name_kw (ld_glob I hg hm ?_ hdb)
  refine PySem.W.callWith_K (h₀ := X.base) I.ok.mod.kin kp (thn (ha.run pos pins s σ H _ I h) fun us s1 ⟨vs, H1, I1, r, q⟩ => ⟨I1.kIn, ?_⟩) he hpl
  refine run_fnG F (hr.mono hk) hG hb hx I1 r ?_
  have q' : sp (vs ++ []) H1 Q E := q
  rw [List.append_nil] at q'
  exact q'
/-- f(k = v, ..), no positional argument -/
theorem pe_callK0 {g : List Value → List Value → List Value} {gV : List V → List V → List V} (F : FnOk X.prog X.w X.K X.mg X.base CX k f fd ps sp) (hr : Room k X.A) (hg : Gl X x) (hm : X.mg x = some (.ref f)) (hk : PySem.W.keepIn X.K (.ref f) = true)
    (hb : KBinds X.K fd ps ks g gV) (hx : Passes CX X E) (hkw : PK X kws tk)
    (hall : (backToKw pos (keywordEach kws X.env)).all (·.1.isSome) = true := by rfl) (hks : (backToKw pos (keywordEach kws X.env)).filterMap (·.1) = ks := by rfl)
    (hdb : (x == ("__debug__" : Str)) = false := by decide)
    (hpl : ((backTo pos (starEach [] X.env)).any (·.1) || (backToKw pos (keywordEach kws X.env)).any (·.1.isNone)) = false := by rfl) :
    PE X (.Call (.Name x p) [] kws pos) (tCallK sp gV E tNil tk) := by
  refine ⟨fun pins s σ H Q I h => ?_⟩
  refine wpAny_Call_Name_kw (ld_glob I hg hm ?_ hdb)
  refine PySem.W.callWith_KW0 (h₀ := X.base) (first := []) I.ok.mod.kin hk hall ?_ hpl
  refine thn (hkw.run pos pins s σ H _ I h) fun ws s2 ⟨zs, H2, I2, rz, q2⟩ => ⟨I2.kIn, ?_⟩
  rw [hks]
  exact run_fnk F hr hb hx I2 .nil rz q2
end
section
variable {P : Program} {w : World} {K : PySem.W.Frag} {mg : Str → Option Value} {base : Heap}
theorem guards_deeper {A : Around} {env : Env} (h : A.guards = some []) : (A.deeper env).guards = some [] := by
  first | exact h | (simp [Around.deeper]; exact h)
/-- a def, by its body; nothing is being shown -/
theorem _root_.L2.Fun.okG {x qual : Str} {st : Stmt} {f : Addr} {fd : FuncData} {N ps : List Str} {k : Nat} {sp : Sp} (F : Fun K x qual st f fd) (S : FnScope N ps (defScope st)) (len : ∀ vs H Q E, sp vs H Q E → vs.length = ps.length)
    (hbody : ∀ (cdv : Value) (A : Around) (outer : List Env) (s : Shared) (H : Hp) (vs : List V) (Q : VK) (E : XK), Room k (A.deeper (envOfC qual (defScope st) s.heap.objs.size f cdv)) → (A.deeper (envOfC qual (defScope st) s.heap.objs.size f cdv)).guards = some [] → sp vs H Q E →
      ∃ t, PSs (cxOf CX0 P w K mg base N qual (defScope st) f cdv A outer s H E).nox (defBody st) t ∧ t { nx := fun _ H' => Q .non H', rt := Q } (start N vs) H) : FnOkG P w K mg base CX0 (k + 1) f fd ps sp := by
  obtain ⟨oc, od, kV, doc, pm, an, cdv, ct, osl, rfl, lk, hcd⟩ := F.ex
  refine ⟨len, fun A outer s H args us vs Q E hr hG e0 hb r hsp => ?_⟩
  have hl := len _ _ _ _ hsp
  have KX : K.In s.heap := e0.mod.kin.keeps fun b o e => (e0.bs b o e).1
  have lim : s.heap.NoLimit := e0.mod.nolimit.keeps fun b o e => (e0.bs b o e).1
  have hkind : ∀ y ∈ ps.zip us, (defScope st).names.lookup y.1 = some .local ∨ ((defScope st).names.lookup y.1 = some .cell ∧ ((cellsFrom (s.heap.objs.size + 1) (defScope st).names []).lookup y.1).isSome = true) := fun ⟨n, v⟩ hy => by
    rcases S.par n (List.of_mem_zip hy).1 with q | q
    · exact .inl q
    · exact .inr ⟨q, PySem.W.cellsFrom_some _ _ _ (.inl q)⟩
  refine codeAny_call_function hr.depth (KX _ _ lk) rfl S.co S.gen rfl (PySem.W.codeRec_of KX hcd) (hb _ _ _ _ ?_)
  refine wpAny_newFunctionEnv_cells S.kind hkind fun env he s1 x => ?_
  subst he
  refine ⟨lim.keeps x.toInCall.keep, codeAny_func ?_⟩
  obtain ⟨t, ht, hq⟩ := hbody cdv A outer s H vs Q E (hr.deeper _) (guards_deeper hG) hsp
  have I : Inv (cxOf CX0 P w K mg base N qual (defScope st) f cdv A outer s H E) [] (start N vs) H s1 := inv_start S hr.hd e0 hl r x
  refine wpAny_mono (ht.nox.run [] s1 (start N vs) H _ I hq) (fun fl s' hs => ?_) fun e s' hs => hs
  have fin : ∀ {σ' : St} {H' : Hp} {v : V} {u : Value}, Inv (cxOf CX0 P w K mg base N qual (defScope st) f cdv A outer s H E) [] σ' H' s' → RelV v u → Q v H' → CE outer P w H s Q u s' :=
    fun {σ' H' v u} J rv q => ⟨v, H', J.os, J.bare, J.base, J.hok, rv, q⟩
  cases fl with
  | ret u =>
    obtain ⟨v, σ', H', J, rv, q⟩ := hs
    exact fin J rv q
  | next =>
    obtain ⟨σ', H', J, q⟩ := hs
    exact fin (v := V.non) (u := Value.none) J rfl q
  | brk =>
    obtain ⟨_, _, _, q⟩ := hs
    exact False.elim q
  | cont =>
    obtain ⟨_, _, _, q⟩ := hs
    exact False.elim q
end
end L2.PL

namespace L2.PL
open PySem PySem.Spec PyProof.Rows
section
variable {X : Cx}
/-! ### repr of data -/
def rRepr (K : PySem.W.Frag) : List V → Hp → VK → Prop := fun xs H Q => ∃ a d, xs = [.ref a] ∧ Dp K H (.ref a) d ∧ d.showable = true ∧ d.hasDict = false ∧ d.depth ≤ 60 ∧ d.shown.length ≤ sizeLine ∧ Q (.str d.shown) H
theorem call_reprD (hG : X.A.guards = some []) (hu : X.A.units + 64 < cLine) : CallR X (.builtin "repr") (rRepr X.K) := by
  intro pins s σ H xs us Q I r h
  obtain ⟨a, d, rfl, hd, h1, h2, h3, h4, q⟩ := h
  obtain rfl := Vals.ref1 r
  obtain ⟨as, hr⟩ := Dp.reads I d _ _ hd rfl
  exact repr_of_reads' hr h1 (fun z => by rw [h2] at z; cases z) hG (by omega) (fun b o e => e) (fun h' u tk k => ⟨.str d.shown, H, I.kept (t' := tk) k, ⟨u, rfl⟩, q⟩) h4
/-! ### great powers -/
theorem op_powW : OpR X (binaryOp .Pow) (rI (fun i j => 0 ≤ j ∧ (Builtin.Int.intBits i : Int) * j ≤ 2 ^ 27) fun i j => .int (i ^ j.toNat)) := opI fun _ _ _ _ _ _ _ hc q => pow_int hc.1 hc.2 q
/-! ### o.f, f a slot, as a target -/
def gSlot (C : Addr) (i : Nat) (ta : TE) : TG := fun v σ H Q => ta σ H fun x H1 => ∃ a dx vs, x = .ref a ∧ SlAt H1 a C dx vs ∧ Q σ (upd H1 a (SlO C dx a (putS i v vs)))
theorem pg_slot {o : Expr} {f : Str} {pos : Pos} {C p : Addr} {i : Nat} {ta : TE} (c : SCls X.K C) (k : Slt X.K C f i p) (ha : PE X o ta) : PG X (.Attribute o f pos) (gSlot C i ta) := by
  refine ⟨fun pins s σ H v u Q I r h => ?_⟩
  rw [assign_Attribute]
  refine wpAny_bind (wpAny_holding (thn (ha.run pins s σ H _ I h) fun ov s1 ⟨x, H1, I1, r1, a, dx, vs, ex, ea, q⟩ => ?_))
  subst ex
  obtain rfl : ov = Value.ref a := r1
  refine wpAny_bind (wpAny_standAt (wpAny_bind (wpAny_holding (setslot_ok I1 ea c k r fun s2 I2 => ?_))))
  exact wpAny_release ⟨σ, _, I2, q⟩
end
end L2.PL

namespace L2.PL
open PySem PySem.Spec PyProof.Rows
/-! ### enumerate(a tuple) -/
def IteT (K : PySem.W.Frag) (a : Addr) : It :=
  ⟨fun i H => ∃ (xs : List V) (x : V), SqT K H a xs ∧ xs[i]? = some x, fun i H v H' => ∃ T x, v = .ref T ∧ H T = none ∧ H' = upd H T (.tup [.int (i : Nat), x]) ∧ ∀ xs, SqT K H a xs → xs[i]? = some x, fun i H => ∃ xs : List V, SqT K H a xs ∧ xs.length = i⟩
theorem tup_ne_iter {h : Heap} {it a : Addr} {i : Nat} {items : Array Value} (h1 : h.IsTupleIter it a i) (h2 : h.IsTuple a items) : a ≠ it := fun z => by
  obtain ⟨o, ho, hc, hd⟩ := h1
  obtain ⟨o2, ho2, hc2, n, hd2⟩ := h2
  rw [z, ho] at ho2
  cases ho2
  rw [hd] at hd2
  cases hd2
theorem tup_ne_enum {h : Heap} {e it a : Addr} {i : Int} {old : Value} {items : Array Value} (h1 : IsEnum h e it i old) (h2 : h.IsTuple a items) : e ≠ a := fun z => by
  obtain ⟨o2, ho2, hc2, n, hd2⟩ := h2
  have h1' : h.get? e = _ := h1
  rw [z, ho2] at h1'
  cases h1'
  cases hd2
theorem turn_enumT {P : Program} {w : World} {K : PySem.W.Frag} {elts : List Expr} {kk : Nat} {tpos : Pos} (a e it : Addr) :
    Turn P w K (.Tuple elts kk tpos) (IteT K a) [e, it] e (fun i h => (∃ old, IsEnum h e it ((i : Nat) : Int) old) ∧ h.IsTupleIter it a i ∧ e ≠ it) where
  mem := by simp
  obj := fun i h st b hb => by
    obtain ⟨⟨old, he⟩, ⟨o, ho, hc, hd⟩, _⟩ := st
    have e' : b = e ∨ b = it := by simpa using hb
    rcases e' with z | z
    · rw [z]; exact ⟨_, he, fun v q => nomatch q⟩
    · rw [z]; exact ⟨o, ho, fun v q => by rw [hd] at q; cases q⟩
  keep := fun i h h' st k => let ⟨⟨old, he⟩, hi, hne⟩ := st; ⟨⟨old, k e (by simp) _ he⟩, hi.at fun o q => k it (by simp) o q, hne⟩
  item := by
    intro X hP hw hK hc i pins s σ H E I hf st hg
    subst hP hw hK
    obtain ⟨⟨old, he⟩, hit, hne⟩ := st
    obtain ⟨xs, x, hq, hx⟩ := hg
    obtain ⟨its, rv, p, hz⟩ := I.tuple hq
    obtain ⟨u, hu, ru⟩ := rv.get hx
    have hel : e < s.heap.objs.size := Heap.lt_size he
    have hil : it < s.heap.objs.size := by obtain ⟨_, q, _⟩ := hit; exact Heap.lt_size q
    have hui : its.toArray[i]? = some u := by simpa using hu
    have hlt : i < its.toArray.size := (Array.getElem?_eq_some_iff.mp hui).1
    have D := Draws.tuple (prog := X.prog) (w := X.w) (A := X.A.in1) (I.ok.hd hc) it a (tup_ne_iter hit p) its.toArray
    have hef : e ∉ [it, a] := by
      intro hm
      have : e = it ∨ e = a := by simpa using hm
      rcases this with z | z
      · exact hne z
      · exact tup_ne_enum he p z
    refine wpAny_pyNext_enum_itemD D he ⟨hit, p⟩ hlt hne hef fun x' h' tk hx' ho hit' hT hsz hk => ?_
    have ex : x' = u := Option.some.inj (hx'.symm.trans hui)
    subst ex
    refine ⟨_, rfl, wpAny_letOwnedTupleGo_enum (s := { s with heap := h', toks := tk + 1 }) ho fun h'' he' sb => ?_⟩
    have hT2 : h''.get? s.heap.objs.size = some { cls := .type "tuple", data := .seq #[.int i tk, x'] } := (sb.2 _ (Nat.ne_of_gt hel)).trans hT
    have new : ObjOk X.prog X.w (upd H s.heap.objs.size (.tup [.int (i : Nat), x])) h'' s.heap.objs.size (.tup [.int (i : Nat), x]) :=
      ⟨by show 2 ≤ sizeLine; decide, [.int i tk, x'], .cons ⟨_, rfl⟩ (.cons ru .nil), ⟨_, hT2, rfl, _, rfl⟩⟩
    have I1 : Inv X pins σ (upd H s.heap.objs.size (.tup [.int (i : Nat), x])) { s with heap := h'', toks := tk + 1 } :=
      I.turnedNew (ch := [e, it]) (fun b ob hb q => (sb.2 b (fun z => hb (by simp [z]))).trans (hk b ob (fun z => hb (by simp [z])) (fun z => hb (by simp [z])) q)) hf (Nat.le_refl _) new
    refine ⟨.ref s.heap.objs.size, _, I1, rfl, ⟨_, x, rfl, I.hok.fresh (Nat.le_refl _), rfl, fun ys hy => by rw [I.tuple_inj hy hq]; exact hx⟩, ⟨⟨x', ?_⟩, hit'.1.at fun o q => (sb.2 it (Ne.symm hne)).trans q, hne⟩, fun b hb => ?_⟩
    · have e1 : ((i + 1 : Nat) : Int) = (i : Int) + 1 := by omega
      rw [e1]; exact he'
    · have hb' : b < s.heap.objs.size := by
        have e' : b = e ∨ b = it := by simpa using hb
        rcases e' with z | z
        · rw [z]; exact hel
        · rw [z]; exact hil
      rw [upd_ne (Nat.ne_of_lt hb')]
      exact (hf b hb).1
  done := by
    intro X hP hw hK hc i pins s σ H E I hf st hg
    subst hP hw hK
    obtain ⟨⟨old, he⟩, hit, hne⟩ := st
    obtain ⟨xs, hq, hx⟩ := hg
    obtain ⟨its, rv, p, hz⟩ := I.tuple hq
    obtain ⟨f0, f1, f2, f3, f4, f5⟩ := hf it (by simp)
    have hl := rv.length
    have ei : i = its.toArray.size := by simp; omega
    have D := Draws.tuple (prog := X.prog) (w := X.w) (A := X.A.in1) (I.ok.hd hc) it a (tup_ne_iter hit p) its.toArray
    refine wpAny_pyNext_enum_endD D he (by rw [← ei]; exact ⟨hit, p⟩) fun h' eb => ⟨rfl, I.turned (t' := s.toks) (fun b o hb q => eb b o hb q) f0 f1 f3 f4 f5⟩
  self := fun A i s Q E st h => let ⟨⟨_, he⟩, _⟩ := st; wpAny_pyIter_enum he h
theorem meets_enumerate_newT {v : Value} {o : Obj} {H : Heap → Prop} (B : Begins v o H) :
    Meets (Builtin.«enumerate.__new__» ⟨[.type "enumerate", v], []⟩) (fun _ R s => H s.heap ∧
      R (.ok (.ret (.ref (s.heap.push o).objs.size))) { s with heap := (s.heap.push o).push { cls := .type "enumerate", data := .fields #[.none, .bool false, .ref s.heap.objs.size, rawInt 0, .none, .none] } }) :=
  .of_wp fun prog w A R s h => by
    obtain ⟨hp, g, d, tk, os⟩ := s; obtain ⟨h1, h⟩ := h
    have hsub := sub_enumerate
    have q1 : ∀ {A' : Around} {E : Value → Shared → Prop} {Q : Value → Shared → Prop}, Q (.ref hp.objs.size) ⟨hp.push o, g, d, tk, os⟩ → wpAny (model prog w) A' (pyIter v) Q E ⟨hp, g, d, tk, os⟩ :=
      fun q => B.iter prog w _ _ ⟨hp, g, d, tk, os⟩ _ h1 q
    wp_walk using q1
    refine wpAny_stack_any fun st => wpAny_pure ?_
    split
    · rename_i c _ _ _ _ _
      cases (c == Value.type "enumerate")
      · wp_walk using q1
        exact ⟨_, rfl, h⟩
      · wp_walk using q1
        exact ⟨_, rfl, h⟩
    · wp_walk using q1
      exact ⟨_, rfl, h⟩
theorem enum_beginsT {prog : Program} {w : World} {A : Around} {E : Value → Shared → Prop} {s : Shared} {v : Value} {o : Obj} {H : Heap → Prop} {Q : Value → Shared → Prop} (B : Begins v o H) (h1 : H s.heap)
    (h : ∀ h', IsEnum h' (s.heap.objs.size + 1) s.heap.objs.size 0 .none → h'.get? s.heap.objs.size = some o → h'.objs.size = s.heap.objs.size + 2 →
      (∀ b o, s.heap.get? b = some o → h'.get? b = some o) → Q (.ref (s.heap.objs.size + 1)) { s with heap := h' }) :
    wpAny (model prog w) A (call (.type "enumerate") [v]) Q E s := by
  refine callType_new F.called_enumerate (by decide) (F.typeCall_enumerate_1 _) (F.newCall_enumerate_1 _) (fun obj => F.args_object_init_2 obj _) F.entry_enumerate_new
    (meets_enumerate_newT B) ⟨h1, ?_⟩
  have hz : (s.heap.push o).objs.size = s.heap.objs.size + 1 := Heap.size_push ..
  show _ ∧ _
  rw [hz]
  have he : IsEnum ((s.heap.push o).push { cls := .type "enumerate", data := .fields #[.none, .bool false, .ref s.heap.objs.size, rawInt 0, .none, .none] }) (s.heap.objs.size + 1) s.heap.objs.size 0 .none := by
    have := Heap.get?_push_size (s.heap.push o) (o := { cls := .type "enumerate", data := .fields #[.none, .bool false, .ref s.heap.objs.size, rawInt 0, .none, .none] }) rfl
    rw [hz] at this; exact this
  refine ⟨⟨_, he, rfl⟩, h _ he (Heap.get?_push_of_some _ (Heap.get?_push_size _ B.free)) (by rw [Heap.size_push, hz]) fun b o x => Heap.get?_push_of_some _ (Heap.get?_push_of_some _ x)⟩
def iEnumT (K : PySem.W.Frag) (ta : TA) : TI := fun σ H R => ta σ H fun vs H1 => ∃ a xs, vs = [.ref a] ∧ SqT K H1 a xs ∧ R (IteT K a) H1
theorem pi_enumT {X : Cx} {e : Expr} {ta : TA} {p pos tpos : Pos} {elts : List Expr} {kk : Nat} (hg : Gl X "enumerate") (hm : X.mg "enumerate" = none) (ha : PA X [e] ta) (hs : starEach [e] X.env = [(false, eval e X.env)] := by rfl) :
    PI X (.Tuple elts kk tpos) (.Call (.Name "enumerate" p) [e] [] pos) (iEnumT X.K ta) := by
  refine ⟨fun pins s σ H R I h => ?_⟩
  refine Call_ (ld_blt I hg hm boot_enumerate (PyProof.Rows.callWith_type1 (thn (ha.run pos pins s σ H _ I h) fun us s1 ⟨vs, H1, I1, r1, q1⟩ => ?_) hs rfl))
  obtain ⟨a, xs, ex, hq, q⟩ := q1
  subst ex
  cases r1 with
  | cons r rr =>
    cases rr
    cases r
    obtain ⟨its, rv, p', hz⟩ := I1.tuple hq
    refine enum_beginsT (begins_tuple a its.toArray) p' fun h' he hit hsz hk => wpAny_pyIter_enum he ?_
    have I2 : Inv X pins σ H1 { s1 with heap := h' } := I1.kept (t' := s1.toks) hk
    refine ⟨s1.heap.objs.size + 1, [s1.heap.objs.size + 1, s1.heap.objs.size], _, _, H1, rfl, I2, turn_enumT a (s1.heap.objs.size + 1) s1.heap.objs.size, ⟨⟨.none, he⟩, ⟨_, hit, rfl, rfl⟩, Nat.succ_ne_self _⟩, fun b hb => ?_, q⟩
    have e' : b = s1.heap.objs.size + 1 ∨ b = s1.heap.objs.size := by simpa using hb
    have hle : s1.heap.objs.size ≤ b := by
      rcases e' with z | z
      · rw [z]; exact Nat.le_add_right _ _
      · rw [z]; exact Nat.le_refl _
    exact I1.fpOk hle (I1.hok.fresh hle)
end L2.PL

namespace L2.PL
open PySem PySem.Spec PyProof.Rows
/-! ### built-in names -/
theorem bz_isinstance : bootBuiltins "isinstance" = some (.builtin "isinstance") := by decide +kernel
theorem bz_len : bootBuiltins "len" = some (.builtin "len") := by decide +kernel
theorem bz_all : bootBuiltins "all" = some (.builtin "all") := by decide +kernel
theorem bz_any : bootBuiltins "any" = some (.builtin "any") := by decide +kernel
theorem bz_min : bootBuiltins "min" = some (.builtin "min") := by decide +kernel
theorem bz_max : bootBuiltins "max" = some (.builtin "max") := by decide +kernel
theorem bz_abs : bootBuiltins "abs" = some (.builtin "abs") := by decide +kernel
theorem bz_sum : bootBuiltins "sum" = some (.builtin "sum") := by decide +kernel
theorem bz_repr : bootBuiltins "repr" = some (.builtin "repr") := by decide +kernel
theorem bz_sorted : bootBuiltins "sorted" = some (.builtin "sorted") := by decide +kernel
theorem bz_int : bootBuiltins "int" = some (.type "int") := by decide +kernel
theorem bz_bool : bootBuiltins "bool" = some (.type "bool") := by decide +kernel
theorem bz_str : bootBuiltins "str" = some (.type "str") := by decide +kernel
theorem bz_tuple : bootBuiltins "tuple" = some (.type "tuple") := by decide +kernel
theorem bz_list : bootBuiltins "list" = some (.type "list") := by decide +kernel
structure Bt (mg : Str → Option Value) : Prop where
  z_isinstance : mg "isinstance" = none
  z_len : mg "len" = none
  z_all : mg "all" = none
  z_any : mg "any" = none
  z_min : mg "min" = none
  z_max : mg "max" = none
  z_abs : mg "abs" = none
  z_sum : mg "sum" = none
  z_repr : mg "repr" = none
  z_sorted : mg "sorted" = none
  z_int : mg "int" = none
  z_bool : mg "bool" = none
  z_str : mg "str" = none
  z_tuple : mg "tuple" = none
  z_list : mg "list" = none
  z_range : mg "range" = none
  z_enumerate : mg "enumerate" = none
  z_zip : mg "zip" = none
theorem bt_of {K : PySem.W.Frag} {h : Heap} {mg : Str → Option Value} (X : K.In h) (G : h.Ns mainGlobals mg)
    (h : (["isinstance", "len", "all", "any", "min", "max", "abs", "sum", "repr", "sorted", "int", "bool", "str", "tuple", "list", "range", "enumerate", "zip"] : List Str).all (fun x => PySem.W.nsIn K mainGlobals x == some none) = true) : Bt mg := by
  have f : ∀ x ∈ (["isinstance", "len", "all", "any", "min", "max", "abs", "sum", "repr", "sorted", "int", "bool", "str", "tuple", "list", "range", "enumerate", "zip"] : List Str), mg x = none := fun x hx =>
    PySem.W.mg_none_of X G (by simpa using List.all_eq_true.mp h x hx)
  exact ⟨f _ (by simp), f _ (by simp), f _ (by simp), f _ (by simp), f _ (by simp), f _ (by simp), f _ (by simp), f _ (by simp), f _ (by simp), f _ (by simp), f _ (by simp), f _ (by simp), f _ (by simp), f _ (by simp), f _ (by simp), f _ (by simp), f _ (by simp), f _ (by simp)⟩

/-! ### a block cut behind a statement: what holds there is said once -/
def tCutP (t u : TS) : TS := fun D σ H => ∃ Mid : L2.St → Hp → Prop, t { D with nx := Mid } σ H ∧ ∀ σ' H', Mid σ' H' → u D σ' H'
theorem pss_cutP {X : Cx} {st : Stmt} {rest : List Stmt} {t u : TS} (h1 : PS X st t) (h2 : PSs X rest u) : PSs X (st :: rest) (tCutP t u) := by
  refine ⟨fun pins s σ H D I h => ?_⟩
  obtain ⟨Mid, ha, hb⟩ := h
  refine wpAny_execs_cons (thn (h1.run pins s σ H { D with nx := Mid } I ha) fun f s1 q => ?_)
  cases f with
  | next =>
    obtain ⟨σ', H', I', q⟩ := q
    exact h2.run pins s1 σ' H' D I' (hb σ' H' q)
  | ret v => exact q
  | brk => exact q
  | cont => exact q
/-! ### lists that stay -/
theorem Old.seqL {K : PySem.W.Frag} {W : List Addr} {H H' : Hp} {a : Addr} {xs : List V} (e : Old W H H') (h : SqL K H a xs) (n : a ∉ W) : SqL K H' a xs := by
  rcases h with (h | ⟨o, h⟩) | h
  · exact .inl (.inl (e _ _ n h))
  · exact .inl (.inr ⟨o, e _ _ n h⟩)
  · exact .inr h
/-! ### a pot of draws: [own digits, mixed number, count] -/
structure Pot (H : Hp) (a : Addr) (B : Nat) : Prop where
  ex : ∃ p0 p1 p2 : Int, H a = some (.lst [.int p0, .int p1, .int p2]) ∧ 0 ≤ p0 ∧ 0 ≤ p1 ∧ p1 < 2 ^ 61 ∧ 0 ≤ p2 ∧ p2 ≤ B
theorem Pot.notup {H : Hp} {a : Addr} {B : Nat} (p : Pot H a B) : NoTup [a] H := by
  obtain ⟨p0, p1, p2, h, _⟩ := p.ex
  exact NoTup.one h
theorem Pot.ne {H : Hp} {a b : Addr} {B : Nat} (p : Pot H a B) (h : H b = none) : a ≠ b := by
  obtain ⟨p0, p1, p2, e, _⟩ := p.ex
  exact ne_of_none e h
theorem Pot.old {H H' : Hp} {a : Addr} {B : Nat} {W : List Addr} (p : Pot H a B) (o : Old W H H') (n : a ∉ W) : Pot H' a B := by
  obtain ⟨p0, p1, p2, h, r⟩ := p.ex
  exact ⟨p0, p1, p2, o _ _ n h, r⟩
theorem Pot.mono {H : Hp} {a : Addr} {B C : Nat} (p : Pot H a B) (h : B ≤ C) : Pot H a C := by
  obtain ⟨p0, p1, p2, h1, h2, h3, h4, h5, h6⟩ := p.ex
  exact ⟨p0, p1, p2, h1, h2, h3, h4, h5, by omega⟩
/-! ### the draws' promises -/
/-- a draw: from 0 to u - 1; the pot goes on -/
def spTake : Sp := fun vs H Q _ => ∃ (a : Addr) (u : Int) (B : Nat), vs = [.ref a, .int u] ∧ Pot H a B ∧ 0 < u ∧ u < 1073741824 ∧ B ≤ 1000000 ∧
  ∀ H' d, 0 ≤ d → d < u → Old [a] H H' → Pot H' a (B + 1) → Q (.int d) H'
/-- one of a list -/
def spOf (K : PySem.W.Frag) : Sp := fun vs H Q _ => ∃ (a b : Addr) (xs : List V) (B : Nat), vs = [.ref a, .ref b] ∧ Pot H a B ∧ SqL K H b xs ∧ b ≠ a ∧ 0 < xs.length ∧ xs.length < 1000 ∧ B ≤ 1000000 ∧
  ∀ H' x, x ∈ xs → Old [a] H H' → Pot H' a (B + 1) → Q x H'
def spPot (K : PySem.W.Frag) : Sp := fun vs H Q _ => ∃ (a : Addr) (ns : List Int) (p : Int), vs = [.ref a, .int p] ∧ SqL K H a (ns.map V.int) ∧ ns.length ≤ 63 ∧ 0 ≤ p ∧ p ≤ 63 ∧
  ∀ H' q, Old [] H H' → H q = none → Pot H' q 0 → Q (.ref q) H'
def spCells (K : PySem.W.Frag) : Sp := fun vs H Q _ => ∃ (a : Addr) (ns : List Int) (m : Int), vs = [.ref a, .int m] ∧ SqL K H a (ns.map V.int) ∧ ns.length ≤ 63 ∧ 0 ≤ m ∧ m ≤ 63 ∧
  ∀ H' q (k : Nat), 1 ≤ k → k ≤ 63 → Old [] H H' → H q = none → H' q = some (.lst ((List.range k).map fun i => V.int ((i : Nat) : Int))) → Q (.ref q) H'
theorem fmod_pos {i j : Int} (h : 0 < j) : 0 ≤ i.fmod j ∧ i.fmod j < j := ⟨Int.fmod_nonneg_of_pos i h, Int.fmod_lt_of_pos i h⟩
end L2.PL

namespace L2.T39
open PySem PySem.Spec PyProof.Rows L2.PL
def topS (i : Nat) : Stmt := PySem.Challenge.pw_passedastold_k39_packets_of_the_least_nu.main.body.getD i (.Pass ⟨0, 0, 0, 0⟩)
section
variable {P : Program} {w : World} {K : PySem.W.Frag} {mg : Str → Option Value} {base : Heap}
/-! _law_take: slots pot=0 upto=1 digit=2 prime=3 blend=4; cells [] -/
abbrev s_l_take : Stmt := topS 48
abbrev N_l_take : List Str := ["pot", "upto", "digit", "prime", "blend"]
theorem sc_l_take : FnScope N_l_take ["pot", "upto"] (defScope s_l_take) := ⟨rfl, rfl, rfl, by decide +kernel, rfl, by decide +kernel, by decide +kernel⟩
theorem ok_take {f : Addr} {fd : FuncData} (F : Fun K "_law_take" "_law_take" s_l_take f fd) (T : Bt mg) : FnOk P w K mg base CX0 1 f fd ["pot", "upto"] spTake := by
  refine F.ok sc_l_take (fun vs H Q E h => ?_) (fun cdv A outer s H vs Q E hr h => ?_)
  · obtain ⟨a, u, B, rfl, _⟩ := h
    rfl
  · obtain ⟨a, u, B, rfl, ⟨p0, p1, p2, hP, h0, h1, h1', h2, h2'⟩, hu, hu', hB, q⟩ := h
    refine ⟨_, (pss_cons (ps_if (pt_cmpR op_gt (pe_ix ix_list (pv 0) pe_int (fun _ _ => rfl)) pe_int (nomark _))
       (pss_cons (ps_set (i := 2) sc_l_take.nd rfl (.inl rfl) (pe_op op_modN (pe_callTy call_int1 (by rfl) T.z_int bz_int (pa_cons (pe_ix ix_list (pv 0) pe_int (fun _ _ => rfl)) pa_nil)) (pv 1)))
        (pss_cons (ps_asg (pe_op op_fdivN (pe_ix ix_list (pv 0) pe_int (fun _ _ => rfl)) (pv 1)) (pg_sub (pv 0) pe_int set_list))
        (pss_one (ps_ret (pv 2)))))
       pss_nil)
      (pss_cons (ps_asg (pe_op op_add (pe_ix ix_list (pv 0) pe_int (fun _ _ => rfl)) pe_int) (pg_sub (pv 0) pe_int set_list))
      (pss_cons (ps_set (i := 3) sc_l_take.nd rfl (.inl rfl) (pe_ix ix_list (pe_lst (pa_cons pe_int (pa_cons pe_int (pa_cons pe_int (pa_cons pe_int (pa_cons pe_int pa_nil)))))) (pe_op op_modN (pe_callTy call_int1 (by rfl) T.z_int bz_int (pa_cons (pe_ix ix_list (pv 0) pe_int (fun _ _ => rfl)) pa_nil)) pe_int) (fun _ _ => rfl)))
      (pss_cons (ps_set (i := 4) sc_l_take.nd rfl (.inl rfl) (pe_op op_modN (pe_callTy call_int1 (by rfl) T.z_int bz_int (pa_cons (pe_op op_pow (pe_callTy call_int1 (by rfl) T.z_int bz_int (pa_cons (pe_op op_add (pe_op op_add (pe_ix ix_list (pv 0) pe_int (fun _ _ => rfl)) (pe_op op_mul (pe_op op_mul pe_int (pe_ix ix_list (pv 0) pe_int (fun _ _ => rfl))) (pe_ix ix_list (pv 0) pe_int (fun _ _ => rfl)))) pe_int) pa_nil)) pe_int) pa_nil)) (pv 3)))
      (pss_cons (ps_set (i := 4) sc_l_take.nd rfl (.inl rfl) (pe_op op_modN (pe_callTy call_int1 (by rfl) T.z_int bz_int (pa_cons (pe_op op_mul (pv 4) (pe_op op_add (pe_op op_modN (pe_callTy call_int1 (by rfl) T.z_int bz_int (pa_cons (pv 4) pa_nil)) pe_int) (pe_op op_mul pe_int (pe_ix ix_list (pv 0) pe_int (fun _ _ => rfl))))) pa_nil)) pe_int))
      (pss_one (ps_ret (pe_op op_modN (pe_callTy call_int1 (by rfl) T.z_int bz_int (pa_cons (pe_op op_fdivN (pv 4) pe_int) pa_nil)) (pv 1))))))))), ?_⟩
    refine ⟨.ref a, rfl, a, _, 0, .int p0, rfl, rfl, SqL.of hP, rfl, p0, 0, rfl, rfl, _, rfl, ite2 (fun c => ?_) (fun c => ?_)⟩
    · have c : 0 < p0 := of_decide_eq_true c
      refine ⟨.ref a, rfl, a, _, 0, .int p0, rfl, rfl, SqL.of hP, rfl, .inl ⟨p0, rfl, ?_⟩⟩
      refine ⟨.int u, rfl, p0, u, rfl, rfl, by omega, ?_⟩
      refine ⟨.ref a, rfl, a, _, 0, .int p0, rfl, rfl, SqL.of hP, rfl, .int u, rfl, p0, u, rfl, rfl, ⟨by omega, by omega⟩, ?_⟩
      refine ⟨.ref a, rfl, a, _, 0, 0, rfl, rfl, hP, rfl, ?_⟩
      refine ⟨_, rfl, q _ _ (fmod_pos hu).1 (fmod_pos hu).2 ((Old.refl _ _).put (by simp)) ⟨p0.fdiv u, p1, p2, upd_same, ?_, h1, h1', h2, by omega⟩⟩
      exact Int.fdiv_nonneg (by omega) (by omega)
    · have hq2 : (Old [a] H (upd H a (.lst [.int p0, .int p1, .int (p2 + 1)]))) := (Old.refl _ _).put (by simp)
      refine ⟨.ref a, rfl, a, _, 2, .int p2, rfl, rfl, SqL.of hP, rfl, p2, 1, rfl, rfl, .ref a, rfl, a, _, 2, 2, rfl, rfl, hP, rfl, ?_⟩
      -- prime
      refine ⟨by show 5 ≤ sizeLine; decide, fun p hp => ?_⟩
      have npa : a ≠ p := ne_of_none (H := upd H a (.lst ([V.int p0, .int p1, .int p2].set 2 (.int (p2 + 1))))) upd_same hp
      have hP2 : (upd (upd H a (.lst ([V.int p0, .int p1, .int p2].set 2 (.int (p2 + 1))))) p (.lst [.int 2147483647, .int 2147483629, .int 2147483587, .int 2147483579, .int 2147483563])) a = some (.lst [.int p0, .int p1, .int (p2 + 1)]) := by
        rw [upd_ne npa]; exact upd_same
      obtain ⟨m0, m1⟩ := fmod_pos (i := p2 + 1) (j := 5) (by decide)
      obtain ⟨pr, hpr, l1, l2⟩ : ∃ pr : Int, atI [V.int 2147483647, .int 2147483629, .int 2147483587, .int 2147483579, .int 2147483563] ((p2 + 1).fmod 5) = some (.int pr) ∧ 0 < pr ∧ pr < 2147483648 := by
        generalize (p2 + 1).fmod 5 = i at m0 m1
        have : i = 0 ∨ i = 1 ∨ i = 2 ∨ i = 3 ∨ i = 4 := by omega
        rcases this with rfl | rfl | rfl | rfl | rfl
        · exact ⟨_, rfl, by decide, by decide⟩
        · exact ⟨_, rfl, by decide, by decide⟩
        · exact ⟨_, rfl, by decide, by decide⟩
        · exact ⟨_, rfl, by decide, by decide⟩
        · exact ⟨_, rfl, by decide, by decide⟩
      refine ⟨.ref a, rfl, a, _, 2, .int (p2 + 1), rfl, rfl, SqL.of hP2, rfl, .inl ⟨p2 + 1, rfl, p2 + 1, 5, rfl, rfl, (by show (5 : Int) ≠ 0; decide), p, _, _, .int pr, rfl, rfl, SqL.of upd_same, hpr, ?_⟩⟩
      -- blend
      refine ⟨.ref a, rfl, a, _, 1, .int p1, rfl, rfl, SqL.of hP2, rfl, .ref a, rfl, a, _, 2, .int (p2 + 1), rfl, rfl, SqL.of hP2, rfl, 91193, p2 + 1, rfl, rfl, .inl ⟨by decide, by decide⟩,
        .ref a, rfl, a, _, 2, .int (p2 + 1), rfl, rfl, SqL.of hP2, rfl, _, p2 + 1, rfl, rfl, .inr ⟨by omega, by omega⟩, _, _, rfl, rfl, _, 3203, rfl, rfl, .inl ⟨_, rfl, _, 3, rfl, rfl, ⟨by decide, by decide, ?_⟩, .inl ⟨_, rfl, ?_⟩⟩⟩
      · show (p1 + 91193 * (p2 + 1) * (p2 + 1) + 3203).natAbs < 2 ^ 64
        have hx : p2 + 1 ≤ 1000001 := by omega
        have hx0 : 0 ≤ p2 + 1 := by omega
        have hm : (p2 + 1) * (p2 + 1) ≤ 1000001 * 1000001 := Int.mul_le_mul hx hx hx0 (by decide)
        have hm0 : 0 ≤ (p2 + 1) * (p2 + 1) := Int.mul_nonneg hx0 hx0
        rw [Int.mul_assoc]
        generalize (p2 + 1) * (p2 + 1) = m at hm hm0
        omega
      · generalize (p1 + 91193 * (p2 + 1) * (p2 + 1) + 3203) ^ (3 : Int).toNat = big
        obtain ⟨b0, b1⟩ := fmod_pos (i := big) l1
        refine ⟨.int pr, rfl, _, pr, rfl, rfl, by omega, ?_⟩
        dsimp only
        generalize big.fmod pr = bl at b0 b1 ⊢
        -- blend again
        refine ⟨.int bl, rfl, .int bl, rfl, .inl ⟨bl, rfl, _, 12391, rfl, rfl, (by show (12391 : Int) ≠ 0; decide), .ref a, rfl, a, _, 2, .int (p2 + 1), rfl, rfl, SqL.of hP2, rfl, 307, p2 + 1, rfl, rfl, .inl ⟨by decide, by decide⟩, _, _, rfl, rfl,
          bl, _, rfl, rfl, .inl ⟨by omega, by omega⟩, .inl ⟨_, rfl, _, _, rfl, rfl, (by show (2305843009213693907 : Int) ≠ 0; decide), ?_⟩⟩⟩
        dsimp only
        generalize (bl * (bl.fmod 12391 + 307 * (p2 + 1))).fmod 2305843009213693907 = z
        refine ⟨.int z, rfl, _, 181, rfl, rfl, ⟨by decide, by decide⟩, .inl ⟨_, rfl, .int u, rfl, _, u, rfl, rfl, by omega, ?_⟩⟩
        refine q _ _ (fmod_pos hu).1 (fmod_pos hu).2 (((Old.refl _ _).put (by simp)).new hp) ⟨p0, p1, p2 + 1, hP2, h0, h1, h1', by omega, by omega⟩
/-! _law_of: slots pot=0 some=1; cells [] -/
abbrev s_l_of : Stmt := topS 49
abbrev N_l_of : List Str := ["pot", "some"]
theorem sc_l_of : FnScope N_l_of ["pot", "some"] (defScope s_l_of) := ⟨rfl, rfl, rfl, by decide +kernel, rfl, by decide +kernel, by decide +kernel⟩
theorem ok_of {f : Addr} {fd : FuncData} (F : Fun K "_law_of" "_law_of" s_l_of f fd) (T : Bt mg) (C_l_take : Cal P w K mg base CX0 "_law_take" ["pot", "upto"] 1 spTake) : FnOk P w K mg base CX0 2 f fd ["pot", "some"] (spOf K) := by
  refine F.ok sc_l_of (fun vs H Q E h => ?_) (fun cdv A outer s H vs Q E hr h => ?_)
  · obtain ⟨a, b, xs, B, rfl, _⟩ := h
    rfl
  · obtain ⟨a, b, xs, B, rfl, hP, hb, nab, l0, l1, hB, q⟩ := h
    refine ⟨_, (pss_one (ps_ret (pe_ix ix_list (pv 1) (pe_cal C_l_take hr (by rfl) pass0 (pa_cons (pv 0) (pa_cons (pe_callB call_len_seq (by rfl) T.z_len bz_len (pa_cons (pv 1) pa_nil)) pa_nil))) (fun _ _ => rfl)))), ?_⟩
    refine ⟨.ref b, rfl, .ref a, rfl, .ref b, rfl, b, xs, rfl, .inl hb, a, xs.length, B, rfl, hP, by omega, by omega, hB, fun H' d d0 d1 o p => ?_⟩
    have hb' : SqL K H' b xs := o.seqL hb (by simp; exact nab)
    obtain ⟨j, rfl⟩ : ∃ j : Nat, d = (j : Int) := ⟨d.toNat, by omega⟩
    have hj : j < xs.length := by omega
    exact ⟨b, xs, _, xs[j], rfl, rfl, hb', atI_nat (List.getElem?_eq_getElem hj), q _ _ (List.getElem_mem hj) o p⟩
/-! _law_cells: slots script=0 most=1; cells [] -/
abbrev s_l_cells : Stmt := topS 50
abbrev N_l_cells : List Str := ["script", "most"]
theorem sc_l_cells : FnScope N_l_cells ["script", "most"] (defScope s_l_cells) := ⟨rfl, rfl, rfl, by decide +kernel, rfl, by decide +kernel, by decide +kernel⟩
theorem ok_cells {f : Addr} {fd : FuncData} (F : Fun K "_law_cells" "_law_cells" s_l_cells f fd) (T : Bt mg) : FnOk P w K mg base CX0 1 f fd ["script", "most"] (spCells K) := by
  refine F.ok sc_l_cells (fun vs H Q E h => ?_) (fun cdv A outer s H vs Q E hr h => ?_)
  · obtain ⟨a, ns, m, rfl, _⟩ := h
    rfl
  · obtain ⟨a, ns, m, rfl, ha, hl, m0, m1, q⟩ := h
    refine ⟨_, (pss_one (ps_ret (pe_listRg rfl (by rfl) T.z_list (prg_1 (by rfl) T.z_range (pe_callB (call_max2 rfl) (by rfl) T.z_max bz_max (pa_cons pe_int (pa_cons (pe_callB (call_min2 rfl) (by rfl) T.z_min bz_min (pa_cons (pv 1) (pa_cons (pe_callB call_len_seq (by rfl) T.z_len bz_len (pa_cons (pv 0) pa_nil)) pa_nil))) pa_nil))))))), ?_⟩
    refine ⟨.int m, rfl, .ref a, rfl, a, _, rfl, .inl ha, m, _, rfl, 1, _, rfl, _, rfl, ?_⟩
    have hlen : (ns.map V.int).length ≤ 63 := by rw [List.length_map]; exact hl
    obtain ⟨k, e, k1, k2⟩ : ∃ k : Nat, (if (if (((ns.map V.int).length : Nat) : Int) < m then (((ns.map V.int).length : Nat) : Int) else m) > 1 then (if (((ns.map V.int).length : Nat) : Int) < m then (((ns.map V.int).length : Nat) : Int) else m) else 1) = (k : Int) ∧ 1 ≤ k ∧ k ≤ 63 := by
      generalize (ns.map V.int).length = z at hlen
      refine ⟨(if (if (z : Int) < m then (z : Int) else m) > 1 then (if (z : Int) < m then (z : Int) else m) else 1).toNat, ?_, ?_, ?_⟩
      · split <;> split <;> omega
      · split <;> split <;> omega
      · split <;> split <;> omega
    rw [e]
    refine ⟨RgOk.of_le (by decide) (by omega) (by decide) (by omega), fun p hp => ?_⟩
    refine q _ p k k1 k2 (Old.new0 hp) hp ?_
    rw [upd_same]
    show some (HO.lst ((List.range ((k : Int) - 0).toNat).map fun i => V.int (0 + (i : Nat)))) = _
    rw [show ((k : Int) - 0).toNat = k by omega]
    have : (fun i : Nat => V.int (0 + (i : Int))) = fun i : Nat => V.int (i : Int) := by funext i; rw [Int.zero_add]
    rw [this]
/-! _law_pot: slots script=0 place=1 cell=2 own=3 small=4; cells [] -/
abbrev s_l_pot : Stmt := topS 47
abbrev N_l_pot : List Str := ["script", "place", "cell", "own", "small"]
theorem sc_l_pot : FnScope N_l_pot ["script", "place"] (defScope s_l_pot) := ⟨rfl, rfl, rfl, by decide +kernel, rfl, by decide +kernel, by decide +kernel⟩
theorem cut1n (xs : List V) : cutV xs none (some 1) = xs.take 1 := by
  unfold cutV
  rw [show HT.sIx xs.length xs.length (some 1) = min 1 xs.length from HT.sIx_nat xs.length xs.length 1, HT.sIx_none, List.drop_zero]
  cases xs with
  | nil => rfl
  | cons x r =>
    rw [show min 1 (x :: r).length - 0 = 1 by simp only [List.length_cons]; omega]
theorem ok_pot {f : Addr} {fd : FuncData} (F : Fun K "_law_pot" "_law_pot" s_l_pot f fd) (T : Bt mg) : FnOk P w K mg base CX0 1 f fd ["script", "place"] (spPot K) := by
  refine F.ok sc_l_pot (fun vs H Q E h => ?_) (fun cdv A outer s H vs Q E hr h => ?_)
  · obtain ⟨a, ns, p, rfl, _⟩ := h
    rfl
  · obtain ⟨a, ns, p, rfl, ha, hl, p0, p1, q⟩ := h
    refine ⟨_, (pss_cutP (ps_set (i := 2) sc_l_pot.nd rfl (.inl rfl) (pe_ifExp (pt_cmpR op_lt (pv 1) (pe_callB call_len_seq (by rfl) T.z_len bz_len (pa_cons (pv 0) pa_nil)) (nomark _)) (pe_ix ix_list (pv 0) (pv 1) (fun _ _ => rfl)) (pe_op op_add (pe_op op_add (pe_op op_modN (pe_callTy call_int1 (by rfl) T.z_int bz_int (pa_cons (pe_callB (cr_sum rfl) (by rfl) T.z_sum bz_sum (pa_cons (pe_slice sl_list (pv 0) po_none (po_some pe_int)) pa_nil)) pa_nil)) pe_int) (pe_op op_mul pe_int (pv 1))) pe_int)))
      (pss_cons (ps_set (i := 3) sc_l_pot.nd rfl (.inl rfl) (pe_op op_mul (pe_op op_modN (pe_callTy call_int1 (by rfl) T.z_int bz_int (pa_cons (pe_callB call_abs (by rfl) T.z_abs bz_abs (pa_cons (pv 2) pa_nil)) pa_nil)) (pe_op op_powW (pe_op op_pow pe_int pe_int) pe_int)) (pe_callTy call_int1 (by rfl) T.z_int bz_int (pa_cons (pe_cmpR op_ge (pe_callB call_abs (by rfl) T.z_abs bz_abs (pa_cons (pv 2) pa_nil)) (pe_op op_pow pe_int pe_int) (nomark _)) pa_nil))))
      (pss_cons (ps_set (i := 4) sc_l_pot.nd rfl (.inl rfl) (pe_op op_modN (pe_callTy call_int1 (by rfl) T.z_int bz_int (pa_cons (pv 2) pa_nil)) pe_int))
      (pss_one (ps_ret (pe_lst (pa_cons (pv 3) (pa_cons (pe_op op_modN (pe_callTy call_int1 (by rfl) T.z_int bz_int (pa_cons (pe_op op_add (pe_op op_add (pe_op op_mul (pv 4) pe_int) (pe_op op_mul (pe_op op_mul pe_int (pv 1)) (pv 1))) pe_int) pa_nil)) pe_int) (pa_cons pe_int pa_nil))))))))), ?_⟩
    refine ⟨fun σ H1 => Old [] H H1 ∧ ∃ c : Int, σ = [some (.ref a), some (.int p), some (.int c), none, none], ?_, ?_⟩
    · -- what the cell is
      refine ⟨.int p, rfl, .ref a, rfl, a, _, rfl, .inl ha, p, _, rfl, rfl, _, rfl, ite2 (fun c => ?_) (fun c => ?_)⟩
      · have c : p < (((ns.map V.int).length : Nat) : Int) := of_decide_eq_true c
        obtain ⟨j, rfl⟩ : ∃ j : Nat, p = (j : Int) := ⟨p.toNat, by omega⟩
        have hj : j < ns.length := by rw [List.length_map] at c; omega
        have g : (ns.map V.int)[j]? = some (.int ns[j]) := by rw [List.getElem?_map, List.getElem?_eq_getElem hj]; rfl
        exact ⟨.ref a, rfl, _, rfl, a, _, _, _, rfl, rfl, ha, atI_nat g, Old.refl _ _, ns[j], rfl⟩
      · refine ⟨.ref a, rfl, ?_⟩
        refine ⟨1, rfl, a, _, rfl, ha, fun b hb => ?_⟩
        refine ⟨b, ns.take 1, rfl, SqL.of (by rw [upd_same, cut1n, List.map_take]), .inl ⟨_, rfl, _, _, rfl, rfl, (by show (1000033 : Int) ≠ 0; decide), .int p, rfl, 4271, p, rfl, rfl, .inl ⟨by decide, by decide⟩, _, _, rfl, rfl, _, _, rfl, rfl, ?_⟩⟩
        exact ⟨Old.new0 hb, _, rfl⟩
    · rintro σ H1 ⟨o, c, rfl⟩
      have hb60 : (Builtin.Int.intBits ((10 : Int) ^ (60 : Int).toNat) : Int) * 5 ≤ 2 ^ 27 := by decide +kernel
      refine ⟨.int c, rfl, c, rfl, .inl ⟨_, rfl, 10, 60, rfl, rfl, ⟨by decide, by decide, by decide⟩, _, 5, rfl, rfl, ⟨by decide, hb60⟩, _, _, rfl, rfl, (by show ((10 : Int) ^ (60 : Int).toNat) ^ (5 : Int).toNat ≠ 0; decide +kernel), ?_⟩⟩
      refine ⟨.int c, rfl, c, rfl, 10, 18, rfl, rfl, ⟨by decide, by decide, by decide⟩, _, _, rfl, rfl, .inr ⟨_, rfl, _, _, rfl, rfl, ?_, ?_⟩⟩
      · refine .inr ?_
        generalize decide ((10 : Int) ^ (18 : Int).toNat ≤ if c < 0 then -c else c) = bb
        cases bb <;> decide
      · dsimp only
        generalize hown : ((if c < 0 then -c else c).fmod (((10 : Int) ^ (60 : Int).toNat) ^ (5 : Int).toNat)) * (if decide ((10 : Int) ^ (18 : Int).toNat ≤ if c < 0 then -c else c) = true then 1 else 0) = own
        have own0 : 0 ≤ own := by
          rw [← hown]
          refine Int.mul_nonneg (fmod_pos (by decide +kernel)).1 ?_
          generalize decide ((10 : Int) ^ (18 : Int).toNat ≤ if c < 0 then -c else c) = bb
          cases bb <;> decide
        refine ⟨.int c, rfl, .inl ⟨c, rfl, c, _, rfl, rfl, (by show (2305843009213693951 : Int) ≠ 0; decide), ?_⟩⟩
        dsimp only
        obtain ⟨s0, s1⟩ := fmod_pos (i := c) (j := 2305843009213693951) (by decide)
        generalize c.fmod 2305843009213693951 = small at s0 s1 ⊢
        refine ⟨.int own, rfl, .int small, rfl, small, _, rfl, rfl, .inr ⟨by decide, by decide⟩, .int p, rfl, 9887, p, rfl, rfl, .inl ⟨by decide, by decide⟩, .int p, rfl, _, p, rfl, rfl, .inr ⟨by omega, by omega⟩, _, _, rfl, rfl, _, _, rfl, rfl, .inl ⟨_, rfl, _, _, rfl, rfl, (by show (2305843009213693921 : Int) ≠ 0; decide), ?_⟩⟩
        dsimp only
        obtain ⟨z0, z1⟩ := fmod_pos (i := small * 78787 + 9887 * p * p + 2917) (j := 2305843009213693921) (by decide)
        generalize (small * 78787 + 9887 * p * p + 2917).fmod 2305843009213693921 = mix at z0 z1 ⊢
        refine ⟨(by show 3 ≤ sizeLine; decide), fun r nr => q _ r (o.new nr) (o.free nr (by simp)) ⟨own, mix, 0, upd_same, own0, z0, by omega, by decide, by decide⟩⟩
end
end L2.T39

namespace L2.PL
open PySem PySem.Spec PyProof.Rows
/-! ### kinds of values -/
theorem kit_int_int {K : PySem.W.Frag} : PySem.W.kitOne K (.type "int") (.type "int") = some true := kit_ty (by decide +kernel)
theorem kit_int_bool {K : PySem.W.Frag} : PySem.W.kitOne K (.type "int") (.type "bool") = some false := kit_ty (by decide +kernel)
theorem kit_tup_tup {K : PySem.W.Frag} : PySem.W.kitOne K (.type "tuple") (.type "tuple") = some true := kit_ty (by decide +kernel)
theorem tyx_int {K : PySem.W.Frag} {H : Hp} (i : Int) : TyX K H (.int i) (.type "int") := .base (.int i)
theorem tyx_tup {K : PySem.W.Frag} {H : Hp} {a : Addr} {xs : List V} (h : SqT K H a xs) : TyX K H (.ref a) (.type "tuple") := by
  rcases h with (h | ⟨o, h⟩) | ⟨o, its, n, h, c, _⟩
  · exact .base (.tup h)
  · exact .fTuple h
  · exact .kTuple h c
/-! ### data told -/
section
variable {K : PySem.W.Frag} {H : Hp}
theorem dp_int {v : V} {i : Int} (h : Dp K H v (.int i)) : v = .int i := by cases h; rfl
theorem dp_tup {v : V} {ds : List PyData} (h : Dp K H v (.tuple ds)) : ∃ a xs, v = .ref a ∧ SqT K H a xs ∧ DpAll K H xs ds := by
  cases h with
  | tup h1 h2 => exact ⟨_, _, rfl, h1, h2⟩
theorem dp_ints : ∀ {ns : List Int} {xs : List V}, DpAll K H xs (ns.map PyData.int) → xs = ns.map V.int
  | [], _, h => by cases h; rfl
  | n :: ns, _, h => by
    cases h with
    | cons h1 h2 => rw [dp_int h1, dp_ints h2]; rfl
theorem dp_intTup {v : V} {ns : List Int} (h : Dp K H v (.tuple (ns.map PyData.int))) : ∃ a, v = .ref a ∧ SqT K H a (ns.map V.int) := by
  obtain ⟨a, xs, e, h1, h2⟩ := dp_tup h
  rw [dp_ints h2] at h1
  exact ⟨a, e, h1⟩
end
section
variable {X : Cx}
theorem pe_gI {x : Str} {i : Int} {pos : Pos} (hg : Gl X x) (hm : ∃ t, X.mg x = some (.int i t)) (hd : (x == ("__debug__" : Str)) = false := by decide) : PE X (.Name x pos) (tC (.int i)) := by
  obtain ⟨t, h⟩ := hm
  exact pe_glob hg h ⟨_, rfl⟩ hd
theorem pe_gS {x y : Str} {pos : Pos} (hg : Gl X x) (hm : ∃ t, X.mg x = some (.str y t)) (hd : (x == ("__debug__" : Str)) = false := by decide) : PE X (.Name x pos) (tC (.str y)) := by
  obtain ⟨t, h⟩ := hm
  exact pe_glob hg h ⟨_, rfl⟩ hd
end
end L2.PL

namespace L2.PL
open PySem PySem.Spec PyProof.Rows
/-! rules whose reading names K, not the context: within a comprehension's block -/
section
variable {X : Cx} {K : PySem.W.Frag}
theorem ix_listK (h : X.K = K := by rfl) : IxR X (rIxL K) := by subst h; exact ix_list
theorem ix_tupK (h : X.K = K := by rfl) : IxR X (rIxT K) := by subst h; exact ix_tup
theorem cr_allK (hc : X.calm = true) (h : X.K = K := by rfl) : CallR X (.builtin "all") (rAll K) := by subst h; exact cr_all hc
theorem cr_anyK (hc : X.calm = true) (h : X.K = K := by rfl) : CallR X (.builtin "any") (rAny K) := by subst h; exact cr_any hc
theorem cr_sumK (hc : X.calm = true) (h : X.K = K := by rfl) : CallR X (.builtin "sum") (rSum K) := by subst h; exact cr_sum hc
theorem call_isiK2 (h : X.K = K := by rfl) : CallR X (.builtin "isinstance") (rIsi K) := by subst h; exact call_isi
theorem call_len_seqK (h : X.K = K := by rfl) : CallR X (.builtin "len") (fun xs H Q => ∃ p ys, xs = [.ref p] ∧ (SqL K H p ys ∨ SqT K H p ys) ∧ Q (.int ys.length) H) := by subst h; exact call_len_seq
theorem call_list_ofK (h : X.K = K := by rfl) : CallR X (.type "list") (fun xs H Q => ∃ p ys, xs = [.ref p] ∧ (SqL K H p ys ∨ SqT K H p ys) ∧ ∀ l, H l = none → Q (.ref l) (upd H l (.lst ys))) := by subst h; exact call_list_of
theorem call_tuple_ofK (h : X.K = K := by rfl) : CallR X (.type "tuple") (fun xs H Q => ∃ p ys, xs = [.ref p] ∧ ((SqL K H p ys ∧ ∀ l, H l = none → Q (.ref l) (upd H l (.tup ys))) ∨ (SqT K H p ys ∧ Q (.ref p) H))) := by subst h; exact call_tuple_of
theorem op_in_seqK (h : X.K = K := by rfl) : OpR X (compareOp .In) (rIn K false) := by subst h; exact op_in_seq
theorem op_notIn_seqK (h : X.K = K := by rfl) : OpR X (compareOp .NotIn) (rIn K true) := by subst h; exact op_notIn_seq
theorem op_catAK (h : X.K = K := by rfl) : OpR X (binaryOp .Add) (rCatA K) := by subst h; exact op_catA
theorem op_eqDK (hu : X.A.units + 64 < cLine) (h : X.K = K := by rfl) : OpR X (compareOp .Eq) (rEqD K) := by subst h; exact op_eqD hu
theorem op_neDK (hu : X.A.units + 64 < cLine) (h : X.K = K := by rfl) : OpR X (compareOp .NotEq) (rNeD K) := by subst h; exact op_neD hu
theorem call_reprDK (hG : X.A.guards = some []) (hu : X.A.units + 64 < cLine) (h : X.K = K := by rfl) : CallR X (.builtin "repr") (rRepr K) := by subst h; exact call_reprD hG hu
theorem sl_listK (h : X.K = K := by rfl) : SlR X (rSlL K) := by subst h; exact sl_list
theorem pi_listK {tg l : Expr} {tl : TE} (hl : PE X l tl) (h : X.K = K := by rfl) : PI X tg l (iList K tl) := by subst h; exact pi_list hl
theorem pi_tupK {tg l : Expr} {tl : TE} (hl : PE X l tl) (h : X.K = K := by rfl) : PI X tg l (iTup K tl) := by subst h; exact pi_tup hl
end
end L2.PL

/-! plain mathematics of bounds on differences: no program in sight -/
namespace PD
abbrev Bd := Nat × Nat × Int
abbrev Mx := Nat → Nat → Option Int

/-- values of bounds -/
def Vals (B : List Bd) (v : Nat → Int) : Prop := ∀ b ∈ B, v b.1 - v b.2.1 ≤ b.2.2
def Feas (B : List Bd) : Prop := ∃ v, Vals B v

def omin : Option Int → Option Int → Option Int
  | none, b => b
  | a, none => a
  | some a, some b => some (if b < a then b else a)
def oadd : Option Int → Option Int → Option Int
  | some a, some b => some (a + b)
  | _, _ => none
/-- a ≤ b, none being without end -/
def ole (a : Option Int) (b : Option Int) : Prop := ∀ y, b = some y → ∃ x, a = some x ∧ x ≤ y
theorem ole_refl (a : Option Int) : ole a a := fun y h => ⟨y, h, Int.le_refl _⟩
theorem ole_trans {a b c : Option Int} (h : ole a b) (k : ole b c) : ole a c := fun y e => by
  obtain ⟨z, e1, l1⟩ := k y e
  obtain ⟨x, e2, l2⟩ := h z e1
  exact ⟨x, e2, by omega⟩
theorem omin_l (a b : Option Int) : ole (omin a b) a := fun y h => by
  subst h
  cases b with
  | none => exact ⟨y, rfl, Int.le_refl _⟩
  | some z =>
    refine ⟨_, rfl, ?_⟩
    split <;> omega
theorem omin_r (a b : Option Int) : ole (omin a b) b := fun y h => by
  subst h
  cases a with
  | none => exact ⟨y, rfl, Int.le_refl _⟩
  | some z =>
    refine ⟨_, rfl, ?_⟩
    split <;> omega
/-- what is told by a minimum is told by one of both -/
theorem omin_cases (a b : Option Int) : omin a b = a ∨ omin a b = b := by
  cases a with
  | none => exact .inr rfl
  | some x =>
    cases b with
    | none => exact .inl rfl
    | some y =>
      show some (if y < x then y else x) = some x ∨ some (if y < x then y else x) = some y
      split
      · exact .inr rfl
      · exact .inl rfl
theorem omin_le {a b c : Option Int} (h : ole a c ∨ ole b c) : ole (omin a b) c := by
  rcases h with h | h
  · exact ole_trans (omin_l a b) h
  · exact ole_trans (omin_r a b) h
theorem ole_omin {a b c : Option Int} (h : ole a b) (k : ole a c) : ole a (omin b c) := by
  rcases omin_cases b c with e | e <;> rw [e] <;> assumption
theorem oadd_mono {a b c d : Option Int} (h : ole a c) (k : ole b d) : ole (oadd a b) (oadd c d) := fun y e => by
  cases c with
  | none => cases e
  | some c =>
    cases d with
    | none => cases e
    | some d =>
      obtain ⟨x, rfl, l1⟩ := h c rfl
      obtain ⟨z, rfl, l2⟩ := k d rfl
      have e' : c + d = y := Option.some.inj e
      exact ⟨x + z, rfl, by omega⟩
theorem oadd_assoc (a b c : Option Int) : oadd (oadd a b) c = oadd a (oadd b c) := by
  cases a <;> cases b <;> cases c <;> simp [oadd, Int.add_assoc]
theorem omin_eq_l {a b : Option Int} (h : ole a b) : omin a b = a := by
  cases a with
  | none =>
    cases b with
    | none => rfl
    | some y => obtain ⟨x, e, _⟩ := h y rfl; cases e
  | some x =>
    cases b with
    | none => rfl
    | some y =>
      obtain ⟨z, e, l⟩ := h y rfl
      have e : x = z := Option.some.inj e
      show some (if y < x then y else x) = some x
      rw [if_neg (by omega)]

/-- not below nought -/
def Non (a : Option Int) : Prop := ∀ d, a = some d → 0 ≤ d
theorem oadd_non_l {a b : Option Int} (h : Non a) : ole b (oadd a b) := fun y e => by
  cases a with
  | none => cases e
  | some x =>
    cases b with
    | none => cases e
    | some z =>
      have e' : x + z = y := Option.some.inj e
      have := h x rfl
      exact ⟨z, rfl, by omega⟩
theorem oadd_non_r {a b : Option Int} (h : Non b) : ole a (oadd a b) := fun y e => by
  cases a with
  | none => cases e
  | some x =>
    cases b with
    | none => cases e
    | some z =>
      have e' : x + z = y := Option.some.inj e
      have := h z rfl
      exact ⟨x, rfl, by omega⟩
theorem Non.of_ole {a b : Option Int} (h : Non a) (k : ole a b) : Non b := fun y e => by
  obtain ⟨x, e1, l⟩ := k y e
  have := h x e1
  omega

/-- one middle, exactly -/
def F (M : Mx) (k : Nat) : Mx := fun x y => omin (M x y) (oadd (M x k) (M k y))

/-- what one middle's turns do, whatever their sequence: exactly F where no ring below nought goes round at the middle -/
structure Mid (n : Nat) (M : Mx) (k : Nat) (M' : Mx) : Prop where
  mono : ∀ x y, x < n → y < n → ole (M' x y) (M x y)
  exact : Non (M k k) → ∀ x y, x < n → y < n → M' x y = F M k x y

def Closed (n k : Nat) (M : Mx) : Prop := ∀ m x y, m < k → x < n → y < n → ole (M x y) (oadd (M x m) (M m y))

theorem closed_step {n k : Nat} {M : Mx} (hk : k < n) (c : Closed n k M) (h : Non (M k k)) : Closed n (k + 1) (F M k) := by
  intro m x y hm hx hy
  have row : ∀ z, z < n → F M k k z = M k z := fun z _ => omin_eq_l (oadd_non_l h)
  have col : ∀ z, z < n → F M k z k = M z k := fun z _ => omin_eq_l (oadd_non_r h)
  by_cases e : m = k
  · subst e
    rw [col x hx, row y hy]
    exact omin_r _ _
  · have hm' : m < k := by omega
    have hmn : m < n := by omega
    have a1 := c m x y hm' hx hy
    have a2 := c m x k hm' hx hk
    have a3 := c m k y hm' hk hy
    have a4 := c m k k hm' hk hk
    -- the four ways
    show ole (F M k x y) (oadd (omin (M x m) (oadd (M x k) (M k m))) (omin (M m y) (oadd (M m k) (M k y))))
    have L1 : ole (F M k x y) (M x y) := omin_l _ _
    have L2 : ole (F M k x y) (oadd (M x k) (M k y)) := omin_r _ _
    rcases omin_cases (M x m) (oadd (M x k) (M k m)) with e1 | e1 <;> rw [e1] <;>
      rcases omin_cases (M m y) (oadd (M m k) (M k y)) with e2 | e2 <;> rw [e2]
    · exact ole_trans L1 a1
    · rw [← oadd_assoc]
      exact ole_trans L2 (oadd_mono a2 (ole_refl _))
    · rw [oadd_assoc]
      exact ole_trans L2 (oadd_mono (ole_refl _) a3)
    · refine ole_trans L2 ?_
      rw [oadd_assoc, ← oadd_assoc (M k m)]
      refine oadd_mono (ole_refl _) ?_
      refine ole_trans (oadd_non_l (h.of_ole a4)) (ole_refl _)

/-- the matrices of a run: M 0 the bounds, then middle after middle -/
structure Run (n : Nat) (B : List Bd) (S : Nat → Mx) (t : Nat) : Prop where
  /-- at first: the least c of each two variables -/
  low : ∀ b ∈ B, ole (S 0 b.1 b.2.1) (some b.2.2)
  got : ∀ x y c, S 0 x y = some c → (x = y ∧ c = 0) ∨ (x, y, c) ∈ B
  mid : ∀ k, k < t → Mid n (S k) k (S (k + 1))
section
variable {n t : Nat} {B : List Bd} {S : Nat → Mx}
theorem Run.mono (R : Run n B S t) : ∀ {j k : Nat}, j ≤ k → k ≤ t → ∀ x y, x < n → y < n → ole (S k x y) (S j x y) := by
  intro j k h
  induction h with
  | refl => exact fun _ x y _ _ => ole_refl _
  | step h ih =>
    rename_i m
    intro ht x y hx hy
    exact ole_trans ((R.mid m (by omega)).mono x y hx hy) (ih (by omega) x y hx hy)
/-- every number told is so of all values -/
def Sound (n : Nat) (B : List Bd) (M : Mx) : Prop := ∀ v, Vals B v → ∀ x y a, x < n → y < n → M x y = some a → v x - v y ≤ a
theorem Sound.non {M : Mx} (s : Sound n B M) (f : Feas B) : ∀ x, x < n → Non (M x x) := fun x hx d e => by
  obtain ⟨v, hv⟩ := f
  have := s v hv x x d hx hx e
  omega
theorem sound_F {M : Mx} {k : Nat} (hk : k < n) (s : Sound n B M) : Sound n B (F M k) := fun v hv x y a hx hy e => by
  rcases omin_cases (M x y) (oadd (M x k) (M k y)) with e1 | e1
  · exact s v hv x y a hx hy (e1.symm.trans e)
  · have e2 : oadd (M x k) (M k y) = some a := e1.symm.trans e
    cases h1 : M x k with
    | none => rw [h1] at e2; cases e2
    | some p =>
      cases h2 : M k y with
      | none => rw [h1, h2] at e2; cases e2
      | some q =>
        rw [h1, h2] at e2
        have e3 : p + q = a := Option.some.inj e2
        have := s v hv x k p hx hk h1
        have := s v hv k y q hk hy h2
        omega
theorem Run.sound0 (R : Run n B S t) : Sound n B (S 0) := fun v hv x y a _ _ e => by
  rcases R.got x y a e with ⟨rfl, rfl⟩ | hm
  · omega
  · exact hv _ hm
theorem Run.sound (R : Run n B S t) (f : Feas B) (ht : t ≤ n) : ∀ k, k ≤ t → Sound n B (S k) := by
  intro k
  induction k with
  | zero => exact fun _ => R.sound0
  | succ k ih =>
    intro hk
    have s := ih (by omega)
    have hkn : k < n := by omega
    intro v hv x y a hx hy e
    rw [(R.mid k (by omega)).exact (s.non f k hkn) x y hx hy] at e
    exact sound_F hkn s v hv x y a hx hy e
/-- values: nothing goes round below nought, at any time -/
theorem Run.non (R : Run n B S t) (f : Feas B) (ht : t ≤ n) {k : Nat} (hk : k ≤ t) : ∀ x, x < n → Non (S k x x) := (R.sound f ht k hk).non f
theorem closed_congr {k : Nat} {M M' : Mx} (hk : k ≤ n) (c : Closed n k M) (e : ∀ x y, x < n → y < n → M' x y = M x y) : Closed n k M' := fun m x y hm hx hy => by
  rw [e x y hx hy, e x m hx (by omega), e m y (by omega) hy]
  exact c m x y hm hx hy
/-- nothing goes round below nought at the end: closed -/
theorem Run.closed (R : Run n B S n) (h : ∀ x, x < n → Non (S n x x)) : ∀ k, k ≤ n → Closed n k (S k) := by
  intro k
  induction k with
  | zero => intro _ m _ _ hm; omega
  | succ k ih =>
    intro hk
    have c := ih (by omega)
    have hn : Non (S k k k) := (h k (by omega)).of_ole (R.mono (by omega : k ≤ n) (Nat.le_refl n) k k (by omega) (by omega))
    exact closed_congr hk (closed_step (by omega) c hn) ((R.mid k (by omega)).exact hn)

/-! values out of a closed matrix -/
/-- the least of 0 and of what is told in x's row -/
def pot (M : Mx) : Nat → Nat → Int
  | 0, _ => 0
  | k + 1, x => match M x k with
    | none => pot M k x
    | some a => if a < pot M k x then a else pot M k x
theorem pot_le0 (M : Mx) : ∀ k x, pot M k x ≤ 0
  | 0, _ => Int.le_refl _
  | k + 1, x => by
    have := pot_le0 M k x
    unfold pot
    split
    · exact this
    · split <;> omega
theorem pot_le (M : Mx) : ∀ k x z a, z < k → M x z = some a → pot M k x ≤ a
  | 0, _, _, _, h, _ => by omega
  | k + 1, x, z, a, h, e => by
    unfold pot
    by_cases hz : z = k
    · subst hz
      rw [e]
      show (if a < pot M z x then a else pot M z x) ≤ a
      split <;> omega
    · have := pot_le M k x z a (by omega) e
      split
      · exact this
      · split <;> omega
theorem pot_is (M : Mx) : ∀ k x, pot M k x = 0 ∨ ∃ z a, z < k ∧ M x z = some a ∧ pot M k x = a
  | 0, _ => .inl rfl
  | k + 1, x => by
    have ih := pot_is M k x
    have up : (pot M k x = 0 ∨ ∃ z a, z < k ∧ M x z = some a ∧ pot M k x = a) → (pot M k x = 0 ∨ ∃ z a, z < k + 1 ∧ M x z = some a ∧ pot M k x = a) := by
      rintro (h | ⟨z, a, h1, h2, h3⟩)
      · exact .inl h
      · exact .inr ⟨z, a, by omega, h2, h3⟩
    unfold pot
    split
    · exact up ih
    · rename_i a e
      split
      · exact .inr ⟨k, a, by omega, e, rfl⟩
      · exact up ih
/-- closed: values -/
theorem feas_of_closed {M : Mx} (hB : ∀ b ∈ B, b.1 < n ∧ b.2.1 < n) (low : ∀ b ∈ B, ole (M b.1 b.2.1) (some b.2.2)) (c : Closed n n M) : Feas B := by
  refine ⟨pot M n, fun b hb => ?_⟩
  obtain ⟨x, y, d⟩ := b
  obtain ⟨hx, hy⟩ := hB _ hb
  obtain ⟨p, e1, l1⟩ := low _ hb d rfl
  show pot M n x - pot M n y ≤ d
  have l1 : p ≤ d := l1
  rcases pot_is M n y with h | ⟨z, a, hz, ha, h⟩
  · have := pot_le M n x y p hy e1
    omega
  · have hx : x < n := hx
    have hy : y < n := hy
    have e1 : M x y = some p := e1
    obtain ⟨q, e2, l2⟩ := c y x z hy hx hz (p + a) (by rw [e1, ha]; rfl)
    have := pot_le M n x z q hz e2
    omega
theorem Run.feas (R : Run n B S n) (hB : ∀ b ∈ B, b.1 < n ∧ b.2.1 < n) (h : ∀ x, x < n → Non (S n x x)) : Feas B := by
  refine feas_of_closed hB (fun b hb => ?_) (R.closed h n (Nat.le_refl n))
  exact ole_trans (R.mono (Nat.zero_le n) (Nat.le_refl n) _ _ (hB b hb).1 (hB b hb).2) (R.low b hb)
end

/-- two runs that begin alike but on the middle line end so -/
theorem runs_alike {n t : Nat} {B : List Bd} {S T : Nat → Mx} (R : Run n B S t) (Q : Run n B T t) (ht : t ≤ n) (f : Feas B) (h0 : ∀ x y, x < n → y < n → x ≠ y → S 0 x y = T 0 x y) :
    ∀ k, k ≤ t → ∀ x y, x < n → y < n → x ≠ y → S k x y = T k x y := by
  intro k
  induction k with
  | zero => exact fun _ => h0
  | succ k ih =>
    intro hk x y hx hy hne
    have ih := ih (by omega)
    have hkn : k < n := by omega
    have nS := R.non f ht (k := k) (by omega) k hkn
    have nT := Q.non f ht (k := k) (by omega) k hkn
    rw [(R.mid k (by omega)).exact nS x y hx hy, (Q.mid k (by omega)).exact nT x y hx hy]
    show omin (S k x y) (oadd (S k x k) (S k k y)) = omin (T k x y) (oadd (T k x k) (T k k y))
    rw [ih x y hx hy hne]
    by_cases e1 : x = k
    · subst e1
      rw [ih x y hx hy hne, omin_eq_l (oadd_non_l nS), omin_eq_l (oadd_non_l nT)]
    · by_cases e2 : y = k
      · subst e2
        rw [ih x y hx hy hne, omin_eq_l (oadd_non_r nS), omin_eq_l (oadd_non_r nT)]
      · rw [ih x k hx hkn e1, ih k y hkn hy (Ne.symm e2)]
end PD
namespace PD
/-! ### the least c of the first i bounds from x to y -/
def minTo (B : List Bd) (x y : Nat) : Nat → Option Int
  | 0 => none
  | i + 1 => match B[i]? with
    | none => minTo B x y i
    | some b => if b.1 = x ∧ b.2.1 = y then omin (minTo B x y i) (some b.2.2) else minTo B x y i
theorem minTo_low (B : List Bd) (x y : Nat) : ∀ i j c, j < i → B[j]? = some (x, y, c) → ole (minTo B x y i) (some c)
  | 0, _, _, h, _ => absurd h (Nat.not_lt_zero _)
  | i + 1, j, c, h, e => by
    show ole (match B[i]? with | none => minTo B x y i | some b => if b.1 = x ∧ b.2.1 = y then omin (minTo B x y i) (some b.2.2) else minTo B x y i) (some c)
    by_cases hj : j = i
    · subst hj
      rw [e]
      show ole (if x = x ∧ y = y then omin (minTo B x y j) (some c) else minTo B x y j) (some c)
      rw [if_pos ⟨rfl, rfl⟩]
      exact omin_r _ _
    · have ih := minTo_low B x y i j c (by omega) e
      cases B[i]? with
      | none => exact ih
      | some b =>
        show ole (if b.1 = x ∧ b.2.1 = y then omin (minTo B x y i) (some b.2.2) else minTo B x y i) (some c)
        split
        · exact omin_le (.inl ih)
        · exact ih
theorem minTo_got (B : List Bd) (x y : Nat) : ∀ i c, minTo B x y i = some c → (x, y, c) ∈ B
  | 0, _, h => by cases h
  | i + 1, c, h => by
    have h : (match B[i]? with | none => minTo B x y i | some b => if b.1 = x ∧ b.2.1 = y then omin (minTo B x y i) (some b.2.2) else minTo B x y i) = some c := h
    cases e : B[i]? with
    | none => rw [e] at h; exact minTo_got B x y i c h
    | some b =>
      rw [e] at h
      have h : (if b.1 = x ∧ b.2.1 = y then omin (minTo B x y i) (some b.2.2) else minTo B x y i) = some c := h
      split at h
      · rename_i hxy
        rcases omin_cases (minTo B x y i) (some b.2.2) with q | q
        · exact minTo_got B x y i c (q.symm.trans h)
        · have q2 : b.2.2 = c := Option.some.inj (q.symm.trans h)
          have : (x, y, c) = b := by rw [← hxy.1, ← hxy.2, ← q2]
          rw [this]
          exact List.mem_of_getElem? e
      · exact minTo_got B x y i c h
theorem omin_assoc (a b c : Option Int) : omin (omin a b) c = omin a (omin b c) := by
  cases a with
  | none => rfl
  | some a =>
    cases b with
    | none => rfl
    | some b =>
      cases c with
      | none => rfl
      | some c =>
        show some (if c < (if b < a then b else a) then c else (if b < a then b else a)) = some (if (if c < b then c else b) < a then (if c < b then c else b) else a)
        congr 1
        split <;> split <;> (try split) <;> omega
/-- the matrix with which both begin: d on the middle line -/
def start0 (B : List Bd) (d : Option Int) : Mx := fun x y => omin (if x = y then d else none) (minTo B x y B.length)

/-! ### a part of the turns of one middle -/
structure MidP (n : Nat) (M : Mx) (k : Nat) (D : Nat → Nat → Prop) (M' : Mx) : Prop where
  mono : ∀ x y, x < n → y < n → ole (M' x y) (M x y)
  exact : Non (M k k) → ∀ x y, x < n → y < n → (D x y → M' x y = F M k x y) ∧ (¬ D x y → M' x y = M x y)
theorem MidP.zero {n k : Nat} {M : Mx} {D : Nat → Nat → Prop} (h : ∀ x y, ¬ D x y) : MidP n M k D M :=
  ⟨fun _ _ _ _ => ole_refl _, fun _ x y _ _ => ⟨fun d => absurd d (h x y), fun _ => rfl⟩⟩
theorem MidP.step {n k x y : Nat} {M M' M'' : Mx} {D D' : Nat → Nat → Prop} (p : MidP n M k D M') (hk : k < n) (hx : x < n) (hy : y < n) (hD : ¬ D x y) (hD' : ∀ a b, D' a b ↔ D a b ∨ (a = x ∧ b = y))
    (h1 : M'' x y = omin (M' x y) (oadd (M' x k) (M' k y))) (h2 : ∀ a b, ¬ (a = x ∧ b = y) → M'' a b = M' a b) : MidP n M k D' M'' := by
  refine ⟨fun a b ha hb => ?_, fun hn a b ha hb => ?_⟩
  · by_cases e : a = x ∧ b = y
    · obtain ⟨rfl, rfl⟩ := e
      rw [h1]
      exact omin_le (.inl (p.mono a b ha hb))
    · rw [h2 a b e]; exact p.mono a b ha hb
  · have row : ∀ z, z < n → M' k z = M k z := fun z hz => by
      by_cases d : D k z
      · rw [((p.exact hn) k z hk hz).1 d]; exact omin_eq_l (oadd_non_l hn)
      · exact ((p.exact hn) k z hk hz).2 d
    have col : ∀ z, z < n → M' z k = M z k := fun z hz => by
      by_cases d : D z k
      · rw [((p.exact hn) z k hz hk).1 d]; exact omin_eq_l (oadd_non_r hn)
      · exact ((p.exact hn) z k hz hk).2 d
    by_cases e : a = x ∧ b = y
    · obtain ⟨rfl, rfl⟩ := e
      refine ⟨fun _ => ?_, fun d => absurd ((hD' a b).mpr (.inr ⟨rfl, rfl⟩)) d⟩
      rw [h1, row b hb, col a ha, ((p.exact hn) a b ha hb).2 hD]
      rfl
    · rw [h2 a b e]
      have q := (p.exact hn) a b ha hb
      refine ⟨fun d => q.1 (((hD' a b).mp d).resolve_right e), fun d => q.2 fun z => d ((hD' a b).mpr (.inl z))⟩
/-- all that is left is nothing -/
theorem MidP.mid {n k : Nat} {M M' : Mx} {D : Nat → Nat → Prop} (p : MidP n M k D M') (h : ∀ x y, x < n → y < n → ¬ D x y → M x k = none ∨ M k y = none) : Mid n M k M' := by
  refine ⟨p.mono, fun hn x y hx hy => ?_⟩
  by_cases d : D x y
  · exact ((p.exact hn) x y hx hy).1 d
  · rw [((p.exact hn) x y hx hy).2 d]
    have : oadd (M x k) (M k y) = none := by
      rcases h x y hx hy d with e | e <;> rw [e]
      · rfl
      · cases M x k <;> rfl
    show M x y = omin (M x y) (oadd (M x k) (M k y))
    rw [this]
    cases M x y <;> rfl
/-! ### runs made longer -/
theorem Run.zero {n : Nat} {B : List Bd} {S : Nat → Mx} (low : ∀ b ∈ B, ole (S 0 b.1 b.2.1) (some b.2.2)) (got : ∀ x y c, S 0 x y = some c → (x = y ∧ c = 0) ∨ (x, y, c) ∈ B) : Run n B S 0 := ⟨low, got, fun _ h => absurd h (Nat.not_lt_zero _)⟩
theorem Run.more {n t : Nat} {B : List Bd} {S : Nat → Mx} {M : Mx} (R : Run n B S t) (m : Mid n (S t) t M) : Run n B (fun k => if k = t + 1 then M else S k) (t + 1) := by
  refine ⟨fun b hb => R.low b hb, fun x y c e => R.got x y c e, fun k hk => ?_⟩
  by_cases e : k = t
  · subst e
    show Mid n (if k = k + 1 then M else S k) k (if k + 1 = k + 1 then M else S (k + 1))
    rw [if_neg (by omega), if_pos rfl]
    exact m
  · show Mid n (if k = t + 1 then M else S k) k (if k + 1 = t + 1 then M else S (k + 1))
    rw [if_neg (by omega), if_neg (by omega)]
    exact R.mid k (by omega)
theorem start0_low {B : List Bd} {d : Option Int} : ∀ b ∈ B, ole (start0 B d b.1 b.2.1) (some b.2.2) := fun b hb => by
  obtain ⟨x, y, c⟩ := b
  obtain ⟨j, hj, e⟩ := List.mem_iff_getElem.mp hb
  exact omin_le (.inr (minTo_low B x y _ j c hj (by rw [List.getElem?_eq_getElem hj, e])))
theorem start0_got {B : List Bd} {d : Option Int} (hd : d = none ∨ d = some 0) : ∀ x y c, start0 B d x y = some c → (x = y ∧ c = 0) ∨ (x, y, c) ∈ B := fun x y c h => by
  rcases omin_cases (if x = y then d else none) (minTo B x y B.length) with q | q
  · have q2 := q.symm.trans h
    split at q2
    · rename_i e
      rcases hd with rfl | rfl
      · cases q2
      · exact .inl ⟨e, (Option.some.inj q2).symm⟩
    · cases q2
  · exact .inr (minTo_got B x y _ c (q.symm.trans h))
theorem start0_off {B : List Bd} {d e : Option Int} {x y : Nat} (h : x ≠ y) : start0 B d x y = start0 B e x y := by
  unfold start0
  rw [if_neg h, if_neg h]
end PD

namespace PD
/-! ### holes -/
theorem fits : ∀ (n : Nat) (l : List Nat), l.Nodup → (∀ x ∈ l, x < n) → l.length ≤ n
  | 0, l, _, h => by
    cases l with
    | nil => exact Nat.le_refl _
    | cons a r => exact absurd (h a List.mem_cons_self) (Nat.not_lt_zero _)
  | n + 1, l, d, h => by
    have ih := fits n (l.erase n) (d.erase n) fun x hx => by
      have h1 := h x (List.mem_of_mem_erase hx)
      have h2 : x ≠ n := fun e => by
        subst e
        exact (List.Nodup.not_mem_erase d) hx
      omega
    have := List.length_erase (a := n) (l := l)
    split at this <;> omega
theorem twice {n : Nat} (f : Nat → Nat) (h : ∀ i, i ≤ n → f i < n) : ∃ i j, i < j ∧ j ≤ n ∧ f i = f j := by
  by_cases d : ((List.range (n + 1)).map f).Nodup
  · have := fits n _ d fun x hx => by
      obtain ⟨i, hi, rfl⟩ := List.mem_map.mp hx
      exact h i (by have := List.mem_range.mp hi; omega)
    simp at this
    omega
  · rw [List.Nodup, List.pairwise_iff_getElem] at d
    have : ∃ i j, i < j ∧ j ≤ n ∧ f i = f j := Classical.byContradiction fun hn => d fun i j hi hj hij => by
      intro e
      simp at hi hj
      rw [List.getElem_map, List.getElem_map, List.getElem_range, List.getElem_range] at e
      exact hn ⟨i, j, hij, by omega, e⟩
    exact this

def set1 {α : Type} (f : Nat → α) (x : Nat) (v : α) : Nat → α := fun z => if z = x then v else f z
theorem set1_same {α : Type} (f : Nat → α) (x : Nat) (v : α) : set1 f x v x = v := if_pos rfl
theorem set1_ne {α : Type} {f : Nat → α} {x z : Nat} {v : α} (h : z ≠ x) : set1 f x v z = f z := if_neg h

/-! ### laps over all bounds: heights, by which bound they came down last; beside: in which lap (t), by what chain (hist) -/
structure RB where
  h : Nat → Int
  by_ : Nat → Option Nat
  last : Option Nat
  t : Nat → Nat
  hist : Nat → List (Nat × Int)
def rbStep (k : Nat) (b : Bd) (i : Nat) (s : RB) : RB :=
  if s.h b.2.1 + b.2.2 < s.h b.1 then
    ⟨set1 s.h b.1 (s.h b.2.1 + b.2.2), set1 s.by_ b.1 (some i), some b.1, set1 s.t b.1 k, set1 s.hist b.1 ((b.1, s.h b.2.1 + b.2.2) :: s.hist b.2.1)⟩
  else s
def lapTo (B : List Bd) (k : Nat) (s : RB) : Nat → RB
  | 0 => { s with last := none }
  | i + 1 => match B[i]? with
    | none => lapTo B k s i
    | some b => rbStep k b i (lapTo B k s i)
def rb0 : RB := ⟨fun _ => 0, fun _ => none, none, fun _ => 0, fun x => [(x, 0)]⟩
def laps (B : List Bd) : Nat → RB
  | 0 => rb0
  | k + 1 => lapTo B (k + 1) (laps B k) B.length

def Step2 (B : List Bd) (u w : Nat × Int) : Prop := ∃ c, (u.1, w.1, c) ∈ B ∧ u.2 = w.2 + c
inductive Chn (B : List Bd) : List (Nat × Int) → Prop
  | one (u : Nat × Int) : Chn B [u]
  | cons {u w : Nat × Int} {r : List (Nat × Int)} : Step2 B u w → Chn B (w :: r) → Chn B (u :: w :: r)
/-- what holds in lap k behind i bounds -/
structure GI (n : Nat) (B : List Bd) (k i : Nat) (s : RB) : Prop where
  head : ∀ x, ∃ r, s.hist x = (x, s.h x) :: r
  chn : ∀ x, Chn B (s.hist x)
  above : ∀ x, ∀ u ∈ s.hist x, s.h u.1 ≤ u.2
  strict : ∀ x, (s.hist x).Pairwise fun u w => u.1 = w.1 → u.2 < w.2
  long : ∀ x, s.t x + 1 ≤ (s.hist x).length
  small : ∀ x, x < n → ∀ u ∈ s.hist x, u.1 < n
  sat : ∀ j b, B[j]? = some b → (s.t b.2.1 + 2 ≤ k ∨ (s.t b.2.1 + 1 ≤ k ∧ j < i)) → s.h b.1 ≤ s.h b.2.1 + b.2.2
  le : ∀ x, s.t x ≤ k
  lst : ∀ x, s.last = some x → s.t x = k ∧ x < n
  by1 : ∀ x, 1 ≤ s.t x → ∃ j b, s.by_ x = some j ∧ B[j]? = some b ∧ b.1 = x ∧ s.t x ≤ s.t b.2.1 + 1
  by0 : ∀ x j, s.by_ x = some j → ∃ b, B[j]? = some b ∧ b.1 = x
section
variable {n : Nat} {B : List Bd} (hB : ∀ b ∈ B, b.1 < n ∧ b.2.1 < n)
include hB
theorem gi_step {k i : Nat} {s : RB} {b : Bd} (hb : B[i]? = some b) (g : GI n B k i s) : GI n B k (i + 1) (rbStep k b i s) := by
  obtain ⟨x, y, c⟩ := b
  have hm : (x, y, c) ∈ B := List.mem_of_getElem? hb
  obtain ⟨hx, hy⟩ : x < n ∧ y < n := hB _ hm
  unfold rbStep
  by_cases hlt : s.h y + c < s.h x
  · rw [if_pos (show s.h (x, y, c).2.1 + (x, y, c).2.2 < s.h (x, y, c).1 from hlt)]
    show GI n B k (i + 1) ⟨set1 s.h x (s.h y + c), set1 s.by_ x (some i), some x, set1 s.t x k, set1 s.hist x ((x, s.h y + c) :: s.hist y)⟩
    -- y changed in this lap or in the one ahead
    have ty : k ≤ s.t y + 1 := by
      apply Classical.byContradiction
      intro hn
      have := g.sat i _ hb (.inl (by show s.t y + 2 ≤ k; omega))
      have this : s.h x ≤ s.h y + c := this
      omega
    have down : ∀ z, set1 s.h x (s.h y + c) z ≤ s.h z := fun z => by
      by_cases e : z = x
      · subst e; rw [set1_same]; omega
      · rw [set1_ne e]; omega
    have tup : ∀ z, s.t z ≤ set1 s.t x k z := fun z => by
      by_cases e : z = x
      · subst e; rw [set1_same]; exact g.le z
      · rw [set1_ne e]; omega
    refine ⟨fun z => ?_, fun z => ?_, fun z u hu => ?_, fun z => ?_, fun z => ?_, fun z hz u hu => ?_, fun j b hj hc => ?_, fun z => ?_, fun z e => ?_, fun z hz => ?_, fun z j e => ?_⟩
    · by_cases e : z = x
      · subst e
        exact ⟨s.hist y, by show set1 s.hist z _ z = (z, set1 s.h z _ z) :: _; rw [set1_same, set1_same]⟩
      · obtain ⟨r, hr⟩ := g.head z
        exact ⟨r, by show set1 s.hist x _ z = (z, set1 s.h x _ z) :: _; rw [set1_ne e, set1_ne e]; exact hr⟩
    · show Chn B (set1 s.hist x _ z)
      by_cases e : z = x
      · subst e
        rw [set1_same]
        have h1 := g.chn y
        obtain ⟨r, hr⟩ := g.head y
        rw [hr] at h1 ⊢
        exact .cons ⟨c, hm, rfl⟩ h1
      · rw [set1_ne e]; exact g.chn z
    · have hu : u ∈ set1 s.hist x ((x, s.h y + c) :: s.hist y) z := hu
      show set1 s.h x (s.h y + c) u.1 ≤ u.2
      by_cases e : z = x
      · subst e
        rw [set1_same] at hu
        rcases List.mem_cons.mp hu with rfl | hu
        · rw [set1_same]; exact Int.le_refl _
        · exact Int.le_trans (down _) (g.above y u hu)
      · rw [set1_ne e] at hu
        exact Int.le_trans (down _) (g.above z u hu)
    · show (set1 s.hist x _ z).Pairwise _
      by_cases e : z = x
      · subst e
        rw [set1_same]
        refine List.Pairwise.cons (fun w hw e => ?_) (g.strict y)
        have := g.above y w hw
        have e : z = w.1 := e
        rw [← e] at this
        show s.h y + c < w.2
        omega
      · rw [set1_ne e]; exact g.strict z
    · show set1 s.t x k z + 1 ≤ (set1 s.hist x _ z).length
      by_cases e : z = x
      · subst e
        rw [set1_same, set1_same, List.length_cons]
        have := g.long y
        omega
      · rw [set1_ne e, set1_ne e]; exact g.long z
    · have hu : u ∈ set1 s.hist x ((x, s.h y + c) :: s.hist y) z := hu
      by_cases e : z = x
      · subst e
        rw [set1_same] at hu
        rcases List.mem_cons.mp hu with rfl | hu
        · exact hz
        · exact g.small y hy u hu
      · rw [set1_ne e] at hu
        exact g.small z hz u hu
    · obtain ⟨x', y', c'⟩ := b
      have hc : set1 s.t x k y' + 2 ≤ k ∨ (set1 s.t x k y' + 1 ≤ k ∧ j < i + 1) := hc
      show set1 s.h x (s.h y + c) x' ≤ set1 s.h x (s.h y + c) y' + c'
      have ey : y' ≠ x := fun e => by
        rw [e, set1_same] at hc
        omega
      rw [set1_ne ey] at hc
      rw [set1_ne ey]
      by_cases ej : j = i
      · subst ej
        rw [hb] at hj
        cases hj
        rw [set1_same]; omega
      · exact Int.le_trans (down x') (g.sat j _ hj (by
          show s.t y' + 2 ≤ k ∨ (s.t y' + 1 ≤ k ∧ j < i)
          omega))
    · show set1 s.t x k z ≤ k
      by_cases e : z = x
      · subst e; rw [set1_same]; omega
      · rw [set1_ne e]; exact g.le z
    · have e : x = z := Option.some.inj e
      subst e
      exact ⟨set1_same .., hx⟩
    · have hz : 1 ≤ set1 s.t x k z := hz
      show ∃ j b, set1 s.by_ x (some i) z = some j ∧ B[j]? = some b ∧ b.1 = z ∧ set1 s.t x k z ≤ set1 s.t x k b.2.1 + 1
      by_cases e : z = x
      · subst e
        refine ⟨i, _, set1_same .., hb, rfl, ?_⟩
        rw [set1_same]
        have := tup y
        show k ≤ set1 s.t z k y + 1
        omega
      · rw [set1_ne e] at hz
        obtain ⟨j, b, h1, h2, h3, h4⟩ := g.by1 z hz
        refine ⟨j, b, by rw [set1_ne e]; exact h1, h2, h3, ?_⟩
        rw [set1_ne e]
        have := tup b.2.1
        omega
    · have e : set1 s.by_ x (some i) z = some j := e
      by_cases ez : z = x
      · subst ez
        rw [set1_same] at e
        cases e
        exact ⟨_, hb, rfl⟩
      · rw [set1_ne ez] at e
        exact g.by0 z j e
  · rw [if_neg (show ¬ s.h (x, y, c).2.1 + (x, y, c).2.2 < s.h (x, y, c).1 from hlt)]
    refine ⟨g.head, g.chn, g.above, g.strict, g.long, g.small, fun j b hj hc => ?_, g.le, g.lst, g.by1, g.by0⟩
    by_cases ej : j = i
    · subst ej
      rw [hb] at hj
      cases hj
      show s.h x ≤ s.h y + c
      omega
    · exact g.sat j b hj (by omega)
theorem gi_lap {k : Nat} {s : RB} (g : GI n B k 0 { s with last := none }) : ∀ i, GI n B k i (lapTo B k s i)
  | 0 => g
  | i + 1 => by
    have ih := gi_lap g i
    show GI n B k (i + 1) (match B[i]? with | none => lapTo B k s i | some b => rbStep k b i (lapTo B k s i))
    cases e : B[i]? with
    | some b => exact gi_step hB e ih
    | none =>
      show GI n B k (i + 1) (lapTo B k s i)
      refine ⟨ih.head, ih.chn, ih.above, ih.strict, ih.long, ih.small, fun j b hj hc => ?_, ih.le, ih.lst, ih.by1, ih.by0⟩
      refine ih.sat j b hj ?_
      have h1 := List.getElem?_eq_none_iff.mp e
      obtain ⟨h2, _⟩ := List.getElem?_eq_some_iff.mp hj
      omega
omit hB in
theorem gi_next {k : Nat} {s : RB} (g : GI n B k B.length s) : GI n B (k + 1) 0 { s with last := none } :=
  ⟨g.head, g.chn, g.above, g.strict, g.long, g.small, fun j b hj hc => by
    obtain ⟨h2, _⟩ := List.getElem?_eq_some_iff.mp hj
    exact g.sat j b hj (by have : s.t b.2.1 + 2 ≤ k + 1 ∨ (s.t b.2.1 + 1 ≤ k + 1 ∧ j < 0) := hc; omega), fun x => Nat.le_succ_of_le (g.le x), fun x e => (by cases e), g.by1, g.by0⟩
omit hB in
theorem gi0 : GI n B 0 B.length rb0 :=
  ⟨fun x => ⟨[], rfl⟩, fun x => .one _, fun x u hu => by
    have : u = (x, (0 : Int)) := by simpa [rb0] using hu
    subst this; exact Int.le_refl _, fun x => List.pairwise_singleton .., fun x => Nat.le_refl _, fun x hx u hu => by
    have : u = (x, (0 : Int)) := by simpa [rb0] using hu
    subst this; exact hx, fun j b hj hc => by
      have : (0 : Nat) + 2 ≤ 0 ∨ ((0 : Nat) + 1 ≤ 0 ∧ j < B.length) := hc
      omega, fun x => Nat.le_refl _, fun x e => (by cases e), fun x h => (by have : 1 ≤ 0 := h; omega), fun x j e => (by cases e)⟩
theorem gi_laps : ∀ k, GI n B k B.length (laps B k)
  | 0 => gi0
  | k + 1 => gi_lap hB (gi_next (gi_laps k)) B.length

omit hB in
theorem chn_down {v : Nat → Int} (hv : Vals B v) : ∀ {l : List (Nat × Int)} {u : Nat × Int}, Chn B (u :: l) → ∀ w ∈ l, w.2 - v w.1 ≤ u.2 - v u.1
  | [], _, _, w, hw => by cases hw
  | w' :: r, u, h, w, hw => by
    cases h with
    | cons s h =>
      obtain ⟨c, hm, e⟩ := s
      have h1 : v u.1 - v w'.1 ≤ c := hv _ hm
      have h2 : w'.2 - v w'.1 ≤ u.2 - v u.1 := by omega
      rcases List.mem_cons.mp hw with rfl | hw
      · exact h2
      · exact Int.le_trans (chn_down hv h w hw) h2
omit hB in
theorem chn_nodup {v : Nat → Int} (hv : Vals B v) : ∀ {l : List (Nat × Int)}, Chn B l → (l.Pairwise fun u w => u.1 = w.1 → u.2 < w.2) → (l.map (·.1)).Nodup
  | [], _, _ => List.nodup_nil
  | u :: l, h, p => by
    have p' := List.pairwise_cons.mp p
    rw [List.map_cons, List.nodup_cons]
    refine ⟨fun hm => ?_, ?_⟩
    · obtain ⟨w, hw, e⟩ := List.mem_map.mp hm
      have h1 := p'.1 w hw e.symm
      have h2 := chn_down hv h w hw
      rw [e] at h2
      omega
    · cases h with
      | one => exact List.nodup_nil
      | cons _ h => exact chn_nodup hv h p'.2
/-- values: in lap n nothing comes down -/
theorem laps_none (f : Feas B) : (laps B n).last = none := by
  obtain ⟨v, hv⟩ := f
  cases e : (laps B n).last with
  | none => rfl
  | some x =>
    have g := gi_laps hB n
    obtain ⟨h1, h2⟩ := g.lst x e
    have := fits n _ (chn_nodup hv (g.chn x) (g.strict x)) fun z hz => by
      obtain ⟨u, hu, rfl⟩ := List.mem_map.mp hz
      exact g.small x h2 u hu
    rw [List.length_map] at this
    have := g.long x
    omega
omit hB in
/-- nothing came down: all bounds are so -/
theorem lap_still {k : Nat} {s : RB} : ∀ {i : Nat}, (lapTo B k s i).last = none → (lapTo B k s i) = { s with last := none } ∧ ∀ j b, j < i → B[j]? = some b → s.h b.1 ≤ s.h b.2.1 + b.2.2
  | 0, _ => ⟨rfl, fun _ _ h => absurd h (Nat.not_lt_zero _)⟩
  | i + 1, e => by
    have e : (match B[i]? with | none => lapTo B k s i | some b => rbStep k b i (lapTo B k s i)).last = none := e
    show (match B[i]? with | none => lapTo B k s i | some b => rbStep k b i (lapTo B k s i)) = _ ∧ _
    cases hb : B[i]? with
    | none =>
      rw [hb] at e
      obtain ⟨h1, h2⟩ := lap_still (i := i) e
      refine ⟨h1, fun j b hj hjb => h2 j b ?_ hjb⟩
      obtain ⟨h3, _⟩ := List.getElem?_eq_some_iff.mp hjb
      have := List.getElem?_eq_none_iff.mp hb
      omega
    | some b =>
      rw [hb] at e
      have e : (rbStep k b i (lapTo B k s i)).last = none := e
      show rbStep k b i (lapTo B k s i) = _ ∧ _
      unfold rbStep at e ⊢
      by_cases hlt : (lapTo B k s i).h b.2.1 + b.2.2 < (lapTo B k s i).h b.1
      · rw [if_pos hlt] at e; cases e
      · rw [if_neg hlt] at e ⊢
        obtain ⟨h1, h2⟩ := lap_still (i := i) e
        refine ⟨h1, fun j b' hj hjb => ?_⟩
        by_cases ej : j = i
        · subst ej
          rw [hb] at hjb
          cases hjb
          rw [h1] at hlt
          have hlt : ¬ s.h b.2.1 + b.2.2 < s.h b.1 := hlt
          omega
        · exact h2 j b' (by omega) hjb
omit hB in
theorem feas_of_none {k : Nat} (e : (laps B (k + 1)).last = none) : Feas B := by
  obtain ⟨_, h⟩ := lap_still (B := B) (k := k + 1) (s := laps B k) (i := B.length) e
  refine ⟨(laps B k).h, fun b hb => ?_⟩
  obtain ⟨j, hj, e⟩ := List.mem_iff_getElem.mp hb
  have := h j b hj (by rw [List.getElem?_eq_getElem hj, e])
  omega

/-! ### the way back along by -/
def nxt (B : List Bd) (s : RB) (x : Nat) : Nat := match s.by_ x with
  | none => x
  | some j => match B[j]? with
    | none => x
    | some b => b.2.1
def iter (f : Nat → Nat) : Nat → Nat → Nat
  | 0, x => x
  | k + 1, x => f (iter f k x)
omit hB in
theorem iter_add (f : Nat → Nat) (x : Nat) : ∀ (m k : Nat), iter f (k + m) x = iter f k (iter f m x)
  | m, 0 => by rw [Nat.zero_add]; rfl
  | m, k + 1 => by
    rw [show k + 1 + m = (k + m) + 1 by omega]
    show f (iter f (k + m) x) = f (iter f k (iter f m x))
    rw [iter_add f x m k]
/-- a bound's number at which one goes on -/
def HasBy (B : List Bd) (s : RB) (n x : Nat) : Prop := ∃ j b, s.by_ x = some j ∧ B[j]? = some b ∧ b.1 = x ∧ b.2.1 < n ∧ nxt B s x = b.2.1
/-- something came down in lap n: n steps back one is in a ring -/
theorem back {x : Nat} (e : (laps B n).last = some x) :
    (∀ k, HasBy B (laps B n) n (iter (nxt B (laps B n)) k x)) ∧ ∃ d, 1 ≤ d ∧ d ≤ n ∧ iter (nxt B (laps B n)) d (iter (nxt B (laps B n)) n x) = iter (nxt B (laps B n)) n x := by
  have g := gi_laps hB n
  generalize hs : laps B n = s at *
  obtain ⟨h1, hxn⟩ := g.lst x e
  have has : ∀ z, 1 ≤ s.t z → HasBy B s n z ∧ s.t z ≤ s.t (nxt B s z) + 1 := fun z hz => by
    obtain ⟨j, b, q1, q2, q3, q4⟩ := g.by1 z hz
    have q5 : nxt B s z = b.2.1 := by
      unfold nxt
      rw [q1]
      show (match B[j]? with | none => z | some b => b.2.1) = _
      rw [q2]
    exact ⟨⟨j, b, q1, q2, q3, (hB b (List.mem_of_getElem? q2)).2, q5⟩, by rw [q5]; exact q4⟩
  have tt : ∀ k, k ≤ n → n ≤ s.t (iter (nxt B s) k x) + k ∧ iter (nxt B s) k x < n := by
    intro k
    induction k with
    | zero => intro _; exact ⟨by show n ≤ s.t x + 0; omega, hxn⟩
    | succ k ih =>
      intro hk
      obtain ⟨a1, a2⟩ := ih (by omega)
      obtain ⟨⟨j, b, _, _, _, h5, h6⟩, h7⟩ := has (iter (nxt B s) k x) (by omega)
      refine ⟨?_, ?_⟩
      · show n ≤ s.t (nxt B s (iter (nxt B s) k x)) + (k + 1)
        omega
      · show nxt B s (iter (nxt B s) k x) < n
        rw [h6]; exact h5
  obtain ⟨i, j, hij, hjn, heq⟩ := twice (fun k => iter (nxt B s) k x) (n := n) fun k hk => (tt k hk).2
  have heq : iter (nxt B s) i x = iter (nxt B s) j x := heq
  -- from i on it goes round
  have per : ∀ r, iter (nxt B s) (r + i) x = iter (nxt B s) (r + j) x := fun r => by rw [iter_add, iter_add, heq]
  have red : ∀ m, ∃ m', m' < j ∧ iter (nxt B s) m x = iter (nxt B s) m' x := by
    intro m
    induction m using Nat.strongRecOn with
    | _ m ih =>
      by_cases hm : m < j
      · exact ⟨m, hm, rfl⟩
      · obtain ⟨m', h1, h2⟩ := ih (m - j + i) (by omega)
        refine ⟨m', h1, ?_⟩
        rw [← h2, per (m - j)]
        rw [show m - j + j = m by omega]
  refine ⟨fun k => ?_, j - i, by omega, by omega, ?_⟩
  · obtain ⟨m', hm, e'⟩ := red k
    rw [e']
    have := (tt m' (by omega)).1
    exact (has _ (by omega)).1
  · rw [← iter_add]
    have := per (n - i)
    rw [show n - i + i = n by omega] at this
    rw [this]
    rw [show j - i + n = n - i + j by omega]
end
theorem lapTo_len {B : List Bd} {k : Nat} {s : RB} {i : Nat} (h : B.length ≤ i) : lapTo B k s i = lapTo B k s B.length := by
  induction h with
  | refl => rfl
  | step h ih =>
    rename_i m
    show (match B[m]? with | none => lapTo B k s m | some b => rbStep k b m (lapTo B k s m)) = _
    rw [List.getElem?_eq_none (by omega)]
    exact ih
theorem lapTo_step {B : List Bd} {k : Nat} {s : RB} {i : Nat} {b : Bd} (h : B[i]? = some b) : lapTo B k s (i + 1) = rbStep k b i (lapTo B k s i) := by
  show (match B[i]? with | none => lapTo B k s i | some b => rbStep k b i (lapTo B k s i)) = _
  rw [h]

/-! ### going over all bounds until nothing moves -/
def mvStep (b : Bd) (s : (Nat → Int) × Bool) : (Nat → Int) × Bool := if s.1 b.2.1 + b.2.2 < s.1 b.1 then (set1 s.1 b.1 (s.1 b.2.1 + b.2.2), true) else s
def mvTo (B : List Bd) (h : Nat → Int) : Nat → (Nat → Int) × Bool
  | 0 => (h, false)
  | i + 1 => match B[i]? with
    | none => mvTo B h i
    | some b => mvStep b (mvTo B h i)
theorem mvTo_step {B : List Bd} {h : Nat → Int} {i : Nat} {b : Bd} (e : B[i]? = some b) : mvTo B h (i + 1) = mvStep b (mvTo B h i) := by
  show (match B[i]? with | none => mvTo B h i | some b => mvStep b (mvTo B h i)) = _
  rw [e]
/-- the sum of n heights -/
def sumTo (h : Nat → Int) : Nat → Int
  | 0 => 0
  | i + 1 => sumTo h i + h i
theorem sumTo_le {f g : Nat → Int} : ∀ n, (∀ x, x < n → f x ≤ g x) → sumTo f n ≤ sumTo g n
  | 0, _ => Int.le_refl _
  | n + 1, h => by
    have := sumTo_le n fun x hx => h x (by omega)
    have := h n (by omega)
    show sumTo f n + f n ≤ sumTo g n + g n
    omega
theorem sumTo_lt {f g : Nat → Int} : ∀ n, (∀ x, x < n → f x ≤ g x) → (∃ x, x < n ∧ f x < g x) → sumTo f n < sumTo g n
  | 0, _, ⟨x, h, _⟩ => absurd h (Nat.not_lt_zero _)
  | n + 1, h, ⟨x, hx, hl⟩ => by
    have h1 := sumTo_le n fun x hx => h x (by omega)
    have h2 := h n (by omega)
    show sumTo f n + f n < sumTo g n + g n
    by_cases e : x = n
    · subst e; omega
    · have := sumTo_lt n (fun x hx => h x (by omega)) ⟨x, by omega, hl⟩
      omega
/-- heights above values: they stay above, and fall where something moves -/
structure Ab (n : Nat) (v h : Nat → Int) (m : Int) : Prop where
  ab : ∀ x, x < n → v x + m ≤ h x
theorem mvTo_ok {n : Nat} {B : List Bd} {v h : Nat → Int} {m : Int} (hB : ∀ b ∈ B, b.1 < n ∧ b.2.1 < n) (hv : Vals B v) (a : Ab n v h m) : ∀ i, Ab n v (mvTo B h i).1 m ∧ (∀ x, x < n → (mvTo B h i).1 x ≤ h x) ∧ ((mvTo B h i).2 = true → ∃ x, x < n ∧ (mvTo B h i).1 x < h x) ∧
    ((mvTo B h i).2 = false → (mvTo B h i).1 = h ∧ ∀ j b, j < i → B[j]? = some b → h b.1 ≤ h b.2.1 + b.2.2)
  | 0 => ⟨a, fun _ _ => Int.le_refl _, fun e => (by cases e), fun _ => ⟨rfl, fun _ _ h => absurd h (Nat.not_lt_zero _)⟩⟩
  | i + 1 => by
    obtain ⟨h1, h2, h3, h4⟩ := mvTo_ok hB hv a i
    cases e : B[i]? with
    | none =>
      have q : mvTo B h (i + 1) = mvTo B h i := by
        show (match B[i]? with | none => mvTo B h i | some b => mvStep b (mvTo B h i)) = _
        rw [e]
      rw [q]
      refine ⟨h1, h2, h3, fun z => ⟨(h4 z).1, fun j b hj hb => (h4 z).2 j b ?_ hb⟩⟩
      obtain ⟨p, _⟩ := List.getElem?_eq_some_iff.mp hb
      have := List.getElem?_eq_none_iff.mp e
      omega
    | some b =>
      rw [mvTo_step e]
      obtain ⟨x, y, c⟩ := b
      have hm : (x, y, c) ∈ B := List.mem_of_getElem? e
      obtain ⟨hx, hy⟩ : x < n ∧ y < n := hB _ hm
      have hvb : v x - v y ≤ c := hv _ hm
      generalize mvTo B h i = s at *
      unfold mvStep
      by_cases hlt : s.1 y + c < s.1 x
      · rw [if_pos (show s.1 (x, y, c).2.1 + (x, y, c).2.2 < s.1 (x, y, c).1 from hlt)]
        refine ⟨⟨fun z hz => ?_⟩, fun z hz => ?_, fun _ => ⟨x, hx, ?_⟩, fun z => (by cases z)⟩
        · show v z + m ≤ set1 s.1 x (s.1 y + c) z
          by_cases ez : z = x
          · subst ez
            rw [set1_same]
            have := h1.ab y hy
            omega
          · rw [set1_ne ez]; exact h1.ab z hz
        · show set1 s.1 x (s.1 y + c) z ≤ h z
          by_cases ez : z = x
          · subst ez
            rw [set1_same]
            have := h2 z hz
            omega
          · rw [set1_ne ez]; exact h2 z hz
        · show set1 s.1 x (s.1 y + c) x < h x
          rw [set1_same]
          have := h2 x hx
          omega
      · rw [if_neg (show ¬ s.1 (x, y, c).2.1 + (x, y, c).2.2 < s.1 (x, y, c).1 from hlt)]
        refine ⟨h1, h2, h3, fun z => ?_⟩
        obtain ⟨q1, q2⟩ := h4 z
        refine ⟨q1, fun j b hj hb => ?_⟩
        by_cases ej : j = i
        · subst ej
          rw [e] at hb
          cases hb
          rw [q1] at hlt
          show h x ≤ h y + c
          omega
        · exact q2 j b (by omega) hb
/-- nought lies above values, shifted -/
theorem shift (v : Nat → Int) : ∀ n : Nat, ∃ m : Int, ∀ x, x < n → v x + m ≤ 0
  | 0 => ⟨0, fun _ h => absurd h (Nat.not_lt_zero _)⟩
  | n + 1 => by
    obtain ⟨m, h⟩ := shift v n
    refine ⟨if m ≤ -v n then m else -v n, fun x hx => ?_⟩
    by_cases e : x = n
    · subst e; split <;> omega
    · have := h x (by omega)
      split <;> omega
end PD

namespace L2.PL
open PySem PySem.Spec PyProof.Rows
/-! ### rows told by a function -/
def rowG (n : Nat) (g : Nat → V) : List V := (List.range n).map g
theorem rowG_len (n : Nat) (g : Nat → V) : (rowG n g).length = n := by simp [rowG]
theorem rowG_get {n : Nat} {g : Nat → V} {j : Nat} (h : j < n) : (rowG n g)[j]? = some (g j) := by
  unfold rowG
  rw [List.getElem?_map, List.getElem?_range h]
  rfl
theorem rowG_at {n : Nat} {g : Nat → V} {j : Nat} (h : j < n) : atI (rowG n g) (j : Int) = some (g j) := atI_nat (rowG_get h)
theorem rowG_ix {n : Nat} {g : Nat → V} {j : Nat} (h : j < n) : ixN (rowG n g).length (j : Int) = some j := by
  unfold ixN
  rw [if_pos (by omega), if_pos (by rw [rowG_len]; omega)]
  simp
theorem rowG_set {n : Nat} {g : Nat → V} {y : Nat} {v : V} (h : y < n) : (rowG n g).set y v = rowG n (PD.set1 g y v) := by
  apply List.ext_getElem?
  intro j
  by_cases hj : j < n
  · by_cases e : j = y
    · subst e
      rw [List.getElem?_set_self (by rw [rowG_len]; exact h), rowG_get h, PD.set1_same]
    · rw [List.getElem?_set_ne (Ne.symm e), rowG_get hj, rowG_get hj, PD.set1_ne e]
  · rw [List.getElem?_eq_none (by rw [List.length_set, rowG_len]; omega), List.getElem?_eq_none (by rw [rowG_len]; omega)]
theorem rowG_const (n : Nat) (v : V) : (List.replicate n [v]).flatten = rowG n fun _ => v := by
  induction n with
  | zero => rfl
  | succ n ih =>
    rw [List.replicate_succ', List.flatten_append, ih]
    unfold rowG
    rw [List.range_succ, List.map_append]
    rfl
theorem set1_comp {α : Type} (f : Nat → α) (g : α → V) (x : Nat) (a : α) : PD.set1 (fun z => g (f z)) x (g a) = fun z => g (PD.set1 f x a z) := by
  funext z
  unfold PD.set1
  split <;> rfl
/-! ### lists of data -/
theorem canLay_ints : ∀ ns : List Int, PyData.canLayAll0 (ns.map PyData.int) = true
  | [] => rfl
  | n :: ns => by
    show (PyData.canLay0 (.int n) && PyData.canLayAll0 (ns.map PyData.int)) = true
    rw [canLay_ints ns]; rfl
theorem depth_ints : ∀ ns : List Int, PyData.depthAll (ns.map PyData.int) = 0
  | [] => rfl
  | n :: ns => by
    show max 0 (PyData.depthAll (ns.map PyData.int)) = 0
    rw [depth_ints ns]; rfl
theorem shaped_ints (ns : List Int) : SeqAt.shaped (.list (ns.map PyData.int)) = true := by
  unfold SeqAt.shaped
  rw [show (PyData.list (ns.map PyData.int)).canLay0 = PyData.canLayAll0 (ns.map PyData.int) from rfl, canLay_ints,
    show (PyData.list (ns.map PyData.int)).depth = PyData.depthAll (ns.map PyData.int) + 1 from rfl, depth_ints]
  rfl
theorem eqv_nil (ns : List Int) : PyData.eqv (.list (ns.map PyData.int)) (.list []) = ns.isEmpty := by
  cases ns with
  | nil => simp [PyData.eqv, PyData.eqvAll]
  | cons a r => simp [PyData.eqv, PyData.eqvAll]
theorem shaped_nil : SeqAt.shaped (.list []) = true := shaped_ints []
end L2.PL

namespace L2.PL
open PySem PySem.Spec PyProof.Rows
/-! ### instances with slots -/
section
variable {X : Cx} {K : PySem.W.Frag}
theorem pe_slK {e : Expr} {ta : TE} {f : Str} {pos : Pos} (he : PE X e ta) (h : X.K = K := by rfl) (hb : attributeBase e f X.env (eval e X.env) = eval e X.env := by rfl) : PE X (.Attribute e f pos) (SlX.tSl K ta f) := by
  subst h; exact SlX.pe_sl he hb
/-- o.f as a target -/
def gSl (K : PySem.W.Frag) (ta : TE) (f : Str) : TG := fun v σ H Q => ta σ H fun x H1 => ∃ a C dx p vs i, x = .ref a ∧ SlX.Slt H1 a C dx vs ∧ SlX.SCls K C ∧ SlX.Slot1 K C f p i ∧ Q σ (SlX.slH H1 a C dx (SlX.putS i v vs))
theorem pg_sl {o : Expr} {f : Str} {pos : Pos} {ta : TE} (ha : PE X o ta) : PG X (.Attribute o f pos) (gSl X.K ta f) := by
  refine ⟨fun pins s σ H v u Q I r h => ?_⟩
  rw [assign_Attribute]
  refine wpAny_bind (wpAny_holding (thn (ha.run pins s σ H _ I h) fun ov s1 ⟨x, H1, I1, r1, a, C, dx, p, vs, i, ex, hs, c, t, q⟩ => ?_))
  subst ex
  obtain rfl : ov = Value.ref a := r1
  refine wpAny_bind (wpAny_standAt (wpAny_bind (wpAny_holding (SlX.setslot_ok I1 hs c t r fun s2 I2 => ?_))))
  exact wpAny_release ⟨σ, _, I2, q⟩
theorem pe_methS {CX : CXT} {k j : Nat} {C g : Addr} {fd : FuncData} {ps : List Str} {sp : Sp} {E : XK} {pl : Sem Bool} {o e : Expr} {es : List Expr} {m : Str} {ta : TE} {t : TA} {pos apos : Pos} (he : PE X o ta) (c : SlX.SCls X.K C) (hm : Meth X.K C m g)
    (F : FnOk X.prog X.w X.K X.mg X.base CX k g fd ps sp) (hr : Room j X.A) (hb : Binds X.K fd ps []) (hx : Passes CX X E) (ha : PA X (e :: es) t) (hk : k ≤ j := by decide)
    (hst : starEach (e :: es) X.env = (false, eval e X.env) :: starEach es X.env := by rfl) (hpl : (backTo pos (starEach es X.env)).any (·.1) = false := by rfl)
    (ht : eval (.Call (.Attribute o m apos) (e :: es) [] pos) X.env = (do
      let ov ← eval o X.env
      standAt apos.atName
      let (f, first) ← holding [ov] (getMethod ov m pl)
      callWith pos f first (backTo pos (starEach (e :: es) X.env)) (backToKw pos (keywordEach [] X.env))) := by rfl) :
    PE X (.Call (.Attribute o m apos) (e :: es) [] pos) (SlX.tMethSl C sp E ta t) := by
  refine ⟨fun pins s σ H Q I h => ?_⟩
  refine PySem.W.methodCall_KW (pl := pl) (thn (he.run pins s σ H _ I h) fun u s1 ⟨x, H1, I1, rx, a, dx, vs, ex, hsl, q⟩ => ?_) ht
  subst ex
  obtain rfl : u = Value.ref a := rx
  refine SlX.getmethsl_ok I1 hsl c hm ?_
  refine PySem.W.callWith_K (first := [.ref a]) (h₀ := X.base) I.ok.mod.kin hm.kp (thn (ha.run pos pins s1 σ H1 _ I1 q) fun us s2 ⟨vs, H2, I2, r, q2⟩ => ⟨I2.kIn, ?_⟩) hst hpl
  refine run_fn (us := .ref a :: us) (vs := .ref a :: vs) F (hr.mono hk) hb .nil hx I2 (.cons rfl r) ?_
  rw [List.append_nil]
  exact q2
end
theorem Slt.same {H H' : Hp} {a C dx : Addr} {vs : List (Option V)} (s : Same H H') (h : SlX.Slt H a C dx vs) : SlX.Slt H' a C dx vs := by
  rcases h with ⟨h1, h2⟩ | ⟨h1, h2⟩
  · exact .inl ⟨s _ _ h1, h2⟩
  · exact .inr ⟨s _ _ h1, s _ _ h2⟩
/-- a store into an instance that is new -/
theorem Old.slot {W : List Addr} {H H' : Hp} {a C dx : Addr} {vs : List (Option V)} (o : Old W H H') (h1 : H a = none) (h2 : H dx = none) : Old W H (SlX.slH H' a C dx vs) := (o.put0 h2).put0 h1
/-! ### dicts with pairs of numbers as keys -/
def k2 (x y : Nat) : List Key := [.inl (x : Int), .inl (y : Int)]
theorem k2_inj {x y a b : Nat} (h : k2 x y = k2 a b) : x = a ∧ y = b := by
  unfold k2 at h
  simp only [List.cons.injEq, Sum.inl.injEq, and_true] at h
  omega
structure KvIs (n : Nat) (kvs : List (List Key × V)) (S : Nat → Nat → Option V) : Prop where
  val : ∀ x y, valV kvs (k2 x y) = S x y
  nd : (kvs.map (·.1)).Nodup
  key : ∀ k ∈ kvs.map (·.1), ∃ x y, x < n ∧ y < n ∧ k = k2 x y
theorem KvIs.nil (n : Nat) : KvIs n [] fun _ _ => none := ⟨fun _ _ => rfl, List.nodup_nil, fun k h => by simp at h⟩
theorem keys_putK {κ : Type} [DecidableEq κ] {kvs : List (κ × V)} {k : κ} {v : V} : (putK kvs k v).map (·.1) = if (kvs.any fun kv => decide (kv.1 = k)) = true then kvs.map (·.1) else kvs.map (·.1) ++ [k] := by
  unfold putK
  split
  · rw [List.map_map]
    apply List.map_congr_left
    intro p _
    show (if p.1 = k then (p.1, v) else p).1 = p.1
    split <;> rfl
  · rw [List.map_append]; rfl
theorem KvIs.put {n : Nat} {kvs : List (List Key × V)} {S : Nat → Nat → Option V} (h : KvIs n kvs S) {x y : Nat} (hx : x < n) (hy : y < n) (v : V) : KvIs n (putK kvs (k2 x y) v) fun a b => if a = x ∧ b = y then some v else S a b := by
  refine ⟨fun a b => ?_, ?_, ?_⟩
  · rw [valV_put, h.val]
    by_cases e : a = x ∧ b = y
    · obtain ⟨rfl, rfl⟩ := e
      rw [if_pos rfl, if_pos ⟨rfl, rfl⟩]
    · rw [if_neg (fun z => e (k2_inj z)), if_neg e]
  · rw [keys_putK]
    split
    · exact h.nd
    · rename_i hn
      rw [List.nodup_append]
      refine ⟨h.nd, by simp, fun a ha b hb => ?_⟩
      have eb : b = k2 x y := by simpa using hb
      subst eb
      intro e
      subst e
      apply hn
      obtain ⟨p, hp, e⟩ := List.mem_map.mp ha
      exact List.any_eq_true.mpr ⟨p, hp, decide_eq_true e⟩
  · rw [keys_putK]
    intro k hk
    split at hk
    · exact h.key k hk
    · rcases List.mem_append.mp hk with hk | hk
      · exact h.key k hk
      · have : k = k2 x y := by simpa using hk
        exact ⟨x, y, hx, hy, this⟩
theorem inj_len {α : Type} (m : Nat) (f : α → Nat) : ∀ (l : List α), l.Nodup → (∀ a ∈ l, f a < m) → (∀ a ∈ l, ∀ b ∈ l, f a = f b → a = b) → l.length ≤ m := fun l nd hf inj => by
  have := PD.fits m (l.map f) (by
    rw [List.Nodup, List.pairwise_map]
    exact List.Pairwise.imp_of_mem (fun ha hb hne e => hne (inj _ ha _ hb e)) nd) (fun x hx => by
      obtain ⟨a, ha, rfl⟩ := List.mem_map.mp hx
      exact hf a ha)
  rw [List.length_map] at this
  exact this
theorem KvIs.len {n : Nat} {kvs : List (List Key × V)} {S : Nat → Nat → Option V} (h : KvIs n kvs S) : kvs.length ≤ n * n := by
  have := inj_len (n * n) (fun k : List Key => match k with | [.inl x, .inl y] => x.toNat * n + y.toNat | _ => 0) (kvs.map (·.1)) h.nd (fun k hk => by
    obtain ⟨x, y, hx, hy, rfl⟩ := h.key k hk
    show ((x : Int)).toNat * n + ((y : Int)).toNat < n * n
    rw [Int.toNat_natCast, Int.toNat_natCast]
    have : (x + 1) * n ≤ n * n := Nat.mul_le_mul_right n hx
    rw [Nat.succ_mul] at this
    omega) (fun k hk k' hk' e => by
    obtain ⟨x, y, hx, hy, rfl⟩ := h.key k hk
    obtain ⟨a, b, ha, hb, rfl⟩ := h.key k' hk'
    have e : ((x : Int)).toNat * n + ((y : Int)).toNat = ((a : Int)).toNat * n + ((b : Int)).toNat := e
    rw [Int.toNat_natCast, Int.toNat_natCast, Int.toNat_natCast, Int.toNat_natCast] at e
    have h1 : (x * n + y) / n = x := by rw [Nat.mul_comm, Nat.mul_add_div (by omega), Nat.div_eq_of_lt hy, Nat.add_zero]
    have h2 : (a * n + b) / n = a := by rw [Nat.mul_comm, Nat.mul_add_div (by omega), Nat.div_eq_of_lt hb, Nat.add_zero]
    have e1 : x = a := by rw [← h1, ← h2, e]
    subst e1
    have e2 : y = b := by omega
    rw [e2])
  rw [List.length_map] at this
  exact this
end L2.PL

namespace L2.PL
open PySem PySem.Spec PyProof.Rows
/-! ### methods, classes and keyword calls as one fact -/
structure MtC (P : Program) (w : World) (K : PySem.W.Frag) (mg : Str → Option Value) (base : Heap) (CX : CXT) (C : Addr) (m : Str) (ps : List Str) (k : Nat) (sp : Sp) : Prop where
  ex : ∃ (g : Addr) (fd : FuncData), Meth K C m g ∧ Binds K fd ps [] ∧ FnOk P w K mg base CX k g fd ps sp
structure MkC (P : Program) (w : World) (K : PySem.W.Frag) (mg : Str → Option Value) (base : Heap) (CX : CXT) (x : Str) (C : Addr) (ps : List Str) (k : Nat) (sp : Sp) : Prop where
  ex : ∃ (g : Addr) (fd : FuncData), mg x = some (.ref C) ∧ Mk K C g ∧ Binds K fd ps [] ∧ FnOk P w K mg base CX k g fd ps sp
structure CalK (P : Program) (w : World) (K : PySem.W.Frag) (mg : Str → Option Value) (base : Heap) (CX : CXT) (x : Str) (ps : List Str) (k : Nat) (sp : Sp) : Prop where
  ex : ∃ (f : Addr) (fd : FuncData), mg x = some (.ref f) ∧ PySem.W.keepIn K (.ref f) = true ∧ KBinds K fd ps ps (fun us ws => us ++ ws) (fun us ws => us ++ ws) ∧ FnOk P w K mg base CX k f fd ps sp
section
variable {X : Cx} {CX : CXT} {j k : Nat} {C : Addr} {ps : List Str} {sp : Sp} {E : XK} {pl : Sem Bool} {o e : Expr} {es : List Expr} {kws : List Keyword} {x m : Str} {ta : TE} {t tk : TA} {p pos apos : Pos}
theorem pe_metC (M : MtC X.prog X.w X.K X.mg X.base CX C m ps k sp) (he : PE X o ta) (c : SlX.SCls X.K C) (hr : Room j X.A) (hx : Passes CX X E) (ha : PA X (e :: es) t) (hk : k ≤ j := by decide)
    (hst : starEach (e :: es) X.env = (false, eval e X.env) :: starEach es X.env := by rfl) (hpl : (backTo pos (starEach es X.env)).any (·.1) = false := by rfl)
    (ht : eval (.Call (.Attribute o m apos) (e :: es) [] pos) X.env = (do
      let ov ← eval o X.env
      standAt apos.atName
      let (f, first) ← holding [ov] (getMethod ov m pl)
      callWith pos f first (backTo pos (starEach (e :: es) X.env)) (backToKw pos (keywordEach [] X.env))) := by rfl) :
    PE X (.Call (.Attribute o m apos) (e :: es) [] pos) (SlX.tMethSl C sp E ta t) := by
  obtain ⟨g, fd, hm, hb, F⟩ := M.ex
  exact pe_methS he c hm F hr hb hx ha hk hst hpl ht
theorem pe_makC (M : MkC X.prog X.w X.K X.mg X.base CX x C ps k sp) (hr : Room j X.A) (hg : Gl X x) (hx : Passes CX X E) (ha : PA X (e :: es) t) (hk : k + 1 ≤ j := by decide)
    (hdb : (x == ("__debug__" : Str)) = false := by decide) (he : starEach (e :: es) X.env = (false, eval e X.env) :: starEach es X.env := by rfl) (hpl : (backTo pos (starEach es X.env)).any (·.1) = false := by rfl) :
    PE X (.Call (.Name x p) (e :: es) [] pos) (tMake C sp [] E t) := by
  obtain ⟨g, fd, hm, mk, hb, F⟩ := M.ex
  exact pe_make mk F (hr.mono hk) hg hm hb .nil hx ha hdb he hpl
theorem pe_calK (M : CalK X.prog X.w X.K X.mg X.base CX x ps k sp) (hr : Room j X.A) (hg : Gl X x) (hx : Passes CX X E) (hkw : PK X kws tk) (hk : k ≤ j := by decide)
    (hall : (backToKw pos (keywordEach kws X.env)).all (·.1.isSome) = true := by rfl) (hks : (backToKw pos (keywordEach kws X.env)).filterMap (·.1) = ps := by rfl)
    (hdb : (x == ("__debug__" : Str)) = false := by decide)
    (hpl : ((backTo pos (starEach [] X.env)).any (·.1) || (backToKw pos (keywordEach kws X.env)).any (·.1.isNone)) = false := by rfl) :
    PE X (.Call (.Name x p) [] kws pos) (L2.tCallK sp (fun us ws => us ++ ws) E tNil tk) := by
  obtain ⟨f, fd, hm, kp, hb, F⟩ := M.ex
  exact pe_callK0 F (hr.mono hk) hg hm kp hb hx hkw hall hks hdb hpl
end
/-- how a keyword alone binds -/
theorem kbinds1 {K : PySem.W.Frag} {x qual p : Str} {st : Stmt} {f : Addr} {fd : FuncData} (F : Fun K x qual st f fd)
    (h1 : ∀ (kV doc pm : Value) (an : Option Addr) (cdv ct u : Value), bindArgs (PySem.W.fnOf x qual (defArgs st) (defBody st) (defScope st) .none kV doc pm an cdv ct) ⟨[u], []⟩ = pure [(p, u)])
    (h2 : ∀ (kV doc pm : Value) (an : Option Addr) (cdv ct u : Value), bindArgs (PySem.W.fnOf x qual (defArgs st) (defBody st) (defScope st) .none kV doc pm an cdv ct) ⟨[], [(p, u)]⟩ = pure [(p, u)]) :
    KBinds K fd [p] [p] (fun us ws => us ++ ws) (fun us ws => us ++ ws) := by
  obtain ⟨oc, od, kV, doc, pm, an, cdv, ct, osl, rfl, lk, hcd⟩ := F.ex
  refine ⟨fun s us ws _ hl => ?_, fun r z => r.append z⟩
  match us, ws, hl with
  | [u], [], _ => exact .of_eq (h1 ..)
  | [], [u], _ => exact .of_eq (h2 ..)
  | [_], _ :: _, hl => simp at hl
  | [], [], hl => simp at hl
  | [], _ :: _ :: _, hl => simp at hl
  | _ :: _ :: _, _, hl => simp at hl
end L2.PL

namespace L2.PL
open PySem PySem.Spec PyProof.Rows
/-! ### zip of a text (of signs below 128) and a list -/
def ItzS (K : PySem.W.Frag) (x : Str) (b : Addr) : It :=
  ⟨fun i H => ∃ (c : Nat) (ys : List V) (y : V), x.cps[i]? = some c ∧ SqL K H b ys ∧ ys[i]? = some y,
    fun i H v H' => ∃ T c y, v = .ref T ∧ H T = none ∧ H' = upd H T (.tup [.str ⟨#[c]⟩, y]) ∧ x.cps[i]? = some c ∧ ∀ ys, SqL K H b ys → ys[i]? = some y,
    fun i H => ∃ ys : List V, SqL K H b ys ∧ i ≤ x.cps.size ∧ i ≤ ys.length ∧ (i = x.cps.size ∨ i = ys.length)⟩
/-- where the parts of such a zip stand, made at n -/
theorem zipSep {n b : Addr} (h : b < n) : ZipSep2 (n + 4) (n + 2) (n + 3) n (n + 1) [n] [n + 1, b] := by
  have h : (b : Nat) < n := h
  refine ⟨?_, ?_, ?_, ?_, by simp, ?_, ?_, ?_, by simp, ?_, ?_, ?_, ?_⟩ <;> simp <;> (try constructor) <;> (first | exact Nat.ne_of_lt (by omega) | exact Nat.ne_of_gt (by omega) | exact Nat.ne_of_gt (Nat.lt_add_right 4 h) | exact Nat.ne_of_gt (Nat.lt_add_right 3 h))
theorem turn_zipS {P : Program} {w : World} {K : PySem.W.Frag} {elts : List Expr} {kk : Nat} {tpos : Pos} {z TI TO i1 i2 b : Addr} {x : Str} {t : Tok} (D : ZipSep2 z TI TO i1 i2 [i1] [i2, b]) (hb : b ≠ i2) :
    Turn P w K (.Tuple elts kk tpos) (ItzS K x b) [z, TI, TO, i1, i2] z (fun i h => IsZip h z TI TO .none ∧ IsTupOf2 h TI (.ref i1) (.ref i2) ∧ (∃ x y, IsTupOf2 h TO x y) ∧ h.IsStrIter i1 "str_ascii_iterator" x t i ∧ h.IsListIter i2 b i) where
  mem := by simp
  obj := fun i h st c hc => by
    obtain ⟨hz, hTI, ⟨x, y, hTO⟩, ⟨o1, e1, _, d1⟩, ⟨o2, e2, _, d2⟩⟩ := st
    simp only [List.mem_cons, List.not_mem_nil, or_false] at hc
    rcases hc with rfl | rfl | rfl | rfl | rfl
    · exact ⟨_, hz, fun v q => nomatch q⟩
    · exact ⟨_, hTI, fun v q => nomatch q⟩
    · exact ⟨_, hTO, fun v q => nomatch q⟩
    · exact ⟨o1, e1, fun v q => by rw [d1] at q; cases q⟩
    · exact ⟨o2, e2, fun v q => by rw [d2] at q; cases q⟩
  keep := fun i h h' st k => by
    obtain ⟨hz, hTI, ⟨x, y, hTO⟩, ⟨o1, e1, r1⟩, h2⟩ := st
    exact ⟨k z (by simp) _ hz, k TI (by simp) _ hTI, ⟨x, y, k TO (by simp) _ hTO⟩, ⟨o1, k i1 (by simp) o1 e1, r1⟩, h2.at fun o q => k i2 (by simp) o q⟩
  item := by
    intro X hP hw hK hc i pins s σ H E I hf st hg
    subst hP hw hK
    obtain ⟨hz, hTI, ⟨x0, y0, hTO⟩, h1, h2⟩ := st
    obtain ⟨c, ys, y, hx, hq, hy⟩ := hg
    obtain ⟨its, rv, p, _⟩ := I.list hq
    obtain ⟨u, hu, ru⟩ := rv.get hy
    have l := rv.length
    have lt1 : i < x.cps.size := (Array.getElem?_eq_some_iff.mp hx).1
    have lt2 : i < its.toArray.size := by have := (List.getElem?_eq_some_iff.mp hy).1; simp; omega
    have D1 := Draws.strAscii (prog := X.prog) (w := X.w) (A := X.A.in1) (I.ok.hd hc) i1 x t
    have D2 := Draws.list (prog := X.prog) (w := X.w) (A := X.A.in1) (I.ok.hd hc) i2 b hb its.toArray
    have hzl : z < s.heap.objs.size := Heap.lt_size hz
    refine wpAny_pyNext_zipD2_item D D1 D2 hz hTI hTO h1 ⟨h2, p.isList⟩ lt1 lt2 fun x1 x2 h' tk q1 q2 z' TO' h1' h2' hT hsz hk => ?_
    obtain ⟨c', tc, hc', rfl⟩ := q1
    rw [hx] at hc'
    cases hc'
    have e2 : x2 = u := by
      have : its[i]? = some x2 := by simpa using q2
      rw [hu] at this
      exact (Option.some.inj this).symm
    subst e2
    refine ⟨_, rfl, wpAny_letOwnedTupleGo_zip (s := { s with heap := h', toks := tk }) z' fun h'' z'' sb => ?_⟩
    have hT2 : h''.get? s.heap.objs.size = some { cls := .type "tuple", data := .seq #[.str ⟨#[c]⟩ tc, x2] } := (sb.2 _ (Nat.ne_of_gt hzl)).trans hT
    have new : ObjOk X.prog X.w (upd H s.heap.objs.size (.tup [.str ⟨#[c]⟩, y])) h'' s.heap.objs.size (.tup [.str ⟨#[c]⟩, y]) :=
      ⟨by show 2 ≤ sizeLine; decide, [.str ⟨#[c]⟩ tc, x2], .cons ⟨tc, rfl⟩ (.cons ru .nil), ⟨_, hT2, rfl, _, rfl⟩⟩
    have I1 : Inv X pins σ (upd H s.heap.objs.size (.tup [.str ⟨#[c]⟩, y])) { s with heap := h'', toks := tk } :=
      I.turnedNew (t' := tk) (ch := [z, TI, TO, i1, i2]) (fun d o n q => by
        simp only [List.mem_cons, List.not_mem_nil, or_false, not_or] at n
        exact (sb.2 d n.1).trans (hk d o n.1 n.2.2.1 n.2.2.2.1 n.2.2.2.2 q)) hf (Nat.le_refl _) new
    refine ⟨.ref s.heap.objs.size, _, I1, rfl, ⟨_, c, y, rfl, I.hok.fresh (Nat.le_refl _), rfl, hx, fun l hl => by rw [I.list_inj hl hq]; exact hy⟩, ⟨z'', ?_, ⟨.str ⟨#[c]⟩ tc, x2, ?_⟩, ?_, ?_⟩, fun d hd => ?_⟩
    · exact (sb.2 _ D.TIz).trans (hk _ _ D.TIz D.TITO D.TIi1 D.TIi2 hTI)
    · exact (sb.2 _ D.TOz).trans TO'
    · obtain ⟨o1, e1, r1⟩ := h1'
      exact ⟨o1, (sb.2 _ D.zi1.symm).trans e1, r1⟩
    · exact h2'.1.at fun o q => (sb.2 _ D.zi2.symm).trans q
    · have hlt : d < s.heap.objs.size := by
        simp only [List.mem_cons, List.not_mem_nil, or_false] at hd
        rcases hd with rfl | rfl | rfl | rfl | rfl
        · exact hzl
        · exact Heap.lt_size hTI
        · exact Heap.lt_size hTO
        · obtain ⟨_, e1, _⟩ := h1; exact Heap.lt_size e1
        · obtain ⟨_, e2, _⟩ := h2; exact Heap.lt_size e2
      rw [upd_ne (Nat.ne_of_lt hlt)]
      exact (hf d hd).1
  done := by
    intro X hP hw hK hc i pins s σ H E I hf st hg
    subst hP hw hK
    obtain ⟨hz, hTI, ⟨x0, y0, hTO⟩, h1, h2⟩ := st
    obtain ⟨ys, hq, le1, le2, hend⟩ := hg
    obtain ⟨its, rv, p, _⟩ := I.list hq
    have l := rv.length
    have D1 := Draws.strAscii (prog := X.prog) (w := X.w) (A := X.A.in1) (I.ok.hd hc) i1 x t
    have D2 := Draws.list (prog := X.prog) (w := X.w) (A := X.A.in1) (I.ok.hd hc) i2 b hb its.toArray
    have hsz : its.toArray.size = ys.length := by simp [l]
    refine wpAny_pyNext_zipD2_end D D1 D2 hz hTI hTO h1 ⟨h2, p.isList⟩ le1 (by omega) (by omega) fun h' tk hk => ⟨rfl, I.turnedL (t' := tk) (ch := [z, TI, TO, i1, i2]) (fun d o n q => ?_) hf⟩
    simp only [List.mem_cons, List.not_mem_nil, or_false, not_or] at n
    exact hk d o n.1 n.2.2.1 n.2.2.2.1 n.2.2.2.2 q
  self := fun A i s Q E st h => wpAny_pyIter_zip st.1 h
abbrev zsA (h : Heap) (x : Str) (t : Tok) : Heap := h.push { cls := .type "str_ascii_iterator", data := .fields #[.str x t, .int 0 0] }
abbrev zsB (h : Heap) (x : Str) (t : Tok) (b : Addr) : Heap := (zsA h x t).push { cls := .type "list_iterator", data := .fields #[.ref b, .int 0 0] }
abbrev zsC (h : Heap) (x : Str) (t : Tok) (b : Addr) : Heap := (zsB h x t b).push { cls := .type "tuple", data := .seq #[.ref h.objs.size, .ref (zsA h x t).objs.size] }
abbrev zsD (h : Heap) (x : Str) (t : Tok) (b : Addr) : Heap := (zsC h x t b).push { cls := .type "tuple", data := .seq #[.none, .none] }
abbrev zsE (h : Heap) (x : Str) (t : Tok) (b : Addr) : Heap := (zsD h x t b).push { cls := .type "zip", data := .fields #[.none, .bool false, .bool false, .ref (zsB h x t b).objs.size, .ref (zsC h x t b).objs.size] }
theorem meets_zipS (x : Str) (t : Tok) (b : Addr) (ys : Array Value) (ha : x.cps.all (· < 128) = true) :
    Meets (Builtin.«zip.__new__» ⟨[.type "zip", .str x t, .ref b], []⟩) (fun _ R s => s.heap.IsList b ys ∧ R (.ok (.ret (.ref (zsD s.heap x t b).objs.size))) { s with heap := zsE s.heap x t b }) :=
  .of_wp fun prog w A R s h => by
    obtain ⟨hp, g, d, tk, os⟩ := s
    obtain ⟨hl, h⟩ := h
    have hsub := sub_zip
    have hL : Heap.IsList (Shared.heap ⟨zsA hp x t, g, d, tk, os⟩) b ys := Heap.IsList.push hl _
    have hI : ∀ {A : Around} {E : Value → Shared → Prop} {Q : Value → Shared → Prop}, Q (.ref hp.objs.size) ⟨zsA hp x t, g, d, tk, os⟩ → wpAny (model prog w) A (pyIter (.str x t)) Q E ⟨hp, g, d, tk, os⟩ := fun q => wpAny_pyIter_ascii ha q
    wp_walk using hI, wpAny_pyIter_list hL
    exact ⟨_, rfl, h⟩
theorem call_zipS {prog : Program} {w : World} {A : Around} {E : Value → Shared → Prop} {s : Shared} {x : Str} {t : Tok} {b : Addr} {ys : Array Value} {Q : Value → Shared → Prop} (ha : x.cps.all (· < 128) = true) (hl : s.heap.IsList b ys)
    (h : ∀ h', IsZip h' (s.heap.objs.size + 4) (s.heap.objs.size + 2) (s.heap.objs.size + 3) .none → IsTupOf2 h' (s.heap.objs.size + 2) (.ref s.heap.objs.size) (.ref (s.heap.objs.size + 1)) → IsTupOf2 h' (s.heap.objs.size + 3) .none .none →
      h'.IsStrIter s.heap.objs.size "str_ascii_iterator" x t 0 → h'.IsListIter (s.heap.objs.size + 1) b 0 → (∀ c o, s.heap.get? c = some o → h'.get? c = some o) → Q (.ref (s.heap.objs.size + 4)) { s with heap := h' }) :
    wpAny (model prog w) A (call (.type "zip") [.str x t, .ref b]) Q E s := by
  refine callType_new PySem.F.called_zip (by decide) (PySem.F.typeCall_zip_2 _ _) (PySem.F.newCall_zip_2 _ _) (fun obj => PySem.F.args_object_init_3 obj _ _) PySem.F.entry_zip_new (meets_zipS x t b ys ha) ⟨hl, ?_⟩
  have zA : (zsA s.heap x t).objs.size = s.heap.objs.size + 1 := Heap.size_push ..
  have zB : (zsB s.heap x t b).objs.size = s.heap.objs.size + 2 := by rw [Heap.size_push, zA]
  have zC : (zsC s.heap x t b).objs.size = s.heap.objs.size + 3 := by rw [Heap.size_push, zB]
  have zD : (zsD s.heap x t b).objs.size = s.heap.objs.size + 4 := by rw [Heap.size_push, zC]
  have up : ∀ {c : Addr} {o : Obj}, (zsA s.heap x t).get? c = some o → (zsE s.heap x t b).get? c = some o := fun e => Heap.get?_push_of_some _ (Heap.get?_push_of_some _ (Heap.get?_push_of_some _ (Heap.get?_push_of_some _ e)))
  have gE : (zsE s.heap x t b).get? (zsD s.heap x t b).objs.size = some _ := Heap.get?_push_size _ rfl
  have gD : (zsE s.heap x t b).get? (zsC s.heap x t b).objs.size = some _ := Heap.get?_push_of_some _ (Heap.get?_push_size _ rfl)
  have gC : (zsE s.heap x t b).get? (zsB s.heap x t b).objs.size = some _ := Heap.get?_push_of_some _ (Heap.get?_push_of_some _ (Heap.get?_push_size _ rfl))
  have gB : (zsE s.heap x t b).get? (zsA s.heap x t).objs.size = some _ := Heap.get?_push_of_some _ (Heap.get?_push_of_some _ (Heap.get?_push_of_some _ (Heap.get?_push_size _ rfl)))
  have gA : (zsE s.heap x t b).get? s.heap.objs.size = some _ := up (Heap.get?_push_size _ rfl)
  have kp : ∀ c o, s.heap.get? c = some o → (zsE s.heap x t b).get? c = some o := fun c o e => up (Heap.get?_push_of_some _ e)
  have iA : (zsE s.heap x t b).IsStrIter s.heap.objs.size "str_ascii_iterator" x t 0 := ⟨_, gA, rfl, rfl⟩
  rw [zA] at gB
  have iB : (zsE s.heap x t b).IsListIter (s.heap.objs.size + 1) b 0 := ⟨_, gB, rfl, rfl⟩
  show _ ∧ _
  rw [zB, zC, zD] at gE
  rw [zC] at gD
  rw [zA, zB] at gC
  rw [zD]
  exact ⟨⟨_, gE, rfl⟩, h _ gE gC gD iA iB kp⟩
def iZipS (K : PySem.W.Frag) (ta : TA) : TI := fun σ H R => ta σ H fun vs H1 => ∃ x b ys, vs = [.str x, .ref b] ∧ x.cps.all (· < 128) = true ∧ SqL K H1 b ys ∧ R (ItzS K x b) H1
theorem pi_zipS {X : Cx} {e e2 : Expr} {ta : TA} {p pos tpos : Pos} {elts : List Expr} {kk : Nat} (hg : Gl X "zip") (hm : X.mg "zip" = none) (ha : PA X [e, e2] ta)
    (hs : starEach [e, e2] X.env = (false, eval e X.env) :: starEach [e2] X.env := by rfl) (hpl : (backTo pos (starEach [e2] X.env)).any (·.1) = false := by rfl) :
    PI X (.Tuple elts kk tpos) (.Call (.Name "zip" p) [e, e2] [] pos) (iZipS X.K ta) := by
  constructor
  intro pins s σ H R I h
  refine Call_ (ld_blt I hg hm PyProof.Rows.boot_zip (PyProof.Rows.callWith_type1 (thn (ha.run pos pins s σ H _ I h) fun us s1 w1 => ?_) hs hpl))
  obtain ⟨vs, H1, I1, r1, q1⟩ := w1
  obtain ⟨x, b, ys, ex, hx, hq, q⟩ := q1
  subst ex
  rcases r1 with _ | ⟨r, r1⟩
  rcases r1 with _ | ⟨r', r1⟩
  cases r1
  · obtain ⟨t, rfl⟩ := r
    cases r'
    obtain ⟨its, rv, p1, _⟩ := I1.list hq
    have lb : b < s1.heap.objs.size := p1.lt
    refine call_zipS hx p1.isList fun h' hz hTI hTO h1 h2 hk => wpAny_pyIter_zip hz ?_
    have I2 : Inv X pins σ H1 { s1 with heap := h' } := I1.kept (t' := s1.toks) hk
    refine ⟨s1.heap.objs.size + 4, [s1.heap.objs.size + 4, s1.heap.objs.size + 2, s1.heap.objs.size + 3, s1.heap.objs.size, s1.heap.objs.size + 1], _, _, H1, rfl, I2, turn_zipS (zipSep lb) (Nat.ne_of_lt (Nat.lt_succ_of_lt lb)), ⟨hz, hTI, ⟨_, _, hTO⟩, h1, h2⟩, fun c hcm => ?_, q⟩
    have hle : s1.heap.objs.size ≤ c := by
      simp only [List.mem_cons, List.not_mem_nil, or_false] at hcm
      rcases hcm with rfl | rfl | rfl | rfl | rfl <;> first | exact Nat.le_refl _ | exact Nat.le_add_right _ _
    exact I1.fpOk hle (I1.hok.fresh hle)
end L2.PL

namespace L2.PL
open PySem PySem.Spec PyProof.Rows
/-! ### a, b, *rest = a tuple -/
/-- a walk that has come to its k-th turn -/
theorem walks_from {prog : Program} {w : World} {A : Around} {I : Addr} {fp wr : List Addr} {n : Nat} {P : Nat → Value → Prop} {St : Nat → Heap → Prop} (W : Walks prog w A I fp wr n P St) {k : Nat} (hk : k ≤ n) :
    Walks prog w A I fp wr (n - k) (fun i v => P (k + i) v) (fun i h => St (k + i) h) where
  sub := W.sub
  frame := fun i h h' st q => W.frame (k + i) h h' st q
  item := fun i s Q E hi st hQ => W.item (k + i) s Q E (by omega) st fun v h' tk p st' q => hQ v h' tk p (by rw [show k + (i + 1) = k + i + 1 by omega]; exact st') q
  done := fun s Q E st hQ => W.done s Q E (by rw [show k + (n - k) = n by omega] at st; exact st) hQ
  self := fun i s Q E st hQ => W.self (k + i) s Q E st hQ
section
variable {prog : Program} {w : World} {A : Around} {E : Value → Shared → Prop} {s : Shared}
theorem unpackItems_star {t : Addr} {items : Array Value} {k : Nat} {Q : List Value → Shared → Prop} (hh : A.handled = none) (ht : Heap.IsTuple s.heap t items) (hk : k ≤ items.size) (hsz : items.size ≤ sizeLine)
    (hQ : ∀ (h' : Heap) (tk : Nat), (∀ b o, s.heap.get? b = some o → h'.get? b = some o) → Q (items.toList.take k ++ [.ref h'.objs.size]) { s with heap := h'.push { cls := .type "list", data := .seq (items.toList.drop k).toArray }, toks := tk }) :
    wpAny (model prog w) A (unpackItems (.ref t) (k + 1) (some k)) Q E s := by
  have hlt : t ≠ s.heap.objs.size := by obtain ⟨o, ho, _⟩ := ht; exact Nat.ne_of_lt (Heap.lt_size ho)
  have htl : t < s.heap.objs.size := by obtain ⟨o, ho, _⟩ := ht; exact Heap.lt_size ho
  unfold unpackItems
  refine wpAny_bind ?_
  unfold notIterableAtAll
  refine wpAny_bind (wpAny_specialOf ht.typeIs PySem.F.slot_tuple_iter.lookup ?_)
  refine wpAny_pure ?_
  simp only [Bool.false_eq_true, if_false]
  refine wpAny_bind (wpAny_holding (wpAny_pyIter_tuple ht ?_))
  refine wpAny_bind (wpAny_holding (wpAny_draw_tuple hlt k 0 _ _ ⟨_, Heap.get?_push_size _ rfl, rfl, rfl⟩ (ht.push _) (by omega) fun h₁ hit₁ hs₁ => ?_))
  have hfirst : List.take k (List.drop 0 items.toList) = items.toList.take k := by rw [List.drop_zero]
  rw [hfirst]
  have hlen : (items.toList.take k).length = k := by rw [List.length_take]; simp; omega
  rw [if_neg (by rw [hlen]; omega)]
  have ht₁ : Heap.IsTuple h₁ t items := (ht.push _).extBut hs₁.extBut hlt
  rw [Nat.zero_add] at hit₁
  have W := walks_from (Walks.tuple (prog := prog) (w := w) (A := A.in1) hh s.heap.objs.size t hlt items) hk
  have sz1 : h₁.objs.size = s.heap.objs.size + 1 := by rw [hs₁.1, Heap.size_push]
  refine wpAny_bind (wpAny_holding ?_)
  refine wpAny_collect_iter (T := "tuple_iterator") (.inr (.inr (.inr rfl))) W.toS (fun i s' st => let ⟨o, e, c, _⟩ := st.1; ⟨o, e, c⟩) ⟨hit₁, ht₁⟩ (fun b hb => ?_) (by simp) (fun s' acc mv hacc => ?_) (by omega)
  · simp only [List.mem_cons, List.not_mem_nil, or_false] at hb
    show b < h₁.objs.size
    rw [sz1]
    rcases hb with rfl | rfl
    · exact Nat.lt_succ_self _
    · exact Nat.lt_succ_of_lt htl
  have eacc : acc.toList = items.toList.drop k := by
    apply List.ext_getElem?
    intro j
    by_cases hj : j < acc.size
    · have e1 : acc.toList[j]? = some acc[j] := by simp [hj]
      have := hacc.2 j acc[j] (by simp [hj])
      rw [e1, List.getElem?_drop, ← this]
      simp
    · have h1 := hacc.1
      rw [List.getElem?_eq_none (by simp; omega), List.getElem?_eq_none (by simp; omega)]
  obtain ⟨hp, hg, hd, hos, htk⟩ := mv
  rw [if_neg (by omega)]
  have e0 : k + 1 - 1 - k = 0 := by omega
  have hold : ∀ b o, s.heap.get? b = some o → s'.heap.get? b = some o := fun b o e => hp b o (by
    simp only [List.mem_cons, List.not_mem_nil, or_false]
    exact Nat.ne_of_lt (Heap.lt_size e)) (hs₁.extBut b o (Nat.ne_of_lt (Heap.lt_size e)) (Heap.get?_push_of_some _ e))
  simp only [e0, Nat.sub_zero]
  rw [List.take_length, List.drop_length, eacc]
  simp only [List.append_nil]
  refine wpAny_bind (wpAny_newList (wpAny_pure ?_) (by simp; omega))
  obtain ⟨heap', gens', drawn', tk', os'⟩ := s'
  cases hg
  cases hd
  cases hos
  exact hQ _ tk' hold
end
/-- the first k of a tuple into names, what is left into a new list -/
def gStar (K : PySem.W.Frag) (k : Nat) (t : TGs) : TG := fun v σ H Q => ∃ a xs, v = .ref a ∧ SqT K H a xs ∧ k ≤ xs.length ∧ ∀ p, H p = none → t (xs.take k ++ [.ref p]) σ (upd H p (.lst (xs.drop k))) Q
section
variable {X : Cx}
theorem pgs_star {e : Expr} {p : Pos} {t : TG} (h1 : PG X e t) (hs : (assignEach [.Starred e p] X.env).map (·.2) = [assign e X.env] := by rfl) : PGs X [.Starred e p] (gCons t gNil) := by
  refine ⟨fun pins s σ H vs us Q I r h => ?_⟩
  obtain ⟨v, vr, e1, h⟩ := h
  subst e1
  cases r with
  | cons r rr =>
    rw [hs]
    refine assignInOrder_cons (thn (h1.run pins s σ H _ _ _ I r h) fun _ s1 w1 => ?_)
    obtain ⟨σ1, H1, I1, e2, q1⟩ := w1
    subst e2
    cases rr
    exact assignInOrder_nil ⟨σ1, H1, I1, q1⟩
theorem pg_star {es : List Expr} {k i : Nat} {pos : Pos} {t : TGs} (hc : X.calm = true) (h : PGs X es t) (hn : (assignEach es X.env).length = k + 1 := by rfl) (hst : (assignEach es X.env).findIdx? (·.1) = some k := by rfl) : PG X (.Tuple es i pos) (gStar X.K k t) := by
  refine ⟨fun pins s σ H v u Q I r hw => ?_⟩
  obtain ⟨a, xs, e1, hq, hl, hw⟩ := hw
  subst e1
  cases r
  obtain ⟨its, rv, ht, hz⟩ := I.tuple hq
  have len := rv.length
  rw [assign_Tuple]
  refine wpAny_bind (wpAny_standAt ?_)
  unfold unpack
  rw [hn, hst]
  refine wpAny_bind (wpAny_holding (unpackItems_star (I.ok.hd hc) ht (by simp; omega) (by simp; omega) fun h' tk hk => ?_))
  have I1 : Inv X pins σ H { s with heap := h', toks := tk } := I.kept (t' := tk) hk
  have rd : Vals (xs.drop k) (its.drop k) := rv.drop k
  have rt : Vals (xs.take k) (its.take k) := rv.take k
  have e1 : its.toArray.toList = its := by simp
  rw [e1]
  have I2 : Inv X pins σ (upd H h'.objs.size (.lst (xs.drop k))) { s with heap := h'.push { cls := .type "list", data := .seq (its.drop k).toArray }, toks := tk } := by
    refine I1.laid (t' := tk) (fun b u e => Heap.get?_push_of_some _ e) (Nat.le_refl _) ?_
    exact ⟨by rw [List.length_drop]; omega, its.drop k, _, rd, Heap.get?_push_size _ rfl⟩
  have fr : H h'.objs.size = none := I1.hok.fresh (Nat.le_refl _)
  have r1 : Vals [V.ref h'.objs.size] [Value.ref h'.objs.size] := .cons rfl .nil
  exact h.run pins _ σ _ _ _ Q I2 (rt.append r1) (hw _ fr)
end
end L2.PL

namespace L2.PL
open PySem PySem.Spec PyProof.Rows
/-! ### d.get of a written dict with text keys -/
structure KDo (K : PySem.W.Frag) (w : World) (a : Addr) (x : Str) (o : Option V) : Prop where
  ex : ∃ es n, K.lookup a = some ⟨.type "dict", none, .dict es n, #[]⟩ ∧ PySem.W.KeysLit w.params es.toList ∧ ∃ r : Option Value, PySem.W.nsIn K a x = some r ∧ (o = none ∧ r = none ∨ ∃ v u, o = some v ∧ r = some u ∧ RelV v u)
  low : (a == sysModules) = false
theorem KDo.hit {K : PySem.W.Frag} {w : World} {a : Addr} {x : Str} {es : Array DictEntry} {n : Nat} {u : Value} {v : V} (h : K.lookup a = some ⟨.type "dict", none, .dict es n, #[]⟩) (k : PySem.W.KeysLit w.params es.toList) (low : (a == sysModules) = false) (e : PySem.W.nsIn K a x = some (some u)) (r : RelV v u) : KDo K w a x (some v) :=
  ⟨⟨es, n, h, k, _, e, .inr ⟨v, u, rfl, rfl, r⟩⟩, low⟩
theorem KDo.miss {K : PySem.W.Frag} {w : World} {a : Addr} {x : Str} {es : Array DictEntry} {n : Nat} (h : K.lookup a = some ⟨.type "dict", none, .dict es n, #[]⟩) (k : PySem.W.KeysLit w.params es.toList) (low : (a == sysModules) = false) (e : PySem.W.nsIn K a x = some none) : KDo K w a x none :=
  ⟨⟨es, n, h, k, _, e, .inl ⟨rfl, rfl⟩⟩, low⟩
/-- a is a written dict -/
def IsKD (K : PySem.W.Frag) (a : Addr) : Prop := ∃ es n, K.lookup a = some ⟨.type "dict", none, .dict es n, #[]⟩
theorem KDo.is {K : PySem.W.Frag} {w : World} {a : Addr} {x : Str} {o : Option V} (k : KDo K w a x o) : IsKD K a := let ⟨⟨es, n, h, _⟩, _⟩ := k; ⟨es, n, h⟩
def tKGet1 (K : PySem.W.Frag) (w : World) (td ty : TE) : TE := fun σ H Q => td σ H fun x H1 => ∃ a, x = .ref a ∧ IsKD K a ∧ ty σ H1 fun y H2 => ∃ z o, y = .str z ∧ KDo K w a z o ∧ Q (o.getD .non) H2
def tKGet2 (K : PySem.W.Frag) (w : World) (td ty tx : TE) : TE := fun σ H Q => td σ H fun x H1 => ∃ a, x = .ref a ∧ IsKD K a ∧ ty σ H1 fun y H2 => tx σ H2 fun d H3 => ∃ z o, y = .str z ∧ KDo K w a z o ∧ Q (o.getD d) H3
section
variable {X : Cx} {o e f : Expr} {apos cpos : Pos} {td ty tx : TE}
theorem kd_at {pins : List (Addr × Obj)} {σ : L2.St} {H : Hp} {s : Shared} {a : Addr} (I : Inv X pins σ H s) (k : IsKD X.K a) : s.TypeIs (.ref a) "dict" ∧ ∀ b, Value.ref a = .ref b → ∃ ob, s.heap.get? b = some ob ∧ ob.dict = none := by
  obtain ⟨es, n, h⟩ := k
  have g := I.kIn _ _ h
  refine ⟨⟨_, g, rfl⟩, fun b q => ?_⟩
  cases q
  exact ⟨_, g, rfl⟩
theorem KDo.out {P : Program} {w : World} {K : PySem.W.Frag} {h : Heap} {a : Addr} {z : Str} {ov : Option V} (X : K.In h) (k : KDo K w a z ov) :
    ∃ g : Str → Option Value, h.MapOf (strKind P w) a g ∧ ∀ (d : V) (u : Value), RelV d u → RelV (ov.getD d) ((g z).getD u) := by
  obtain ⟨⟨es, n, lk, kl, r, e, c⟩, _⟩ := k
  refine ⟨_, PySem.W.mapOf_K (prog := P) (w := w) X lk kl, fun d u rd => ?_⟩
  have q := PySem.W.find_K lk e
  show RelV _ ((findBy Value.isStrOf es z).getD u)
  rw [q]
  rcases c with ⟨rfl, rfl⟩ | ⟨v, w', rfl, rfl, r⟩
  · exact rd
  · exact r
theorem pe_kget1 (ho : PE X o td) (he : PE X e ty) (m : M1 X o "get" apos e cpos) : PE X (.Call (.Attribute o "get" apos) [e] [] cpos) (tKGet1 X.K X.w td ty) := by
  constructor
  intro pins s σ H Q I h
  refine wpAny_Call_method m.base m.few m.line PySem.F.plainAttrs_dict PySem.F.slot_dict_get PySem.F.type_dict_get (thn (ho.run pins s σ H _ I h) fun u s1 w1 => ?_)
  obtain ⟨x, H1, I1, rx, a, ex, kd, q1⟩ := w1
  subst ex
  obtain rfl : u = Value.ref a := rx
  refine ⟨(kd_at I1 kd).1, (kd_at I1 kd).2, ?_⟩
  rw [m.trees]
  refine Calls.callWith_builtin rfl (Calls.evalArgs_plain (Calls.spliced_cons (thn (he.run pins s1 σ H1 _ I1 q1) fun iv s2 w2 => Calls.spliced_nil ?_)))
  obtain ⟨y, H2, I2, ry, z, ov, ey, k, q2⟩ := w2
  subst ey
  obtain ⟨t, rfl⟩ := ry
  obtain ⟨g, mo, val⟩ := KDo.out (P := X.prog) I2.kIn k
  refine call_meetsIn PySem.F.slot_dict_get (kd_at I2 kd).1 PySem.F.entry_dict_get (PySem.F.args_dict_get_2 _ _) (meets_dict_get (strKind X.prog X.w) a (strKind_is X.prog X.w z t) k.low) ⟨g, mo, ?_⟩
  exact ⟨_, H2, I2.tok _, val .non .none rfl, q2⟩
theorem pe_kget2 (ho : PE X o td) (he : PE X e ty) (hf : PE X f tx) (m : M2 X o "get" apos e f cpos) : PE X (.Call (.Attribute o "get" apos) [e, f] [] cpos) (tKGet2 X.K X.w td ty tx) := by
  constructor
  intro pins s σ H Q I h
  refine wpAny_Call_method m.base m.few m.line PySem.F.plainAttrs_dict PySem.F.slot_dict_get PySem.F.type_dict_get (thn (ho.run pins s σ H _ I h) fun u s1 w1 => ?_)
  obtain ⟨x, H1, I1, rx, a, ex, kd, q1⟩ := w1
  subst ex
  obtain rfl : u = Value.ref a := rx
  refine ⟨(kd_at I1 kd).1, (kd_at I1 kd).2, ?_⟩
  rw [m.trees]
  refine Calls.callWith_builtin rfl (Calls.evalArgs_plain (Calls.spliced_cons (thn (he.run pins s1 σ H1 _ I1 q1) fun iv s2 w2 => ?_)))
  obtain ⟨y, H2, I2, ry, q2⟩ := w2
  refine Calls.spliced_cons (thn (hf.run pins s2 σ H2 _ I2 q2) fun fv s3 w3 => Calls.spliced_nil ?_)
  obtain ⟨d, H3, I3, rd, z, ov, ey, k, q3⟩ := w3
  subst ey
  obtain ⟨t, rfl⟩ := ry
  obtain ⟨g, mo, val⟩ := KDo.out (P := X.prog) I3.kIn k
  refine call_meetsIn PySem.F.slot_dict_get (kd_at I3 kd).1 PySem.F.entry_dict_get (PySem.F.args_dict_get_3 _ _ _) (meets_dict_get_default (strKind X.prog X.w) a (strKind_is X.prog X.w z t) k.low fv) ⟨g, mo, ?_⟩
  exact ⟨_, H3, I3.tok _, val d fv rd, q3⟩
/-! ### str of a number or a text -/
theorem call_str_any : CallR X (.type "str") (fun xs H Q => (∃ i : Int, xs = [.int i] ∧ i.natAbs.log2 < 1920 ∧ Q (.str (toString i)) H) ∨ ∃ a, xs = [.str a] ∧ Q (.str a) H) := by
  intro pins s σ H xs us Q I r h
  rcases h with h | h
  · exact call_str_int pins s σ H xs us Q I r h
  · exact SkE.call_str_str pins s σ H xs us Q I r h
/-! ### d.update(d2) -/
def tDUpd (td te : TE) : TE := fun σ H Q => td σ H fun x H1 => ∃ a, x = .ref a ∧ IsD H1 a ∧ te σ H1 fun y H2 => ∃ (b : Addr) (kvs ls : List (Key × V)), y = .ref b ∧ a ≠ b ∧ H2 a = some (.dK kvs) ∧ H2 b = some (.dK ls) ∧ kvs.length + ls.length ≤ sizeLine ∧ Q .non (upd H2 a (.dK (mergeK kvs ls)))
theorem pe_dupd (ho : PE X o td) (he : PE X e ty) (m : M1 X o "update" apos e cpos) : PE X (.Call (.Attribute o "update" apos) [e] [] cpos) (tDUpd td ty) := by
  constructor
  intro pins s σ H Q I h
  refine wpAny_Call_method m.base m.few m.line PySem.F.plainAttrs_dict PySem.F.slot_dict_update PySem.F.type_dict_update (thn (ho.run pins s σ H _ I h) fun u s1 w1 => ?_)
  obtain ⟨x, H1, I1, rx, a, ex, d, q1⟩ := w1
  subst ex
  obtain rfl : u = Value.ref a := rx
  obtain ⟨t1, t2, _⟩ := isD_at I1 d
  refine ⟨t1, t2, ?_⟩
  rw [m.trees]
  refine Calls.callWith_builtin rfl (Calls.evalArgs_plain (Calls.spliced_cons (thn (he.run pins s1 σ H1 _ I1 q1) fun iv s2 w2 => Calls.spliced_nil ?_)))
  obtain ⟨y, H2, I2, ry, b, kvs, ls, ey, hne, ha, hb, hsz, q2⟩ := w2
  subst ey
  obtain rfl : iv = Value.ref b := ry
  obtain ⟨z1, l1, vs, r1, d1⟩ := dk_of I2.hok ha
  obtain ⟨z2, l2, ws, r2, d2⟩ := dk_of I2.hok hb
  refine call_meetsIn PySem.F.slot_dict_update d1.typeIs PySem.F.entry_dict_update (PySem.F.args_dict_update_2 _ _) (meets_dict_update (mixKind X.prog X.w) a b hne l2) ⟨vs, ws, d1, d2, ?_, fun h' dd _ hs => ?_⟩
  · rw [← r1.length, ← r2.length]; exact hsz
  · have hz : (mergeK kvs ls).length ≤ sizeLine := Nat.le_trans (length_mergeK ls kvs) hsz
    have he : ∃ q, h'.get? a = some q := let ⟨q, _, _, hq, _⟩ := dd; ⟨q, hq⟩
    exact ⟨.non, _, d_write I2 (by rw [ha]; exact True.intro) hs he (dk_new hz l1 (r2.merge r1) dd), rfl, q2⟩
end
/-! ### a property of a class with slots, as one fact -/
structure PrC (P : Program) (w : World) (K : PySem.W.Frag) (mg : Str → Option Value) (base : Heap) (CX : CXT) (C : Addr) (f : Str) (k : Nat) (sp : Sp) : Prop where
  ex : ∃ p g rest, PySem.W.findIn K (.ref C) f = some (some (.ref p)) ∧ PySem.W.specialIn K (.ref p) "__get__" = some (some (.builtin "property.__get__")) ∧ PySem.W.takesIn K (.ref p) = some true ∧ PySem.W.recIn K p "property" = some (.ref g :: rest) ∧ FnR P w K mg base CX k g sp
section
variable {X : Cx} {e : Expr} {f : Str} {pos : Pos} {ta : TE} {C : Addr} {j k : Nat} {sp : Sp}
theorem pe_prC (M : PrC X.prog X.w X.K X.mg X.base CX0 C f k sp) (he : PE X e ta) (c : SlX.SCls X.K C) (hr : Room j X.A) (hk : k + 1 ≤ j := by decide) (hb : attributeBase e f X.env (eval e X.env) = eval e X.env := by rfl) : PE X (.Attribute e f pos) (SlX.tPropSl C sp E0 ta) := by
  obtain ⟨p, g, rest, h1, h2, h3, h4, F⟩ := M.ex
  exact SlX.pe_propSl he c h1 h2 h3 ⟨rest, h4⟩ F (hr.mono hk) (fun _ _ _ _ h => h) hb
/-! ### two arguments by keywords, in the other sequence -/
def swp {α : Type} : List α → List α → List α
  | [], [a, b] => [b, a]
  | _, _ => []
structure CalW (P : Program) (w : World) (K : PySem.W.Frag) (mg : Str → Option Value) (base : Heap) (CX : CXT) (x : Str) (ps : List Str) (k : Nat) (sp : Sp) : Prop where
  ex : ∃ (f : Addr) (fd : FuncData), mg x = some (.ref f) ∧ PySem.W.keepIn K (.ref f) = true ∧ KBinds K fd ps ps.reverse swp swp ∧ FnOk P w K mg base CX k f fd ps sp
theorem pe_calW {CX : CXT} {ps : List Str} {E : XK} {kws : List Keyword} {x : Str} {tk : TA} {p : Pos} (M : CalW X.prog X.w X.K X.mg X.base CX x ps k sp) (hr : Room j X.A) (hg : Gl X x) (hx : Passes CX X E) (hkw : PK X kws tk) (hk : k ≤ j := by decide)
    (hall : (backToKw pos (keywordEach kws X.env)).all (·.1.isSome) = true := by rfl) (hks : (backToKw pos (keywordEach kws X.env)).filterMap (·.1) = ps.reverse := by rfl)
    (hdb : (x == ("__debug__" : Str)) = false := by decide)
    (hpl : ((backTo pos (starEach [] X.env)).any (·.1) || (backToKw pos (keywordEach kws X.env)).any (·.1.isNone)) = false := by rfl) :
    PE X (.Call (.Name x p) [] kws pos) (L2.tCallK sp swp E tNil tk) := by
  obtain ⟨f, fd, hm, kp, hb, F⟩ := M.ex
  exact pe_callK0 F (hr.mono hk) hg hm kp hb hx hkw hall hks hdb hpl
end
theorem kbinds2 {K : PySem.W.Frag} {x qual p q : Str} {st : Stmt} {f : Addr} {fd : FuncData} (F : Fun K x qual st f fd)
    (h : ∀ (kV doc pm : Value) (an : Option Addr) (cdv ct u v : Value), bindArgs (PySem.W.fnOf x qual (defArgs st) (defBody st) (defScope st) .none kV doc pm an cdv ct) ⟨[], [(q, v), (p, u)]⟩ = pure [(p, u), (q, v)]) :
    KBinds K fd [p, q] [q, p] swp swp := by
  obtain ⟨oc, od, kV, doc, pm, an, cdv, ct, osl, rfl, lk, hcd⟩ := F.ex
  refine ⟨fun s us ws _ hl => ?_, fun {vs us zs ws} r z => ?_⟩
  · match us, ws, hl with
    | [], [v, u], _ => exact .of_eq (h ..)
    | _ :: _, _, hl => simp [swp] at hl
    | [], [], hl => simp [swp] at hl
    | [], [_], hl => simp [swp] at hl
    | [], _ :: _ :: _ :: _, hl => simp [swp] at hl
  · cases r with
    | nil =>
      cases z with
      | nil => exact .nil
      | cons a z =>
        cases z with
        | nil => exact .nil
        | cons b z =>
          cases z with
          | nil => exact .cons b (.cons a .nil)
          | cons c z => exact .nil
    | cons a r => exact .nil
end L2.PL

/-! programs as plain data: instructions, their texts, their run -/
namespace L2.PR
open PySem PySem.Spec PyProof.Rows L2.PL
abbrev tl (x : Str) : List Nat := x.cps.toList
def rg (r : Nat) : Str := ⟨#[97 + r]⟩
theorem rg_inj {r s : Nat} (h : rg r = rg s) : r = s := by
  have h1 : #[97 + r] = #[97 + s] := congrArg Str.cps h
  have h2 := congrArg (fun a => a[0]?) h1
  simp at h2
  exact h2
def num (i : Int) : Str := Str.ofString (toString i)
theorem num_nat (n : Nat) : tl (num (n : Int)) = TL.numL n := TL.tl_num n
theorem num_neg {i : Int} (h : i < 0) : tl (num i) = 45 :: TL.numL i.natAbs := by
  unfold num
  rw [toString_neg h]
  have e : (0 - i : Int) = ((i.natAbs : Nat) : Int) := by omega
  rw [e]
  have t : tl (Str.ofString ("-" ++ toString ((i.natAbs : Nat) : Int))) = ("-" ++ toString ((i.natAbs : Nat) : Int)).toList.map Char.toNat := TL.tl_ofString _
  rw [t, String.toList_append, List.map_append]
  have t2 : tl (Str.ofString (toString ((i.natAbs : Nat) : Int))) = (toString ((i.natAbs : Nat) : Int)).toList.map Char.toNat := TL.tl_ofString _
  rw [← t2, show tl (Str.ofString (toString ((i.natAbs : Nat) : Int))) = TL.numL i.natAbs from TL.tl_num _]
  rfl
inductive Arg where
  | r (i : Nat)
  | n (i : Int)
  | l (g : Nat)
def Arg.txt : Arg → Str
  | .r i => rg i
  | .n i => num i
  | .l g => num (g : Int)
def Arg.v : Arg → V
  | .r i => .str (rg i)
  | .n i => .int i
  | .l g => .int (g : Int)
def Arg.d : Arg → PyData
  | .r i => .str (rg i)
  | .n i => .int i
  | .l g => .int (g : Int)
def Arg.kind : Arg → Nat
  | .r _ => 114
  | .n _ => 110
  | .l _ => 108
/-- sound as the number-th line's -/
def Arg.ok (number : Nat) : Arg → Prop
  | .r i => i < 6
  | .n i => -9999 ≤ i ∧ i ≤ 9999
  | .l g => number < g ∧ g ≤ 200
inductive Ins where
  | set (r : Nat) (n : Int)
  | copy (r s : Nat)
  | add (r : Nat) (n : Int)
  | length (r : Nat)
  | load (r s : Nat) (n : Int)
  | jump (l : Nat)
  | less (r s : Nat) (n : Int) (l : Nat)
  | atmost (r : Nat) (n : Int) (l : Nat)
  | same (r : Nat) (n : Int) (l : Nat)
  | pass
  | drop
def word : Ins → Str
  | .set .. => "set"
  | .copy .. => "copy"
  | .add .. => "add"
  | .length .. => "length"
  | .load .. => "load"
  | .jump .. => "jump"
  | .less .. => "less"
  | .atmost .. => "atmost"
  | .same .. => "same"
  | .pass => "pass"
  | .drop => "drop"
def args : Ins → List Arg
  | .set r n => [.r r, .n n]
  | .copy r s => [.r r, .r s]
  | .add r n => [.r r, .n n]
  | .length r => [.r r]
  | .load r s n => [.r r, .r s, .n n]
  | .jump l => [.l l]
  | .less r s n l => [.r r, .r s, .n n, .l l]
  | .atmost r n l => [.r r, .n n, .l l]
  | .same r n l => [.r r, .n n, .l l]
  | .pass => []
  | .drop => []
def insV (i : Ins) : List V := .str (word i) :: (args i).map Arg.v
def insD (i : Ins) : PyData := .tuple (.str (word i) :: (args i).map Arg.d)
def insOk (number : Nat) (i : Ins) : Prop := ∀ a ∈ args i, a.ok number
def linesD (is : List Ins) : PyData := .tuple (is.map insD)
/-! ### texts -/
def wordsS (i : Ins) : List Str := word i :: (args i).map Arg.txt
def lineS (i : Ins) : Str := Txt.join " " (wordsS i)
def progS (is : List Ins) : Str := Txt.join "\n" (is.map lineS)
theorem num_free (i : Int) {s : Nat} (h : s < 45) : s ∉ tl (num i) := by
  by_cases c : i < 0
  · rw [num_neg c]
    intro m
    rcases List.mem_cons.mp m with m | m
    · omega
    · exact TL.numL_free (.inl (by omega)) m
  · obtain ⟨n, rfl⟩ : ∃ n : Nat, i = (n : Int) := ⟨i.toNat, by omega⟩
    rw [num_nat]
    exact TL.numL_free (.inl (by omega))
theorem arg_free (a : Arg) {s : Nat} (h : s < 45) : s ∉ tl a.txt := by
  cases a with
  | r i =>
    intro m
    have m : s ∈ [97 + i] := m
    simp at m
    omega
  | n i => exact num_free i h
  | l g => exact num_free _ h
theorem word_free (i : Ins) {s : Nat} (h : s = 10 ∨ s = 32) : s ∉ tl (word i) := by
  rcases h with rfl | rfl <;> cases i <;> simp only [word] <;> decide +kernel
theorem words_free (i : Ins) {s : Nat} (h : s = 10 ∨ s = 32) : ∀ p ∈ wordsS i, s ∉ tl p := by
  intro p hp
  rcases List.mem_cons.mp hp with rfl | hp
  · exact word_free i h
  · obtain ⟨a, _, rfl⟩ := List.mem_map.mp hp
    exact arg_free a (by omega)
theorem line_split (i : Ins) : Txt.split (lineS i) " " = wordsS i :=
  TL.split_join (y := " ") (s := 32) (S := []) (by decide +kernel) (by decide +kernel) (by simp [wordsS]) (words_free i (.inr rfl))
theorem joinL_free {s : Nat} {S : List Nat} (h : s ∉ S) : ∀ {ps : List (List Nat)}, (∀ p ∈ ps, s ∉ p) → s ∉ TL.joinL S ps
  | [], _ => by intro m; cases m
  | [p], hp => hp p (.head _)
  | p :: q :: r, hp => by
    show s ∉ p ++ (S ++ TL.joinL S (q :: r))
    rw [List.mem_append, List.mem_append]
    rintro (m | m | m)
    · exact hp p (.head _) m
    · exact h m
    · exact joinL_free h (fun x hx => hp x (.tail _ hx)) m
theorem line_free (i : Ins) : 10 ∉ tl (lineS i) := by
  unfold lineS
  rw [TL.join_eq]
  have := TL.tl_join " " (wordsS i)
  rw [show tl (Str.join " " (wordsS i)) = TL.tl (Str.join " " (wordsS i)) from rfl, this]
  refine joinL_free (by decide +kernel) fun p hp => ?_
  obtain ⟨x, hx, rfl⟩ := List.mem_map.mp hp
  exact words_free i (.inl rfl) x hx
theorem prog_split {is : List Ins} (h : is ≠ []) : Txt.split (progS is) "\n" = is.map lineS :=
  TL.split_join (y := "\n") (s := 10) (S := []) (by decide +kernel) (by decide +kernel) (by simp [h]) fun p hp => by
    obtain ⟨i, _, rfl⟩ := List.mem_map.mp hp
    exact line_free i
/-! ### how long -/
theorem num_len {i : Int} (h1 : -9999 ≤ i) (h2 : i ≤ 9999) : (tl (num i)).length ≤ 5 := by
  by_cases c : i < 0
  · rw [num_neg c]
    have := TL.numL_len (n := i.natAbs) (k := 4) (by decide) (by omega)
    simp; omega
  · obtain ⟨n, rfl⟩ : ∃ n : Nat, i = (n : Int) := ⟨i.toNat, by omega⟩
    rw [num_nat]
    have := TL.numL_len (n := n) (k := 4) (by decide) (by omega)
    omega
/-! ### the run -/
abbrev Mem := Nat → Option Int
def put (m : Mem) (r : Nat) (v : Int) : Mem := fun x => if x = r then some v else m x
/-- places and registers that must be set -/
def needs : Ins → List (Nat × Nat)
  | .copy _ s => [(2, s)]
  | .add r _ => [(1, r)]
  | .load _ s _ => [(2, s)]
  | .less r s _ _ => [(1, r), (2, s)]
  | .atmost r _ _ => [(1, r)]
  | .same r _ _ => [(1, r)]
  | _ => []
def unset (i : Ins) (m : Mem) : Bool := (needs i).any fun p => (m p.2).isNone
inductive Told where
  | passed (at_ : Nat)
  | dropped (at_ : Nat)
  | unset (at_ : Nat)
  | beyond (at_ : Nat)
  | end_ (at_ : Nat)
def toldV : Told → List V
  | .passed a => [.str "pass", .int (a : Int)]
  | .dropped a => [.str "drop", .int (a : Int)]
  | .unset a => [.str "wrong", .int (a : Int), .str "unset"]
  | .beyond a => [.str "wrong", .int (a : Int), .str "beyond"]
  | .end_ a => [.str "wrong", .int (a : Int), .str "end"]
def toldL : Told → List PyData
  | .passed a => [.str "pass", .int (a : Int)]
  | .dropped a => [.str "drop", .int (a : Int)]
  | .unset a => [.str "wrong", .int (a : Int), .str "unset"]
  | .beyond a => [.str "wrong", .int (a : Int), .str "beyond"]
  | .end_ a => [.str "wrong", .int (a : Int), .str "end"]
inductive Step where
  | stop (t : Told)
  | go (at_ : Nat) (m : Mem)
def val (m : Mem) (r : Nat) : Int := (m r).getD 0
/-- does a jump go to its goal -/
def goes (m : Mem) : Ins → Bool
  | .jump _ => true
  | .less r s n _ => decide (val m r - val m s ≤ n)
  | .atmost r n _ => decide (val m r ≤ n)
  | .same r n _ => decide (val m r = n)
  | _ => false
/-- a store: none where a load is beyond -/
def stores (pk : List Int) (m : Mem) : Ins → Option Mem
  | .set r n => some (put m r n)
  | .copy r s => some (put m r (val m s))
  | .add r n => some (put m r (val m r + n))
  | .length r => some (put m r (pk.length : Int))
  | .load r s n => if 0 ≤ val m s + n ∧ val m s + n < (pk.length : Int) then some (put m r (pk.getD (val m s + n).toNat 0)) else none
  | _ => none
def goal : Ins → Nat
  | .jump l => l
  | .less _ _ _ l => l
  | .atmost _ _ l => l
  | .same _ _ l => l
  | _ => 0
def isEnd : Ins → Bool
  | .pass => true
  | .drop => true
  | _ => false
def isJump : Ins → Bool
  | .jump _ => true
  | .less .. => true
  | .atmost .. => true
  | .same .. => true
  | _ => false
def step (pk : List Int) (a : Nat) (m : Mem) (i : Ins) : Step :=
  match i with
  | .pass => .stop (.passed a)
  | .drop => .stop (.dropped a)
  | i => if unset i m = true then .stop (.unset a)
    else if isJump i = true then .go (if goes m i = true then goal i else a + 1) m
    else match stores pk m i with
      | some m' => .go (a + 1) m'
      | none => .stop (.beyond a)
def exec (is : List Ins) (pk : List Int) : Nat → Nat → Mem → List Nat → List Nat × Told
  | 0, _, _, came => (came, .end_ is.length)
  | F + 1, a, m, came => match is[a]? with
    | none => (came, .end_ is.length)
    | some i => match step pk a m i with
      | .stop t => (came ++ [a], t)
      | .go a' m' => exec is pk F a' m' (came ++ [a])
/-- what run and trace tell -/
def run (is : List Ins) (pk : List Int) : List Nat × Told := exec is pk (is.length + 1) 0 (fun _ => none) []
/-! ### a memory as a dict -/
structure MemIs (kvs : List (Key × V)) (m : Mem) : Prop where
  val : ∀ r, valV kvs (.inr (rg r)) = (m r).map V.int
theorem MemIs.nil : MemIs [] fun _ => none := ⟨fun _ => rfl⟩
theorem MemIs.put {kvs : List (Key × V)} {m : Mem} (h : MemIs kvs m) (r : Nat) (v : Int) : MemIs (putK kvs (.inr (rg r)) (.int v)) (put m r v) := by
  refine ⟨fun x => ?_⟩
  rw [valV_put, h.val]
  unfold PR.put
  by_cases e : x = r
  · subst e
    rw [if_pos rfl, if_pos rfl]; rfl
  · rw [if_neg e, if_neg (fun z => e (rg_inj (Sum.inr.inj z)))]
end L2.PR
namespace L2.PR
open PySem PySem.Spec PyProof.Rows L2.PL
theorem joinL_len (S : List Nat) : ∀ ps : List (List Nat), (TL.joinL S ps).length ≤ (ps.map fun p => p.length + S.length).sum
  | [] => Nat.le_refl _
  | [p] => by show p.length ≤ p.length + S.length + 0; omega
  | p :: q :: r => by
    have := joinL_len S (q :: r)
    show (p ++ (S ++ TL.joinL S (q :: r))).length ≤ p.length + S.length + ((q :: r).map fun p => p.length + S.length).sum
    rw [List.length_append, List.length_append]
    omega
theorem sum_le {α : Type} (f : α → Nat) (c : Nat) : ∀ l : List α, (∀ a ∈ l, f a ≤ c) → (l.map f).sum ≤ l.length * c
  | [], _ => Nat.zero_le _
  | a :: l, h => by
    have h1 := h a (.head _)
    have h2 := sum_le f c l fun b hb => h b (.tail _ hb)
    rw [List.map_cons, List.sum_cons, List.length_cons, Nat.succ_mul]
    omega
theorem join_len (y : Str) (ps : List Str) (c : Nat) (h : ∀ p ∈ ps, (tl p).length ≤ c) : (Txt.join y ps).length ≤ ps.length * (c + (tl y).length) := by
  have e : (Txt.join y ps).length = (tl (Txt.join y ps)).length := TL.len_tl _
  have t : tl (Txt.join y ps) = TL.joinL (tl y) (ps.map tl) := by rw [TL.join_eq]; exact TL.tl_join y ps
  rw [e, t]
  refine Nat.le_trans (joinL_len _ _) ?_
  rw [List.map_map]
  exact sum_le _ _ ps fun p hp => by have := h p hp; show (tl p).length + (tl y).length ≤ _; omega
theorem args_len (i : Ins) : (args i).length ≤ 4 := by cases i <;> simp [args]
theorem word_len (i : Ins) : (tl (word i)).length ≤ 6 := by cases i <;> simp only [word] <;> decide +kernel
theorem words_len {i : Ins} {number : Nat} (ok : insOk number i) : ∀ p ∈ wordsS i, (tl p).length ≤ 6 := by
  intro p hp
  rcases List.mem_cons.mp hp with rfl | hp
  · exact word_len i
  · obtain ⟨a, ha, rfl⟩ := List.mem_map.mp hp
    have k := ok a ha
    cases a with
    | r i => show ([97 + i] : List Nat).length ≤ 6; simp
    | n i => exact Nat.le_trans (num_len k.1 k.2) (by decide)
    | l g =>
      have k : number < g ∧ g ≤ 200 := k
      exact Nat.le_trans (num_len (i := (g : Int)) (by omega) (by omega)) (by decide)
theorem line_len {i : Ins} {number : Nat} (ok : insOk number i) : (lineS i).length ≤ 35 := by
  have h := join_len " " (wordsS i) 6 (words_len ok)
  have e : (tl (" " : Str)).length = 1 := by decide +kernel
  rw [e] at h
  have l : (wordsS i).length ≤ 5 := by
    show ((args i).map Arg.txt).length + 1 ≤ 5
    rw [List.length_map]
    have := args_len i
    omega
  have : (wordsS i).length * (6 + 1) ≤ 5 * (6 + 1) := Nat.mul_le_mul_right _ l
  exact Nat.le_trans h this
theorem insV_flat (i : Ins) : ((args i).map Arg.v).all flatV = true := by
  rw [List.all_eq_true]
  intro v hv
  obtain ⟨a, _, rfl⟩ := List.mem_map.mp hv
  cases a <;> rfl
theorem insV_in (i : Ins) : inV .non ((args i).map Arg.v) = false := by
  unfold inV
  rw [List.any_eq_false]
  intro v hv
  obtain ⟨a, _, rfl⟩ := List.mem_map.mp hv
  cases a <;> (intro z; cases z)
end L2.PR
namespace L2.PR
open PySem PySem.Spec PyProof.Rows L2.PL
theorem prog_len {is : List Ins} (h : is.length ≤ 200) (ok : ∀ (k : Nat) i, is[k]? = some i → insOk k i) : (progS is).length ≤ 7200 := by
  have := join_len "\n" (is.map lineS) 35 (fun p hp => by
    obtain ⟨i, hi, rfl⟩ := List.mem_map.mp hp
    obtain ⟨k, hk, e⟩ := List.mem_iff_getElem.mp hi
    have := line_len (ok k i (by rw [List.getElem?_eq_getElem hk, e]))
    have e2 : (lineS i).length = (tl (lineS i)).length := TL.len_tl _
    omega)
  have e : (tl ("\n" : Str)).length = 1 := by decide +kernel
  rw [e, List.length_map] at this
  have : is.length * (35 + 1) ≤ 200 * (35 + 1) := Nat.mul_le_mul_right _ h
  unfold progS
  omega
end L2.PR

namespace L2.PL
open PySem PySem.Spec PyProof.Rows
theorem walk_zipS {K : PySem.W.Frag} {x : Str} {b : Addr} {ys : List V} (hl : x.cps.size = ys.length) : Walk (ItzS K x b) ys.length (fun H => SqL K H b ys) (fun i H v H' => ∃ T c y, v = .ref T ∧ H T = none ∧ H' = upd H T (.tup [.str ⟨#[c]⟩, y]) ∧ x.cps[i]? = some c ∧ ys[i]? = some y) := by
  refine ⟨fun i H hi q => ⟨x.cps[i]'(by omega), ys, ys[i], by simp [hl ▸ hi], q, by simp [hi]⟩, fun H q => ⟨ys, q, by omega, Nat.le_refl _, .inr rfl⟩, fun i H v H' hi q y => ?_⟩
  obtain ⟨T, c, z, h1, h2, h3, h4, h5⟩ := y
  exact ⟨T, c, z, h1, h2, h3, h4, h5 ys q⟩
section
variable {X : Cx}
theorem pe_gR {x : Str} {d : Addr} {pos : Pos} (hg : Gl X x) (hm : X.mg x = some (.ref d)) (hd : (x == ("__debug__" : Str)) = false := by decide) : PE X (.Name x pos) (tC (.ref d)) := pe_glob hg hm rfl hd
end
section
variable {X : Cx} {K : PySem.W.Frag} {o e : Expr} {to te : TE}
def rJoinK (K : PySem.W.Frag) : V → List V → Hp → VK → Prop := fun x xs H Q => ∃ a p, ∃ ys : List Str, x = .str a ∧ xs = [.ref p] ∧ (SqL K H p (ys.map V.str) ∨ SqT K H p (ys.map V.str)) ∧ (ys.map (·.length)).sum + ys.length * a.length ≤ 16777216 ∧ Q (.str (Txt.join a ys)) H
theorem pe_joinK {apos pos : Pos} (ho : PE X o to) (he : PE X e te) (h : X.K = K := by rfl) (hs : starEach [e] X.env = [(false, eval e X.env)] := by rfl) (hbase : attributeBase o "join" X.env (eval o X.env) = eval o X.env := by rfl) (hline : (apos.endLine == pos.line) = true := by rfl) :
    PE X (.Call (.Attribute o "join" apos) [e] [] pos) (tM1 (rJoinK K) to te) := by
  subst h
  exact pe_join ho he hs hbase hline
end
/-- two texts, told apart or not -/
theorem sT {a b : Str} (h : a = b) : V.bl (decide (V.str a = V.str b)) = .bl true := by rw [h, decide_eq_true rfl]
theorem sF {a b : Str} (h : a ≠ b) : V.bl (decide (V.str a = V.str b)) = .bl false := by
  rw [decide_eq_false]
  intro e
  exact h (V.str.inj e)
theorem snT {a b : Str} (h : a ≠ b) : V.bl (!decide (V.str a = V.str b)) = .bl true := by
  rw [decide_eq_false fun e => h (V.str.inj e)]; rfl
theorem snF {a b : Str} (h : a = b) : V.bl (!decide (V.str a = V.str b)) = .bl false := by rw [h, decide_eq_true rfl]; rfl
theorem kit_str_str {K : PySem.W.Frag} : PySem.W.kitOne K (.type "str") (.type "str") = some true := kit_ty (by decide +kernel)
theorem tyx_str {K : PySem.W.Frag} {H : Hp} (x : Str) : TyX K H (.str x) (.type "str") := .base (.str x)
/-! ### pieces of texts -/
theorem cut_to1 (z : Str) : (cutS z none (some 1)).cps.toList = z.cps.toList.take 1 := by
  show ((z.cps.toList.drop (HT.sIx z.length 0 none)).take (HT.sIx z.length z.length (some 1) - HT.sIx z.length 0 none)) = _
  rw [HT.sIx_none, show (1 : Int) = ((1 : Nat) : Int) from rfl, HT.sIx_nat, List.drop_zero, Nat.sub_zero]
  have : z.length = z.cps.toList.length := by simp [Str.length]
  rw [this]
  cases z.cps.toList with
  | nil => rfl
  | cons a r => simp
theorem cut_from1 (z : Str) : (cutS z (some 1) none).cps.toList = z.cps.toList.drop 1 := by
  show ((z.cps.toList.drop (HT.sIx z.length 0 (some 1))).take (HT.sIx z.length z.length none - HT.sIx z.length 0 (some 1))) = _
  rw [HT.sIx_none, show (1 : Int) = ((1 : Nat) : Int) from rfl, HT.sIx_nat]
  have : z.length = z.cps.toList.length := by simp [Str.length]
  rw [this]
  cases z.cps.toList with
  | nil => rfl
  | cons a r => simp
theorem cutV_from1 (xs : List V) : cutV xs (some 1) none = xs.drop 1 := by
  show (xs.drop (HT.sIx xs.length 0 (some 1))).take (HT.sIx xs.length xs.length none - HT.sIx xs.length 0 (some 1)) = _
  rw [HT.sIx_none, show (1 : Int) = ((1 : Nat) : Int) from rfl, HT.sIx_nat]
  cases xs with
  | nil => rfl
  | cons a r => simp
end L2.PL

namespace L2.T39
open PySem PySem.Spec PyProof.Rows L2.PL
/-- what the text says of its constants -/
structure Cst (mg : Str → Option Value) : Prop where
  g_FIGURES : ∃ t, mg "FIGURES" = some (.str "0123456789" t)
  g_MOST_CELLS : ∃ t, mg "MOST_CELLS" = some (.int 24 t)
  g_NOUGHT : ∃ t, mg "NOUGHT" = some (.int 0 t)
  g_LENGTH : ∃ t, mg "LENGTH" = some (.int 1 t)
  g_MOST_CELL : ∃ t, mg "MOST_CELL" = some (.int 255 t)
  g_MOST_LINES : ∃ t, mg "MOST_LINES" = some (.int 200 t)
  g_MOST_NUMBER : ∃ t, mg "MOST_NUMBER" = some (.int 9999 t)
  g_REGISTERS : ∃ t, mg "REGISTERS" = some (.str "abcdef" t)
  g_WRONG : ∃ t, mg "WRONG" = some (.str "wrong" t)
  g_UNSET : ∃ t, mg "UNSET" = some (.str "unset" t)
  g_BEYOND : ∃ t, mg "BEYOND" = some (.str "beyond" t)
  g_END : ∃ t, mg "END" = some (.str "end" t)
structure Tx (mg : Str → Option Value) : Prop extends Bt mg, Cst mg
structure TxF (mg : Str → Option Value) (dF : Addr) : Prop extends Tx mg where
  g_FORMS : mg "FORMS" = some (.ref dF)
structure TxN (mg : Str → Option Value) (dN : Addr) : Prop extends Tx mg where
  g_NEEDS : mg "NEEDS" = some (.ref dN)
/-- the kinds of an instruction's words -/
def kindsS (i : PR.Ins) : Str := ⟨((PR.args i).map PR.Arg.kind).toArray⟩
structure Frm (K : PySem.W.Frag) (w : World) (mg : Str → Option Value) (dF : Addr) : Prop where
  g_FORMS : mg "FORMS" = some (.ref dF)
  at_ : ∀ i, KDo K w dF (PR.word i) (some (.str (kindsS i)))
structure Nds (K : PySem.W.Frag) (w : World) (mg : Str → Option Value) (dN : Addr) : Prop where
  g_NEEDS : mg "NEEDS" = some (.ref dN)
  at_ : ∀ i, (PR.needs i = [] ∧ KDo K w dN (PR.word i) none) ∨ ∃ ta, KDo K w dN (PR.word i) (some (.ref ta)) ∧ ∀ H, SqT K H ta ((PR.needs i).map fun p => V.int (p.1 : Int))
def spNumIn : Sp := fun vs H Q _ => ∃ (x : Str) (lo hi : Int) (n : Nat), vs = [.str x, .int lo, .int hi] ∧ PR.tl x = TL.numL n ∧ n < 10 ^ 9 ∧ lo ≤ (n : Int) ∧ (n : Int) ≤ hi ∧ ∀ H', Old [] H H' → Q (.int (n : Int)) H'
def spSigned : Sp := fun vs H Q _ => ∃ (i lo hi : Int), vs = [.str (PR.num i), .int lo, .int hi] ∧ -9999 ≤ i ∧ i ≤ 9999 ∧ lo ≤ i ∧ i ≤ hi ∧ ∀ H', Old [] H H' → Q (.int i) H'
theorem head_pos : ∀ n : Nat, 0 < n → ∀ c, (TL.numL n).head? = some c → c ≠ 48 := by
  intro n
  induction n using Nat.strongRecOn with
  | _ n ih =>
    intro hn c hc
    by_cases h : n < 10
    · rw [TL.numL_lt h] at hc
      simp at hc
      omega
    · rw [TL.numL_step (by omega)] at hc
      refine ih (n / 10) (by omega) (by omega) c ?_
      rw [List.head?_append] at hc
      cases e : (TL.numL (n / 10)).head? with
      | none => exact absurd (List.head?_eq_none_iff.mp e) (TL.numL_ne _)
      | some d => rw [e] at hc; exact hc
section
variable {P : Program} {w : World} {K : PySem.W.Frag} {mg : Str → Option Value} {base : Heap}
/-! number_in: slots word=0 low=1 high=2 sign=3; cells [] -/
abbrev s_number_in : Stmt := topS 8
abbrev N_number_in : List Str := ["word", "low", "high", "sign"]
theorem sc_number_in : FnScope N_number_in ["word", "low", "high"] (defScope s_number_in) := ⟨rfl, rfl, rfl, by decide +kernel, rfl, by decide +kernel, by decide +kernel⟩
theorem ok_number_in {f : Addr} {fd : FuncData} (F : Fun K "number_in" "number_in" s_number_in f fd) (T : Tx mg) : FnOk P w K mg base CX0 1 f fd ["word", "low", "high"] spNumIn := by
  refine F.ok sc_number_in (fun vs H Q E h => ?_) (fun cdv A outer s H vs Q E hr h => ?_)
  · obtain ⟨x, lo, hi, n, rfl, _⟩ := h
    rfl
  · obtain ⟨x, lo, hi, n, rfl, hx, hn, h1, h2, q⟩ := h
    have hlen : (PR.tl x).length ≤ 9 := by rw [hx]; exact TL.numL_len (by decide) hn
    have hlx : x.length = (PR.tl x).length := TL.len_tl x
    have hne : PR.tl x ≠ [] := by rw [hx]; exact TL.numL_ne n
    have hxe : x = PR.num (n : Int) := TL.ext_tl (hx.trans (PR.num_nat n).symm)
    have hdig : ∀ c ∈ PR.tl x, 48 ≤ c ∧ c ≤ 57 := by rw [hx]; exact TL.numL_digits n
    have hsz : x.cps.size = (PR.tl x).length := by simp [PR.tl]
    refine ⟨_, (pss_cons (ps_if (PW.pt (pw_or (pt_cmpR op_eq (pv 0) pe_str (nomark _)) (pw_or (pt_cmpR op_gt (pe_callB call_len_str (by rfl) T.z_len bz_len (pa_cons (pv 0) pa_nil)) pe_int (nomark _)) (pw_or1 (pt_not (pt_val (pe_callB (cr_all rfl) (by rfl) T.z_all bz_all (pa_cons (pe_lc (own := [("sign", 3)]) (g := gName 3) (tt := tYes) rfl sc_number_in.nd (pi_str (pv 0)) (blkOk_by (N := N_number_in) (sc := defScope s_number_in) (by decide +kernel)) (fun _ _ _ _ _ => (pg_name (i := 3) sc_number_in.nd rfl (Or.inl rfl))) (fun _ _ _ _ _ => pts_nil) (fun _ _ _ _ _ => (pe_cmpR op_in_sign (pv 3) (pe_gS (by rfl) T.g_FIGURES) (by rfl)))) pa_nil))))))))
       (pss_one (ps_ret pe_non))
       pss_nil)
      (pss_cons (ps_if (PW.pt (pw_or (PW.pt (pw_and (pt_cmpR op_eq (pe_ix ix_str (pv 0) pe_int (fun _ _ => rfl)) pe_str (nomark _)) (pw_and1 (pt_cmpR op_ne (pv 0) pe_str (nomark _))))) (pw_or1 (pt_not (pt_chain op_le op_le (pv 1) (pe_callTy call_int_str (by rfl) T.z_int bz_int (pa_cons (pv 0) pa_nil)) (pv 2))))))
       (pss_one (ps_ret pe_non))
       pss_nil)
      (pss_one (ps_ret (pe_callTy call_int_str (by rfl) T.z_int bz_int (pa_cons (pv 0) pa_nil)))))), ?_⟩
    have h1' := h1
    have h2' := h2
    have hx0 : x ≠ "" := fun z => hne (by rw [z]; rfl)
    have hint : intText? x = some (n : Int) := by rw [hxe]; exact TL.int_num (Nat.le_trans (by rw [← hx]; exact hlen) (by decide))
    have hz : x.length ≤ sizeLine := Nat.le_trans (by rw [hlx]; exact hlen) (by decide)
    refine ⟨.str x, rfl, rfl, false, sF hx0, iteF ?_⟩
    refine ⟨.str x, rfl, x, rfl, hz, (x.length : Int), 9, rfl, rfl, false, congrArg V.bl (decide_eq_false (by rw [hlx]; omega)), iteF ?_⟩
    refine ⟨.str x, rfl, x, rfl, fun D nD => ?_⟩
    refine lc_it walk_str (fun i H' => Old [] H H' ∧ H' D = some (.lst ((List.replicate i true).map V.bl))) ⟨Old.new0 nD, upd_same⟩ (fun _ _ _ _ => trivial) ?_ ?_
    · rintro i v H1 H2 hi ⟨o1, h1⟩ ⟨rfl, c, hc, rfl⟩
      have hm : c ∈ PR.tl x := by
        have : x.cps.toList[i]? = some c := by simpa using hc
        exact List.mem_of_getElem? this
      have hcd := hdig c hm
      have hin : c ∈ ("0123456789" : Str).cps.toList := by
        have e : ("0123456789" : Str).cps.toList = [48, 49, 50, 51, 52, 53, 54, 55, 56, 57] := by decide +kernel
        rw [e]
        simp only [List.mem_cons, List.not_mem_nil, or_false]
        omega
      refine ⟨rfl, .str ⟨#[c]⟩, rfl, c, _, rfl, rfl, _, h1, ?_, o1.put0 nD, ?_⟩
      · rw [List.length_map, List.length_replicate]
        exact Nat.lt_of_lt_of_le (Nat.lt_of_lt_of_le hi (by rw [hsz]; exact hlen)) (by decide)
      · rw [upd_same, List.replicate_succ', List.map_append, decide_eq_true hin]; rfl
    rintro H1 ⟨o1, h1d⟩
    refine ⟨D, _, rfl, SqL.of h1d, true, congrArg V.bl (by rw [List.all_eq_true]; intro b hb; rw [(List.mem_replicate.mp hb).2]; rfl), iteF ?_⟩
    obtain ⟨c, hc⟩ : ∃ c, (PR.tl x).head? = some c := by
      cases e : (PR.tl x).head? with
      | none => exact absurd (List.head?_eq_none_iff.mp e) hne
      | some c => exact ⟨c, rfl⟩
    have hat : atI x.cps.toList 0 = some c := atI_nat (j := 0) (by rw [← List.head?_eq_getElem?]; exact hc)
    by_cases h0 : n = 0
    · subst h0
      have x0 : x = "0" := by rw [hxe]; decide +kernel
      have hc48 : c = 48 := by
        rw [hx, TL.numL_lt (by decide)] at hc
        simpa using hc.symm
      refine ⟨.str x, rfl, x, 0, c, rfl, rfl, hz, hat, rfl, true, sT (by rw [hc48]; decide +kernel), iteT ?_⟩
      refine ⟨.str x, rfl, rfl, false, snF x0, iteF ?_⟩
      refine ⟨.int lo, rfl, .str x, rfl, x, _, rfl, hint, Nat.le_trans (by rw [hlx]; exact hlen) (by decide), lo, _, rfl, rfl, true, congrArg V.bl (decide_eq_true h1'), iteT ?_⟩
      refine ⟨.int hi, rfl, _, hi, rfl, rfl, true, congrArg V.bl (decide_eq_true h2'), iteF ?_⟩
      exact ⟨.str x, rfl, x, _, rfl, hint, Nat.le_trans (by rw [hlx]; exact hlen) (by decide), q _ o1⟩
    · have hc48 : c ≠ 48 := by
        rw [hx] at hc
        exact head_pos n (by omega) c hc
      refine ⟨.str x, rfl, x, 0, c, rfl, rfl, hz, hat, rfl, false, sF (fun z => hc48 ?_), iteF (iteF ?_)⟩
      · have z2 : #[c] = ("0" : Str).cps := congrArg Str.cps z
        have e : ("0" : Str).cps = #[48] := by decide +kernel
        rw [e] at z2
        simpa using z2
      refine ⟨.int lo, rfl, .str x, rfl, x, _, rfl, hint, Nat.le_trans (by rw [hlx]; exact hlen) (by decide), lo, _, rfl, rfl, true, congrArg V.bl (decide_eq_true h1'), iteT ?_⟩
      refine ⟨.int hi, rfl, _, hi, rfl, rfl, true, congrArg V.bl (decide_eq_true h2'), iteF ?_⟩
      exact ⟨.str x, rfl, x, _, rfl, hint, Nat.le_trans (by rw [hlx]; exact hlen) (by decide), q _ o1⟩
/-! signed_in: slots word=0 low=1 high=2 found=3; cells [] -/
abbrev s_signed_in : Stmt := topS 9
abbrev N_signed_in : List Str := ["word", "low", "high", "found"]
theorem sc_signed_in : FnScope N_signed_in ["word", "low", "high"] (defScope s_signed_in) := ⟨rfl, rfl, rfl, by decide +kernel, rfl, by decide +kernel, by decide +kernel⟩
theorem ok_signed_in {f : Addr} {fd : FuncData} (F : Fun K "signed_in" "signed_in" s_signed_in f fd) (T : Tx mg) (C_number_in : Cal P w K mg base CX0 "number_in" ["word", "low", "high"] 1 spNumIn) : FnOk P w K mg base CX0 2 f fd ["word", "low", "high"] spSigned := by
  refine F.ok sc_signed_in (fun vs H Q E h => ?_) (fun cdv A outer s H vs Q E hr h => ?_)
  · obtain ⟨i, lo, hi, rfl, _⟩ := h
    rfl
  · obtain ⟨i, lo, hi, rfl, i1, i2, h1, h2, q⟩ := h
    refine ⟨_, (pss_cons (ps_if (pt_cmpR op_ne (pe_slice sl_str (pv 0) po_none (po_some pe_int)) pe_str (nomark _))
       (pss_one (ps_ret (pe_cal C_number_in hr (by rfl) pass0 (pa_cons (pv 0) (pa_cons (pe_callB (call_max2 rfl) (by rfl) T.z_max bz_max (pa_cons (pv 1) (pa_cons pe_int pa_nil))) (pa_cons (pv 2) pa_nil))))))
       pss_nil)
      (pss_cons (ps_set (i := 3) sc_signed_in.nd rfl (.inl rfl) (pe_cal C_number_in hr (by rfl) pass0 (pa_cons (pe_slice sl_str (pv 0) (po_some pe_int) po_none) (pa_cons pe_int (pa_cons (pe_callB (call_max2 rfl) (by rfl) T.z_max bz_max (pa_cons (pe_un un_neg (pv 1)) (pa_cons pe_int pa_nil))) pa_nil)))))
      (pss_one (ps_ret (pe_ifExp (pt_cmpR op_isN (pv 3) pe_non (nomark _)) pe_non (pe_un un_neg (pv 3))))))), ?_⟩
    have hz : ∀ j : Int, -9999 ≤ j → j ≤ 9999 → (PR.num j).length ≤ sizeLine := fun j a b => by
      have e : (PR.num j).length = (PR.tl (PR.num j)).length := TL.len_tl _
      rw [e]; exact Nat.le_trans (PR.num_len a b) (by decide)
    have hcut := cut_to1 (PR.num i)
    have edash : ("-" : Str).cps.toList = [45] := by decide +kernel
    by_cases c : i < 0
    · have e1 : cutS (PR.num i) none (some 1) = "-" := TL.ext_tl (by
        show (cutS (PR.num i) none (some 1)).cps.toList = ("-" : Str).cps.toList
        rw [hcut, edash]
        have := PR.num_neg c
        show (PR.tl (PR.num i)).take 1 = [45]
        rw [this]; rfl)
      refine ⟨.str (PR.num i), rfl, 1, rfl, _, rfl, hz i i1 i2, rfl, false, snF e1, iteF ?_⟩
      have e2 : PR.tl (cutS (PR.num i) (some 1) none) = TL.numL i.natAbs := by
        show (cutS (PR.num i) (some 1) none).cps.toList = _
        rw [cut_from1]
        show (PR.tl (PR.num i)).drop 1 = _
        rw [PR.num_neg c]; rfl
      refine ⟨.str (PR.num i), rfl, 1, rfl, _, rfl, hz i i1 i2, .int lo, rfl, lo, rfl, -lo, 0, rfl, _, 1, _, i.natAbs, rfl, e2, by omega, by omega, ?_, fun H1 o1 => ?_⟩
      · show ((i.natAbs : Nat) : Int) ≤ if (0 : Int) > -lo then 0 else -lo
        split <;> omega
      · refine ⟨.int ((i.natAbs : Nat) : Int), rfl, rfl, false, rfl, iteF ?_⟩
        refine ⟨.int ((i.natAbs : Nat) : Int), rfl, _, rfl, ?_⟩
        have e3 : (-((i.natAbs : Nat) : Int)) = i := by omega
        dsimp only
        rw [e3]
        exact q H1 o1
    · obtain ⟨n, rfl⟩ : ∃ n : Nat, i = (n : Int) := ⟨i.toNat, by omega⟩
      have e1 : cutS (PR.num (n : Int)) none (some 1) ≠ "-" := fun z => by
        have z2 : (cutS (PR.num (n : Int)) none (some 1)).cps.toList = [45] := by rw [z, edash]
        rw [hcut] at z2
        have z3 : (PR.tl (PR.num (n : Int))).take 1 = [45] := z2
        rw [PR.num_nat] at z3
        have : 45 ∈ TL.numL n := List.mem_of_mem_take (by rw [z3]; exact .head _)
        exact TL.numL_free (.inl (by decide)) this
      refine ⟨.str (PR.num (n : Int)), rfl, 1, rfl, _, rfl, hz _ i1 i2, rfl, true, snT e1, iteT ?_⟩
      refine ⟨.str (PR.num (n : Int)), rfl, .int lo, rfl, lo, 0, rfl, .int hi, rfl, _, _, hi, n, rfl, PR.num_nat n, by omega, ?_, h2, q⟩
      show (if (0 : Int) > lo then 0 else lo) ≤ (n : Int)
      split <;> omega
end
end L2.T39

namespace L2.T39
open PySem PySem.Spec PyProof.Rows L2.PL
def spWordIn : Sp := fun vs H Q _ => ∃ (a : PR.Arg) (number : Nat), vs = [.str ⟨#[a.kind]⟩, .str a.txt, .int (number : Int)] ∧ a.ok number ∧ ∀ H', Old [] H H' → Q a.v H'
def spInsIn : Sp := fun vs H Q _ => ∃ (i : PR.Ins) (number : Nat), vs = [.str (PR.lineS i), .int (number : Int)] ∧ PR.insOk number i ∧ ∀ H' t, Old [] H H' → H' t = some (.tup (PR.insV i)) → Q (.ref t) H'
section
variable {P : Program} {w : World} {K : PySem.W.Frag} {mg : Str → Option Value} {base : Heap}
/-! word_in: slots kind=0 word=1 number=2; cells [] -/
abbrev s_word_in : Stmt := topS 25
abbrev N_word_in : List Str := ["kind", "word", "number"]
theorem sc_word_in : FnScope N_word_in ["kind", "word", "number"] (defScope s_word_in) := ⟨rfl, rfl, rfl, by decide +kernel, rfl, by decide +kernel, by decide +kernel⟩
theorem ok_word_in {f : Addr} {fd : FuncData} (F : Fun K "word_in" "word_in" s_word_in f fd) (T : Tx mg) (C_number_in : Cal P w K mg base CX0 "number_in" ["word", "low", "high"] 1 spNumIn) (C_signed_in : Cal P w K mg base CX0 "signed_in" ["word", "low", "high"] 2 spSigned) : FnOk P w K mg base CX0 3 f fd ["kind", "word", "number"] spWordIn := by
  refine F.ok sc_word_in (fun vs H Q E h => ?_) (fun cdv A outer s H vs Q E hr h => ?_)
  · obtain ⟨a, number, rfl, _⟩ := h
    rfl
  · obtain ⟨a, number, rfl, ok, q⟩ := h
    refine ⟨_, (pss_cons (ps_if (pt_cmpR op_eq (pv 0) pe_str (nomark _))
       (pss_one (ps_ret (pe_ifExp (PW.pt (pw_and (pt_cmpR op_eq (pe_callB call_len_str (by rfl) T.z_len bz_len (pa_cons (pv 1) pa_nil)) pe_int (nomark _)) (pw_and1 (pt_cmpR op_in_sign (pv 1) (pe_gS (by rfl) T.g_REGISTERS) (by rfl))))) (pv 1) pe_non)))
       pss_nil)
      (pss_cons (ps_if (pt_cmpR op_eq (pv 0) pe_str (nomark _))
       (pss_one (ps_ret (pe_cal C_signed_in hr (by rfl) pass0 (pa_cons (pv 1) (pa_cons (pe_un un_neg (pe_gI (by rfl) T.g_MOST_NUMBER)) (pa_cons (pe_gI (by rfl) T.g_MOST_NUMBER) pa_nil))))))
       pss_nil)
      (pss_one (ps_ret (pe_cal C_number_in hr (by rfl) pass0 (pa_cons (pv 1) (pa_cons (pe_op op_add (pv 2) pe_int) (pa_cons (pe_gI (by rfl) T.g_MOST_LINES) pa_nil)))))))), ?_⟩
    have er : ("r" : Str) = ⟨#[114]⟩ := by decide +kernel
    have en : ("n" : Str) = ⟨#[110]⟩ := by decide +kernel
    cases a with
    | r i =>
      refine ⟨.str ⟨#[114]⟩, rfl, rfl, true, sT er.symm, iteT ?_⟩
      have ok : i < 6 := ok
      have e : ("abcdef" : Str).cps.toList = [97, 98, 99, 100, 101, 102] := by decide +kernel
      refine ⟨.str (PR.rg i), rfl, _, rfl, (by show 1 ≤ sizeLine; decide), rfl, true, congrArg V.bl (decide_eq_true rfl), iteT ?_⟩
      refine ⟨.str (PR.rg i), rfl, 97 + i, "abcdef", rfl, rfl, true, congrArg V.bl (decide_eq_true ?_), iteT ⟨_, rfl, q H (Old.refl _ _)⟩⟩
      rw [e]
      simp only [List.mem_cons, List.not_mem_nil, or_false]
      omega
    | n i =>
      refine ⟨.str ⟨#[110]⟩, rfl, rfl, false, sF (by rw [er]; decide), iteF ?_⟩
      refine ⟨.str ⟨#[110]⟩, rfl, rfl, true, sT en.symm, iteT ?_⟩
      refine ⟨.str (PR.num i), rfl, 9999, rfl, i, -9999, 9999, rfl, ok.1, ok.2, ok.1, ok.2, q⟩
    | l g =>
      refine ⟨.str ⟨#[108]⟩, rfl, rfl, false, sF (by rw [er]; decide), iteF ?_⟩
      refine ⟨.str ⟨#[108]⟩, rfl, rfl, false, sF (by rw [en]; decide), iteF ?_⟩
      have ok : number < g ∧ g ≤ 200 := ok
      refine ⟨.str (PR.num (g : Int)), rfl, .int (number : Int), rfl, (number : Int), 1, rfl, rfl, _, _, 200, g, rfl, PR.num_nat g, by omega, by omega, by omega, q⟩
/-! instruction_in: slots line=0 number=1 words=2 kinds=3 found=4 kind=5 word=6; cells ['number'] -/
abbrev s_instruction_in : Stmt := topS 26
abbrev N_instruction_in : List Str := ["line", "number", "words", "kinds", "found", "kind", "word"]
theorem sc_instruction_in : FnScope N_instruction_in ["line", "number"] (defScope s_instruction_in) := ⟨rfl, rfl, rfl, by decide +kernel, rfl, by decide +kernel, by decide +kernel⟩
theorem ok_instruction_in {f : Addr} {fd : FuncData} {dF : Addr} (F : Fun K "instruction_in" "instruction_in" s_instruction_in f fd) (T₀ : Tx mg) (Fm : Frm K w mg dF) (C_word_in : Cal P w K mg base CX0 "word_in" ["kind", "word", "number"] 3 spWordIn) : FnOk P w K mg base CX0 4 f fd ["line", "number"] spInsIn := by
  have T : TxF mg dF := ⟨T₀, Fm.g_FORMS⟩
  refine F.ok sc_instruction_in (fun vs H Q E h => ?_) (fun cdv A outer s H vs Q E hr h => ?_)
  · obtain ⟨i, number, rfl, _⟩ := h
    rfl
  · obtain ⟨i, number, rfl, ok, q⟩ := h
    refine ⟨_, (pss_cons (ps_set (i := 2) sc_instruction_in.nd rfl (.inl rfl) (pe_split (pv 0) pe_str))
      (pss_cons (ps_set (i := 3) sc_instruction_in.nd rfl (.inl rfl) (pe_kget1 (pe_gR (by rfl) T.g_FORMS) (pe_ix ix_list (pv 2) pe_int (fun _ _ => rfl)) ⟨by rfl, by rfl, by rfl, by rfl⟩))
      (pss_cons (ps_if (PW.pt (pw_or (pt_cmpR op_isN (pv 3) pe_non (nomark _)) (pw_or1 (pt_cmpR op_ne (pe_callB call_len_str (by rfl) T.z_len bz_len (pa_cons (pv 3) pa_nil)) (pe_op op_sub (pe_callB call_len_seq (by rfl) T.z_len bz_len (pa_cons (pv 2) pa_nil)) pe_int) (nomark _)))))
       (pss_one (ps_ret pe_non))
       pss_nil)
      (pss_cons (ps_setLc (i := 4) (own := [("kind", 5), ("word", 6)]) (g := gTup K 2 (gCons (gName 5) (gCons (gName 6) gNil))) (tt := tYes) rfl sc_instruction_in.nd rfl rfl (sw_true rfl rfl rfl (by decide +kernel)) (pi_zipS (by rfl) T.z_zip (pa_cons (pv 3) (pa_cons (pe_slice sl_list (pv 2) (po_some pe_int) po_none) pa_nil))) (blkOk_by (N := N_instruction_in) (sc := defScope s_instruction_in) (by decide +kernel)) (fun _ _ _ _ _ => (pg_tup (by rfl) (pgs_cons (pg_name (i := 5) sc_instruction_in.nd rfl (Or.inl rfl)) (pgs_cons (pg_name (i := 6) sc_instruction_in.nd rfl (Or.inl rfl)) pgs_nil)))) (fun _ _ _ _ _ => pts_nil) (fun _ _ _ _ _ => (pe_cal C_word_in hr (by rfl) pass0 (pa_cons (pv 5) (pa_cons (pv 6) (pa_cons (pv 1) pa_nil))))))
      (pss_one (ps_ret (pe_ifExp (pt_cmpR op_in_seq pe_non (pv 4) (by rfl)) pe_non (pe_tup (pa_cons (pe_ix ix_list (pv 2) pe_int (fun _ _ => rfl)) (StX.pa_star (pv 4) pa_nil)))))))))), ?_⟩
    have hu := hu_of hr
    have hsp : ((" " : Str).length == 0) = false := by decide +kernel
    have hll := PR.line_len ok
    have hal := PR.args_len i
    refine ⟨.str (PR.lineS i), rfl, ⟨_, rfl⟩, _, " ", rfl, rfl, hsp, Nat.le_trans (Nat.add_le_add_right hll 2) (by decide), fun ws nws => ?_⟩
    rw [PR.line_split]
    have o1 : Old [] H (upd H ws (.lst ((PR.wordsS i).map V.str))) := Old.new0 nws
    have h1 : (upd H ws (.lst ((PR.wordsS i).map V.str))) ws = some (.lst ((PR.wordsS i).map V.str)) := upd_same
    generalize upd H ws (.lst ((PR.wordsS i).map V.str)) = H1 at o1 h1 ⊢
    clear nws
    refine ⟨dF, rfl, (Fm.at_ i).is, .ref ws, rfl, ws, _, 0, .str (PR.word i), rfl, rfl, SqL.of h1, atI_nat (j := 0) rfl, PR.word i, _, rfl, Fm.at_ i, ?_⟩
    have hks : (kindsS i).length = (PR.args i).length := by simp [kindsS, Str.length]
    refine ⟨.str (kindsS i), rfl, rfl, false, rfl, iteF ?_⟩
    refine ⟨.str (kindsS i), rfl, _, rfl, by rw [hks]; exact Nat.le_trans hal (by decide), .ref ws, rfl, ws, _, rfl, .inl (SqL.of h1), _, 1, rfl, rfl, rfl, false, ?_, iteF ?_⟩
    · have e : ((kindsS i).length : Int) = (((PR.wordsS i).map V.str).length : Int) - 1 := by
        rw [hks, List.length_map]
        show ((PR.args i).length : Int) = ((((PR.args i).map PR.Arg.txt).length + 1 : Nat) : Int) - 1
        rw [List.length_map]; omega
      dsimp only
      rw [e, decide_eq_true rfl]; rfl
    -- the words behind the first
    refine ⟨.str (kindsS i), rfl, .ref ws, rfl, 1, rfl, ws, _, rfl, SqL.of h1, fun b nb => ?_⟩
    have ecut : cutV ((PR.wordsS i).map V.str) (some 1) none = (PR.args i).map fun a => V.str a.txt := by
      rw [cutV_from1]
      show ((PR.args i).map PR.Arg.txt).map V.str = _
      rw [List.map_map]; rfl
    rw [ecut]
    have o2 : Old [] H1 (upd H1 b (.lst ((PR.args i).map fun a => V.str a.txt))) := Old.new0 nb
    have h2 : (upd H1 b (.lst ((PR.args i).map fun a => V.str a.txt))) b = some (.lst ((PR.args i).map fun a => V.str a.txt)) := upd_same
    generalize upd H1 b (.lst ((PR.args i).map fun a => V.str a.txt)) = H2 at o2 h2 ⊢
    clear nb
    have hall : (kindsS i).cps.all (· < 128) = true := by
      show (((PR.args i).map PR.Arg.kind).toArray).all (· < 128) = true
      rw [List.all_toArray, List.all_eq_true]
      intro c hc
      obtain ⟨a, _, rfl⟩ := List.mem_map.mp hc
      cases a <;> rfl
    refine ⟨kindsS i, b, _, rfl, hall, SqL.of h2, fun D nD => ?_⟩
    refine lc_it (walk_zipS (by rw [List.length_map]; exact hks)) (fun j H' => Old [] H2 H' ∧ H' D = some (.lst (((PR.args i).take j).map PR.Arg.v))) ⟨Old.new0 nD, upd_same⟩ (fun j H' _ h => SqL.of (h.1 _ _ (by simp) h2)) ?_ ?_
    · rintro j v H3 H4 hj ⟨o3, h3⟩ ⟨t, c, y, rfl, nt, rfl, hc, hy⟩
      rw [List.length_map] at hj
      have ea : (PR.args i)[j]? = some (PR.args i)[j] := List.getElem?_eq_getElem hj
      have hm : (PR.args i)[j] ∈ PR.args i := List.getElem_mem hj
      have hca : c = (PR.args i)[j].kind := by
        have : ((PR.args i).map PR.Arg.kind)[j]? = some c := by simpa [kindsS] using hc
        rw [List.getElem?_map, ea] at this
        exact (Option.some.inj this).symm
      rw [List.getElem?_map, ea] at hy
      have hya : y = .str (PR.args i)[j].txt := (Option.some.inj hy).symm
      subst hca hya
      have etake : (PR.args i).take (j + 1) = (PR.args i).take j ++ [(PR.args i)[j]] := List.take_succ_eq_append_getElem hj
      rw [etake]
      generalize (PR.args i)[j] = a at hm ⊢
      have nDt : D ≠ t := ne_of_none h3 nt
      refine ⟨t, _, rfl, SqT.of upd_same, rfl, _, _, rfl, _, _, rfl, rfl, rfl, ?_⟩
      refine ⟨.str ⟨#[a.kind]⟩, rfl, .str a.txt, rfl, .int (number : Int), rfl, a, number, rfl, ok a hm, fun H5 o5 => ?_⟩
      have o35 : Old [] H3 H5 := (Old.new0 nt).trans o5
      refine ⟨_, o35 _ _ (by simp) h3, ?_, (o3.trans o35).put0 nD, ?_⟩
      · rw [List.length_map, List.length_take]
        exact Nat.lt_of_le_of_lt (Nat.le_trans (Nat.min_le_right _ _) hal) (by decide)
      · rw [upd_same, List.map_append]; rfl
    rintro H3 ⟨o3, h3⟩
    rw [List.length_map, List.take_length] at h3
    have o03 := (o1.trans o2).trans o3
    have hw3 : H3 ws = some (.lst ((PR.wordsS i).map V.str)) := o3 _ _ (by simp) (o2 _ _ (by simp) h1)
    refine ⟨.ref D, rfl, D, _, rfl, .inl (SqL.of h3), rfl, PR.insV_flat i, false, ?_, iteF ?_⟩
    · show V.bl (if false = true then _ else inV .non ((PR.args i).map PR.Arg.v)) = _
      rw [if_neg (by decide), PR.insV_in]
    refine ⟨.ref ws, rfl, ws, _, 0, .str (PR.word i), rfl, rfl, SqL.of hw3, atI_nat (j := 0) rfl, .ref D, rfl, D, _, rfl, .inr (SqL.of h3), ?_, fun t nt => ?_⟩
    · show ((PR.args i).map PR.Arg.v ++ []).length + 1 ≤ sizeLine
      rw [List.append_nil, List.length_map]
      exact Nat.le_trans (Nat.succ_le_succ hal) (by decide)
    · refine q _ t (o03.new nt) ?_
      rw [upd_same, List.append_nil]; rfl
end
end L2.T39

namespace L2.T39
open PySem PySem.Spec PyProof.Rows L2.PL
/-- what the text says of Program -/
structure PrT (K : PySem.W.Frag) (C p0 p1 : Addr) : Prop where
  c : SlX.SCls K C
  s0 : SlX.Slot1 K C "own_lines" p0 0
  s1 : SlX.Slot1 K C "own_text" p1 1
/-- lines that may stand in a text -/
structure Lns (is : List PR.Ins) : Prop where
  ne : is ≠ []
  len : is.length ≤ 200
  ok : ∀ (k : Nat) i, is[k]? = some i → PR.insOk k i
def spRead (K : PySem.W.Frag) : Sp := fun vs H Q _ => ∃ (is : List PR.Ins), vs = [.str (PR.progS is)] ∧ Lns is ∧ ∀ H' t, Old [] H H' → Dp K H' (.ref t) (PR.linesD is) → Q (.ref t) H'
def spPrInit (K : PySem.W.Frag) (C : Addr) : Sp := fun vs H Q _ => ∃ (H0 : Hp) (a dx : Addr) (is : List PR.Ins), vs = [.ref a, .str (PR.progS is)] ∧ Lns is ∧ Old [] H0 H ∧ H0 a = none ∧ H0 dx = none ∧ dx ≠ a ∧ H a = some (.ins C dx []) ∧ H dx = some (.own a) ∧
  ∀ H' t, Old [] H0 H' → SlX.Slt H' a C dx [some (.ref t), some (.str (PR.progS is))] → Dp K H' (.ref t) (PR.linesD is) → Q .non H'
/-- p is the program of these lines -/
structure ProgAt (K : PySem.W.Frag) (C : Addr) (H : Hp) (p : Addr) (is : List PR.Ins) : Prop where
  ex : ∃ dx t, SlX.Slt H p C dx [some (.ref t), some (.str (PR.progS is))] ∧ Dp K H (.ref t) (PR.linesD is)
def spLines (K : PySem.W.Frag) (C : Addr) : Sp := fun vs H Q _ => ∃ (p dx : Addr) (v u : V), vs = [.ref p] ∧ SlX.Slt H p C dx [some v, some u] ∧ Q v H
theorem arg_dp {K : PySem.W.Frag} {H : Hp} : ∀ as : List PR.Arg, DpAll K H (as.map PR.Arg.v) (as.map PR.Arg.d)
  | [] => .nil
  | a :: as => .cons (by cases a with | r i => exact .str _ | n i => exact .int _ | l g => exact .int _) (arg_dp as)
theorem ins_dp {K : PySem.W.Frag} {H : Hp} {t : Addr} {i : PR.Ins} (h : H t = some (.tup (PR.insV i))) : Dp K H (.ref t) (PR.insD i) := .tup (SqT.of h) (.cons (.str _) (arg_dp _))
theorem insD_only (i : PR.Ins) : tupOnly (PR.insD i) = true := by
  cases i <;> rfl
theorem linesA_only (is : List PR.Ins) : tupOnlyAll (is.map PR.insD) = true := by
  induction is with
  | nil => rfl
  | cons i is ih =>
    show (tupOnly (PR.insD i) && tupOnlyAll (is.map PR.insD)) = true
    rw [insD_only, ih]; rfl
theorem linesD_only (is : List PR.Ins) : tupOnly (PR.linesD is) = true := linesA_only is
theorem ProgAt.keep {K : PySem.W.Frag} {C : Addr} {H H' : Hp} {p : Addr} {is : List PR.Ins} (h : ProgAt K C H p is) (o : Same H H') : ProgAt K C H' p is := by
  obtain ⟨dx, t, s, d⟩ := h.ex
  have oo : Old [] H H' := fun b u _ e => o b u e
  exact ⟨dx, t, Slt.same o s, PL.Dp.keep (oo.tk NoTup.nil) _ _ (linesD_only is) d⟩
theorem tk_of {G G' : Hp} {l : Addr} (h : ∀ b, b ≠ l → G' b = G b) (n : (∀ xs, G l ≠ some (.tup xs)) ∧ ∀ o u, G l ≠ some (.frz o u)) : Tk G G' := by
  refine ⟨fun b xs e => ?_, fun b o u e => ?_⟩
  · rw [h b (fun z => by rw [z] at e; exact n.1 _ e)]; exact e
  · rw [h b (fun z => by rw [z] at e; exact n.2 _ _ e)]; exact e
/-- no tuple, and not locked -/
def NT (o : Option HO) : Prop := (∀ xs, o ≠ some (.tup xs)) ∧ ∀ p u, o ≠ some (.frz p u)
theorem tk_slot {H : Hp} {a C dx : Addr} {vs : List (Option V)} (h1 : NT (H a)) (h2 : NT (H dx)) : Tk H (SlX.slH H a C dx vs) := by
  have st : ∀ b, (∀ o, H b = some o → ((∃ xs, o = .tup xs) ∨ ∃ p u, o = .frz p u) → SlX.slH H a C dx vs b = some o) := by
    intro b o e ho
    have n1 : b ≠ a := fun z => by
      rw [z] at e
      rcases ho with ⟨xs, rfl⟩ | ⟨p, u, rfl⟩
      · exact h1.1 _ e
      · exact h1.2 _ _ e
    have n2 : b ≠ dx := fun z => by
      rw [z] at e
      rcases ho with ⟨xs, rfl⟩ | ⟨p, u, rfl⟩
      · exact h2.1 _ e
      · exact h2.2 _ _ e
    rw [SlX.slH_ne n1 n2]; exact e
  exact ⟨fun b xs e => st b _ e (.inl ⟨xs, rfl⟩), fun b o u e => st b _ e (.inr ⟨o, u, rfl⟩)⟩
theorem nt_slO {a C dx : Addr} {vs : List (Option V)} : NT (some (SlX.SlO a C dx vs)) := ⟨fun xs z => (by unfold SlX.SlO at z; cases z), fun p u z => (by unfold SlX.SlO at z; cases z)⟩
theorem nt_xd : NT (some (HO.xd [])) := ⟨fun xs z => (nomatch z), fun p u z => (nomatch z)⟩
section
variable {P : Program} {w : World} {K : PySem.W.Frag} {mg : Str → Option Value} {base : Heap}
/-! read_lines: slots text=0 found=1 number=2 line=3 instruction=4; cells [] -/
abbrev s_read_lines : Stmt := topS 27
abbrev N_read_lines : List Str := ["text", "found", "number", "line", "instruction"]
theorem sc_read_lines : FnScope N_read_lines ["text"] (defScope s_read_lines) := ⟨rfl, rfl, rfl, by decide +kernel, rfl, by decide +kernel, by decide +kernel⟩
theorem ok_read_lines {f : Addr} {fd : FuncData} (F : Fun K "read_lines" "read_lines" s_read_lines f fd) (T : Tx mg) (C_instruction_in : Cal P w K mg base CX0 "instruction_in" ["line", "number"] 4 spInsIn) : FnOk P w K mg base CX0 5 f fd ["text"] (spRead K) := by
  refine F.ok sc_read_lines (fun vs H Q E h => ?_) (fun cdv A outer s H vs Q E hr h => ?_)
  · obtain ⟨is, rfl, _⟩ := h
    rfl
  · obtain ⟨is, rfl, L, q⟩ := h
    refine ⟨_, (pss_cons (ps_if (pt_not (pt_val (pe_callB call_isi (by rfl) T.z_isinstance bz_isinstance (pa_cons (pv 0) (pa_cons (pe_bltn (v := .ty "str") (by rfl) T.z_str bz_str rfl) pa_nil)))))
       pss_never
       pss_nil)
      (pss_cons (ps_set (i := 1) sc_read_lines.nd rfl (.inl rfl) (pe_lst pa_nil))
      (pss_cons (ps_for PassesOwn.never rfl (pi_enum (by rfl) T.z_enumerate (pa_cons (pe_split (pv 0) pe_str) pa_nil)) (pg_tup (by rfl) (pgs_cons (pg_name (i := 2) sc_read_lines.nd rfl (Or.inl rfl)) (pgs_cons (pg_name (i := 3) sc_read_lines.nd rfl (Or.inl rfl)) pgs_nil)))
       (pss_cons (ps_set (i := 4) sc_read_lines.nd rfl (.inl rfl) (pe_ifExp (pt_cmpR op_lt (pv 2) (pe_gI (by rfl) T.g_MOST_LINES) (nomark _)) (pe_cal C_instruction_in hr (by rfl) pass0 (pa_cons (pv 3) (pa_cons (pv 2) pa_nil))) pe_non))
        (pss_cons (ps_if (pt_cmpR op_isN (pv 4) pe_non (nomark _))
         pss_never
         pss_nil)
        (pss_one (ps_expr (pe_bm PySem.F.plainAttrs_list PySem.F.slot_list_append PySem.F.type_list_append mt_append (pv 1) (pa_cons (pv 4) pa_nil)))))))
      (pss_one (ps_ret (pe_callTy call_tuple_of (by rfl) T.z_tuple bz_tuple (pa_cons (pv 1) pa_nil))))))), ?_⟩
    have hlen := PR.prog_len L.len L.ok
    have hsp : (("\n" : Str).length == 0) = false := by decide +kernel
    refine ⟨.str _, rfl, .str _, .ty "str", _, _, true, rfl, .ty _, tyx_str _, kit_str_str, true, rfl, iteF ?_⟩
    refine ⟨Nat.zero_le _, fun fd nfd => ?_⟩
    have oA : Old [] H (upd H fd (.lst [])) := Old.new0 nfd
    have hA : (upd H fd (.lst [])) fd = some (.lst []) := upd_same
    generalize upd H fd (.lst []) = HA at oA hA ⊢
    refine ⟨.str (PR.progS is), rfl, ⟨_, rfl⟩, _, "\n", rfl, rfl, hsp, Nat.le_trans (Nat.add_le_add_right hlen 2) (by decide), fun ls nls => ?_⟩
    rw [PR.prog_split L.ne]
    have nfl : fd ≠ ls := ne_of_none hA nls
    have oB : Old [] H (upd HA ls (.lst ((is.map PR.lineS).map V.str))) := oA.new nls
    have hB : (upd HA ls (.lst ((is.map PR.lineS).map V.str))) fd = some (.lst []) := by rw [upd_ne nfl]; exact hA
    have hL : (upd HA ls (.lst ((is.map PR.lineS).map V.str))) ls = some (.lst ((is.map PR.lineS).map V.str)) := upd_same
    generalize upd HA ls (.lst ((is.map PR.lineS).map V.str)) = HB at oB hB hL ⊢
    have hls0 : H ls = none := oA.free nls (by simp)
    clear nls hA oA HA
    have hlen2 : ((is.map PR.lineS).map V.str).length = is.length := by rw [List.length_map, List.length_map]
    refine ⟨ls, _, rfl, SqL.of hL, ?_⟩
    refine for_it (walk_enum (K := K) (a := ls) (xs := (is.map PR.lineS).map V.str)) (fun j σ H' => ∃ (y2 y3 y4 : Option V) (rs : List V), σ = [some (.str (PR.progS is)), some (.ref fd), y2, y3, y4] ∧ Old [] H H' ∧ H' ls = some (.lst ((is.map PR.lineS).map V.str)) ∧ H' fd = some (.lst rs) ∧ DpAll K H' rs ((is.take j).map PR.insD))
      ⟨none, none, none, [], rfl, oB, hL, hB, .nil⟩ (fun j σ H' _ ⟨_, _, _, _, _, _, h, _⟩ => SqL.of h) ?_ ?_
    · rintro j v σ H1 H2 hj ⟨y2, y3, y4, rs, rfl, o1, h1, hf1, hd1⟩ ⟨t, x, y, rfl, nt, rfl, hx, hy⟩
      rw [hlen2] at hj
      cases hx
      have ei : is[j]? = some is[j] := List.getElem?_eq_getElem hj
      have hy : ((is.map PR.lineS).map V.str)[j]? = some y := hy
      rw [List.getElem?_map, List.getElem?_map, ei] at hy
      have ey : y = .str (PR.lineS is[j]) := (Option.some.inj hy).symm
      subst ey
      have ok := L.ok j is[j] ei
      rw [List.take_succ_eq_append_getElem hj, List.map_append]
      have hrl : rs.length = j := by rw [PL.DpAll.length hd1, List.length_map, List.length_take]; omega
      generalize is[j] = i at ok ⊢
      have L2' := L.len
      refine ⟨t, _, rfl, SqT.of upd_same, rfl, _, _, rfl, _, _, rfl, rfl, ?_⟩
      refine ⟨.int (j : Int), rfl, _, 200, rfl, rfl, true, congrArg V.bl (decide_eq_true (by omega)), iteT ?_⟩
      refine ⟨.str (PR.lineS i), rfl, .int (j : Int), rfl, i, j, rfl, ok, fun H3 u o3 hu => ?_⟩
      have o13 : Old [] H1 H3 := (Old.new0 nt).trans o3
      refine ⟨.ref u, rfl, rfl, _, rfl, iteF ?_⟩
      have hf3 := o13 _ _ (by simp) hf1
      have tkA : Tk H1 H3 := o13.tk NoTup.nil
      have tkB : Tk H3 (upd H3 fd (.lst (rs ++ [.ref u]))) := Old.tk (W := [fd]) ((Old.refl _ _).put (by simp)) (NoTup.one hf3)
      refine ⟨.ref fd, rfl, .inl ⟨rfl, _, SqL.of hf3⟩, .ref u, rfl, fd, rs, .ref u, rfl, rfl, hf3, ?_, _, _, _, _, rfl, (o1.trans o13).put0 nfd, ?_, upd_same, ?_⟩
      · rw [hrl]; exact Nat.lt_of_lt_of_le (Nat.lt_of_lt_of_le hj L2') (by decide)
      · rw [upd_ne nfl.symm]; exact o13 _ _ (by simp) h1
      · refine PL.DpAll.append (PL.Dp.keepAll (tkA.trans tkB) _ _ (linesA_only _) hd1) (.cons (PL.Dp.keep tkB _ _ (insD_only i) (ins_dp hu)) .nil)
    · rintro σ H1 ⟨y2, y3, y4, rs, rfl, o1, h1, hf1, hd1⟩
      rw [hlen2, List.take_length] at hd1
      refine ⟨.ref fd, rfl, fd, rs, rfl, .inl ⟨SqL.of hf1, fun t nt => ?_⟩⟩
      refine q _ t (o1.new nt) (.tup (SqT.of upd_same) (PL.Dp.keepAll ((Old.new0 nt).tk NoTup.nil) _ _ (linesA_only is) hd1))
/-! Program.__init__: slots self=0 text=1; cells [] -/
abbrev s_Pr_init : Stmt := inClass (topS 28) 1
abbrev N_Pr_init : List Str := ["self", "text"]
theorem sc_Pr_init : FnScope N_Pr_init ["self", "text"] (defScope s_Pr_init) := ⟨rfl, rfl, rfl, by decide +kernel, rfl, by decide +kernel, by decide +kernel⟩
theorem ok_pr_init {f C p0 p1 : Addr} {fd : FuncData} (F : Fun K "__init__" "Program.__init__" s_Pr_init f fd) (T : Tx mg) (T_Program : PrT K C p0 p1) (C_read_lines : Cal P w K mg base CX0 "read_lines" ["text"] 5 (spRead K)) : FnOk P w K mg base CX0 6 f fd ["self", "text"] (spPrInit K C) := by
  refine F.ok sc_Pr_init (fun vs H Q E h => ?_) (fun cdv A outer s H vs Q E hr h => ?_)
  · obtain ⟨H0, a, dx, is, rfl, _⟩ := h
    rfl
  · obtain ⟨H0, a, dx, is, rfl, L, o0, ha0, hx0, ndx, hai, hdx, q⟩ := h
    refine ⟨_, (pss_cons (ps_asg (pe_cal C_read_lines hr (by rfl) pass0 (pa_cons (pv 1) pa_nil)) (pg_sl (pv 0)))
      (pss_one (ps_asg (pv 1) (pg_sl (pv 0))))), ?_⟩
    have T0 := T_Program
    have s0 : SlX.Slt H a C dx [] := .inl ⟨hai, rfl⟩
    refine ⟨.str _, rfl, is, rfl, L, fun H1 t o1 ht => ?_⟩
    have s1 := Slt.same o1.same s0
    refine ⟨.ref a, rfl, a, C, dx, p0, _, 0, rfl, s1, T0.c, T0.s0, ?_⟩
    have oB : Old [] H0 (SlX.slH H1 a C dx (SlX.putS 0 (.ref t) [])) := (o0.trans o1).slot ha0 hx0
    have sB : SlX.Slt (SlX.slH H1 a C dx (SlX.putS 0 (.ref t) [])) a C dx [some (.ref t)] := SlX.slH_slt ndx
    have hB : Dp K (SlX.slH H1 a C dx (SlX.putS 0 (.ref t) [])) (.ref t) (PR.linesD is) := by
      refine PL.Dp.keep (tk_slot ?_ ?_) _ _ (linesD_only is) ht
      · rw [o1 _ _ (by simp) hai]; exact ⟨fun xs z => (nomatch z), fun p u z => (nomatch z)⟩
      · rw [o1 _ _ (by simp) hdx]; exact ⟨fun xs z => (nomatch z), fun p u z => (nomatch z)⟩
    have eA : (SlX.slH H1 a C dx (SlX.putS 0 (.ref t) [])) a = some (SlX.SlO a C dx (SlX.putS 0 (.ref t) [])) := upd_same
    have eX : (SlX.slH H1 a C dx (SlX.putS 0 (.ref t) [])) dx = some (.xd []) := by unfold SlX.slH; rw [upd_ne ndx, upd_same]
    generalize SlX.slH H1 a C dx (SlX.putS 0 (.ref t) []) = H2 at oB sB hB eA eX ⊢
    refine ⟨.str (PR.progS is), rfl, .ref a, rfl, a, C, dx, p1, _, 1, rfl, sB, T0.c, T0.s1, ?_⟩
    refine q _ t (oB.slot ha0 hx0) (SlX.slH_slt ndx) ?_
    exact PL.Dp.keep (tk_slot (by rw [eA]; exact nt_slO) (by rw [eX]; exact nt_xd)) _ _ (linesD_only is) hB
/-! Program.lines: slots self=0; cells [] -/
abbrev s_Pr_lines : Stmt := inClass (topS 28) 3
abbrev N_Pr_lines : List Str := ["self"]
theorem sc_Pr_lines : FnScope N_Pr_lines ["self"] (defScope s_Pr_lines) := ⟨rfl, rfl, rfl, by decide +kernel, rfl, by decide +kernel, by decide +kernel⟩
theorem ok_pr_lines {f C p0 p1 : Addr} {fd : FuncData} (F : Fun K "lines" "Program.lines" s_Pr_lines f fd) (T_Program : PrT K C p0 p1) : FnOk P w K mg base CX0 1 f fd ["self"] (spLines K C) := by
  refine F.ok sc_Pr_lines (fun vs H Q E h => ?_) (fun cdv A outer s H vs Q E hr h => ?_)
  · obtain ⟨p, dx, v, u, rfl, _⟩ := h
    rfl
  · obtain ⟨p, dx, v, u, rfl, sl, q⟩ := h
    refine ⟨_, (pss_one (ps_ret (SlX.pe_sl (pv 0)))), ?_⟩
    exact ⟨.ref p, rfl, p, C, dx, p0, _, 0, v, rfl, sl, T_Program.c, T_Program.s0, rfl, q⟩
end
end L2.T39

namespace L2.T39
open PySem PySem.Spec PyProof.Rows L2.PL
def spIsInt : Sp := fun vs H Q _ => ∃ i lo hi : Int, vs = [.int i, .int lo, .int hi] ∧ Q (.bl (decide (lo ≤ i) && decide (i ≤ hi))) H
/-- a packet -/
structure PkOk (pk : List Int) : Prop where
  l1 : 1 ≤ pk.length
  l2 : pk.length ≤ 24
  ok : ∀ c ∈ pk, 0 ≤ c ∧ c ≤ 255
def pkD (pk : List Int) : PyData := .tuple (pk.map .int)
theorem pkA_only (pk : List Int) : tupOnlyAll (pk.map PyData.int) = true := by
  induction pk with
  | nil => rfl
  | cons i is ih =>
    show (true && tupOnlyAll (is.map PyData.int)) = true
    rw [ih]; rfl
theorem pkD_only (pk : List Int) : tupOnly (pkD pk) = true := pkA_only pk
def spIsPk (K : PySem.W.Frag) : Sp := fun vs H Q _ => ∃ (v : V) (pk : List Int), vs = [v] ∧ Dp K H v (pkD pk) ∧ PkOk pk ∧ ∀ H', Old [] H H' → Q (.bl true) H'
def spLookPk (K : PySem.W.Frag) : Sp := fun vs H Q _ => ∃ (v : V) (pk : List Int), vs = [v] ∧ Dp K H v (pkD pk) ∧ PkOk pk ∧ ∀ H', Old [] H H' → Q .non H'
def spIsUnset (K : PySem.W.Frag) : Sp := fun vs H Q _ => ∃ (t kd : Addr) (i : PR.Ins) (kvs : List (Key × V)) (m : Nat → Bool), vs = [.ref t, .ref kd] ∧ SqT K H t (PR.insV i) ∧ H kd = some (.dK kvs) ∧ (∀ r, (valV kvs (.inr (PR.rg r))).isSome = m r) ∧ ∀ H', Old [] H H' → Q (.bl ((PR.needs i).any fun p => !m p.2)) H'
theorem needs_at : ∀ i, ∀ p ∈ PR.needs i, (PR.insV i)[p.1]? = some (.str (PR.rg p.2)) := by
  intro i p hp
  cases i <;> simp only [PR.needs, List.mem_cons, List.not_mem_nil, or_false] at hp
  case copy r s => subst hp; rfl
  case add r n => subst hp; rfl
  case load r s n => subst hp; rfl
  case less r s n l => rcases hp with rfl | rfl <;> rfl
  case atmost r n l => subst hp; rfl
  case same r n l => subst hp; rfl
theorem val_of {i : PR.Ins} {m : PR.Mem} (h : PR.unset i m = false) : ∀ p ∈ PR.needs i, m p.2 = some (PR.val m p.2) := by
  intro p hp
  unfold PR.unset at h
  have := List.any_eq_false.mp h p hp
  unfold PR.val
  cases e : m p.2 with
  | none => rw [e] at this; exact absurd rfl this
  | some v => rfl
section
variable {P : Program} {w : World} {K : PySem.W.Frag} {mg : Str → Option Value} {base : Heap}
/-! is_int: slots value=0 low=1 high=2; cells [] -/
abbrev s_is_int : Stmt := topS 7
abbrev N_is_int : List Str := ["value", "low", "high"]
theorem sc_is_int : FnScope N_is_int ["value", "low", "high"] (defScope s_is_int) := ⟨rfl, rfl, rfl, by decide +kernel, rfl, by decide +kernel, by decide +kernel⟩
theorem ok_is_int {f : Addr} {fd : FuncData} (F : Fun K "is_int" "is_int" s_is_int f fd) (T : Bt mg) : FnOk P w K mg base CX0 1 f fd ["value", "low", "high"] spIsInt := by
  refine F.ok sc_is_int (fun vs H Q E h => ?_) (fun cdv A outer s H vs Q E hr h => ?_)
  · obtain ⟨i, lo, hi, rfl, _⟩ := h
    rfl
  · obtain ⟨i, lo, hi, rfl, q⟩ := h
    refine ⟨_, (pss_one (ps_ret (pe_and (pe_callB call_isi (by rfl) T.z_isinstance bz_isinstance (pa_cons (pv 0) (pa_cons (pe_bltn (v := .ty "int") (by rfl) T.z_int bz_int rfl) pa_nil))) (pe_and (pe_not (pe_callB call_isi (by rfl) T.z_isinstance bz_isinstance (pa_cons (pv 0) (pa_cons (pe_bltn (v := .ty "bool") (by rfl) T.z_bool bz_bool rfl) pa_nil)))) (pe_one (pe_chain op_le op_le (pv 1) (pv 0) (pv 2))))))), ?_⟩
    refine ⟨.int i, rfl, .int i, .ty "int", _, _, true, rfl, .ty _, tyx_int i, kit_int_int, true, rfl, iteT ?_⟩
    refine ⟨.int i, rfl, .int i, .ty "bool", _, _, false, rfl, .ty _, tyx_int i, kit_int_bool, false, rfl, true, rfl, iteT ?_⟩
    refine ⟨.int lo, rfl, .int i, rfl, lo, i, rfl, rfl, _, rfl, ite2 (fun c => ?_) (fun c => ?_)⟩
    · refine ⟨.int hi, rfl, i, hi, rfl, rfl, ?_⟩
      rw [c] at q
      exact q
    · rw [Bool.not_eq_true] at c
      rw [c] at q
      exact q
/-! is_packet: slots value=0 cell=1; cells [] -/
abbrev s_is_packet : Stmt := topS 13
abbrev N_is_packet : List Str := ["value", "cell"]
theorem sc_is_packet : FnScope N_is_packet ["value"] (defScope s_is_packet) := ⟨rfl, rfl, rfl, by decide +kernel, rfl, by decide +kernel, by decide +kernel⟩
theorem ok_is_packet {f : Addr} {fd : FuncData} (F : Fun K "is_packet" "is_packet" s_is_packet f fd) (T : Tx mg) (C_is_int : Cal P w K mg base CX0 "is_int" ["value", "low", "high"] 1 spIsInt) : FnOk P w K mg base CX0 2 f fd ["value"] (spIsPk K) := by
  refine F.ok sc_is_packet (fun vs H Q E h => ?_) (fun cdv A outer s H vs Q E hr h => ?_)
  · obtain ⟨v, pk, rfl, _⟩ := h
    rfl
  · obtain ⟨v, pk, rfl, hd, ok, q⟩ := h
    obtain ⟨a, rfl, ha⟩ := dp_intTup hd
    have l1 := ok.l1
    have l2 := ok.l2
    refine ⟨_, (pss_cons (ps_if (PW.pt (pw_or (pt_not (pt_val (pe_callB call_isi (by rfl) T.z_isinstance bz_isinstance (pa_cons (pv 0) (pa_cons (pe_bltn (v := .ty "tuple") (by rfl) T.z_tuple bz_tuple rfl) pa_nil))))) (pw_or1 (pt_not (pt_chain op_le op_le pe_int (pe_callB call_len_seq (by rfl) T.z_len bz_len (pa_cons (pv 0) pa_nil)) (pe_gI (by rfl) T.g_MOST_CELLS))))))
       (pss_one (ps_ret pe_bl))
       pss_nil)
      (pss_one (ps_ret (pe_callB (cr_all rfl) (by rfl) T.z_all bz_all (pa_cons (pe_lc (own := [("cell", 1)]) (g := gName 1) (tt := tYes) rfl sc_is_packet.nd (pi_tup (pv 0)) (blkOk_by (N := N_is_packet) (sc := defScope s_is_packet) (by decide +kernel)) (fun _ _ _ _ _ => (pg_name (i := 1) sc_is_packet.nd rfl (Or.inl rfl))) (fun _ _ _ _ _ => pts_nil) (fun _ _ _ _ _ => (pe_cal C_is_int hr (by rfl) pass0 (pa_cons (pv 1) (pa_cons pe_int (pa_cons (pe_gI (by rfl) T.g_MOST_CELL) pa_nil)))))) pa_nil))))), ?_⟩
    refine ⟨.ref a, rfl, .ref a, .ty "tuple", _, _, true, rfl, .ty _, tyx_tup ha, kit_tup_tup, true, rfl, iteF ?_⟩
    refine ⟨.ref a, rfl, a, _, rfl, .inr ha, 1, _, rfl, rfl, true, congrArg V.bl (decide_eq_true (by rw [List.length_map]; omega)), iteT ?_⟩
    refine ⟨_, 24, rfl, rfl, true, congrArg V.bl (decide_eq_true (by rw [List.length_map]; omega)), iteF ?_⟩
    refine ⟨.ref a, rfl, a, rfl, ⟨_, ha⟩, fun D hD => ?_⟩
    refine lc_tup (K := K) (a := a) (xs := pk.map V.int) (fun i H' => Old [] H H' ∧ H' D = some (.lst ((List.replicate i true).map V.bl))) ⟨Old.new0 hD, upd_same⟩ (fun i H' _ h => (h.1.tk NoTup.nil).seq ha) ?_ ?_
    · rintro i y H1 hy ⟨o1, h1⟩
      have hi : i < pk.length := by have := (List.getElem?_eq_some_iff.mp hy).1; rw [List.length_map] at this; exact this
      rw [List.getElem?_map, List.getElem?_eq_getElem hi] at hy
      have ey : y = .int pk[i] := (Option.some.inj hy).symm
      subst ey
      have hc := ok.ok pk[i] (List.getElem_mem hi)
      generalize pk[i] = c at hc ⊢
      refine ⟨rfl, .int c, rfl, c, 0, 255, rfl, ?_⟩
      rw [show (decide ((0 : Int) ≤ c) && decide (c ≤ (255 : Int))) = true by simp; omega]
      refine ⟨_, h1, ?_, o1.put0 hD, ?_⟩
      · rw [List.length_map, List.length_replicate]; exact Nat.lt_of_lt_of_le (Nat.lt_of_lt_of_le hi l2) (by decide)
      · rw [upd_same, List.replicate_succ', List.map_append]; rfl
    · rintro H1 ⟨o1, h1⟩
      refine ⟨D, _, rfl, SqL.of h1, ?_⟩
      have e : (List.replicate (pk.map V.int).length true).all id = true := by
        rw [List.all_eq_true]
        intro b hb
        rw [(List.mem_replicate.mp hb).2]; rfl
      rw [e]
      exact q H1 o1
/-! look_at_packet: slots packet=0; cells [] -/
abbrev s_look_at_packet : Stmt := topS 14
abbrev N_look_at_packet : List Str := ["packet"]
theorem sc_look_at_packet : FnScope N_look_at_packet ["packet"] (defScope s_look_at_packet) := ⟨rfl, rfl, rfl, by decide +kernel, rfl, by decide +kernel, by decide +kernel⟩
theorem ok_look_at_packet {f : Addr} {fd : FuncData} (F : Fun K "look_at_packet" "look_at_packet" s_look_at_packet f fd) (C_is_packet : Cal P w K mg base CX0 "is_packet" ["value"] 2 (spIsPk K)) : FnOk P w K mg base CX0 3 f fd ["packet"] (spLookPk K) := by
  refine F.ok sc_look_at_packet (fun vs H Q E h => ?_) (fun cdv A outer s H vs Q E hr h => ?_)
  · obtain ⟨v, pk, rfl, _⟩ := h
    rfl
  · obtain ⟨v, pk, rfl, hd, ok, q⟩ := h
    refine ⟨_, (pss_one (ps_if (pt_not (pt_val (pe_cal C_is_packet hr (by rfl) pass0 (pa_cons (pv 0) pa_nil))))
       pss_never
       pss_nil)), ?_⟩
    exact ⟨v, rfl, v, pk, rfl, hd, ok, fun H1 o1 => ⟨true, rfl, iteF (q H1 o1)⟩⟩
/-! is_unset: slots instruction=0 known=1 at=2; cells ['instruction', 'known'] -/
abbrev s_is_unset : Stmt := topS 29
abbrev N_is_unset : List Str := ["instruction", "known", "at"]
theorem sc_is_unset : FnScope N_is_unset ["instruction", "known"] (defScope s_is_unset) := ⟨rfl, rfl, rfl, by decide +kernel, rfl, by decide +kernel, by decide +kernel⟩
theorem ok_is_unset {f : Addr} {fd : FuncData} {dN : Addr} (F : Fun K "is_unset" "is_unset" s_is_unset f fd) (T₀ : Tx mg) (Nd : Nds K w mg dN) : FnOk P w K mg base CX0 1 f fd ["instruction", "known"] (spIsUnset K) := by
  have T : TxN mg dN := ⟨T₀, Nd.g_NEEDS⟩
  refine F.ok sc_is_unset (fun vs H Q E h => ?_) (fun cdv A outer s H vs Q E hr h => ?_)
  · obtain ⟨t, kd, i, kvs, m, rfl, _⟩ := h
    rfl
  · obtain ⟨t, kd, i, kvs, m, rfl, ht, hk, mem, q⟩ := h
    have hu := hu_of hr
    refine ⟨_, (pss_one (ps_ret (pe_callB (cr_any rfl) (by rfl) T.z_any bz_any (pa_cons (pe_lc (own := [("at", 2)]) (g := gName 2) (tt := tYes) rfl sc_is_unset.nd (pi_tup (pe_kget2 (pe_gR (by rfl) T.g_NEEDS) (pe_ix ix_tup (pv 0) pe_int (fun _ _ => rfl)) (pe_tup pa_nil) ⟨by rfl, by rfl, by rfl, by rfl⟩)) (blkOk_by (N := N_is_unset) (sc := defScope s_is_unset) (by decide +kernel)) (fun _ _ _ _ _ => (pg_name (i := 2) sc_is_unset.nd rfl (Or.inl rfl))) (fun _ _ _ _ _ => pts_nil) (fun _ _ _ _ _ => (pe_cmp (pc_dnotin hu (pe_ix (ix_tupK (K := K)) (pv 0) (pv 2) (fun _ _ => rfl)) (pv 1)) rfl))) pa_nil)))), ?_⟩
    have isk : IsKD K dN := by
      rcases Nd.at_ i with ⟨_, k⟩ | ⟨ta, k, _⟩
      · exact k.is
      · exact k.is
    refine ⟨dN, rfl, isk, .ref t, rfl, t, _, 0, .str (PR.word i), rfl, rfl, ht, atI_nat (j := 0) rfl, Nat.zero_le _, fun p np => ?_⟩
    have o1 : Old [] H (upd H p (.tup [])) := Old.new0 np
    have hp1 : (upd H p (.tup [])) p = some (.tup []) := upd_same
    generalize upd H p (.tup []) = H1 at o1 hp1 ⊢
    clear np
    obtain ⟨o, tt, kd', hv, hsq⟩ : ∃ (o : Option V) (tt : Addr), KDo K w dN (PR.word i) o ∧ o.getD (.ref p) = .ref tt ∧ ∀ H', Old [] H1 H' → SqT K H' tt ((PR.needs i).map fun p => V.int (p.1 : Int)) := by
      rcases Nd.at_ i with ⟨e, k⟩ | ⟨ta, k, hs⟩
      · refine ⟨none, p, k, rfl, fun H' o' => ?_⟩
        rw [e]
        exact (o'.tk NoTup.nil).seq (SqT.of hp1)
      · exact ⟨_, ta, k, rfl, fun H' _ => hs H'⟩
    refine ⟨PR.word i, o, rfl, kd', ?_⟩
    rw [hv]
    refine ⟨tt, rfl, ⟨_, hsq H1 (Old.refl _ _)⟩, fun D nD => ?_⟩
    refine lc_tup (K := K) (a := tt) (xs := (PR.needs i).map fun p => V.int (p.1 : Int)) (fun j H' => Old [] H1 H' ∧ H' D = some (.lst ((((PR.needs i).take j).map fun p => !m p.2).map V.bl))) ⟨Old.new0 nD, upd_same⟩ (fun j H' _ h => hsq H' h.1) ?_ ?_
    · rintro j y H2 hy ⟨o2, h2⟩
      have hj : j < (PR.needs i).length := by have := (List.getElem?_eq_some_iff.mp hy).1; rw [List.length_map] at this; exact this
      rw [List.getElem?_map, List.getElem?_eq_getElem hj] at hy
      have ey : y = .int ((PR.needs i)[j].1 : Int) := (Option.some.inj hy).symm
      subst ey
      have hm := List.getElem_mem hj
      have hn := needs_at i _ hm
      rw [List.take_succ_eq_append_getElem hj]
      generalize (PR.needs i)[j] = pr at hn ⊢
      have ht2 := ((o1.trans o2).tk NoTup.nil).seq ht
      have hk2 := (o1.trans o2) _ _ (by simp) hk
      refine ⟨rfl, .ref t, rfl, .int (pr.1 : Int), rfl, t, _, (pr.1 : Int), .str (PR.rg pr.2), rfl, rfl, ht2, atI_nat hn, .ref kd, rfl, kd, _, rfl, DGet.k (k := .inr (PR.rg pr.2)) hk2, ?_⟩
      rw [mem]
      refine ⟨_, h2, ?_, o2.put0 nD, ?_⟩
      · rw [List.length_map, List.length_map, List.length_take]
        have : (PR.needs i).length ≤ 2 := by cases i <;> simp [PR.needs]
        exact Nat.lt_of_le_of_lt (Nat.le_trans (Nat.min_le_right _ _) this) (by decide)
      · rw [upd_same, List.map_append, List.map_append]; rfl
    · rintro H2 ⟨o2, h2⟩
      rw [List.length_map, List.take_length] at h2
      refine ⟨D, _, rfl, SqL.of h2, ?_⟩
      have e : (((PR.needs i).map fun p => !m p.2).any id) = (PR.needs i).any fun p => !m p.2 := by
        rw [List.any_map]; rfl
      rw [e]
      exact q H2 (o1.trans o2)
end
end L2.T39

/-! paths of choices as plain data: terms, bounds, splits; the program's walk (step, look, take) -/
namespace L2.PW
open PySem PySem.Spec PyProof.Rows L2.PL L2.PR
abbrev Tm := Nat × Int
abbrev Bd := Nat × Nat × Int
abbrev Mt := Nat → Option Tm
def atMost (a b : Tm) (n : Int) : Bd := (a.1, b.1, n - a.2 + b.2)
def putT (m : Mt) (r : Nat) (t : Tm) : Mt := fun x => if x = r then some t else m x
def tm (m : Mt) (r : Nat) : Tm := (m r).getD (0, 0)
def first : List Bd := [(1, 0, 24), (0, 1, -1)]
def nought : Tm := (0, 0)
def length_ : Tm := (1, 0)
/-- the two terms and the number of a test -/
def testOf (m : Mt) : Ins → Tm × Tm × Int
  | .less r s n _ => (tm m r, tm m s, n)
  | .atmost r n _ => (tm m r, nought, n)
  | .same r n _ => (tm m r, nought, n)
  | _ => (nought, nought, 0)
def isSame : Ins → Bool
  | .same .. => true
  | _ => false
def testOpts (m : Mt) (i : Ins) : List (List Bd) :=
  let (a, b, n) := testOf m i
  if isSame i = true then [[atMost a b n, atMost b a (-n)], [atMost a b (n - 1)], [atMost b a (-n - 1)]]
  else [[atMost a b n], [atMost b a (-n - 1)]]
def placeOpts (p : Tm) : List (List Bd) := [[atMost p nought (-1)], [atMost length_ p 0], [atMost nought p 0, atMost p length_ (-1)]]
def cellOpts (p q : Tm) : List (List Bd) := [[atMost p q 0, atMost q p 0], [atMost p q (-1)], [atMost q p (-1)]]
def unsetT (i : Ins) (m : Mt) : Bool := (needs i).any fun p => (m p.2).isNone
def isTest : Ins → Bool
  | .less .. => true
  | .atmost .. => true
  | .same .. => true
  | _ => false
/-- the place of a load, the register it sets -/
def placeOf (m : Mt) : Ins → Tm
  | .load _ s n => ((tm m s).1, (tm m s).2 + n)
  | _ => nought
def regOf : Ins → Nat
  | .set r _ => r
  | .copy r _ => r
  | .add r _ => r
  | .length r => r
  | .load r _ _ => r
  | .less r _ _ _ => r
  | .atmost r _ _ => r
  | .same r _ _ => r
  | _ => 0
/-- the term that a store sets -/
def termOf (m : Mt) : Ins → Tm
  | .set _ n => (0, n)
  | .length _ => (1, 0)
  | .copy _ s => tm m s
  | .add r n => ((tm m r).1, (tm m r).2 + n)
  | _ => nought
structure Wk where
  at_ : Nat
  bounds : List Bd
  came : List (Nat × Nat)
  cells : List (Tm × Nat)
  ends : List Told
  many : Nat
  options : Option (List (List Bd))
  pending : Option (Tm × Nat)
  terms : Mt
def start : Wk := ⟨0, first, [], [], [], 2, none, none, fun _ => none⟩
def Wk.finish (w : Wk) (t : Told) : Wk := { w with ends := w.ends ++ [t], at_ := 0, terms := fun _ => none }
def linesAt (ps : List (List Ins)) (w : Wk) : List Ins := (ps[w.ends.length]?).getD []
def Wk.load (w : Wk) (i : Ins) (v : Nat) : Wk := { w with terms := putT w.terms (regOf i) (v, 0), pending := none, at_ := w.at_ + 1 }
def endOf (i : Ins) (a : Nat) : Told := match i with
  | .pass => .passed a
  | _ => .dropped a
def isLoad : Ins → Bool
  | .load .. => true
  | _ => false
def isHop : Ins → Bool
  | .jump _ => true
  | _ => false
/-- what step does at an instruction, come noted -/
def Wk.does (w : Wk) (i : Ins) : Wk :=
  if isEnd i = true then w.finish (endOf i w.at_)
  else if unsetT i w.terms = true then w.finish (.unset w.at_)
  else if isHop i = true then { w with at_ := goal i }
  else if isTest i = true then { w with options := some (testOpts w.terms i) }
  else if isLoad i = true then { w with options := some (placeOpts (placeOf w.terms i)) }
  else { w with terms := putT w.terms (regOf i) (termOf w.terms i), at_ := w.at_ + 1 }
def Wk.step (ps : List (List Ins)) (w : Wk) : Wk :=
  match (linesAt ps w)[w.at_]? with
  | none => w.finish (.end_ (linesAt ps w).length)
  | some i => Wk.does { w with came := w.came ++ [(w.ends.length, w.at_)] } i
/-- a new cell -/
def Wk.fresh (w : Wk) (i : Ins) (p : Tm) : Wk :=
  Wk.load { w with many := w.many + 1, bounds := w.bounds ++ [(w.many, 0, 255), (0, w.many, 0)], cells := w.cells ++ [(p, w.many)] } i w.many
/-- look at the cells from a number on -/
def Wk.lookF (w : Wk) (i : Ins) (p : Tm) : List (Tm × Nat) → Nat → Wk
  | [], _ => w.fresh i p
  | (q, v) :: more, n =>
    if q = p then w.load i v
    else if q.1 = p.1 then w.lookF i p more (n + 1)
    else { w with options := some (cellOpts p q), pending := some (p, n) }
def insAt (ps : List (List Ins)) (w : Wk) : Ins := ((linesAt ps w)[w.at_]?).getD .pass
def Wk.look (ps : List (List Ins)) (w : Wk) (p : Tm) (n : Nat) : Wk := w.lookF (insAt ps w) p (w.cells.drop n) n
def Wk.goF (ps : List (List Ins)) : Nat → Wk → Wk
  | 0, w => w
  | F + 1, w =>
    if w.options.isSome = true ∨ w.ends.length = ps.length then w
    else match w.pending with
      | none => Wk.goF ps F (w.step ps)
      | some (p, n) => Wk.goF ps F (w.look ps p n)
def Wk.takeF (ps : List (List Ins)) (w : Wk) (opts : List (List Bd)) (c : Nat) : Wk :=
  let i := insAt ps w
  let w1 := { w with bounds := w.bounds ++ (opts[c]?).getD [], options := none }
  match w.pending with
  | some (p, n) => if c = 0 then w1.load i ((w.cells[n]?).getD ((0, 0), 0)).2 else { w1 with pending := some (p, n + 1) }
  | none =>
    if isLoad i = false then { w1 with at_ := if c = 0 then goal i else w.at_ + 1 }
    else if c = 2 then { w1 with pending := some (placeOf w.terms i, 0) }
    else w1.finish (.beyond w.at_)
end L2.PW

namespace L2.T39
open PySem PySem.Spec PyProof.Rows L2.PL
def tmD (t : PW.Tm) : PyData := .tuple [.int (t.1 : Int), .int t.2]
def bdD (b : PW.Bd) : PyData := .tuple [.int (b.1 : Int), .int (b.2.1 : Int), .int b.2.2]
def bdsD (bs : List PW.Bd) : PyData := .tuple (bs.map bdD)
def optsD (os : List (List PW.Bd)) : PyData := .tuple (os.map bdsD)
theorem tm_at {K : PySem.W.Frag} {H : Hp} {v : V} {t : PW.Tm} (h : Dp K H v (tmD t)) : ∃ a, v = .ref a ∧ SqT K H a [.int (t.1 : Int), .int t.2] := by
  obtain ⟨a, xs, e, h1, h2⟩ := dp_tup h
  cases h2 with
  | cons p q =>
    cases q with
    | cons r s =>
      cases s
      cases p
      cases r
      exact ⟨a, e, h1⟩
def spAtMost (K : PySem.W.Frag) : Sp := fun vs H Q _ => ∃ (v u : V) (a b : PW.Tm) (n : Int), vs = [v, u, .int n] ∧ Dp K H v (tmD a) ∧ Dp K H u (tmD b) ∧ ∀ H' t, Old [] H H' → Dp K H' (.ref t) (bdD (PW.atMost a b n)) → Q (.ref t) H'
section
variable {P : Program} {w : World} {K : PySem.W.Frag} {mg : Str → Option Value} {base : Heap}
/-! at_most: slots one=0 other=1 number=2; cells [] -/
abbrev s_at_most : Stmt := topS 34
abbrev N_at_most : List Str := ["one", "other", "number"]
theorem sc_at_most : FnScope N_at_most ["one", "other", "number"] (defScope s_at_most) := ⟨rfl, rfl, rfl, by decide +kernel, rfl, by decide +kernel, by decide +kernel⟩
theorem ok_at_most {f : Addr} {fd : FuncData} (F : Fun K "at_most" "at_most" s_at_most f fd) : FnOk P w K mg base CX0 1 f fd ["one", "other", "number"] (spAtMost K) := by
  refine F.ok sc_at_most (fun vs H Q E h => ?_) (fun cdv A outer s H vs Q E hr h => ?_)
  · obtain ⟨v, u, a, b, n, rfl, _⟩ := h
    rfl
  · obtain ⟨v, u, a, b, n, rfl, ha, hb, q⟩ := h
    obtain ⟨ta, rfl, sa⟩ := tm_at ha
    obtain ⟨tb, rfl, sb⟩ := tm_at hb
    refine ⟨_, (pss_one (ps_ret (pe_tup (pa_cons (pe_ix ix_tup (pv 0) pe_int (fun _ _ => rfl)) (pa_cons (pe_ix ix_tup (pv 1) pe_int (fun _ _ => rfl)) (pa_cons (pe_op op_add (pe_op op_sub (pv 2) (pe_ix ix_tup (pv 0) pe_int (fun _ _ => rfl))) (pe_ix ix_tup (pv 1) pe_int (fun _ _ => rfl))) pa_nil)))))), ?_⟩
    refine ⟨.ref ta, rfl, ta, _, 0, _, rfl, rfl, sa, rfl, .ref tb, rfl, tb, _, 0, _, rfl, rfl, sb, rfl, .int n, rfl, .ref ta, rfl, ta, _, 1, _, rfl, rfl, sa, rfl, n, a.2, rfl, rfl, .ref tb, rfl, tb, _, 1, _, rfl, rfl, sb, rfl, _, b.2, rfl, rfl, by show 3 ≤ sizeLine; decide, fun t nt => ?_⟩
    exact q _ t (Old.new0 nt) (.tup (SqT.of upd_same) (.cons (.int _) (.cons (.int _) (.cons (.int _) .nil))))
theorem dp1 {H : Hp} {p : Addr} {v : V} {d : PyData} (h : H p = some (.tup [v])) (a : Dp K H v d) : Dp K H (.ref p) (.tuple [d]) := .tup (SqT.of h) (.cons a .nil)
theorem dp2 {H : Hp} {p : Addr} {v u : V} {d e : PyData} (h : H p = some (.tup [v, u])) (a : Dp K H v d) (b : Dp K H u e) : Dp K H (.ref p) (.tuple [d, e]) := .tup (SqT.of h) (.cons a (.cons b .nil))
theorem dp3 {H : Hp} {p : Addr} {v u x : V} {d e f : PyData} (h : H p = some (.tup [v, u, x])) (a : Dp K H v d) (b : Dp K H u e) (c : Dp K H x f) : Dp K H (.ref p) (.tuple [d, e, f]) := .tup (SqT.of h) (.cons a (.cons b (.cons c .nil)))
theorem keepD {H H' : Hp} {v : V} {d : PyData} (o : Old [] H H') (t : tupOnly d = true) (h : Dp K H v d) : Dp K H' v d := PL.Dp.keep (o.tk NoTup.nil) _ _ t h
def spPlace (K : PySem.W.Frag) : Sp := fun vs H Q _ => ∃ (v : V) (a : PW.Tm), vs = [v] ∧ Dp K H v (tmD a) ∧ ∀ H' t, Old [] H H' → Dp K H' (.ref t) (optsD (PW.placeOpts a)) → Q (.ref t) H'
def spCell (K : PySem.W.Frag) : Sp := fun vs H Q _ => ∃ (v u : V) (a b : PW.Tm), vs = [v, u] ∧ Dp K H v (tmD a) ∧ Dp K H u (tmD b) ∧ ∀ H' t, Old [] H H' → Dp K H' (.ref t) (optsD (PW.cellOpts a b)) → Q (.ref t) H'
/-! cell_options: slots place=0 other=1 alike=2; cells [] -/
abbrev s_cell_options : Stmt := topS 37
abbrev N_cell_options : List Str := ["place", "other", "alike"]
theorem sc_cell_options : FnScope N_cell_options ["place", "other"] (defScope s_cell_options) := ⟨rfl, rfl, rfl, by decide +kernel, rfl, by decide +kernel, by decide +kernel⟩
theorem ok_cell_options {f : Addr} {fd : FuncData} (F : Fun K "cell_options" "cell_options" s_cell_options f fd) (C_at_most : Cal P w K mg base CX0 "at_most" ["one", "other", "number"] 1 (spAtMost K)) : FnOk P w K mg base CX0 2 f fd ["place", "other"] (spCell K) := by
  refine F.ok sc_cell_options (fun vs H Q E h => ?_) (fun cdv A outer s H vs Q E hr h => ?_)
  · obtain ⟨v, u, a, b, rfl, _⟩ := h
    rfl
  · obtain ⟨v, u, a, b, rfl, ha, hb, q⟩ := h
    refine ⟨_, (pss_cons (ps_set (i := 2) sc_cell_options.nd rfl (.inl rfl) (pe_tup (pa_cons (pe_cal C_at_most hr (by rfl) pass0 (pa_cons (pv 0) (pa_cons (pv 1) (pa_cons pe_int pa_nil)))) (pa_cons (pe_cal C_at_most hr (by rfl) pass0 (pa_cons (pv 1) (pa_cons (pv 0) (pa_cons pe_int pa_nil)))) pa_nil))))
      (pss_one (ps_ret (pe_tup (pa_cons (pv 2) (pa_cons (pe_tup (pa_cons (pe_cal C_at_most hr (by rfl) pass0 (pa_cons (pv 0) (pa_cons (pv 1) (pa_cons (pe_un un_neg pe_int) pa_nil)))) pa_nil)) (pa_cons (pe_tup (pa_cons (pe_cal C_at_most hr (by rfl) pass0 (pa_cons (pv 1) (pa_cons (pv 0) (pa_cons (pe_un un_neg pe_int) pa_nil)))) pa_nil)) pa_nil))))))), ?_⟩
    refine ⟨v, rfl, u, rfl, v, u, a, b, 0, rfl, ha, hb, fun H1 t1 o1 d1 => ?_⟩
    refine ⟨u, rfl, v, rfl, u, v, b, a, 0, rfl, keepD o1 rfl hb, keepD o1 rfl ha, fun H2 t2 o2 d2 => ⟨by show 2 ≤ sizeLine; decide, fun p np => ?_⟩⟩
    have o3 : Old [] H2 (upd H2 p (.tup [.ref t1, .ref t2])) := Old.new0 np
    have dA : Dp K (upd H2 p (.tup [.ref t1, .ref t2])) (.ref p) (bdsD [PW.atMost a b 0, PW.atMost b a 0]) := dp2 upd_same (keepD (o2.trans o3) rfl d1) (keepD o3 rfl d2)
    generalize upd H2 p (.tup [.ref t1, .ref t2]) = H3 at o3 dA ⊢
    have oa := (o1.trans o2).trans o3
    refine ⟨.ref p, rfl, v, rfl, u, rfl, 1, rfl, v, u, a, b, -1, rfl, keepD oa rfl ha, keepD oa rfl hb, fun H4 t4 o4 d4 => ⟨by show 1 ≤ sizeLine; decide, fun p5 np5 => ?_⟩⟩
    have o5 : Old [] H4 (upd H4 p5 (.tup [.ref t4])) := Old.new0 np5
    have dB : Dp K (upd H4 p5 (.tup [.ref t4])) (.ref p5) (bdsD [PW.atMost a b (-1)]) := dp1 upd_same (keepD o5 rfl d4)
    have dA := keepD (o4.trans o5) rfl dA
    generalize upd H4 p5 (.tup [.ref t4]) = H5 at o5 dA dB ⊢
    have ob := (oa.trans o4).trans o5
    refine ⟨u, rfl, v, rfl, 1, rfl, u, v, b, a, -1, rfl, keepD ob rfl hb, keepD ob rfl ha, fun H6 t6 o6 d6 => ⟨by show 1 ≤ sizeLine; decide, fun p7 np7 => ?_⟩⟩
    have o7 : Old [] H6 (upd H6 p7 (.tup [.ref t6])) := Old.new0 np7
    have dC : Dp K (upd H6 p7 (.tup [.ref t6])) (.ref p7) (bdsD [PW.atMost b a (-1)]) := dp1 upd_same (keepD o7 rfl d6)
    have dA := keepD (o6.trans o7) rfl dA
    have dB := keepD (o6.trans o7) rfl dB
    generalize upd H6 p7 (.tup [.ref t6]) = H7 at o7 dA dB dC ⊢
    refine ⟨by show 3 ≤ sizeLine; decide, fun p8 np8 => ?_⟩
    have o8 : Old [] H7 (upd H7 p8 (.tup [.ref p, .ref p5, .ref p7])) := Old.new0 np8
    exact q _ p8 (((ob.trans o6).trans o7).trans o8) (dp3 upd_same (keepD o8 rfl dA) (keepD o8 rfl dB) (keepD o8 rfl dC))
/-! place_options: slots place=0 nought=1 length=2 within=3; cells [] -/
abbrev s_place_options : Stmt := topS 36
abbrev N_place_options : List Str := ["place", "nought", "length", "within"]
theorem sc_place_options : FnScope N_place_options ["place"] (defScope s_place_options) := ⟨rfl, rfl, rfl, by decide +kernel, rfl, by decide +kernel, by decide +kernel⟩
theorem ok_place_options {f : Addr} {fd : FuncData} (F : Fun K "place_options" "place_options" s_place_options f fd) (T : Tx mg) (C_at_most : Cal P w K mg base CX0 "at_most" ["one", "other", "number"] 1 (spAtMost K)) : FnOk P w K mg base CX0 2 f fd ["place"] (spPlace K) := by
  refine F.ok sc_place_options (fun vs H Q E h => ?_) (fun cdv A outer s H vs Q E hr h => ?_)
  · obtain ⟨v, a, rfl, _⟩ := h
    rfl
  · obtain ⟨v, a, rfl, ha, q⟩ := h
    refine ⟨_, (pss_cons (ps_par (i := 1) (j := 2) (by rfl) sc_place_options.nd rfl rfl (by decide) rfl rfl (pa_cons (pe_tup (pa_cons (pe_gI (by rfl) T.g_NOUGHT) (pa_cons pe_int pa_nil))) (pa_cons (pe_tup (pa_cons (pe_gI (by rfl) T.g_LENGTH) (pa_cons pe_int pa_nil))) pa_nil)) (by rfl))
      (pss_cons (ps_set (i := 3) sc_place_options.nd rfl (.inl rfl) (pe_tup (pa_cons (pe_cal C_at_most hr (by rfl) pass0 (pa_cons (pv 1) (pa_cons (pv 0) (pa_cons pe_int pa_nil)))) (pa_cons (pe_cal C_at_most hr (by rfl) pass0 (pa_cons (pv 0) (pa_cons (pv 2) (pa_cons (pe_un un_neg pe_int) pa_nil)))) pa_nil))))
      (pss_one (ps_ret (pe_tup (pa_cons (pe_tup (pa_cons (pe_cal C_at_most hr (by rfl) pass0 (pa_cons (pv 0) (pa_cons (pv 1) (pa_cons (pe_un un_neg pe_int) pa_nil)))) pa_nil)) (pa_cons (pe_tup (pa_cons (pe_cal C_at_most hr (by rfl) pass0 (pa_cons (pv 2) (pa_cons (pv 0) (pa_cons pe_int pa_nil)))) pa_nil)) (pa_cons (pv 3) pa_nil)))))))), ?_⟩
    refine ⟨by show 2 ≤ sizeLine; decide, fun p np => ?_⟩
    have o0 : Old [] H (upd H p (.tup [.int 0, .int 0])) := Old.new0 np
    have dN : Dp K (upd H p (.tup [.int 0, .int 0])) (.ref p) (tmD PW.nought) := dp2 upd_same (.int _) (.int _)
    generalize upd H p (.tup [.int 0, .int 0]) = H0 at o0 dN ⊢
    refine ⟨by show 2 ≤ sizeLine; decide, fun r nr => ?_⟩
    have o1 : Old [] H0 (upd H0 r (.tup [.int 1, .int 0])) := Old.new0 nr
    have dL : Dp K (upd H0 r (.tup [.int 1, .int 0])) (.ref r) (tmD PW.length_) := dp2 upd_same (.int _) (.int _)
    have dN := keepD o1 rfl dN
    generalize upd H0 r (.tup [.int 1, .int 0]) = H1 at o1 dN dL ⊢
    have oa := o0.trans o1
    refine ⟨.ref p, .ref r, rfl, .ref p, rfl, v, rfl, .ref p, v, _, a, 0, rfl, dN, keepD oa rfl ha, fun H2 t2 o2 d2 => ?_⟩
    refine ⟨v, rfl, .ref r, rfl, 1, rfl, v, .ref r, a, _, -1, rfl, keepD (oa.trans o2) rfl ha, keepD o2 rfl dL, fun H3 t3 o3 d3 => ⟨by show 2 ≤ sizeLine; decide, fun p4 np4 => ?_⟩⟩
    have o4 : Old [] H3 (upd H3 p4 (.tup [.ref t2, .ref t3])) := Old.new0 np4
    have dW : Dp K (upd H3 p4 (.tup [.ref t2, .ref t3])) (.ref p4) (bdsD [PW.atMost PW.nought a 0, PW.atMost a PW.length_ (-1)]) := dp2 upd_same (keepD (o3.trans o4) rfl d2) (keepD o4 rfl d3)
    have dN := keepD ((o2.trans o3).trans o4) rfl dN
    have dL := keepD ((o2.trans o3).trans o4) rfl dL
    generalize upd H3 p4 (.tup [.ref t2, .ref t3]) = H4 at o4 dW dN dL ⊢
    have ob := ((oa.trans o2).trans o3).trans o4
    refine ⟨v, rfl, .ref p, rfl, 1, rfl, v, .ref p, a, _, -1, rfl, keepD ob rfl ha, dN, fun H5 t5 o5 d5 => ⟨by show 1 ≤ sizeLine; decide, fun p6 np6 => ?_⟩⟩
    have o6 : Old [] H5 (upd H5 p6 (.tup [.ref t5])) := Old.new0 np6
    have dA : Dp K (upd H5 p6 (.tup [.ref t5])) (.ref p6) (bdsD [PW.atMost a PW.nought (-1)]) := dp1 upd_same (keepD o6 rfl d5)
    have dL := keepD (o5.trans o6) rfl dL
    have dW := keepD (o5.trans o6) rfl dW
    generalize upd H5 p6 (.tup [.ref t5]) = H6 at o6 dA dL dW ⊢
    have oc := (ob.trans o5).trans o6
    refine ⟨.ref r, rfl, v, rfl, .ref r, v, _, a, 0, rfl, dL, keepD oc rfl ha, fun H7 t7 o7 d7 => ⟨by show 1 ≤ sizeLine; decide, fun p8 np8 => ?_⟩⟩
    have o8 : Old [] H7 (upd H7 p8 (.tup [.ref t7])) := Old.new0 np8
    have dB : Dp K (upd H7 p8 (.tup [.ref t7])) (.ref p8) (bdsD [PW.atMost PW.length_ a 0]) := dp1 upd_same (keepD o8 rfl d7)
    have dA := keepD (o7.trans o8) rfl dA
    have dW := keepD (o7.trans o8) rfl dW
    generalize upd H7 p8 (.tup [.ref t7]) = H8 at o8 dA dB dW ⊢
    refine ⟨.ref p4, rfl, by show 3 ≤ sizeLine; decide, fun p9 np9 => ?_⟩
    have o9 : Old [] H8 (upd H8 p9 (.tup [.ref p6, .ref p8, .ref p4])) := Old.new0 np9
    exact q _ p9 (((oc.trans o7).trans o8).trans o9) (dp3 upd_same (keepD o9 rfl dA) (keepD o9 rfl dB) (keepD o9 rfl dW))
end
end L2.T39

namespace L2.T39
open PySem PySem.Spec PyProof.Rows L2.PL
/-- registers' terms as a dict -/
structure MemT (K : PySem.W.Frag) (H : Hp) (kvs : List (Key × V)) (m : PW.Mt) : Prop where
  no : ∀ r, m r = none → valV kvs (.inr (PR.rg r)) = none
  yes : ∀ r t, m r = some t → ∃ v, valV kvs (.inr (PR.rg r)) = some v ∧ Dp K H v (tmD t)
theorem MemT.keep {K : PySem.W.Frag} {H H' : Hp} {kvs : List (Key × V)} {m : PW.Mt} (h : MemT K H kvs m) (o : Tk H H') : MemT K H' kvs m :=
  ⟨h.no, fun r t e => let ⟨v, a, b⟩ := h.yes r t e; ⟨v, a, PL.Dp.keep o _ _ rfl b⟩⟩
theorem MemT.is {K : PySem.W.Frag} {H : Hp} {kvs : List (Key × V)} {m : PW.Mt} (h : MemT K H kvs m) (r : Nat) : (valV kvs (.inr (PR.rg r))).isSome = (m r).isSome := by
  cases e : m r with
  | none => rw [h.no r e]; rfl
  | some t => obtain ⟨v, a, _⟩ := h.yes r t e; rw [a]; rfl
theorem set_of {i : PR.Ins} {m : PW.Mt} (h : PW.unsetT i m = false) : ∀ p ∈ PR.needs i, m p.2 = some (PW.tm m p.2) := by
  intro p hp
  unfold PW.unsetT at h
  rw [List.any_eq_false] at h
  have := h p hp
  unfold PW.tm
  cases e : m p.2 with
  | none => rw [e] at this; exact absurd rfl this
  | some t => rfl
def spTest (K : PySem.W.Frag) : Sp := fun vs H Q _ => ∃ (t kd : Addr) (i : PR.Ins) (kvs : List (Key × V)) (m : PW.Mt), vs = [.ref t, .ref kd] ∧ SqT K H t (PR.insV i) ∧ H kd = some (.dK kvs) ∧ MemT K H kvs m ∧ PW.isTest i = true ∧ PW.unsetT i m = false ∧
  ∀ H' p, Old [] H H' → Dp K H' (.ref p) (optsD (PW.testOpts m i)) → Q (.ref p) H'
section
variable {P : Program} {w : World} {K : PySem.W.Frag} {mg : Str → Option Value} {base : Heap}
/-! test_options: slots instruction=0 names=1 word=2 one=3 other=4 number=5 below=6 above=7; cells [] -/
abbrev s_test_options : Stmt := topS 35
abbrev N_test_options : List Str := ["instruction", "names", "word", "one", "other", "number", "below", "above"]
theorem sc_test_options : FnScope N_test_options ["instruction", "names"] (defScope s_test_options) := ⟨rfl, rfl, rfl, by decide +kernel, rfl, by decide +kernel, by decide +kernel⟩
theorem ok_test_options {f : Addr} {fd : FuncData} (F : Fun K "test_options" "test_options" s_test_options f fd) (T : Tx mg) (C_at_most : Cal P w K mg base CX0 "at_most" ["one", "other", "number"] 1 (spAtMost K)) : FnOk P w K mg base CX0 2 f fd ["instruction", "names"] (spTest K) := by
  refine F.ok sc_test_options (fun vs H Q E h => ?_) (fun cdv A outer s H vs Q E hr h => ?_)
  · obtain ⟨t, kd, i, kvs, m, rfl, _⟩ := h
    rfl
  · obtain ⟨t, kd, i, kvs, m, rfl, ht, hk, mem, ist, hun, q⟩ := h
    have hu := hu_of hr
    refine ⟨_, (pss_cons (ps_par (i := 2) (j := 3) (by rfl) sc_test_options.nd rfl rfl (by decide) rfl rfl (pa_cons (pe_ix ix_tup (pv 0) pe_int (fun _ _ => rfl)) (pa_cons (pe_dget hu (pv 1) (pe_ix ix_tup (pv 0) pe_int (fun _ _ => rfl)) (fun _ _ => rfl)) pa_nil)) (by rfl))
      (pss_cutP (ps_asg (pe_ifExp (pt_cmpR op_eq (pv 2) pe_str (nomark _)) (pe_tup (pa_cons (pe_dget hu (pv 1) (pe_ix ix_tup (pv 0) pe_int (fun _ _ => rfl)) (fun _ _ => rfl)) (pa_cons (pe_ix ix_tup (pv 0) (pe_un un_neg pe_int) (fun _ _ => rfl)) pa_nil))) (pe_tup (pa_cons (pe_tup (pa_cons (pe_gI (by rfl) T.g_NOUGHT) (pa_cons pe_int pa_nil))) (pa_cons (pe_ix ix_tup (pv 0) pe_int (fun _ _ => rfl)) pa_nil)))) (pg_tup (by rfl) (pgs_cons (pg_name (i := 4) sc_test_options.nd rfl (Or.inl rfl)) (pgs_cons (pg_name (i := 5) sc_test_options.nd rfl (Or.inl rfl)) pgs_nil))))
      (pss_cutP (ps_par (i := 6) (j := 7) (by rfl) sc_test_options.nd rfl rfl (by decide) rfl rfl (pa_cons (pe_cal C_at_most hr (by rfl) pass0 (pa_cons (pv 3) (pa_cons (pv 4) (pa_cons (pe_op op_sub (pv 5) pe_int) pa_nil)))) (pa_cons (pe_cal C_at_most hr (by rfl) pass0 (pa_cons (pv 4) (pa_cons (pv 3) (pa_cons (pe_op op_sub (pe_un un_neg (pv 5)) pe_int) pa_nil)))) pa_nil)) (by rfl))
      (pss_cons (ps_if (pt_cmpR op_eq (pv 2) pe_str (nomark _))
       (pss_one (ps_ret (pe_tup (pa_cons (pe_tup (pa_cons (pe_cal C_at_most hr (by rfl) pass0 (pa_cons (pv 3) (pa_cons (pv 4) (pa_cons (pv 5) pa_nil)))) (pa_cons (pe_cal C_at_most hr (by rfl) pass0 (pa_cons (pv 4) (pa_cons (pv 3) (pa_cons (pe_un un_neg (pv 5)) pa_nil)))) pa_nil))) (pa_cons (pe_tup (pa_cons (pv 6) pa_nil)) (pa_cons (pe_tup (pa_cons (pv 7) pa_nil)) pa_nil))))))
       pss_nil)
      (pss_one (ps_ret (pe_tup (pa_cons (pe_tup (pa_cons (pe_cal C_at_most hr (by rfl) pass0 (pa_cons (pv 3) (pa_cons (pv 4) (pa_cons (pv 5) pa_nil)))) pa_nil)) (pa_cons (pe_tup (pa_cons (pv 7) pa_nil)) pa_nil))))))))), ?_⟩
    have get : ∀ p ∈ PR.needs i, ∃ v, DGet H kd (.str (PR.rg p.2)) (some v) ∧ Dp K H v (tmD (PW.tm m p.2)) := fun p hp => by
      have := DGet.k (k := .inr (PR.rg p.2)) hk
      obtain ⟨v, a, b⟩ := mem.yes _ _ (set_of hun p hp)
      rw [a] at this
      exact ⟨v, this, b⟩
    obtain ⟨r, hr1, hx1, e1⟩ : ∃ r, (1, r) ∈ PR.needs i ∧ (PR.insV i)[1]? = some (.str (PR.rg r)) ∧ (PW.testOf m i).1 = PW.tm m r := by
      cases i <;> first | (cases ist; done) | exact ⟨_, .head _, rfl, rfl⟩
    obtain ⟨v1, g1, d1⟩ := get (1, r) hr1
    refine ⟨.ref t, rfl, t, _, 0, .str (PR.word i), rfl, rfl, ht, atI_nat (j := 0) rfl, .ref kd, rfl, .ref t, rfl, t, _, 1, .str (PR.rg r), rfl, rfl, ht, atI_nat (j := 1) hx1, kd, _, rfl, g1, _, _, rfl, ?_⟩
    rw [show PW.tm m (1, r).2 = (PW.testOf m i).1 from e1.symm] at d1
    refine ⟨fun σ H1 => Old [] H H1 ∧ ∃ o, σ = [some (.ref t), some (.ref kd), some (.str (PR.word i)), some v1, some o, some (.int (PW.testOf m i).2.2), none, none] ∧ Dp K H1 o (tmD (PW.testOf m i).2.1), ?_, ?_⟩
    · cases i with
      | less r1 s1 n l =>
        obtain ⟨v2, g2, d2⟩ := get (2, s1) (.tail _ (.head _))
        refine ⟨.str "less", rfl, rfl, true, sT rfl, iteT ?_⟩
        refine ⟨.ref kd, rfl, .ref t, rfl, t, _, 2, .str (PR.rg s1), rfl, rfl, ht, atI_nat (j := 2) rfl, kd, _, rfl, g2, .ref t, rfl, 2, rfl, t, _, -2, .int n, rfl, rfl, ht, rfl, by show 2 ≤ sizeLine; decide, fun p np => ?_⟩
        exact ⟨p, _, rfl, SqT.of upd_same, rfl, _, _, rfl, _, _, rfl, rfl, Old.new0 np, v2, rfl, keepD (Old.new0 np) rfl d2⟩
      | atmost r1 n l =>
        refine ⟨.str "atmost", rfl, rfl, false, sF (by decide +kernel), iteF ?_⟩
        refine ⟨by show 2 ≤ sizeLine; decide, fun z nz => ?_⟩
        have oz : Old [] H (upd H z (.tup [.int 0, .int 0])) := Old.new0 nz
        have dz : Dp K (upd H z (.tup [.int 0, .int 0])) (.ref z) (tmD PW.nought) := dp2 upd_same (.int _) (.int _)
        generalize upd H z (.tup [.int 0, .int 0]) = Hz at oz dz ⊢
        refine ⟨.ref t, rfl, t, _, 2, .int n, rfl, rfl, (oz.tk NoTup.nil).seq ht, atI_nat (j := 2) rfl, by show 2 ≤ sizeLine; decide, fun p np => ?_⟩
        exact ⟨p, _, rfl, SqT.of upd_same, rfl, _, _, rfl, _, _, rfl, rfl, oz.trans (Old.new0 np), .ref z, rfl, keepD (Old.new0 np) rfl dz⟩
      | same r1 n l =>
        refine ⟨.str "same", rfl, rfl, false, sF (by decide +kernel), iteF ?_⟩
        refine ⟨by show 2 ≤ sizeLine; decide, fun z nz => ?_⟩
        have oz : Old [] H (upd H z (.tup [.int 0, .int 0])) := Old.new0 nz
        have dz : Dp K (upd H z (.tup [.int 0, .int 0])) (.ref z) (tmD PW.nought) := dp2 upd_same (.int _) (.int _)
        generalize upd H z (.tup [.int 0, .int 0]) = Hz at oz dz ⊢
        refine ⟨.ref t, rfl, t, _, 2, .int n, rfl, rfl, (oz.tk NoTup.nil).seq ht, atI_nat (j := 2) rfl, by show 2 ≤ sizeLine; decide, fun p np => ?_⟩
        exact ⟨p, _, rfl, SqT.of upd_same, rfl, _, _, rfl, _, _, rfl, rfl, oz.trans (Old.new0 np), .ref z, rfl, keepD (Old.new0 np) rfl dz⟩
      | jump l => cases ist
      | set r n => cases ist
      | copy r s => cases ist
      | add r n => cases ist
      | length r => cases ist
      | load r s n => cases ist
      | pass => cases ist
      | drop => cases ist
    · rintro σ H1 ⟨o1, o, rfl, d2⟩
      have d1 := keepD o1 rfl d1
      have es : PW.testOpts m i = if PW.isSame i = true then [[PW.atMost (PW.testOf m i).1 (PW.testOf m i).2.1 (PW.testOf m i).2.2, PW.atMost (PW.testOf m i).2.1 (PW.testOf m i).1 (-(PW.testOf m i).2.2)], [PW.atMost (PW.testOf m i).1 (PW.testOf m i).2.1 ((PW.testOf m i).2.2 - 1)], [PW.atMost (PW.testOf m i).2.1 (PW.testOf m i).1 (-(PW.testOf m i).2.2 - 1)]] else [[PW.atMost (PW.testOf m i).1 (PW.testOf m i).2.1 (PW.testOf m i).2.2], [PW.atMost (PW.testOf m i).2.1 (PW.testOf m i).1 (-(PW.testOf m i).2.2 - 1)]] := rfl
      rw [es] at q
      clear es
      generalize (PW.testOf m i).1 = x at d1 q
      generalize (PW.testOf m i).2.1 = y at d2 q
      generalize (PW.testOf m i).2.2 = n at q ⊢
      refine ⟨fun σ H2 => Old [] H1 H2 ∧ ∃ b a : Addr, σ = [some (.ref t), some (.ref kd), some (.str (PR.word i)), some v1, some o, some (.int n), some (.ref b), some (.ref a)] ∧ Dp K H2 (.ref b) (bdD (PW.atMost x y (n - 1))) ∧ Dp K H2 (.ref a) (bdD (PW.atMost y x (-n - 1))), ?_, ?_⟩
      · refine ⟨v1, rfl, o, rfl, .int n, rfl, n, 1, rfl, rfl, v1, o, x, y, n - 1, rfl, d1, d2, fun H2 b o2 db => ?_⟩
        refine ⟨o, rfl, v1, rfl, .int n, rfl, n, rfl, _, 1, rfl, rfl, o, v1, y, x, -n - 1, rfl, keepD o2 rfl d2, keepD o2 rfl d1, fun H3 a o3 da => ?_⟩
        exact ⟨_, _, rfl, o2.trans o3, b, a, rfl, keepD o3 rfl db, da⟩
      · rintro σ H2 ⟨o2, b, a, rfl, db, da⟩
        have d1 := keepD o2 rfl d1
        have d2 := keepD o2 rfl d2
        have oo := o1.trans o2
        by_cases sm : PW.isSame i = true
        · have ew : PR.word i = "same" := by cases i <;> first | (cases sm; done) | rfl
          rw [if_pos sm] at q
          refine ⟨.str (PR.word i), rfl, rfl, true, sT ew, iteT ?_⟩
          refine ⟨v1, rfl, o, rfl, .int n, rfl, v1, o, x, y, n, rfl, d1, d2, fun H3 t3 o3 d3 => ?_⟩
          refine ⟨o, rfl, v1, rfl, .int n, rfl, n, rfl, o, v1, y, x, -n, rfl, keepD o3 rfl d2, keepD o3 rfl d1, fun H4 t4 o4 d4 => ⟨by show 2 ≤ sizeLine; decide, fun p5 np5 => ?_⟩⟩
          have o5 : Old [] H4 (upd H4 p5 (.tup [.ref t3, .ref t4])) := Old.new0 np5
          have dA : Dp K (upd H4 p5 (.tup [.ref t3, .ref t4])) (.ref p5) (bdsD [PW.atMost x y n, PW.atMost y x (-n)]) := dp2 upd_same (keepD (o4.trans o5) rfl d3) (keepD o5 rfl d4)
          have db := keepD ((o3.trans o4).trans o5) rfl db
          have da := keepD ((o3.trans o4).trans o5) rfl da
          generalize upd H4 p5 (.tup [.ref t3, .ref t4]) = H5 at o5 dA db da ⊢
          refine ⟨.ref b, rfl, by show 1 ≤ sizeLine; decide, fun p6 np6 => ?_⟩
          have o6 : Old [] H5 (upd H5 p6 (.tup [.ref b])) := Old.new0 np6
          have dB : Dp K (upd H5 p6 (.tup [.ref b])) (.ref p6) (bdsD [PW.atMost x y (n - 1)]) := dp1 upd_same (keepD o6 rfl db)
          have dA := keepD o6 rfl dA
          have da := keepD o6 rfl da
          generalize upd H5 p6 (.tup [.ref b]) = H6 at o6 dA dB da ⊢
          refine ⟨.ref a, rfl, by show 1 ≤ sizeLine; decide, fun p7 np7 => ?_⟩
          have o7 : Old [] H6 (upd H6 p7 (.tup [.ref a])) := Old.new0 np7
          have dC : Dp K (upd H6 p7 (.tup [.ref a])) (.ref p7) (bdsD [PW.atMost y x (-n - 1)]) := dp1 upd_same (keepD o7 rfl da)
          have dA := keepD o7 rfl dA
          have dB := keepD o7 rfl dB
          generalize upd H6 p7 (.tup [.ref a]) = H7 at o7 dA dB dC ⊢
          refine ⟨by show 3 ≤ sizeLine; decide, fun p8 np8 => ?_⟩
          have o8 : Old [] H7 (upd H7 p8 (.tup [.ref p5, .ref p6, .ref p7])) := Old.new0 np8
          exact q _ p8 ((((((oo.trans o3).trans o4).trans o5).trans o6).trans o7).trans o8) (dp3 upd_same (keepD o8 rfl dA) (keepD o8 rfl dB) (keepD o8 rfl dC))
        · have ew : (PR.word i = "less" ∨ PR.word i = "atmost") := by cases i <;> first | (cases ist; done) | exact absurd rfl sm | exact .inl rfl | exact .inr rfl
          rw [if_neg sm] at q
          refine ⟨.str (PR.word i), rfl, rfl, false, sF (by rcases ew with ew | ew <;> rw [ew] <;> decide +kernel), iteF ?_⟩
          refine ⟨v1, rfl, o, rfl, .int n, rfl, v1, o, x, y, n, rfl, d1, d2, fun H3 t3 o3 d3 => ⟨by show 1 ≤ sizeLine; decide, fun p5 np5 => ?_⟩⟩
          have o5 : Old [] H3 (upd H3 p5 (.tup [.ref t3])) := Old.new0 np5
          have dA : Dp K (upd H3 p5 (.tup [.ref t3])) (.ref p5) (bdsD [PW.atMost x y n]) := dp1 upd_same (keepD o5 rfl d3)
          have da := keepD (o3.trans o5) rfl da
          generalize upd H3 p5 (.tup [.ref t3]) = H5 at o5 dA da ⊢
          refine ⟨.ref a, rfl, by show 1 ≤ sizeLine; decide, fun p7 np7 => ?_⟩
          have o7 : Old [] H5 (upd H5 p7 (.tup [.ref a])) := Old.new0 np7
          have dC : Dp K (upd H5 p7 (.tup [.ref a])) (.ref p7) (bdsD [PW.atMost y x (-n - 1)]) := dp1 upd_same (keepD o7 rfl da)
          have dA := keepD o7 rfl dA
          generalize upd H5 p7 (.tup [.ref a]) = H7 at o7 dA dC ⊢
          refine ⟨by show 2 ≤ sizeLine; decide, fun p8 np8 => ?_⟩
          have o8 : Old [] H7 (upd H7 p8 (.tup [.ref p5, .ref p7])) := Old.new0 np8
          exact q _ p8 ((((oo.trans o3).trans o5).trans o7).trans o8) (dp2 upd_same (keepD o8 rfl dA) (keepD o8 rfl dC))
end
end L2.T39

/-! plain mathematics of what is told of bounds on differences: no program in sight -/
namespace PD
def tm (M : Mx) : Mx := fun x y => if x = y then some 0 else M x y
structure Told (n : Nat) (B : List Bd) (M : Mx) : Prop where
  diag : ∀ x, x < n → M x x = some 0
  tri : ∀ x y z, x < n → y < n → z < n → ole (M x z) (oadd (M x y) (M y z))
  low : ∀ b ∈ B, ole (M b.1 b.2.1) (some b.2.2)
  sound : ∀ v, Vals B v → ∀ x y a, x < n → y < n → M x y = some a → v x - v y ≤ a
theorem oadd0_l (b : Option Int) : oadd (some 0) b = b := by
  cases b with
  | none => rfl
  | some i => show some (0 + i) = some i; rw [Int.zero_add]
theorem oadd0_r (b : Option Int) : oadd b (some 0) = b := by
  cases b with
  | none => rfl
  | some i => show some (i + 0) = some i; rw [Int.add_zero]
section
variable {n : Nat} {B : List Bd} {S : Nat → Mx}
theorem told_of_run (R : Run n B S n) (f : Feas B) (hB : ∀ b ∈ B, b.1 < n ∧ b.2.1 < n) : Told n B (tm (S n)) := by
  have non := R.non f (Nat.le_refl n) (Nat.le_refl n)
  have cl := R.closed non n (Nat.le_refl n)
  have sd := R.sound f (Nat.le_refl n) n (Nat.le_refl n)
  refine ⟨fun x _ => if_pos rfl, fun x y z hx hy hz => ?_, fun b hb => ?_, fun v hv x y a hx hy e => ?_⟩
  · by_cases e1 : x = y
    · subst e1
      rw [show tm (S n) x x = some 0 from if_pos rfl, oadd0_l]
      exact ole_refl _
    · by_cases e2 : y = z
      · subst e2
        rw [show tm (S n) y y = some 0 from if_pos rfl, oadd0_r]
        exact ole_refl _
      · rw [show tm (S n) x y = S n x y from if_neg e1, show tm (S n) y z = S n y z from if_neg e2]
        have q := cl y x z hy hx hz
        by_cases e3 : x = z
        · subst e3
          rw [show tm (S n) x x = some 0 from if_pos rfl]
          intro d e
          obtain ⟨d', e', l'⟩ := q d e
          exact ⟨0, rfl, by have := non x hx d' e'; omega⟩
        · rw [show tm (S n) x z = S n x z from if_neg e3]; exact q
  · by_cases e : b.1 = b.2.1
    · rw [show tm (S n) b.1 b.2.1 = some 0 from if_pos e]
      intro d ed
      cases ed
      obtain ⟨v, hv⟩ := f
      have := hv b hb
      rw [e] at this
      exact ⟨0, rfl, by omega⟩
    · rw [show tm (S n) b.1 b.2.1 = S n b.1 b.2.1 from if_neg e]
      exact ole_trans (R.mono (Nat.zero_le n) (Nat.le_refl n) _ _ (hB b hb).1 (hB b hb).2) (R.low b hb)
  · by_cases h : x = y
    · subst h
      rw [show tm (S n) x x = some 0 from if_pos rfl] at e
      cases e
      omega
    · rw [show tm (S n) x y = S n x y from if_neg h] at e
      exact sd v hv x y a hx hy e
theorem told_alike {T : Nat → Mx} (R : Run n B S n) (Q : Run n B T n) (f : Feas B) (hS : S 0 = start0 B none) (hT : T 0 = start0 B (some 0)) : ∀ x y, x < n → y < n → T n x y = tm (S n) x y := by
  intro x y hx hy
  by_cases e : x = y
  · subst e
    rw [show tm (S n) x x = some 0 from if_pos rfl]
    have h0 : ole (T 0 x x) (some 0) := by
      rw [hT]
      unfold start0
      rw [if_pos rfl]
      exact omin_l _ _
    obtain ⟨d, e1, l1⟩ := ole_trans (Q.mono (Nat.zero_le n) (Nat.le_refl n) x x hx hx) h0 0 rfl
    have := Q.non f (Nat.le_refl n) (Nat.le_refl n) x hx d e1
    rw [e1, show d = 0 by omega]
  · rw [show tm (S n) x y = S n x y from if_neg e]
    refine (runs_alike R Q (Nat.le_refl n) f (fun a b _ _ hne => ?_) n (Nat.le_refl n) x y hx hy e).symm
    rw [hS, hT]
    exact start0_off hne
/-- how great the numbers told are -/
theorem run_size {C : Int} (hC : 0 ≤ C) (R : Run n B S n) (f : Feas B) (hB : ∀ b ∈ B, -C ≤ b.2.2 ∧ b.2.2 ≤ C) : ∀ k, k ≤ n → ∀ x y d, x < n → y < n → S k x y = some d → -(2 ^ k * C) ≤ d ∧ d ≤ 2 ^ k * C := by
  intro k
  induction k with
  | zero =>
    intro _ x y d _ _ e
    rw [Int.pow_zero, Int.one_mul]
    rcases R.got x y d e with ⟨_, h⟩ | h
    · omega
    · exact hB _ h
  | succ k ih =>
    intro hk x y d hx hy e
    have ih := ih (by omega)
    have hkn : k < n := by omega
    have nS := R.non f (Nat.le_refl n) (k := k) (by omega) k hkn
    rw [(R.mid k (by omega)).exact nS x y hx hy] at e
    have hp : (2 : Int) ^ (k + 1) * C = 2 * (2 ^ k * C) := by rw [Int.pow_succ, Int.mul_comm (2 ^ k) 2, Int.mul_assoc]
    have hpos : 0 ≤ (2 : Int) ^ k * C := Int.mul_nonneg (Int.pow_nonneg (by decide)) hC
    rw [hp]
    generalize (2 : Int) ^ k * C = D at ih hpos ⊢
    have e : omin (S k x y) (oadd (S k x k) (S k k y)) = some d := e
    rcases omin_cases (S k x y) (oadd (S k x k) (S k k y)) with q | q
    · rw [q] at e
      have := ih x y d hx hy e
      omega
    · rw [q] at e
      cases e1 : S k x k with
      | none => rw [e1] at e; cases e
      | some a =>
        cases e2 : S k k y with
        | none => rw [e1, e2] at e; cases e
        | some b =>
          rw [e1, e2] at e
          have e : a + b = d := Option.some.inj e
          have := ih x k a hx hkn e1
          have := ih k y b hkn hy e2
          omega
theorem tm_size {C D : Int} (hC : 0 ≤ C) (R : Run n B S n) (f : Feas B) (hB : ∀ b ∈ B, -C ≤ b.2.2 ∧ b.2.2 ≤ C) (hD : 2 ^ n * C ≤ D) : ∀ x y d, x < n → y < n → tm (S n) x y = some d → -D ≤ d ∧ d ≤ D := by
  intro x y d hx hy e
  have hpos : 0 ≤ (2 : Int) ^ n * C := Int.mul_nonneg (Int.pow_nonneg (by decide)) hC
  by_cases h : x = y
  · rw [show tm (S n) x y = some 0 from if_pos h] at e
    cases e
    omega
  · rw [show tm (S n) x y = S n x y from if_neg h] at e
    have := run_size hC R f hB n (Nat.le_refl n) x y d hx hy e
    omega
variable {M : Mx}
theorem Told.lows (t : Told n B M) (hB : ∀ b ∈ B, b.1 < n ∧ b.2.1 < n) {l : Nat → Int} (h : ∀ x, x < n → M 0 x = some (-(l x))) : Vals B l := fun b hb => by
  obtain ⟨h1, h2⟩ := hB b hb
  obtain ⟨d, e1, l1⟩ := t.low b hb b.2.2 rfl
  obtain ⟨d', e2, l2⟩ := t.tri 0 b.1 b.2.1 (by omega) h1 h2 (-(l b.1) + d) (by rw [h _ h1, e1]; rfl)
  rw [h _ h2] at e2
  cases e2
  omega
theorem Told.highs (t : Told n B M) (hB : ∀ b ∈ B, b.1 < n ∧ b.2.1 < n) {l : Nat → Int} (h : ∀ x, x < n → M x 0 = some (l x)) : Vals B l := fun b hb => by
  obtain ⟨h1, h2⟩ := hB b hb
  obtain ⟨d, e1, l1⟩ := t.low b hb b.2.2 rfl
  obtain ⟨d', e2, l2⟩ := t.tri b.1 b.2.1 0 h1 h2 (by omega) (d + l b.2.1) (by rw [h _ h2, e1]; rfl)
  rw [h _ h1] at e2
  cases e2
  omega
/-- a great number above all that is wanted of a list -/
theorem great (l : List Bd) (g : Bd → Int) : ∃ T : Int, 0 ≤ T ∧ ∀ b ∈ l, g b ≤ T := by
  induction l with
  | nil => exact ⟨0, by omega, fun b h => by simp at h⟩
  | cons a l ih =>
    obtain ⟨T, h0, h⟩ := ih
    refine ⟨if g a ≤ T then T else g a, by split <;> omega, fun b hb => ?_⟩
    rcases List.mem_cons.mp hb with rfl | hb
    · split <;> omega
    · have := h b hb
      split <;> omega
/-- values where all that nought sets no bound to is moved down as far as one likes -/
theorem Told.down (t : Told n B M) (f : Feas B) (hB : ∀ b ∈ B, b.1 < n ∧ b.2.1 < n) (hn : 1 ≤ n) : ∃ w : Nat → Int, ∃ T0 : Int, ∀ T, T0 ≤ T → Vals B fun x => match M 0 x with | some d => -d | none => w x - T := by
  obtain ⟨w, hw⟩ := f
  obtain ⟨T0, _, hT⟩ := great B fun b => w b.1 + (match M 0 b.2.1 with | some d => d | none => 0) - b.2.2
  refine ⟨w, T0, fun T hTT b hb => ?_⟩
  obtain ⟨h1, h2⟩ := hB b hb
  have hb1 := hT b hb
  have hb2 := hw b hb
  dsimp only at hb1 ⊢
  obtain ⟨d, e1, l1⟩ := t.low b hb b.2.2 rfl
  cases ex : M 0 b.1 with
  | some a =>
    obtain ⟨d', e2, l2⟩ := t.tri 0 b.1 b.2.1 (by omega) h1 h2 (a + d) (by rw [ex, e1]; rfl)
    rw [e2]
    dsimp only
    omega
  | none =>
    cases ey : M 0 b.2.1 with
    | some a =>
      rw [ey] at hb1
      dsimp only at hb1 ⊢
      omega
    | none => dsimp only; omega
theorem Told.far (t : Told n B M) (f : Feas B) (hB : ∀ b ∈ B, b.1 < n ∧ b.2.1 < n) (hn : 1 ≤ n) {a : Nat} (e : M 0 a = none) (c : Int) : Feas (B ++ [(a, 0, c)]) := by
  obtain ⟨w, T0, h⟩ := t.down f hB hn
  refine ⟨fun x => match M 0 x with | some d => -d | none => w x - (if T0 ≤ w a - c then w a - c else T0), fun b hb => ?_⟩
  · rcases List.mem_append.mp hb with hb | hb
    · exact h _ (by split <;> omega) b hb
    · have : b = (a, 0, c) := by simpa using hb
      subst this
      dsimp only
      rw [e, t.diag 0 (by omega)]
      dsimp only
      split <;> omega
theorem Told.near (t : Told n B M) (f : Feas B) (hB : ∀ b ∈ B, b.1 < n ∧ b.2.1 < n) (hn : 1 ≤ n) {a : Nat} {d : Int} (e : M 0 a = some d) : Feas (B ++ [(a, 0, -d)]) := by
  obtain ⟨w, T0, h⟩ := t.down f hB hn
  refine ⟨fun x => match M 0 x with | some d => -d | none => w x - T0, fun b hb => ?_⟩
  · rcases List.mem_append.mp hb with hb | hb
    · exact h T0 (Int.le_refl _) b hb
    · have : b = (a, 0, -d) := by simpa using hb
      subst this
      dsimp only
      rw [e, t.diag 0 (by omega)]
      dsimp only
      omega
theorem Told.near_at (t : Told n B M) (hn : 1 ≤ n) {a : Nat} (ha : a < n) {d : Int} (e : M 0 a = some d) {g : Nat → Int} (hg : Vals (B ++ [(a, 0, -d)]) g) (g0 : g 0 = 0) : g a = -d := by
  have h1 := t.sound g (fun b hb => hg b (List.mem_append_left _ hb)) 0 a d (by omega) ha e
  have h2 := hg (a, 0, -d) (by simp)
  dsimp only at h2
  omega
theorem Told.over (t : Told n B M) (hn : 1 ≤ n) {a : Nat} (ha : a < n) {d : Int} (e : M 0 a = some d) : ¬ Feas (B ++ [(a, 0, -d - 1)]) := by
  rintro ⟨g, hg⟩
  have h1 := t.sound g (fun b hb => hg b (List.mem_append_left _ hb)) 0 a d (by omega) ha e
  have h2 := hg (a, 0, -d - 1) (by simp)
  dsimp only at h2
  omega
end
end PD

/-! plain mathematics: bounds put in one by one; least sums of chains are one and the same -/
namespace PD
inductive Ch (B : List Bd) : Nat → Nat → Int → Prop
  | nil (x : Nat) : Ch B x x 0
  | cons {x z y : Nat} {c a : Int} : (x, z, c) ∈ B → Ch B z y a → Ch B x y (c + a)
theorem Ch.one {B : List Bd} {x y : Nat} {c : Int} (h : (x, y, c) ∈ B) : Ch B x y c := by
  have := Ch.cons h (Ch.nil y)
  rwa [Int.add_zero] at this
theorem Ch.trans {B : List Bd} {x y z : Nat} {a b : Int} (h : Ch B x y a) (k : Ch B y z b) : Ch B x z (a + b) := by
  induction h with
  | nil x => rw [Int.zero_add]; exact k
  | cons m _ ih => rw [Int.add_assoc]; exact .cons m (ih k)
theorem Ch.mono {B B' : List Bd} (s : ∀ b ∈ B, b ∈ B') {x y : Nat} {a : Int} (h : Ch B x y a) : Ch B' x y a := by
  induction h with
  | nil x => exact .nil x
  | cons m _ ih => exact .cons (s _ m) ih
theorem Ch.sound {B : List Bd} {v : Nat → Int} (hv : Vals B v) {x y : Nat} {a : Int} (h : Ch B x y a) : v x - v y ≤ a := by
  induction h with
  | nil x => omega
  | cons m _ ih =>
    have := hv _ m
    simp only at this
    omega
/-- the least sums of chains -/
structure Cl (n : Nat) (B : List Bd) (M : Mx) : Prop where
  diag : ∀ x, x < n → M x x = some 0
  tri : ∀ x y z, x < n → y < n → z < n → ole (M x z) (oadd (M x y) (M y z))
  low : ∀ b ∈ B, ole (M b.1 b.2.1) (some b.2.2)
  ch : ∀ x y a, x < n → y < n → M x y = some a → Ch B x y a
section
variable {n : Nat} {B : List Bd} {M M' : Mx}
theorem Cl.told (h : Cl n B M) : Told n B M := ⟨h.diag, h.tri, h.low, fun _ hv x y a hx hy e => (h.ch x y a hx hy e).sound hv⟩
theorem Cl.le (h : Cl n B M) (hB : ∀ b ∈ B, b.1 < n ∧ b.2.1 < n) {x y : Nat} {a : Int} (c : Ch B x y a) (hx : x < n) (hy : y < n) : ole (M x y) (some a) := by
  induction c with
  | nil x => rw [h.diag x hx]; exact ole_refl _
  | cons m _ ih =>
    have hz := (hB _ m).2
    have l1 := h.low _ m
    have l2 := ih hz hy
    have := ole_trans (h.tri _ _ _ hx hz hy) (oadd_mono l1 l2)
    exact this
theorem ole_antisymm {a b : Option Int} (h : ole a b) (k : ole b a) : a = b := by
  cases a with
  | none =>
    cases b with
    | none => rfl
    | some y => obtain ⟨x, e, _⟩ := h y rfl; cases e
  | some x =>
    obtain ⟨y, e, l⟩ := k x rfl
    subst e
    obtain ⟨x', e', l'⟩ := h y rfl
    cases e'
    congr 1
    omega
theorem ole_of_ch (h : Cl n B M) (k : Cl n B M') (hB : ∀ b ∈ B, b.1 < n ∧ b.2.1 < n) {x y : Nat} (hx : x < n) (hy : y < n) : ole (M x y) (M' x y) := fun a e => by
  have := h.le hB (k.ch x y a hx hy e) hx hy
  exact this a rfl
theorem Cl.alike (h : Cl n B M) (k : Cl n B M') (hB : ∀ b ∈ B, b.1 < n ∧ b.2.1 < n) : ∀ x y, x < n → y < n → M x y = M' x y := fun _ _ hx hy => ole_antisymm (ole_of_ch h k hB hx hy) (ole_of_ch k h hB hx hy)
theorem Cl.congr (h : Cl n B M) (hB : ∀ b ∈ B, b.1 < n ∧ b.2.1 < n) (e : ∀ x y, x < n → y < n → M' x y = M x y) : Cl n B M' :=
  ⟨fun x hx => by rw [e x x hx hx]; exact h.diag x hx, fun x y z hx hy hz => by rw [e x z hx hz, e x y hx hy, e y z hy hz]; exact h.tri x y z hx hy hz,
    fun b hb => by rw [e _ _ (hB b hb).1 (hB b hb).2]; exact h.low b hb, fun x y a hx hy k => h.ch x y a hx hy (by rw [← e x y hx hy]; exact k)⟩
theorem feas_of_told (h : Told n B M) (hB : ∀ b ∈ B, b.1 < n ∧ b.2.1 < n) : Feas B := feas_of_closed hB h.low fun m x y hm hx hy => h.tri x m y hx hm hy
/-- the matrix of a run without a ring below nought -/
theorem cl_of_run {S : Nat → Mx} (R : Run n B S n) (h0 : S 0 = start0 B (some 0)) (non : ∀ x, x < n → Non (S n x x)) (hB : ∀ b ∈ B, b.1 < n ∧ b.2.1 < n) : Cl n B (S n) := by
  have chs : ∀ k, k ≤ n → ∀ x y a, x < n → y < n → S k x y = some a → Ch B x y a := by
    intro k
    induction k with
    | zero =>
      intro _ x y a _ _ e
      rcases R.got x y a e with ⟨rfl, rfl⟩ | m
      · exact .nil x
      · exact .one m
    | succ k ih =>
      intro hk x y a hx hy e
      have ihk := ih (by omega)
      have nk : Non (S k k k) := (non k (by omega)).of_ole (R.mono (by omega) (Nat.le_refl n) k k (by omega) (by omega))
      rw [(R.mid k (by omega)).exact nk x y hx hy] at e
      rcases omin_cases (S k x y) (oadd (S k x k) (S k k y)) with e1 | e1
      · exact ihk x y a hx hy (by rw [← e1]; exact e)
      · have e2 : oadd (S k x k) (S k k y) = some a := by rw [← e1]; exact e
        cases h1 : S k x k with
        | none => rw [h1] at e2; cases e2
        | some p =>
          cases h2 : S k k y with
          | none => rw [h1, h2] at e2; cases e2
          | some q =>
            rw [h1, h2] at e2
            cases e2
            exact (ihk x k p hx (by omega) h1).trans (ihk k y q (by omega) hy h2)
  have cl := R.closed non n (Nat.le_refl n)
  refine ⟨fun x hx => ?_, fun x y z hx hy hz => cl y x z hy hx hz, fun b hb => ole_trans (R.mono (Nat.zero_le n) (Nat.le_refl n) _ _ (hB b hb).1 (hB b hb).2) (R.low b hb), chs n (Nat.le_refl n)⟩
  have h0 : ole (S 0 x x) (some 0) := by
    rw [h0]; unfold start0; rw [if_pos rfl]; exact omin_l _ _
  obtain ⟨d, e, l⟩ := ole_trans (R.mono (Nat.zero_le n) (Nat.le_refl n) x x hx hx) h0 0 rfl
  have := non x hx d e
  rw [e]
  congr 1
  omega
/-- one bound put in -/
def putM (M : Mx) (x y : Nat) (c : Int) : Mx := fun a b => omin (M a b) (oadd (oadd (M a x) (some c)) (M y b))
theorem oadd_comm (a b : Option Int) : oadd a b = oadd b a := by
  cases a <;> cases b <;> first | rfl | (show some _ = some _; congr 1; omega)
theorem Cl.put (h : Cl n B M) {x y : Nat} {c : Int} (hx : x < n) (hy : y < n) (hn : ∀ d, M y x = some d → 0 ≤ d + c) : Cl n (B ++ [(x, y, c)]) (putM M x y c) := by
  have mono : ∀ {p q a}, Ch B p q a → Ch (B ++ [(x, y, c)]) p q a := fun h => h.mono fun b hb => List.mem_append_left _ hb
  have hm : (x, y, c) ∈ B ++ [(x, y, c)] := List.mem_append_right _ (List.mem_singleton.mpr rfl)
  have nn : Non (oadd (M y x) (some c)) := fun d e => by
    cases k : M y x with
    | none => rw [k] at e; cases e
    | some p => rw [k] at e; cases e; exact hn p k
  have chs : ∀ p q a, p < n → q < n → putM M x y c p q = some a → Ch (B ++ [(x, y, c)]) p q a := by
    intro p q a hp hq e
    rcases omin_cases (M p q) (oadd (oadd (M p x) (some c)) (M y q)) with e1 | e1
    · exact mono (h.ch p q a hp hq (by rw [← e1]; exact e))
    · have e2 : oadd (oadd (M p x) (some c)) (M y q) = some a := by rw [← e1]; exact e
      cases h1 : M p x with
      | none => rw [h1] at e2; cases e2
      | some r =>
        cases h2 : M y q with
        | none => rw [h1, h2] at e2; cases e2
        | some t =>
          rw [h1, h2] at e2
          cases e2
          exact ((mono (h.ch p x r hp hx h1)).trans (.one hm)).trans (mono (h.ch y q t hy hq h2))
  refine ⟨fun p hp => ?_, fun p q r hp hq hr => ?_, fun b hb => ?_, chs⟩
  · show omin (M p p) _ = _
    rw [h.diag p hp]
    refine omin_eq_l fun d e => ⟨0, rfl, ?_⟩
    -- p → x, c, y → p
    cases h1 : M p x with
    | none => rw [h1] at e; cases e
    | some s =>
      cases h2 : M y p with
      | none => rw [h1, h2] at e; cases e
      | some t =>
        rw [h1, h2] at e
        cases e
        obtain ⟨u, e3, l⟩ := h.tri y p x hy hp hx (t + s) (by rw [h1, h2]; rfl)
        have := hn u e3
        omega
  · -- four ways
    show ole (omin (M p r) (oadd (oadd (M p x) (some c)) (M y r))) (oadd (omin (M p q) (oadd (oadd (M p x) (some c)) (M y q))) (omin (M q r) (oadd (oadd (M q x) (some c)) (M y r))))
    have L1 := omin_l (M p r) (oadd (oadd (M p x) (some c)) (M y r))
    have L2 := omin_r (M p r) (oadd (oadd (M p x) (some c)) (M y r))
    rcases omin_cases (M p q) (oadd (oadd (M p x) (some c)) (M y q)) with e1 | e1 <;> rw [e1] <;>
      rcases omin_cases (M q r) (oadd (oadd (M q x) (some c)) (M y r)) with e2 | e2 <;> rw [e2]
    · exact ole_trans L1 (h.tri p q r hp hq hr)
    · refine ole_trans L2 ?_
      rw [← oadd_assoc, ← oadd_assoc]
      exact oadd_mono (oadd_mono (h.tri p q x hp hq hx) (ole_refl _)) (ole_refl _)
    · refine ole_trans L2 ?_
      rw [oadd_assoc (oadd (M p x) (some c)) (M y q) (M q r)]
      exact oadd_mono (ole_refl _) (h.tri y q r hy hq hr)
    · refine ole_trans L2 ?_
      -- (px + c) + (yq + (qx + c) + yr)
      have t := h.tri y q x hy hq hx
      have n2 : Non (oadd (M y q) (oadd (M q x) (some c))) := by
        rw [← oadd_assoc]
        exact nn.of_ole (oadd_mono t (ole_refl _))
      rw [oadd_assoc (oadd (M p x) (some c)) (M y q), ← oadd_assoc (M y q)]
      exact oadd_mono (ole_refl _) (oadd_non_l n2)
  · rcases List.mem_append.mp hb with hb | hb
    · exact ole_trans (omin_l _ _) (h.low b hb)
    · have : b = (x, y, c) := List.mem_singleton.mp hb
      subst this
      show ole (omin (M x y) (oadd (oadd (M x x) (some c)) (M y y))) (some c)
      rw [h.diag x hx, h.diag y hy, oadd0_l, oadd0_r]
      exact omin_r _ _
theorem Cl.skip (h : Cl n B M) {x y : Nat} {c : Int} (hl : ole (M x y) (some c)) : Cl n (B ++ [(x, y, c)]) M := by
  refine ⟨h.diag, h.tri, fun b hb => ?_, fun p q a hp hq e => (h.ch p q a hp hq e).mono fun b hb => List.mem_append_left _ hb⟩
  rcases List.mem_append.mp hb with hb | hb
  · exact h.low b hb
  · have : b = (x, y, c) := List.mem_singleton.mp hb
    subst this
    exact hl
theorem Cl.ring (h : Cl n B M) {x y : Nat} {c d : Int} (hx : x < n) (hy : y < n) (e : M y x = some d) (hd : d + c < 0) {B' : List Bd} (s : ∀ b ∈ B ++ [(x, y, c)], b ∈ B') : ¬ Feas B' := by
  rintro ⟨v, hv⟩
  have h1 := (h.ch y x d hy hx e).sound (v := v) fun b hb => hv b (s b (List.mem_append_left _ hb))
  have h2 := hv (x, y, c) (s _ (List.mem_append_right _ (List.mem_singleton.mpr rfl)))
  simp only at h2
  omega
theorem Cl.zero (n : Nat) : Cl n [] fun x y => if x = y then some 0 else none := by
  refine ⟨fun x _ => if_pos rfl, fun x y z _ _ _ => ?_, fun b hb => (nomatch hb), fun x y a _ _ e => ?_⟩
  · by_cases e1 : x = y
    · subst e1; rw [if_pos (rfl : x = x), oadd0_l]; exact ole_refl _
    · rw [if_neg e1]; intro d e; cases (if y = z then some 0 else none : Option Int) <;> cases e
  · by_cases e1 : x = y
    · subst e1; rw [if_pos rfl] at e; cases e; exact .nil x
    · rw [if_neg e1] at e; cases e
/-- what a bound does to the sums: none if there is a ring below nought then -/
def negS (o : Option Int) (c : Int) : Bool := match o with | none => false | some d => decide (d + c < 0)
def lessS (o : Option Int) (c : Int) : Bool := match o with | none => true | some d => decide (c < d)
def stepM (M : Mx) (b : Bd) : Option Mx :=
  if (b.1 = b.2.1 ∧ b.2.2 < 0) ∨ negS (M b.2.1 b.1) b.2.2 = true then none
  else if b.1 ≠ b.2.1 ∧ lessS (M b.1 b.2.1) b.2.2 = true then some (putM M b.1 b.2.1 b.2.2)
  else some M
theorem stepM_none (h : Cl n B M) {b : Bd} (hx : b.1 < n) (hy : b.2.1 < n) (e : stepM M b = none) {B' : List Bd} (s : ∀ a ∈ B ++ [b], a ∈ B') : ¬ Feas B' := by
  obtain ⟨x, y, c⟩ := b
  unfold stepM at e
  split at e
  · rename_i k
    rcases k with ⟨k1, k2⟩ | k
    · simp only at k1 k2 hx hy
      subst k1
      exact h.ring hx hx (h.diag x hx) (by omega) s
    · simp only at k hx hy
      cases e3 : M y x with
      | none => rw [e3] at k; cases k
      | some d => rw [e3] at k; exact h.ring hx hy e3 (of_decide_eq_true k) s
  · split at e <;> cases e
theorem stepM_some (h : Cl n B M) {b : Bd} (hx : b.1 < n) (hy : b.2.1 < n) (e : stepM M b = some M') : Cl n (B ++ [b]) M' := by
  obtain ⟨x, y, c⟩ := b
  unfold stepM at e
  split at e
  · cases e
  · rename_i k
    simp only at k hx hy
    split at e
    · cases e
      refine h.put hx hy fun d e3 => ?_
      refine Int.not_lt.mp fun z => k (.inr ?_)
      rw [e3]; exact decide_eq_true z
    · rename_i k2
      cases e
      refine h.skip ?_
      simp only at k2
      intro d ed
      cases ed
      by_cases exy : x = y
      · subst exy
        exact ⟨0, h.diag x hx, Int.not_lt.mp fun z => k (.inl ⟨rfl, z⟩)⟩
      · cases e3 : M x y with
        | none => exact absurd ⟨exy, by rw [e3]; rfl⟩ k2
        | some d => exact ⟨d, rfl, Int.not_lt.mp fun z => k2 ⟨exy, by rw [e3]; exact decide_eq_true z⟩⟩
/-- some bounds, the first so many in -/
def inTo (M : Mx) (B : List Bd) : Option Mx := B.foldl (fun o b => o.bind fun M => stepM M b) (some M)
theorem inTo_append (M : Mx) (B C : List Bd) : inTo M (B ++ C) = (inTo M B).bind fun M' => inTo M' C := by
  unfold inTo
  rw [List.foldl_append]
  cases B.foldl (fun o b => o.bind fun M => stepM M b) (some M) with
  | some M' => rfl
  | none =>
    show C.foldl _ none = none
    induction C with
    | nil => rfl
    | cons c C ih => exact ih
theorem inTo_one (M : Mx) (b : Bd) : inTo M [b] = stepM M b := rfl
theorem inTo_cl : ∀ (C : List Bd) (B : List Bd) (M : Mx), Cl n B M → (∀ b ∈ C, b.1 < n ∧ b.2.1 < n) → match inTo M C with | none => ¬ Feas (B ++ C) | some M' => Cl n (B ++ C) M'
  | [], B, M, h, _ => by
    show Cl n (B ++ []) M
    rw [List.append_nil]; exact h
  | c :: C, B, M, h, hC => by
    have e : inTo M (c :: C) = (stepM M c).bind fun M' => inTo M' C := inTo_append M [c] C
    rw [e]
    have hc := hC c List.mem_cons_self
    cases k : stepM M c with
    | none =>
      show ¬ Feas _
      exact stepM_none h hc.1 hc.2 k fun a ha => by
        rcases List.mem_append.mp ha with ha | ha
        · exact List.mem_append_left _ ha
        · rw [List.mem_singleton.mp ha]; exact List.mem_append_right _ List.mem_cons_self
    | some M' =>
      have := inTo_cl C (B ++ [c]) M' (stepM_some h hc.1 hc.2 k) fun b hb => hC b (List.mem_cons_of_mem _ hb)
      rw [List.append_assoc] at this
      exact this
theorem not_feas_of_run {S : Nat → Mx} (R : Run n B S n) (k : ∃ x, x < n ∧ ¬ Non (S n x x)) : ¬ Feas B := fun f => by
  obtain ⟨x, hx, h⟩ := k
  exact h (R.non f (Nat.le_refl n) (Nat.le_refl n) x hx)
end
end PD

/-! the walk as one machine that takes its choices off a list; what always holds of it -/
namespace L2.PW
open L2.PR
/-- look at one cell -/
def Wk.lookC (w : Wk) (ps : List (List Ins)) (p : Tm) (n : Nat) : Wk :=
  match w.cells[n]? with
  | none => w.fresh (insAt ps w) p
  | some (q, v) => if q = p then w.load (insAt ps w) v
    else if q.1 = p.1 then { w with pending := some (p, n + 1) }
    else { w with options := some (cellOpts p q), pending := some (p, n) }
def cstep (ps : List (List Ins)) (w : Wk) (cs : List Nat) : Option (Wk × List Nat) :=
  match w.options with
  | some os => match cs with
    | [] => none
    | c :: cs' => if c < os.length then some (Wk.takeF ps w os c, cs') else none
  | none => if w.ends.length = ps.length then none
    else match w.pending with
      | none => some (w.step ps, cs)
      | some (p, n) => some (w.lookC ps p n, cs)
inductive Reach (ps : List (List Ins)) : Wk → List Nat → Wk → List Nat → Prop
  | refl (w : Wk) (cs : List Nat) : Reach ps w cs w cs
  | head {w w1 w2 : Wk} {cs cs1 cs2 : List Nat} : cstep ps w cs = some (w1, cs1) → Reach ps w1 cs1 w2 cs2 → Reach ps w cs w2 cs2
section
variable {ps : List (List Ins)} {w w' w1 w2 : Wk} {cs cs' cs1 cs2 : List Nat}
theorem Reach.one (h : cstep ps w cs = some (w1, cs1)) : Reach ps w cs w1 cs1 := .head h (.refl _ _)
theorem Reach.trans (h : Reach ps w cs w1 cs1) (k : Reach ps w1 cs1 w2 cs2) : Reach ps w cs w2 cs2 := by
  induction h with
  | refl => exact k
  | head e _ ih => exact .head e (ih k)
theorem Reach.snoc (h : Reach ps w cs w1 cs1) (k : cstep ps w1 cs1 = some (w2, cs2)) : Reach ps w cs w2 cs2 := h.trans (.one k)
/-- the same choices lead to the same end -/
theorem Reach.to_halt (h : Reach ps w cs w1 cs1) (hh : cstep ps w1 cs1 = none) (k : Reach ps w cs w2 cs2) : Reach ps w2 cs2 w1 cs1 := by
  induction k with
  | refl => exact h
  | head e _ ih =>
    cases h with
    | refl => rw [hh] at e; cases e
    | head e' h' =>
      rw [e] at e'
      cases e'
      exact ih h'
theorem Reach.fin (h : Reach ps w cs w1 cs1) (hh : cstep ps w1 cs1 = none) (k : Reach ps w cs w2 cs2) (kk : cstep ps w2 cs2 = none) : w1 = w2 ∧ cs1 = cs2 := by
  cases h.to_halt hh k with
  | refl => exact ⟨rfl, rfl⟩
  | head e _ => rw [kk] at e; cases e
theorem cstep_take {os : List (List Bd)} {c : Nat} (h : w.options = some os) (hc : c < os.length) : cstep ps w (c :: cs) = some (Wk.takeF ps w os c, cs) := by
  unfold cstep; rw [h]; exact if_pos hc
theorem cstep_step (h : w.options = none) (he : w.ends.length ≠ ps.length) (hp : w.pending = none) : cstep ps w cs = some (w.step ps, cs) := by
  unfold cstep; rw [h, hp]; exact if_neg he
theorem cstep_look {p : Tm} {n : Nat} (h : w.options = none) (he : w.ends.length ≠ ps.length) (hp : w.pending = some (p, n)) : cstep ps w cs = some (w.lookC ps p n, cs) := by
  unfold cstep; rw [h, hp]; exact if_neg he
theorem halt_split {os : List (List Bd)} (h : w.options = some os) : cstep ps w [] = none := by unfold cstep; rw [h]
theorem halt_end (h : w.options = none) (he : w.ends.length = ps.length) : cstep ps w cs = none := by unfold cstep; rw [h]; exact if_pos he
/-- the choices ahead of some others: without the others the walk comes to a split or an end there -/
theorem Reach.more (h : Reach ps w cs w1 cs1) (ds : List Nat) : Reach ps w (cs ++ ds) w1 (cs1 ++ ds) := by
  induction h with
  | refl => exact .refl _ _
  | head e _ ih =>
    refine .head ?_ ih
    rename_i w0 w1' _ cs0 cs1' _ _
    unfold cstep at e ⊢
    cases ho : w0.options with
    | some os =>
      rw [ho] at e
      cases cs0 with
      | nil => cases e
      | cons c r =>
        by_cases hc : c < os.length
        · have e : (if c < os.length then some (Wk.takeF ps w0 os c, r) else none) = some (w1', cs1') := e
          rw [if_pos hc] at e
          cases e
          exact if_pos hc
        · have e : (if c < os.length then some (Wk.takeF ps w0 os c, r) else none) = some (w1', cs1') := e
          rw [if_neg hc] at e
          cases e
    | none =>
      rw [ho] at e
      by_cases he : w0.ends.length = ps.length
      · simp only [if_pos he] at e; cases e
      · simp only [if_neg he] at e ⊢
        cases hp : w0.pending with
        | none => rw [hp] at e; cases e; rfl
        | some q => rw [hp] at e; cases e; rfl
end
/-! ### what always holds -/
/-- within the packet -/
def In (B : List Bd) (p : Tm) : Prop := atMost nought p 0 ∈ B ∧ atMost p length_ (-1) ∈ B
/-- two places that are never alike -/
def Sep (B : List Bd) (p q : Tm) : Prop := (p.1 = q.1 ∧ p.2 ≠ q.2) ∨ atMost p q (-1) ∈ B ∨ atMost q p (-1) ∈ B
theorem In.mono {B C : List Bd} {p : Tm} (h : In B p) : In (B ++ C) p := ⟨List.mem_append_left _ h.1, List.mem_append_left _ h.2⟩
theorem Sep.mono {B C : List Bd} {p q : Tm} (h : Sep B p q) : Sep (B ++ C) p q := by
  rcases h with h | h | h
  · exact .inl h
  · exact .inr (.inl (List.mem_append_left _ h))
  · exact .inr (.inr (List.mem_append_left _ h))
structure Core (B : List Bd) (cs : List (Tm × Nat)) (n : Nat) (m : Mt) : Prop where
  many : n = 2 + cs.length
  cell : ∀ (j : Nat) (p : Tm) (v : Nat), cs[j]? = some (p, v) → v = 2 + j ∧ p.1 < 2 + j
  var : ∀ b ∈ B, b.1 < n ∧ b.2.1 < n
  f0 : ((1, 0, 24) : Bd) ∈ B
  f1 : ((0, 1, -1) : Bd) ∈ B
  low : ∀ v, 2 ≤ v → v < n → ((0, v, 0) : Bd) ∈ B ∧ ((v, 0, 255) : Bd) ∈ B
  within : ∀ c ∈ cs, In B c.1
  sep : ∀ (i j : Nat) (p q : Tm) (u v : Nat), i < j → cs[i]? = some (p, u) → cs[j]? = some (q, v) → Sep B p q
  terms : ∀ r t, m r = some t → t.1 < n
section
variable {B : List Bd} {cs : List (Tm × Nat)} {n : Nat} {m : Mt}
theorem Core.addB (h : Core B cs n m) {C : List Bd} (hC : ∀ b ∈ C, b.1 < n ∧ b.2.1 < n) : Core (B ++ C) cs n m :=
  ⟨h.many, h.cell, fun b hb => (List.mem_append.mp hb).elim (h.var b) (hC b), List.mem_append_left _ h.f0, List.mem_append_left _ h.f1,
    fun v h1 h2 => ⟨List.mem_append_left _ (h.low v h1 h2).1, List.mem_append_left _ (h.low v h1 h2).2⟩, fun c hc => (h.within c hc).mono, fun i j p q u v hij hi hj => (h.sep i j p q u v hij hi hj).mono, h.terms⟩
theorem Core.term (h : Core B cs n m) {r : Nat} {t : Tm} (ht : t.1 < n) : Core B cs n (putT m r t) :=
  ⟨h.many, h.cell, h.var, h.f0, h.f1, h.low, h.within, h.sep, fun x u e => by
    unfold putT at e
    split at e
    · cases e; exact ht
    · exact h.terms x u e⟩
theorem Core.clear (h : Core B cs n m) : Core B cs n (fun _ => none) := ⟨h.many, h.cell, h.var, h.f0, h.f1, h.low, h.within, h.sep, fun _ _ e => nomatch e⟩
theorem Core.two (h : Core B cs n m) : 2 ≤ n := by have := h.many; omega
theorem Core.tm (h : Core B cs n m) (r : Nat) : (PW.tm m r).1 < n := by
  unfold PW.tm
  cases e : m r with
  | none => show 0 < n; have := h.two; omega
  | some t => exact h.terms r t e
theorem Core.fresh (h : Core B cs n m) {p : Tm} (hp : p.1 < n) (hi : In B p) (hs : ∀ (j : Nat) (q : Tm) (v : Nat), cs[j]? = some (q, v) → Sep B q p) : Core (B ++ [(n, 0, 255), (0, n, 0)]) (cs ++ [(p, n)]) (n + 1) m := by
  have hm := h.many
  have at_ : ∀ (j : Nat) (q : Tm) (v : Nat), (cs ++ [(p, n)])[j]? = some (q, v) → cs[j]? = some (q, v) ∨ (j = cs.length ∧ q = p ∧ v = n) := fun j q v e => by
    by_cases hj : j < cs.length
    · rw [List.getElem?_append_left hj] at e; exact .inl e
    · rw [List.getElem?_append_right (by omega)] at e
      have hl := (List.getElem?_eq_some_iff.mp e).1
      have hl : j - cs.length < 1 := hl
      have e0 : j - cs.length = 0 := by omega
      rw [e0] at e
      cases e
      exact .inr ⟨by omega, rfl, rfl⟩
  refine ⟨by rw [List.length_append]; show n + 1 = 2 + (cs.length + 1); omega, fun j q v e => ?_, fun b hb => ?_, List.mem_append_left _ h.f0, List.mem_append_left _ h.f1, fun v h1 h2 => ?_, fun c hc => ?_, fun i j q r u v hij hi hj => ?_, fun r t e => Nat.lt_succ_of_lt (h.terms r t e)⟩
  · rcases at_ j q v e with e | ⟨e1, e2, e3⟩
    · exact h.cell j q v e
    · subst e1 e2 e3; exact ⟨hm, by omega⟩
  · rcases List.mem_append.mp hb with hb | hb
    · have := h.var b hb; exact ⟨by omega, by omega⟩
    · have h2 := h.two
      rcases List.mem_cons.mp hb with e | hb
      · subst e; exact ⟨Nat.lt_succ_self n, by show 0 < n + 1; omega⟩
      · rw [List.mem_singleton.mp hb]; exact ⟨by show 0 < n + 1; omega, Nat.lt_succ_self n⟩
  · by_cases e : v = n
    · subst e
      exact ⟨List.mem_append_right _ (List.mem_cons_of_mem _ List.mem_cons_self), List.mem_append_right _ List.mem_cons_self⟩
    · have := h.low v h1 (by omega)
      exact ⟨List.mem_append_left _ this.1, List.mem_append_left _ this.2⟩
  · rcases List.mem_append.mp hc with hc | hc
    · exact (h.within c hc).mono
    · rw [List.mem_singleton.mp hc]; exact hi.mono
  · rcases at_ i q u hi with ki | ⟨e1, e2, e3⟩
    · rcases at_ j r v hj with hj | ⟨f1, f2, f3⟩
      · exact (h.sep i j q r u v hij ki hj).mono
      · subst f2; exact (hs i q u ki).mono
    · rcases at_ j r v hj with hj | ⟨f1, f2, f3⟩
      · have := (List.getElem?_eq_some_iff.mp hj).1; omega
      · omega
end
structure LOk (is : List Ins) : Prop where
  len : is.length ≤ 200
  ok : ∀ (k : Nat) i, is[k]? = some i → insOk k i
structure Pend (ps : List (List Ins)) (w : Wk) (p : Tm) (n : Nat) : Prop where
  var : p.1 < w.many
  in_ : In w.bounds p
  ins : ∃ i, (linesAt ps w)[w.at_]? = some i ∧ isLoad i = true ∧ unsetT i w.terms = false ∧ p = placeOf w.terms i
  le : n ≤ w.cells.length
  sep : ∀ (j : Nat) (q : Tm) (v : Nat), j < n → w.cells[j]? = some (q, v) → Sep w.bounds q p
def Opts (ps : List (List Ins)) (w : Wk) (os : List (List Bd)) : Prop :=
  match w.pending with
  | some (p, n) => ∃ q v, w.cells[n]? = some (q, v) ∧ q.1 ≠ p.1 ∧ os = cellOpts p q
  | none => ∃ i, (linesAt ps w)[w.at_]? = some i ∧ unsetT i w.terms = false ∧ ((isTest i = true ∧ os = testOpts w.terms i) ∨ (isLoad i = true ∧ os = placeOpts (placeOf w.terms i)))
structure Wok (ps : List (List Ins)) (w : Wk) : Prop where
  core : Core w.bounds w.cells w.many w.terms
  at_ : w.at_ ≤ 200
  s1 : w.cells.length ≤ 201 * w.ends.length + w.at_
  ends : w.ends.length ≤ ps.length
  idle : w.ends.length = ps.length → w.options = none ∧ w.pending = none
  pend : ∀ p n, w.pending = some (p, n) → Pend ps w p n
  opts : ∀ os, w.options = some os → Opts ps w os
def ph (c : Nat) : Option (Tm × Nat) → Option (List (List Bd)) → Nat
  | none, none => 2 * c + 5
  | none, some _ => 2 * c + 4
  | some (_, n), none => 2 * (c - n) + 2
  | some (_, n), some _ => 2 * (c - n) + 1
def phase (w : Wk) : Nat := ph w.cells.length w.pending w.options
def muX (ps : List (List Ins)) : Nat := 402 * ps.length + 410
/-- what is left to do -/
def mu (ps : List (List Ins)) (w : Wk) : Nat := (ps.length - w.ends.length) * (201 * muX ps) + (200 - w.at_) * muX ps + phase w
section
variable {ps : List (List Ins)} {w w' : Wk} {cs cs' : List Nat}
theorem Wok.calm (c : Core w.bounds w.cells w.many w.terms) (a : w.at_ ≤ 200) (s : w.cells.length ≤ 201 * w.ends.length + w.at_) (e : w.ends.length ≤ ps.length) (o : w.options = none) (p : w.pending = none) : Wok ps w :=
  ⟨c, a, s, e, fun _ => ⟨o, p⟩, fun _ _ k => (by rw [p] at k; cases k), fun _ k => (by rw [o] at k; cases k)⟩
theorem phase_lt (h : Wok ps w) : phase w < muX ps := by
  have h1 := h.s1
  have h2 := h.at_
  have h3 := h.ends
  have : w.cells.length ≤ 201 * ps.length + 200 := by omega
  unfold phase muX ph
  split <;> omega
theorem mu_at (e : w'.ends.length = w.ends.length) (ha : w.at_ < w'.at_) (h2 : w'.at_ ≤ 200) (hp : phase w' < muX ps) : mu ps w' < mu ps w := by
  unfold mu
  rw [e]
  have : (200 - w'.at_ + 1) * muX ps ≤ (200 - w.at_) * muX ps := Nat.mul_le_mul_right _ (by omega)
  rw [Nat.add_mul, Nat.one_mul] at this
  omega
theorem mu_end (e : w'.ends.length = w.ends.length + 1) (he : w.ends.length < ps.length) (hp : phase w' < muX ps) : mu ps w' < mu ps w := by
  unfold mu
  have h1 : (ps.length - w'.ends.length + 1) * (201 * muX ps) ≤ (ps.length - w.ends.length) * (201 * muX ps) := Nat.mul_le_mul_right _ (by omega)
  rw [Nat.add_mul, Nat.one_mul] at h1
  have h2 : (200 - w'.at_) * muX ps ≤ 200 * muX ps := Nat.mul_le_mul_right _ (by omega)
  omega
theorem mu_ph (e : w'.ends.length = w.ends.length) (ha : w'.at_ = w.at_) (hp : phase w' < phase w) : mu ps w' < mu ps w := by
  unfold mu
  rw [e, ha]
  omega
theorem goal_le {i : Ins} {k : Nat} (h : isHop i = true ∨ isTest i = true) (ok : insOk k i) : k < goal i ∧ goal i ≤ 200 := by
  cases i with
  | jump l => exact ok (.l l) (.head _)
  | less r s n l => exact ok (.l l) (.tail _ (.tail _ (.tail _ (.head _))))
  | atmost r n l => exact ok (.l l) (.tail _ (.tail _ (.head _)))
  | same r n l => exact ok (.l l) (.tail _ (.tail _ (.head _)))
  | _ => rcases h with h | h <;> cases h
theorem lines_ok (hps : ∀ is ∈ ps, LOk is) : LOk (linesAt ps w) := by
  unfold linesAt
  cases e : ps[w.ends.length]? with
  | none => exact ⟨Nat.zero_le _, fun k i h => by simp at h⟩
  | some is => exact hps is (List.mem_of_getElem? e)
theorem Wok.finish (h : Wok ps w) (he : w.ends.length < ps.length) (o : w.options = none) (p : w.pending = none) (t : Told) : Wok ps (w.finish t) ∧ mu ps (w.finish t) < mu ps w := by
  have i : Wok ps (w.finish t) := by
    refine Wok.calm h.core.clear (Nat.zero_le _) ?_ ?_ o p
    · have := h.s1
      have := h.at_
      show w.cells.length ≤ 201 * (w.ends ++ [t]).length + 0
      rw [List.length_append]
      show w.cells.length ≤ 201 * (w.ends.length + 1) + 0
      omega
    · show (w.ends ++ [t]).length ≤ _
      rw [List.length_append]; exact he
  refine ⟨i, mu_end ?_ he (phase_lt i)⟩
  show (w.ends ++ [t]).length = _
  rw [List.length_append]; rfl
theorem Wok.load (h : Wok ps w) (o : w.options = none) (ha : w.at_ < 200) (i : Ins) {v : Nat} (hv : v < w.many) : Wok ps (w.load i v) ∧ mu ps (w.load i v) < mu ps w := by
  have s := h.s1
  have I : Wok ps (w.load i v) := by
    refine Wok.calm (h.core.term hv) ?_ ?_ h.ends o rfl
    · show w.at_ + 1 ≤ 200; omega
    · show w.cells.length ≤ 201 * w.ends.length + (w.at_ + 1); omega
  exact ⟨I, mu_at rfl (Nat.lt_succ_self _) (by show w.at_ + 1 ≤ 200; omega) (phase_lt I)⟩
theorem placeOf_lt (h : Wok ps w) {i : Ins} : (placeOf w.terms i).1 < w.many := by
  cases i with
  | load r s n => exact h.core.tm s
  | _ => have := h.core.two; show 0 < w.many; omega
theorem term_lt (h : Wok ps w) {i : Ins} : (termOf w.terms i).1 < w.many := by
  have := h.core.two
  cases i with
  | copy r s => exact h.core.tm s
  | add r n => exact h.core.tm r
  | length r => show 1 < w.many; omega
  | _ => show 0 < w.many; omega
theorem test_lt (h : Wok ps w) (i : Ins) : ∀ bs ∈ testOpts w.terms i, ∀ b ∈ bs, b.1 < w.many ∧ b.2.1 < w.many := by
  have h2 := h.core.two
  have hx : (testOf w.terms i).1.1 < w.many ∧ (testOf w.terms i).2.1.1 < w.many := by
    cases i with
    | less r s n l => exact ⟨h.core.tm r, h.core.tm s⟩
    | atmost r n l => exact ⟨h.core.tm r, by show 0 < w.many; omega⟩
    | same r n l => exact ⟨h.core.tm r, by show 0 < w.many; omega⟩
    | _ => exact ⟨by show 0 < w.many; omega, by show 0 < w.many; omega⟩
  intro bs hbs b hb
  unfold testOpts at hbs
  generalize testOf w.terms i = x at hx hbs
  obtain ⟨a, c, n⟩ := x
  simp only at hx hbs
  have key : b.1 = a.1 ∧ b.2.1 = c.1 ∨ b.1 = c.1 ∧ b.2.1 = a.1 := by
    split at hbs
    · simp only [List.mem_cons, List.not_mem_nil, or_false] at hbs
      rcases hbs with rfl | rfl | rfl <;> simp only [List.mem_cons, List.not_mem_nil, or_false] at hb
      · rcases hb with rfl | rfl
        · exact .inl ⟨rfl, rfl⟩
        · exact .inr ⟨rfl, rfl⟩
      · subst hb; exact .inl ⟨rfl, rfl⟩
      · subst hb; exact .inr ⟨rfl, rfl⟩
    · simp only [List.mem_cons, List.not_mem_nil, or_false] at hbs
      rcases hbs with rfl | rfl <;> simp only [List.mem_cons, List.not_mem_nil, or_false] at hb
      · subst hb; exact .inl ⟨rfl, rfl⟩
      · subst hb; exact .inr ⟨rfl, rfl⟩
  rcases key with ⟨e1, e2⟩ | ⟨e1, e2⟩ <;> rw [e1, e2]
  · exact hx
  · exact hx.symm
theorem place_lt {n : Nat} {p : Tm} (h2 : 2 ≤ n) (hp : p.1 < n) : ∀ bs ∈ placeOpts p, ∀ b ∈ bs, b.1 < n ∧ b.2.1 < n := by
  intro bs hbs b hb
  have h0 : nought.1 < n := by show 0 < n; omega
  have h1 : length_.1 < n := by show 1 < n; omega
  simp only [placeOpts, List.mem_cons, List.not_mem_nil, or_false] at hbs
  rcases hbs with rfl | rfl | rfl <;> simp only [List.mem_cons, List.not_mem_nil, or_false] at hb
  · subst hb; exact ⟨hp, h0⟩
  · subst hb; exact ⟨h1, hp⟩
  · rcases hb with rfl | rfl
    · exact ⟨h0, hp⟩
    · exact ⟨hp, h1⟩
theorem cell_lt {n : Nat} {p q : Tm} (hp : p.1 < n) (hq : q.1 < n) : ∀ bs ∈ cellOpts p q, ∀ b ∈ bs, b.1 < n ∧ b.2.1 < n := by
  intro bs hbs b hb
  simp only [cellOpts, List.mem_cons, List.not_mem_nil, or_false] at hbs
  rcases hbs with rfl | rfl | rfl <;> simp only [List.mem_cons, List.not_mem_nil, or_false] at hb
  · rcases hb with rfl | rfl
    · exact ⟨hp, hq⟩
    · exact ⟨hq, hp⟩
  · subst hb; exact ⟨hp, hq⟩
  · subst hb; exact ⟨hq, hp⟩
theorem Wok.step (hps : ∀ is ∈ ps, LOk is) (h : Wok ps w) (o : w.options = none) (he : w.ends.length ≠ ps.length) (p : w.pending = none) : Wok ps (w.step ps) ∧ mu ps (w.step ps) < mu ps w := by
  have he' : w.ends.length < ps.length := Nat.lt_of_le_of_ne h.ends he
  have L := lines_ok (w := w) hps
  unfold Wk.step
  cases ei : (linesAt ps w)[w.at_]? with
  | none => exact h.finish he' o p _
  | some i =>
    have hlt := (List.getElem?_eq_some_iff.mp ei).1
    have ha : w.at_ < 200 := Nat.lt_of_lt_of_le hlt L.len
    have iok := L.ok _ i ei
    have s := h.s1
    -- come noted
    have h' : Wok ps { w with came := w.came ++ [(w.ends.length, w.at_)] } := Wok.calm h.core h.at_ h.s1 h.ends o p
    have em : mu ps { w with came := w.came ++ [(w.ends.length, w.at_)] } = mu ps w := rfl
    show Wok ps (Wk.does { w with came := w.came ++ [(w.ends.length, w.at_)] } i) ∧ mu ps (Wk.does { w with came := w.came ++ [(w.ends.length, w.at_)] } i) < mu ps w
    rw [← em]
    have ei' : (linesAt ps { w with came := w.came ++ [(w.ends.length, w.at_)] })[w.at_]? = some i := ei
    have p' : ({ w with came := w.came ++ [(w.ends.length, w.at_)] } : Wk).pending = none := p
    have o' : ({ w with came := w.came ++ [(w.ends.length, w.at_)] } : Wk).options = none := o
    have ea : ({ w with came := w.came ++ [(w.ends.length, w.at_)] } : Wk).at_ = w.at_ := rfl
    have ee : ({ w with came := w.came ++ [(w.ends.length, w.at_)] } : Wk).ends = w.ends := rfl
    clear em
    generalize ({ w with came := w.came ++ [(w.ends.length, w.at_)] } : Wk) = u at *
    unfold Wk.does
    by_cases c1 : isEnd i = true
    · rw [if_pos c1]; exact h'.finish (by rw [ee]; exact he') o' p' _
    rw [if_neg c1]
    by_cases c2 : unsetT i u.terms = true
    · rw [if_pos c2]; exact h'.finish (by rw [ee]; exact he') o' p' _
    rw [if_neg c2]
    have c2' : unsetT i u.terms = false := by cases k : unsetT i u.terms <;> simp_all
    have su := h'.s1
    by_cases c3 : isHop i = true
    · rw [if_pos c3]
      have g := goal_le (.inl c3) iok
      have I : Wok ps { u with at_ := goal i } := Wok.calm h'.core g.2 (by show u.cells.length ≤ 201 * u.ends.length + goal i; omega) h'.ends o' p'
      exact ⟨I, mu_at rfl (by show u.at_ < goal i; omega) g.2 (phase_lt I)⟩
    rw [if_neg c3]
    have ei2 : (linesAt ps u)[u.at_]? = some i := by rw [ea]; exact ei'
    by_cases c4 : isTest i = true
    · rw [if_pos c4]
      refine ⟨⟨h'.core, h'.at_, h'.s1, h'.ends, fun z => absurd (by rw [ee] at z; exact z) he, fun q n k => ?_, fun os k => ?_⟩, mu_ph rfl rfl ?_⟩
      · have k : u.pending = some (q, n) := k
        rw [p'] at k; cases k
      · cases k
        show Opts ps _ _
        unfold Opts
        rw [show ({ u with options := some (testOpts u.terms i) } : Wk).pending = none from p']
        exact ⟨i, ei2, c2', .inl ⟨c4, rfl⟩⟩
      · show ph u.cells.length u.pending (some _) < ph u.cells.length u.pending u.options
        rw [p', o']
        exact Nat.lt_succ_self _
    rw [if_neg c4]
    by_cases c5 : isLoad i = true
    · rw [if_pos c5]
      refine ⟨⟨h'.core, h'.at_, h'.s1, h'.ends, fun z => absurd (by rw [ee] at z; exact z) he, fun q n k => ?_, fun os k => ?_⟩, mu_ph rfl rfl ?_⟩
      · have k : u.pending = some (q, n) := k
        rw [p'] at k; cases k
      · cases k
        show Opts ps _ _
        unfold Opts
        rw [show ({ u with options := some (placeOpts (placeOf u.terms i)) } : Wk).pending = none from p']
        exact ⟨i, ei2, c2', .inr ⟨c5, rfl⟩⟩
      · show ph u.cells.length u.pending (some _) < ph u.cells.length u.pending u.options
        rw [p', o']
        exact Nat.lt_succ_self _
    rw [if_neg c5]
    have I : Wok ps { u with terms := putT u.terms (regOf i) (termOf u.terms i), at_ := u.at_ + 1 } := Wok.calm (h'.core.term (term_lt h')) (by show u.at_ + 1 ≤ 200; omega) (by show u.cells.length ≤ 201 * u.ends.length + (u.at_ + 1); omega) h'.ends o' p'
    exact ⟨I, mu_at rfl (Nat.lt_succ_self _) (by show u.at_ + 1 ≤ 200; omega) (phase_lt I)⟩
theorem Wok.look (hps : ∀ is ∈ ps, LOk is) (h : Wok ps w) (o : w.options = none) (he : w.ends.length ≠ ps.length) {p : Tm} {n : Nat} (hp : w.pending = some (p, n)) : Wok ps (w.lookC ps p n) ∧ mu ps (w.lookC ps p n) < mu ps w := by
  have P := h.pend p n hp
  obtain ⟨i, ei, ld, un, ep⟩ := P.ins
  have L := lines_ok (w := w) hps
  have ha : w.at_ < 200 := Nat.lt_of_lt_of_le (List.getElem?_eq_some_iff.mp ei).1 L.len
  have s := h.s1
  unfold Wk.lookC
  cases ec : w.cells[n]? with
  | none =>
    have hn : n = w.cells.length := Nat.le_antisymm P.le (List.getElem?_eq_none_iff.mp ec)
    have C := h.core.fresh P.var P.in_ fun j q v e => P.sep j q v (by rw [hn]; exact (List.getElem?_eq_some_iff.mp e).1) e
    have I : Wok ps (w.fresh (insAt ps w) p) := by
      refine Wok.calm (C.term (Nat.lt_succ_self _)) ?_ ?_ h.ends o rfl
      · show w.at_ + 1 ≤ 200; omega
      · show (w.cells ++ [(p, w.many)]).length ≤ 201 * w.ends.length + (w.at_ + 1)
        rw [List.length_append]
        show w.cells.length + 1 ≤ _
        omega
    exact ⟨I, mu_at rfl (Nat.lt_succ_self _) (by show w.at_ + 1 ≤ 200; omega) (phase_lt I)⟩
  | some c =>
    obtain ⟨q, v⟩ := c
    have hn := (List.getElem?_eq_some_iff.mp ec).1
    have hc := h.core.cell n q v ec
    have hm := h.core.many
    show Wok ps (if q = p then w.load (insAt ps w) v else if q.1 = p.1 then { w with pending := some (p, n + 1) } else { w with options := some (cellOpts p q), pending := some (p, n) }) ∧ mu ps (if q = p then w.load (insAt ps w) v else if q.1 = p.1 then { w with pending := some (p, n + 1) } else { w with options := some (cellOpts p q), pending := some (p, n) }) < mu ps w
    by_cases c1 : q = p
    · rw [if_pos c1]; exact h.load o ha _ (by omega)
    rw [if_neg c1]
    by_cases c2 : q.1 = p.1
    · rw [if_pos c2]
      have c3 : q.2 ≠ p.2 := fun z => c1 (Prod.ext c2 z)
      refine ⟨⟨h.core, h.at_, h.s1, h.ends, fun z => absurd z he, fun p' n' k => ?_, fun os k => ?_⟩, mu_ph rfl rfl ?_⟩
      · cases k
        refine ⟨P.var, P.in_, P.ins, hn, fun j q' v' hj e => ?_⟩
        by_cases ej : j < n
        · exact P.sep j q' v' ej e
        · have : j = n := by omega
          subst this
          have e : w.cells[j]? = some (q', v') := e
          rw [ec] at e
          cases e
          exact .inl ⟨c2, c3⟩
      · have k : w.options = some os := k
        rw [o] at k; cases k
      · show ph w.cells.length (some (p, n + 1)) w.options < ph w.cells.length w.pending w.options
        rw [hp, o]
        show 2 * (w.cells.length - (n + 1)) + 2 < 2 * (w.cells.length - n) + 2
        omega
    rw [if_neg c2]
    refine ⟨⟨h.core, h.at_, h.s1, h.ends, fun z => absurd z he, fun p' n' k => ?_, fun os k => ?_⟩, mu_ph rfl rfl ?_⟩
    · cases k
      exact ⟨P.var, P.in_, P.ins, P.le, P.sep⟩
    · cases k
      exact ⟨q, v, ec, c2, rfl⟩
    · show ph w.cells.length (some (p, n)) (some _) < ph w.cells.length w.pending w.options
      rw [hp, o]
      show 2 * (w.cells.length - n) + 1 < 2 * (w.cells.length - n) + 2
      omega
theorem Wok.addB (h : Wok ps w) {C : List Bd} (hC : ∀ b ∈ C, b.1 < w.many ∧ b.2.1 < w.many) : Wok ps { w with bounds := w.bounds ++ C, options := none } := by
  refine ⟨h.core.addB hC, h.at_, h.s1, h.ends, fun z => ⟨rfl, (h.idle z).2⟩, fun p n k => ?_, fun os k => nomatch k⟩
  have P := h.pend p n k
  exact ⟨P.var, P.in_.mono, P.ins, P.le, fun j q v hj e => (P.sep j q v hj e).mono⟩
theorem insAt_of {i : Ins} (e : (linesAt ps w)[w.at_]? = some i) : insAt ps w = i := by unfold insAt; rw [e]; rfl
theorem opts_lt (h : Wok ps w) {os : List (List Bd)} (o : w.options = some os) : ∀ bs ∈ os, ∀ b ∈ bs, b.1 < w.many ∧ b.2.1 < w.many := by
  have O := h.opts os o
  unfold Opts at O
  split at O
  · rename_i p n hp
    obtain ⟨q, v, ec, _, rfl⟩ := O
    have hc := h.core.cell n q v ec
    have hm := h.core.many
    have hn := (List.getElem?_eq_some_iff.mp ec).1
    exact cell_lt (h.pend p n hp).var (by omega)
  · obtain ⟨i, ei, un, ⟨_, rfl⟩ | ⟨_, rfl⟩⟩ := O
    · exact test_lt h i
    · exact place_lt h.core.two (placeOf_lt h)
theorem Wok.take (hps : ∀ is ∈ ps, LOk is) (h : Wok ps w) {os : List (List Bd)} (o : w.options = some os) {c : Nat} (hc : c < os.length) : Wok ps (Wk.takeF ps w os c) ∧ mu ps (Wk.takeF ps w os c) < mu ps w := by
  have he : w.ends.length ≠ ps.length := fun z => by rw [(h.idle z).1] at o; cases o
  have he' : w.ends.length < ps.length := Nat.lt_of_le_of_ne h.ends he
  have eb : os[c]? = some os[c] := List.getElem?_eq_getElem hc
  have hb := opts_lt h o os[c] (List.getElem_mem hc)
  have O := h.opts os o
  have A := h.addB hb
  have L := lines_ok (w := w) hps
  have s := h.s1
  unfold Wk.takeF
  rw [eb]
  simp only [Option.getD_some]
  unfold Opts at O
  cases hp : w.pending with
  | some pn =>
    obtain ⟨p, n⟩ := pn
    rw [hp] at O
    obtain ⟨q, v, ec, ne, rfl⟩ := O
    have P := h.pend p n hp
    obtain ⟨i, ei, ld, un, ep⟩ := P.ins
    have ha : w.at_ < 200 := Nat.lt_of_lt_of_le (List.getElem?_eq_some_iff.mp ei).1 L.len
    have hn := (List.getElem?_eq_some_iff.mp ec).1
    have hcell := h.core.cell n q v ec
    have hm := h.core.many
    generalize hC : (cellOpts p q)[c] = C at A
    by_cases c0 : c = 0
    · simp only [if_pos c0, ec, Option.getD_some]
      have r := (A.load rfl ha (insAt ps w) (v := v) (by show v < w.many; omega)).1
      exact ⟨r, mu_at rfl (Nat.lt_succ_self _) (by show w.at_ + 1 ≤ 200; omega) (phase_lt r)⟩
    · simp only [if_neg c0]
      have hsep : Sep (w.bounds ++ C) q p := by
        have hc3 : c < 3 := hc
        have : c = 1 ∨ c = 2 := by omega
        rcases this with e | e <;> subst e <;> rw [← hC]
        · exact .inr (.inr (List.mem_append_right _ (List.mem_singleton.mpr rfl)))
        · exact .inr (.inl (List.mem_append_right _ (List.mem_singleton.mpr rfl)))
      refine ⟨⟨A.core, A.at_, A.s1, A.ends, fun z => absurd z he, fun p' n' k => ?_, fun os' k => nomatch k⟩, mu_ph rfl rfl ?_⟩
      · cases k
        refine ⟨P.var, P.in_.mono, P.ins, hn, fun j q' v' hj e => ?_⟩
        by_cases ej : j < n
        · exact (P.sep j q' v' ej e).mono
        · have : j = n := by omega
          subst this
          have e : w.cells[j]? = some (q', v') := e
          rw [ec] at e
          cases e
          exact hsep
      · show ph w.cells.length (some (p, n + 1)) none < ph w.cells.length w.pending w.options
        rw [hp, o]
        show 2 * (w.cells.length - (n + 1)) + 2 < 2 * (w.cells.length - n) + 1
        omega
  | none =>
    rw [hp] at O
    obtain ⟨i, ei, un, O⟩ := O
    have ha : w.at_ < 200 := Nat.lt_of_lt_of_le (List.getElem?_eq_some_iff.mp ei).1 L.len
    rw [insAt_of ei]
    have iok := L.ok _ i ei
    generalize hC : os[c] = C at A
    rw [hp] at A
    rcases O with ⟨ti, eo⟩ | ⟨ld, eo⟩
    · have nl : isLoad i = false := by cases i <;> first | rfl | cases ti
      simp only [if_pos nl]
      have g := goal_le (.inr ti) iok
      have hg : w.at_ < (if c = 0 then goal i else w.at_ + 1) ∧ (if c = 0 then goal i else w.at_ + 1) ≤ 200 := by
        split <;> omega
      have I : Wok ps { w with bounds := w.bounds ++ C, options := none, at_ := if c = 0 then goal i else w.at_ + 1, pending := none } :=
        Wok.calm A.core hg.2 (by show w.cells.length ≤ 201 * w.ends.length + (if c = 0 then goal i else w.at_ + 1); omega) h.ends rfl rfl
      exact ⟨I, mu_at rfl hg.1 hg.2 (phase_lt I)⟩
    · have nl : ¬ isLoad i = false := by rw [ld]; exact fun z => nomatch z
      simp only [if_neg nl]
      by_cases c2 : c = 2
      · simp only [if_pos c2]
        refine ⟨⟨A.core, A.at_, A.s1, A.ends, fun z => absurd z he, fun p' n' k => ?_, fun os' k => nomatch k⟩, mu_ph rfl rfl ?_⟩
        · cases k
          subst c2
          have hi : In (w.bounds ++ C) (placeOf w.terms i) := by
            subst eo
            subst hC
            exact ⟨List.mem_append_right _ List.mem_cons_self, List.mem_append_right _ (List.mem_cons_of_mem _ List.mem_cons_self)⟩
          exact ⟨placeOf_lt h, hi, ⟨i, ei, ld, un, rfl⟩, Nat.zero_le _, fun j q v hj => absurd hj (Nat.not_lt_zero _)⟩
        · show ph w.cells.length (some (placeOf w.terms i, 0)) none < ph w.cells.length w.pending w.options
          rw [hp, o]
          show 2 * (w.cells.length - 0) + 2 < 2 * w.cells.length + 4
          omega
      · simp only [if_neg c2]
        have r := A.finish he' rfl rfl (.beyond w.at_)
        exact ⟨r.1, mu_end (by show (w.ends ++ [_]).length = _; rw [List.length_append]; rfl) he' (phase_lt r.1)⟩
theorem Wok.cstep (hps : ∀ is ∈ ps, LOk is) (h : Wok ps w) (e : cstep ps w cs = some (w', cs')) : Wok ps w' ∧ mu ps w' < mu ps w := by
  unfold PW.cstep at e
  split at e
  · rename_i os o
    split at e
    · cases e
    · split at e
      · rename_i hc
        cases e
        exact h.take hps o hc
      · cases e
  · rename_i o
    split at e
    · cases e
    · rename_i he
      split at e
      · rename_i hp; cases e; exact h.step hps o he hp
      · rename_i hp; cases e; exact h.look hps o he hp
theorem Wok.reach (hps : ∀ is ∈ ps, LOk is) (h : Wok ps w) (r : Reach ps w cs w' cs') : Wok ps w' := by
  induction r with
  | refl => exact h
  | head e _ ih => exact ih (h.cstep hps e).1
theorem Wok.start : Wok ps start := by
  refine Wok.calm ⟨rfl, fun j p v e => (nomatch e), fun b hb => ?_, List.mem_cons_self, List.mem_cons_of_mem _ List.mem_cons_self, fun v h1 h2 => ?_, fun c hc => (nomatch hc), fun i j p q u v _ e => (nomatch e), fun _ _ e => (nomatch e)⟩ (Nat.zero_le _) (Nat.zero_le _) (Nat.zero_le _) rfl rfl
  · simp only [PW.start, first, List.mem_cons, List.not_mem_nil, or_false] at hb
    rcases hb with rfl | rfl
    · exact ⟨by decide, by decide⟩
    · exact ⟨by decide, by decide⟩
  · have h2 : v < 2 := h2
    omega
end
end L2.PW

namespace L2.PL
open PySem PySem.Spec PyProof.Rows
/-! ### several new lists at once -/
structure Ls (W : List Addr) (H0 H : Hp) (L : List (Addr × List V)) : Prop where
  o : Old W H0 H
  at_ : ∀ p ∈ L, H p.1 = some (.lst p.2)
  out : ∀ p ∈ L, p.1 ∉ W
theorem Ls.nil {W : List Addr} {H : Hp} : Ls W H H [] := ⟨Old.refl _ _, fun p h => by simp at h, fun p h => by simp at h⟩
theorem Ls.new {W : List Addr} {H0 H : Hp} {L : List (Addr × List V)} {p : Addr} (h : Ls W H0 H L) (hp : H p = none) (hw : p ∉ W) (xs : List V) : Ls W H0 (upd H p (.lst xs)) ((p, xs) :: L) := by
  refine ⟨h.o.new hp, fun q hq => ?_, fun q hq => ?_⟩
  · rcases List.mem_cons.mp hq with rfl | hq
    · exact upd_same
    · rw [upd_ne (ne_of_none (h.at_ q hq) hp)]; exact h.at_ q hq
  · rcases List.mem_cons.mp hq with rfl | hq
    · exact hw
    · exact h.out q hq
theorem Ls.keep {W : List Addr} {H0 H H' : Hp} {L : List (Addr × List V)} (h : Ls W H0 H L) (o : Old W H H') : Ls W H0 H' L :=
  ⟨h.o.trans o, fun q hq => o _ _ (h.out q hq) (h.at_ q hq), h.out⟩
/-- a dict written -/
theorem Ls.dict {W : List Addr} {H0 H : Hp} {L : List (Addr × List V)} {d : Addr} {kvs ks : List (Key × V)} (h : Ls W H0 H L) (hd : H d = some (.dK kvs)) (h0 : H0 d = none) : Ls W H0 (upd H d (.dK ks)) L := by
  refine ⟨h.o.put0 h0, fun q hq => ?_, h.out⟩
  rw [upd_ne (ne_of (h.at_ q hq) hd (fun z => nomatch z))]
  exact h.at_ q hq
theorem valV_merge (k : Key) : ∀ (ls kvs : List (Key × V)), valV (mergeK kvs ls) k = ls.foldl (fun acc p => if k = p.1 then some p.2 else acc) (valV kvs k)
  | [], kvs => rfl
  | p :: ls, kvs => by
    show valV (mergeK (putK kvs p.1 p.2) ls) k = ls.foldl _ (if k = p.1 then some p.2 else valV kvs k)
    rw [valV_merge k ls (putK kvs p.1 p.2), valV_put]
theorem putK_new {kvs : List (Key × V)} {k : Key} {v : V} (h : k ∉ kvs.map (·.1)) : putK kvs k v = kvs ++ [(k, v)] := by
  unfold putK
  rw [if_neg]
  intro z
  obtain ⟨p, hp, e⟩ := List.any_eq_true.mp z
  exact h (List.mem_map.mpr ⟨p, hp, of_decide_eq_true e⟩)
theorem mergeK_new : ∀ (ls kvs : List (Key × V)), ((kvs ++ ls).map (·.1)).Nodup → mergeK kvs ls = kvs ++ ls
  | [], kvs, _ => by rw [List.append_nil]; rfl
  | p :: ls, kvs, h => by
    have hp : p.1 ∉ kvs.map (·.1) := by
      rw [List.map_append, List.nodup_append] at h
      intro m
      exact h.2.2 p.1 m p.1 (.head _) rfl
    show mergeK (putK kvs p.1 p.2) ls = _
    rw [putK_new hp]
    have : (kvs ++ [(p.1, p.2)]) ++ ls = kvs ++ p :: ls := by rw [List.append_assoc]; rfl
    rw [mergeK_new ls _ (by rw [this]; exact h), this]
end L2.PL

namespace L2.PL
open PySem PySem.Spec PyProof.Rows
section
variable {X : Cx} {CX : CXT} {j k : Nat} {ps : List Str} {sp : Sp} {E : XK} {x : Str} {p pos : Pos}
theorem pe_calG0 (C : CalG X.prog X.w X.K X.mg X.base CX x ps k sp) (hr : Room j X.A) (hG : X.A.guards = some []) (hg : Gl X x) (hx : Passes CX X E) (hk : k ≤ j := by decide) (hdb : (x == ("__debug__" : Str)) = false := by decide) :
    PE X (.Call (.Name x p) [] [] pos) (tCall sp [] E tNil) := by
  obtain ⟨f, fd, hm, kp, hb, F⟩ := C.ex
  constructor
  intro pins s σ H Q I h
  refine wpAny_Call_Name_kw (ld_glob I hg hm ?_ hdb)
  exact PySem.W.callWith_K0 I.kIn kp (run_fnG (us := []) (vs := []) F (hr.mono hk) hG hb hx I .nil h)
end
end L2.PL

namespace L2.PL
open PySem PySem.Spec PyProof.Rows
section
variable {X : Cx}
/-- o.f op= e, f a slot -/
def sSlA (K : PySem.W.Frag) (ta tv : TE) (f : Str) (rd : V → V → Hp → VK → Prop) : TS := fun D σ H => ta σ H fun x H1 => ∃ a C dx p vs i v, x = .ref a ∧ SlX.Slt H1 a C dx vs ∧ SlX.SCls K C ∧ SlX.Slot1 K C f p i ∧ vs[i]? = some (some v) ∧
  tv σ H1 fun y H2 => rd v y H2 fun z H3 => ∃ vs', SlX.Slt H3 a C dx vs' ∧ D.nx σ (SlX.slH H3 a C dx (SlX.putS i z vs'))
theorem ps_sla {op : Operator} {rd : V → V → Hp → VK → Prop} {o value : Expr} {f : Str} {tpos pos : Pos} {ta tv : TE} (ha : PE X o ta) (hv : PE X value tv) (hop : InOp X op rd) :
    PS X (.AugAssign (.Attribute o f tpos) op value pos) (sSlA X.K ta tv f rd) := by
  refine ⟨fun pins s σ H D I h => ?_⟩
  refine wpAny_AugAssign_AttributeAny (thn (ha.run pins s σ H _ I h) fun ov s1 ⟨x, H1, I1, rx, a, C, dx, p, vs, i, v, ex, hs, c, t, l, q⟩ => ?_)
  subst ex
  obtain rfl : ov = Value.ref a := rx
  refine SlX.getslot_ok I1 hs c t l fun u s2 I2 ru => thn (hv.run pins s2 σ H1 _ I2 q) fun w3 s3 ⟨y, H2, I3, ry, q3⟩ => thn (hop pins s3 σ H2 v y u w3 _ I3 ru ry q3) fun w4 s4 ⟨z, H3, I4, rz, vs', hs', q4⟩ => ?_
  exact SlX.setslot_ok I4 hs' c t rz fun s5 I5 => ⟨σ, _, I5, q4⟩
end
end L2.PL

namespace L2.PL
open PySem PySem.Spec PyProof.Rows HT
theorem noI_tuple_add : typeLookup (.type "tuple") (dunderI "add") = pure none := by rw [typeLookup_type, builtinLookup_eq_fast]; kernel_rfl
section
variable {prog : Program} {w : World} {A : Around} {E : Value → Shared → Prop} {s : Shared}
theorem icat_tup {t b : Addr} {vs ws : List Value} {Q : Value → Shared → Prop} (ht : IsTup s.heap t vs.toArray) (hb : IsTup s.heap b ws.toArray) (h0 : vs = [] → Q (.ref b) s)
    (h1 : vs ≠ [] → ws = [] → Q (.ref t) s) (h2 : vs ≠ [] → ws ≠ [] → Q (.ref s.heap.objs.size) { s with heap := s.heap.push { cls := .type "tuple", data := .seq (vs ++ ws).toArray } })
    (hsz : vs.length + ws.length ≤ sizeLine) : wpAny (model prog w) A (inplaceOp .Add (.ref t) (.ref b)) Q E s := by
  obtain ⟨⟨cls, dd, data, sl⟩, ho, hc, n, hd⟩ := id ht
  obtain ⟨⟨cls2, dd2, data2, sl2⟩, ho2, hc2, n2, hd2⟩ := id hb
  simp only at hc hd hc2 hd2
  subst hc hd hc2 hd2
  have e : vs.toArray ++ ws.toArray = (vs ++ ws).toArray := by simp
  refine inplaceOp_concat ⟨_, ho, rfl⟩ ⟨_, ho2, rfl⟩ noI_tuple_add noFill_tuple_add seq_tuple_add ?_
  by_cases hv : vs = []
  · subst hv
    exact call_meets PySem.F.slot_tuple_add ⟨_, ho, rfl⟩ PySem.F.entry_tuple_add (PySem.F.args_tuple_add_2 _ _) (tuple_addW0 t b ([] : List Value).toArray ws.toArray n n2 dd dd2 sl sl2 (by simp)) ⟨ho, ho2, h0 rfl⟩
  by_cases hw : ws = []
  · exact call_meets PySem.F.slot_tuple_add ⟨_, ho, rfl⟩ PySem.F.entry_tuple_add (PySem.F.args_tuple_add_2 _ _)
      (tuple_addW1 t b vs.toArray ws.toArray n n2 dd dd2 sl sl2 (by simpa using hv) (by simp [hw])) ⟨ho, ho2, h1 hv hw⟩
  · refine call_meets PySem.F.slot_tuple_add ⟨_, ho, rfl⟩ PySem.F.entry_tuple_add (PySem.F.args_tuple_add_2 _ _)
      (tuple_addW2 t b vs.toArray ws.toArray n n2 dd dd2 sl sl2 (by simpa using hv) (by simpa using hw) (by rw [List.size_toArray, List.size_toArray]; exact hsz)) ⟨ho, ho2, ?_⟩
    rw [e]
    exact h2 hv hw
end
section
variable {X : Cx}
/-- t += u, behind a name or an attribute -/
theorem in_catA : InOp X .Add (rCatA X.K) := by
  intro pins s σ H x y v u Q I rx ry h
  obtain ⟨a, b, xs, ys, rfl, rfl, ha, hb, hz, q0, q1, q2⟩ := h
  cases rx
  cases ry
  obtain ⟨its, r1, p1, _⟩ := I.tuple ha
  obtain ⟨its2, r2, p2, _⟩ := I.tuple hb
  refine icat_tup p1 p2 (fun z => ⟨.ref b, H, I, rfl, q0 (r1.nil_iff.mp z)⟩) (fun z z2 => ⟨.ref a, H, I, rfl, q1 (fun k => z (r1.nil_iff.mpr k)) (r2.nil_iff.mp z2)⟩) (fun z z2 => ?_) (by rw [← r1.length, ← r2.length]; exact hz)
  refine ⟨.ref s.heap.objs.size, _, I.laid (t' := s.toks) (o := .tup (xs ++ ys)) (fun b ob q => Heap.get?_push_of_some _ q) (Nat.le_refl _) ?_, rfl, q2 (fun k => z (r1.nil_iff.mpr k)) (fun k => z2 (r2.nil_iff.mpr k)) _ (I.hok.fresh (Nat.le_refl _))⟩
  exact ⟨by rw [List.length_append]; exact hz, _, r1.append r2, IsTup.new _ _⟩
theorem ip_catA : PIp X .Add (rCatA X.K) := fun pins s σ H x y v u Q I rx ry h => in_catA pins s σ H x y v u Q I rx ry h
end
end L2.PL

namespace L2.PL
open PySem PySem.Spec PyProof.Rows
section
variable {X : Cx} {CX : CXT} {j k : Nat} {C : Addr} {ps : List Str} {sp : Sp} {E : XK} {pl : Sem Bool} {o : Expr} {m : Str} {ta : TE} {pos apos : Pos}
/-- o.m() -/
theorem pe_metC0 (M : MtC X.prog X.w X.K X.mg X.base CX C m ps k sp) (he : PE X o ta) (c : SlX.SCls X.K C) (hr : Room j X.A) (hx : Passes CX X E) (hk : k ≤ j := by decide)
    (ht : eval (.Call (.Attribute o m apos) [] [] pos) X.env = (do
      let ov ← eval o X.env
      standAt apos.atName
      let (f, first) ← holding [ov] (getMethod ov m pl)
      callWith pos f first (backTo pos (starEach [] X.env)) (backToKw pos (keywordEach [] X.env))) := by rfl) :
    PE X (.Call (.Attribute o m apos) [] [] pos) (SlX.tMethSl C sp E ta tNil) := by
  obtain ⟨g, fd, hm, hb, F⟩ := M.ex
  refine ⟨fun pins s σ H Q I h => ?_⟩
  refine PySem.W.methodCall_KW (pl := pl) (thn (he.run pins s σ H _ I h) fun u s1 ⟨x, H1, I1, rx, a, dx, vs, ex, hsl, q⟩ => ?_) ht
  subst ex
  obtain rfl : u = Value.ref a := rx
  refine SlX.getmethsl_ok I1 hsl c hm ?_
  exact PySem.W.callWith_K0 (first := [.ref a]) I1.kIn hm.kp (run_fn (us := [.ref a]) (vs := [.ref a]) F (hr.mono hk) hb .nil hx I1 (.cons rfl .nil) q)
end
end L2.PL

namespace L2.T39
open PySem PySem.Spec PyProof.Rows L2.PL
structure WkT (K : PySem.W.Frag) (C p0 p1 p2 p3 p4 p5 p6 p7 p8 p9 : Addr) : Prop where
  c : SlX.SCls K C
  s0 : SlX.Slot1 K C "at" p0 0
  s1 : SlX.Slot1 K C "bounds" p1 1
  s2 : SlX.Slot1 K C "came" p2 2
  s3 : SlX.Slot1 K C "cells" p3 3
  s4 : SlX.Slot1 K C "ends" p4 4
  s5 : SlX.Slot1 K C "many" p5 5
  s6 : SlX.Slot1 K C "options" p6 6
  s7 : SlX.Slot1 K C "pending" p7 7
  s8 : SlX.Slot1 K C "programs" p8 8
  s9 : SlX.Slot1 K C "terms" p9 9
/-! ### a walk's data -/
def cellD (c : PW.Tm × Nat) : PyData := .tuple [tmD c.1, .int (c.2 : Int)]
def cellsD (cs : List (PW.Tm × Nat)) : PyData := .tuple (cs.map cellD)
def pairD (p : Nat × Nat) : PyData := .tuple [.int (p.1 : Int), .int (p.2 : Int)]
def cameD (l : List (Nat × Nat)) : PyData := .tuple (l.map pairD)
def toldD (t : PR.Told) : PyData := .tuple (PR.toldL t)
def endsD (l : List PR.Told) : PyData := .tuple (l.map toldD)
def progsD (ps : List (List PR.Ins)) : PyData := .tuple (ps.map PR.linesD)
theorem only_map {α : Type} (f : α → PyData) (h : ∀ x, tupOnly (f x) = true) : ∀ l : List α, tupOnlyAll (l.map f) = true
  | [] => rfl
  | x :: l => by
    show (tupOnly (f x) && tupOnlyAll (l.map f)) = true
    rw [h x, only_map f h l]; rfl
theorem bdsD_only (b : List PW.Bd) : tupOnly (bdsD b) = true := only_map bdD (fun _ => rfl) b
theorem optsD_only (b : List (List PW.Bd)) : tupOnly (optsD b) = true := only_map bdsD bdsD_only b
theorem cellD_only (c : PW.Tm × Nat) : tupOnly (cellD c) = true := rfl
theorem cellsD_only (c : List (PW.Tm × Nat)) : tupOnly (cellsD c) = true := only_map cellD (fun _ => rfl) c
theorem cameD_only (c : List (Nat × Nat)) : tupOnly (cameD c) = true := only_map pairD (fun _ => rfl) c
theorem toldD_only (t : PR.Told) : tupOnly (toldD t) = true := by cases t <;> rfl
theorem endsD_only (c : List PR.Told) : tupOnly (endsD c) = true := only_map toldD toldD_only c
theorem progsD_only (c : List (List PR.Ins)) : tupOnly (progsD c) = true := only_map PR.linesD linesD_only c
theorem ins_at {K : PySem.W.Frag} {H : Hp} {v : V} {i : PR.Ins} (h : Dp K H v (PR.insD i)) : ∃ t, v = .ref t ∧ SqT K H t (PR.insV i) := by
  obtain ⟨t, xs, e, h1, h2⟩ := dp_tup h
  have : xs = PR.insV i := by
    cases h2 with
    | cons a b =>
      cases a
      have key : ∀ (as : List PR.Arg) (ys : List V), DpAll K H ys (as.map PR.Arg.d) → ys = as.map PR.Arg.v := by
        intro as
        induction as with
        | nil => intro ys h; cases h; rfl
        | cons a as ih =>
          intro ys h
          cases h with
          | cons p q =>
            rw [ih _ q]
            have : ∀ w : V, Dp K H w a.d → w = a.v := fun w z => by
              cases a <;> (cases z; rfl)
            rw [this _ p]; rfl
      rw [key _ _ b]; rfl
  rw [this] at h1
  exact ⟨t, e, h1⟩
/-- two tuples, one behind the other -/
theorem cat_dp {K : PySem.W.Frag} {H : Hp} {x y : V} {ds es : List PyData} {Q : VK} (hx : Dp K H x (.tuple ds)) (hy : Dp K H y (.tuple es)) (tx : tupOnlyAll ds = true) (ty : tupOnlyAll es = true) (hl : ds.length + es.length ≤ sizeLine)
    (q : ∀ H' v, Old [] H H' → Dp K H' v (.tuple (ds ++ es)) → Q v H') : rCatA K x y H Q := by
  obtain ⟨a, xs, e1, s1, a1⟩ := dp_tup hx
  obtain ⟨b, ys, e2, s2, a2⟩ := dp_tup hy
  subst e1 e2
  have l1 := PL.DpAll.length a1
  have l2 := PL.DpAll.length a2
  refine ⟨a, b, xs, ys, rfl, rfl, s1, s2, by rw [l1, l2]; exact hl, fun z => q H _ (Old.refl _ _) ?_, fun _ z => q H _ (Old.refl _ _) ?_, fun _ _ p np => ?_⟩
  · rw [z] at l1
    rw [List.eq_nil_of_length_eq_zero l1.symm, List.nil_append]; exact hy
  · rw [z] at l2
    rw [List.eq_nil_of_length_eq_zero l2.symm, List.append_nil]; exact hx
  · have o : Old [] H (upd H p (.tup (xs ++ ys))) := Old.new0 np
    have t := o.tk NoTup.nil
    exact q _ _ o (.tup (SqT.of upd_same) (PL.DpAll.append (PL.Dp.keepAll t _ _ tx a1) (PL.Dp.keepAll t _ _ ty a2)))
def pendD (p : PW.Tm × Nat) : PyData := .tuple [tmD p.1, .int (p.2 : Int)]
def optP {α : Type} (K : PySem.W.Frag) (H : Hp) (f : α → PyData) (v : V) : Option α → Prop
  | none => v = .non
  | some x => Dp K H v (f x)
theorem optP.keep {α : Type} {K : PySem.W.Frag} {H H' : Hp} {f : α → PyData} (hf : ∀ x, tupOnly (f x) = true) {v : V} {o : Option α} (t : Tk H H') (h : optP K H f v o) : optP K H' f v o := by
  cases o with
  | none => exact h
  | some x => exact PL.Dp.keep t _ _ (hf x) h
/-! ### the object -/
structure Raw (H : Hp) (C a dx kd : Addr) (kvs : List (Key × V)) (vs : List (Option V)) : Prop where
  ha : H a = some (SlX.SlO a C dx vs)
  hx : H dx = some (.xd [])
  hk : H kd = some (.dK kvs)
section
variable {H H' : Hp} {C a dx kd kd' : Addr} {kvs kvs' : List (Key × V)} {vs vs' : List (Option V)} {W : List Addr}
theorem Raw.slt (h : Raw H C a dx kd kvs vs) : SlX.Slt H a C dx vs := .inr ⟨h.ha, h.hx⟩
theorem Raw.nxa (h : Raw H C a dx kd kvs vs) : dx ≠ a := fun z => by
  have := h.hx
  rw [z, h.ha] at this
  exact SlX.slO_not (Option.some.inj this)
theorem Raw.nka (h : Raw H C a dx kd kvs vs) : kd ≠ a := fun z => by
  have := h.hk
  rw [z, h.ha] at this
  have := Option.some.inj this
  unfold SlX.SlO at this
  cases this
theorem Raw.nkx (h : Raw H C a dx kd kvs vs) : kd ≠ dx := fun z => by
  have := h.hk
  rw [z, h.hx] at this
  cases this
theorem Raw.tk (h : Raw H C a dx kd kvs vs) (o : Old [a, dx, kd] H H') : Tk H H' := by
  have st : ∀ b u, H b = some u → NT (some u) ∨ H' b = some u := by
    intro b u e
    by_cases hb : b ∈ [a, dx, kd]
    · left
      simp only [List.mem_cons, List.not_mem_nil, or_false] at hb
      rcases hb with z | z | z
      · rw [z, h.ha] at e; cases e; exact nt_slO
      · rw [z, h.hx] at e; cases e; exact nt_xd
      · rw [z, h.hk] at e; cases e; exact ⟨fun xs z => (nomatch z), fun p u z => (nomatch z)⟩
    · exact .inr (o b u hb e)
  exact ⟨fun b xs e => (st b _ e).elim (fun n => absurd rfl (n.1 xs)) id, fun b p u e => (st b _ e).elim (fun n => absurd rfl (n.2 p u)) id⟩
theorem Raw.store (h : Raw H C a dx kd kvs vs) (vs' : List (Option V)) : Raw (SlX.slH H a C dx vs') C a dx kd kvs vs' :=
  ⟨upd_same, by unfold SlX.slH; rw [upd_ne h.nxa, upd_same], by rw [SlX.slH_ne h.nka h.nkx]; exact h.hk⟩
theorem old_store : Old [a, dx, kd] H (SlX.slH H a C dx vs') := fun b u nb e => by
  simp only [List.mem_cons, List.not_mem_nil, or_false, not_or] at nb
  rw [SlX.slH_ne nb.1 nb.2.1]; exact e
theorem Raw.keep (h : Raw H C a dx kd kvs vs) (o : Old [] H H') : Raw H' C a dx kd kvs vs := ⟨o _ _ (by simp) h.ha, o _ _ (by simp) h.hx, o _ _ (by simp) h.hk⟩
theorem Raw.dict (h : Raw H C a dx kd kvs vs) (kvs' : List (Key × V)) : Raw (upd H kd (.dK kvs')) C a dx kd kvs' vs :=
  ⟨by rw [upd_ne h.nka.symm]; exact h.ha, by rw [upd_ne h.nkx.symm]; exact h.hx, upd_same⟩
theorem Raw.swap (h : Raw H C a dx kd kvs vs) (e : H kd' = some (.dK kvs')) : Raw H C a dx kd' kvs' vs := ⟨h.ha, h.hx, e⟩
theorem old_dict {o : HO} : Old [a, dx, kd] H (upd H kd o) := (Old.refl _ _).put (by simp)
end
def Dm (H H' : Hp) : Prop := ∀ b, H' b = none → H b = none
theorem Dm.upd {H : Hp} {p : Addr} {o : HO} : Dm H (upd H p o) := fun b e => by
  by_cases z : b = p
  · rw [z, upd_same] at e; cases e
  · rwa [upd_ne z] at e
theorem Dm.trans {H H1 H2 : Hp} (a : Dm H H1) (b : Dm H1 H2) : Dm H H2 := fun x e => a x (b x e)
theorem Dm.slH {H : Hp} {a C dx : Addr} {vs : List (Option V)} : Dm H (SlX.slH H a C dx vs) := Dm.upd.trans Dm.upd
theorem Dm.old {H H' : Hp} (o : Old [] H H') : Dm H H' := fun b e => o.free e (by simp)
structure Fr (a dx kd : Addr) (H H' : Hp) (kd' : Addr) : Prop where
  old : Old [a, dx, kd] H H'
  dm : Dm H H'
  kd : kd' = kd ∨ H kd' = none
theorem Old.w {W : List Addr} {H H' : Hp} (o : Old [] H H') : Old W H H' := o.mono (fun x hx => by cases hx)
theorem Fr.of {a dx kd : Addr} {H H' : Hp} (o : Old [] H H') : Fr a dx kd H H' kd := ⟨Old.w o, Dm.old o, .inl rfl⟩
theorem Fr.st {a dx kd C : Addr} {H : Hp} {vs : List (Option V)} : Fr a dx kd H (SlX.slH H a C dx vs) kd := ⟨old_store, Dm.slH, .inl rfl⟩
theorem Fr.di {a dx kd : Addr} {H : Hp} {o : HO} : Fr a dx kd H (upd H kd o) kd := ⟨old_dict, Dm.upd, .inl rfl⟩
theorem Raw.st {H : Hp} {C a dx kd : Addr} {kvs : List (Key × V)} {vs : List (Option V)} (h : Raw H C a dx kd kvs vs) (vs' : List (Option V)) : Raw (SlX.slH H a C dx vs') C a dx kd kvs vs' ∧ Fr a dx kd H (SlX.slH H a C dx vs') kd ∧ Tk H (SlX.slH H a C dx vs') :=
  ⟨h.store vs', Fr.st, h.tk (old_store (C := C))⟩
theorem Raw.di {H : Hp} {C a dx kd : Addr} {kvs : List (Key × V)} {vs : List (Option V)} (h : Raw H C a dx kd kvs vs) (kvs' : List (Key × V)) : Raw (upd H kd (.dK kvs')) C a dx kd kvs' vs ∧ Fr a dx kd H (upd H kd (.dK kvs')) kd ∧ Tk H (upd H kd (.dK kvs')) :=
  ⟨h.dict kvs', Fr.di, h.tk old_dict⟩
theorem Fr.trans {a dx kd kd1 kd2 : Addr} {H H1 H2 : Hp} (f : Fr a dx kd H H1 kd1) (g : Fr a dx kd1 H1 H2 kd2) : Fr a dx kd H H2 kd2 := by
  refine ⟨fun b u nb e => ?_, f.dm.trans g.dm, ?_⟩
  · have e1 := f.old b u nb e
    refine g.old b u (fun m => ?_) e1
    simp only [List.mem_cons, List.not_mem_nil, or_false, not_or] at m nb
    rcases m with z | z | z
    · exact nb.1 z
    · exact nb.2.1 z
    · rcases f.kd with w | w
      · exact nb.2.2 (z.trans w)
      · rw [← z, e] at w; cases w
  · rcases g.kd with w | w
    · rw [w]; exact f.kd
    · exact .inr (f.dm _ w)
/-- seen from before the walk was made -/
theorem Fr.from {a dx kd kd' : Addr} {H0 H H' : Hp} (f : Fr a dx kd H H' kd') (o : Old [] H0 H) (ha : H0 a = none) (hx : H0 dx = none) (hk : H0 kd = none) : Old [] H0 H' ∧ H0 kd' = none := by
  refine ⟨fun b u _ e => f.old b u (fun m => ?_) (o b u (by simp) e), ?_⟩
  · simp only [List.mem_cons, List.not_mem_nil, or_false] at m
    rcases m with z | z | z
    · rw [z, ha] at e; cases e
    · rw [z, hx] at e; cases e
    · rw [z, hk] at e; cases e
  · rcases f.kd with w | w
    · rw [w]; exact hk
    · exact o.free w (by simp)
structure Wv where
  b : V
  c : V
  l : V
  e : V
  o : V
  p : V
  ps : V
def slots (w : PW.Wk) (x : Wv) (kd : Addr) : List (Option V) := [some (.int (w.at_ : Int)), some x.b, some x.c, some x.l, some x.e, some (.int (w.many : Int)), some x.o, some x.p, some x.ps, some (.ref kd)]
structure Tup (K : PySem.W.Frag) (H : Hp) (x : Wv) (ps : List (List PR.Ins)) (w : PW.Wk) : Prop where
  b : Dp K H x.b (bdsD w.bounds)
  c : Dp K H x.c (cameD w.came)
  l : Dp K H x.l (cellsD w.cells)
  e : Dp K H x.e (endsD w.ends)
  o : optP K H optsD x.o w.options
  p : optP K H pendD x.p w.pending
  ps : Dp K H x.ps (progsD ps)
theorem Tup.keep {K : PySem.W.Frag} {H H' : Hp} {x : Wv} {ps : List (List PR.Ins)} {w : PW.Wk} (t : Tk H H') (h : Tup K H x ps w) : Tup K H' x ps w :=
  ⟨PL.Dp.keep t _ _ (bdsD_only _) h.b, PL.Dp.keep t _ _ (cameD_only _) h.c, PL.Dp.keep t _ _ (cellsD_only _) h.l, PL.Dp.keep t _ _ (endsD_only _) h.e, h.o.keep optsD_only t, h.p.keep (fun _ => rfl) t, PL.Dp.keep t _ _ (progsD_only _) h.ps⟩
/-- the walk stands in the heap -/
structure WkAt (K : PySem.W.Frag) (H : Hp) (C a dx kd : Addr) (ps : List (List PR.Ins)) (w : PW.Wk) : Prop where
  ex : ∃ x kvs, Raw H C a dx kd kvs (slots w x kd) ∧ Tup K H x ps w ∧ MemT K H kvs w.terms ∧ kvs.length ≤ w.at_
theorem WkAt.keep {K : PySem.W.Frag} {H H' : Hp} {C a dx kd : Addr} {ps : List (List PR.Ins)} {w : PW.Wk} (h : WkAt K H C a dx kd ps w) (o : Old [] H H') : WkAt K H' C a dx kd ps w := by
  obtain ⟨x, kvs, r, t, m, l⟩ := h.ex
  have tk := o.tk NoTup.nil
  exact ⟨x, kvs, r.keep o, t.keep tk, m.keep tk, l⟩
def WkPost (K : PySem.W.Frag) (C a dx kd : Addr) (ps : List (List PR.Ins)) (H : Hp) (Q : V → Hp → Prop) (w' : PW.Wk) : Prop := ∀ H' kd', Fr a dx kd H H' kd' → WkAt K H' C a dx kd' ps w' → Q .non H'
theorem lines_get {K : PySem.W.Frag} {H : Hp} {v : V} {ps : List (List PR.Ins)} {j : Nat} {is : List PR.Ins} (h : Dp K H v (progsD ps)) (e : ps[j]? = some is) : ∃ b xs t, v = .ref b ∧ SqT K H b xs ∧ xs.length = ps.length ∧ xs[j]? = some (.ref t) ∧ Dp K H (.ref t) (PR.linesD is) := by
  obtain ⟨b, xs, e1, h1, h2⟩ := dp_tup h
  obtain ⟨u, g1, g2⟩ := PL.DpAll.get h2 (i := j) (d := PR.linesD is) (by rw [List.getElem?_map, e]; rfl)
  obtain ⟨t, ys, e2, _, _⟩ := dp_tup g2
  subst e2
  exact ⟨b, xs, t, e1, h1, by rw [PL.DpAll.length h2, List.length_map], g1, g2⟩
def spEnded (K : PySem.W.Frag) (C : Addr) : Sp := fun vs H Q _ => ∃ (a dx kd : Addr) (ps : List (List PR.Ins)) (w : PW.Wk), vs = [.ref a] ∧ WkAt K H C a dx kd ps w ∧ Q (.bl (decide (w.ends.length = ps.length))) H
def spInstr_ (K : PySem.W.Frag) (C : Addr) : Sp := fun vs H Q _ => ∃ (a dx kd : Addr) (ps : List (List PR.Ins)) (w : PW.Wk) (i : PR.Ins), vs = [.ref a] ∧ WkAt K H C a dx kd ps w ∧ (PW.linesAt ps w)[w.at_]? = some i ∧ ∀ t, SqT K H t (PR.insV i) → Q (.ref t) H
def spFinish (K : PySem.W.Frag) (C : Addr) : Sp := fun vs H Q _ => ∃ (a dx kd : Addr) (ps : List (List PR.Ins)) (w : PW.Wk) (v : V) (t : PR.Told), vs = [.ref a, v] ∧ WkAt K H C a dx kd ps w ∧ Dp K H v (toldD t) ∧ w.ends.length < 1000 ∧ WkPost K C a dx kd ps H Q (w.finish t)
def spLoad (K : PySem.W.Frag) (C : Addr) : Sp := fun vs H Q _ => ∃ (a dx kd : Addr) (ps : List (List PR.Ins)) (w : PW.Wk) (i : PR.Ins) (v : Nat), vs = [.ref a, .int (v : Int)] ∧ WkAt K H C a dx kd ps w ∧ (PW.linesAt ps w)[w.at_]? = some i ∧ PW.isLoad i = true ∧ w.at_ < 200 ∧ WkPost K C a dx kd ps H Q (w.load i v)
def spPlaceOf (K : PySem.W.Frag) (C : Addr) : Sp := fun vs H Q _ => ∃ (a dx kd : Addr) (ps : List (List PR.Ins)) (w : PW.Wk) (t : Addr) (i : PR.Ins), vs = [.ref a, .ref t] ∧ WkAt K H C a dx kd ps w ∧ SqT K H t (PR.insV i) ∧ PW.isLoad i = true ∧ PW.unsetT i w.terms = false ∧ ∀ H' p, Old [] H H' → Dp K H' (.ref p) (tmD (PW.placeOf w.terms i)) → Q (.ref p) H'
def isSet : PR.Ins → Bool
  | .set .. => true
  | .copy .. => true
  | .add .. => true
  | .length .. => true
  | _ => false
def spTermOf (K : PySem.W.Frag) (C : Addr) : Sp := fun vs H Q _ => ∃ (a dx kd : Addr) (ps : List (List PR.Ins)) (w : PW.Wk) (t : Addr) (i : PR.Ins), vs = [.ref a, .ref t] ∧ WkAt K H C a dx kd ps w ∧ SqT K H t (PR.insV i) ∧ isSet i = true ∧ PW.unsetT i w.terms = false ∧ ∀ H' p, Old [] H H' → Dp K H' (.ref p) (tmD (PW.termOf w.terms i)) → Q (.ref p) H'
theorem linesAt_some {ps : List (List PR.Ins)} {w : PW.Wk} {i : PR.Ins} (e : (PW.linesAt ps w)[w.at_]? = some i) : ps[w.ends.length]? = some (PW.linesAt ps w) := by
  unfold PW.linesAt at *
  cases h : ps[w.ends.length]? with
  | none => rw [h] at e; simp at e
  | some is => rfl
section
variable {P : Program} {w : World} {K : PySem.W.Frag} {mg : Str → Option Value} {base : Heap} {C p0 p1 p2 p3 p4 p5 p6 p7 p8 p9 : Addr}
/-! Walk.is_ended: slots self=0; cells [] -/
abbrev s_Walk_is_ended : Stmt := inClass (topS 38) 3
abbrev N_Walk_is_ended : List Str := ["self"]
theorem sc_Walk_is_ended : FnScope N_Walk_is_ended ["self"] (defScope s_Walk_is_ended) := ⟨rfl, rfl, rfl, by decide +kernel, rfl, by decide +kernel, by decide +kernel⟩
theorem ok_wk_is_ended {f : Addr} {fd : FuncData} (F : Fun K "is_ended" "Walk.is_ended" s_Walk_is_ended f fd) (T : Tx mg) (T_Walk : WkT K C p0 p1 p2 p3 p4 p5 p6 p7 p8 p9) : FnOk P w K mg base CX0 1 f fd ["self"] (spEnded K C) := by
  refine F.ok sc_Walk_is_ended (fun vs H Q E h => ?_) (fun cdv A outer s H vs Q E hr h => ?_)
  · obtain ⟨a, dx, kd, ps, w, rfl, _⟩ := h
    rfl
  · obtain ⟨a, dx, kd, ps, w, rfl, hw, q⟩ := h
    obtain ⟨x, kvs, R, U, mem, kl⟩ := hw.ex
    obtain ⟨e, es, ee, se, al⟩ := dp_tup U.e
    obtain ⟨p, qs, ep, sp, bl⟩ := dp_tup U.ps
    have l1 : es.length = w.ends.length := by rw [PL.DpAll.length al, List.length_map]
    have l2 : qs.length = ps.length := by rw [PL.DpAll.length bl, List.length_map]
    refine ⟨_, (pss_one (ps_ret (pe_cmpR op_eq (pe_callB call_len_seq (by rfl) T.z_len bz_len (pa_cons (SlX.pe_sl (pv 0)) pa_nil)) (pe_callB call_len_seq (by rfl) T.z_len bz_len (pa_cons (SlX.pe_sl (pv 0)) pa_nil)) (nomark _)))), ?_⟩
    refine ⟨.ref a, rfl, a, C, dx, p4, _, 4, x.e, rfl, R.slt, T_Walk.c, T_Walk.s4, rfl, e, es, congrArg (fun v => [v]) ee, .inr se, ?_⟩
    refine ⟨.ref a, rfl, a, C, dx, p8, _, 8, x.ps, rfl, R.slt, T_Walk.c, T_Walk.s8, rfl, p, qs, congrArg (fun v => [v]) ep, .inr sp, ?_⟩
    refine ⟨rfl, ?_⟩
    have : decide (V.int (es.length : Int) = V.int (qs.length : Int)) = decide (w.ends.length = ps.length) := by
      rw [dec_int, l1, l2]
      by_cases z : w.ends.length = ps.length
      · rw [z]; simp
      · rw [decide_eq_false z]
        exact beq_eq_false_iff_ne.mpr fun y => z (by omega)
    rw [this]
    exact q
/-! Walk.instruction: slots self=0; cells [] -/
abbrev s_Walk_instruction : Stmt := inClass (topS 38) 4
abbrev N_Walk_instruction : List Str := ["self"]
theorem sc_Walk_instruction : FnScope N_Walk_instruction ["self"] (defScope s_Walk_instruction) := ⟨rfl, rfl, rfl, by decide +kernel, rfl, by decide +kernel, by decide +kernel⟩
theorem ok_wk_instruction {f : Addr} {fd : FuncData} (F : Fun K "instruction" "Walk.instruction" s_Walk_instruction f fd) (T : Tx mg) (T_Walk : WkT K C p0 p1 p2 p3 p4 p5 p6 p7 p8 p9) : FnOk P w K mg base CX0 1 f fd ["self"] (spInstr_ K C) := by
  refine F.ok sc_Walk_instruction (fun vs H Q E h => ?_) (fun cdv A outer s H vs Q E hr h => ?_)
  · obtain ⟨a, dx, kd, ps, w, i, rfl, _⟩ := h
    rfl
  · obtain ⟨a, dx, kd, ps, w, i, rfl, hw, hi, q⟩ := h
    obtain ⟨x, kvs, R, U, mem, kl⟩ := hw.ex
    obtain ⟨e, es, ee, se, al⟩ := dp_tup U.e
    have l1 : es.length = w.ends.length := by rw [PL.DpAll.length al, List.length_map]
    obtain ⟨b, xs, t, e1, h1, h2, h3, h4⟩ := lines_get U.ps (linesAt_some hi)
    obtain ⟨t', ys, e2, g1, g2⟩ := dp_tup h4
    cases e2
    obtain ⟨u, k1, k2⟩ := PL.DpAll.get g2 (i := w.at_) (d := PR.insD i) (by rw [List.getElem?_map, hi]; rfl)
    obtain ⟨z, rfl, sz⟩ := ins_at k2
    refine ⟨_, (pss_one (ps_ret (pe_ix ix_tup (pe_ix ix_tup (SlX.pe_sl (pv 0)) (pe_callB call_len_seq (by rfl) T.z_len bz_len (pa_cons (SlX.pe_sl (pv 0)) pa_nil)) (fun _ _ => rfl)) (SlX.pe_sl (pv 0)) (fun _ _ => rfl)))), ?_⟩
    refine ⟨.ref a, rfl, a, C, dx, p8, _, 8, x.ps, rfl, R.slt, T_Walk.c, T_Walk.s8, rfl, .ref a, rfl, a, C, dx, p4, _, 4, x.e, rfl, R.slt, T_Walk.c, T_Walk.s4, rfl, e, es, congrArg (fun v => [v]) ee, .inr se, ?_⟩
    refine ⟨b, xs, _, .ref t, e1, rfl, h1, by rw [l1]; exact atI_nat h3, ?_⟩
    refine ⟨.ref a, rfl, a, C, dx, p0, _, 0, _, rfl, R.slt, T_Walk.c, T_Walk.s0, rfl, ?_⟩
    exact ⟨t, ys, _, .ref z, rfl, rfl, g1, atI_nat k1, q z sz⟩
/-! Walk.finish: slots self=0 told=1; cells [] -/
abbrev s_Walk_finish : Stmt := inClass (topS 38) 6
abbrev N_Walk_finish : List Str := ["self", "told"]
theorem sc_Walk_finish : FnScope N_Walk_finish ["self", "told"] (defScope s_Walk_finish) := ⟨rfl, rfl, rfl, by decide +kernel, rfl, by decide +kernel, by decide +kernel⟩
theorem ok_wk_finish {f : Addr} {fd : FuncData} (F : Fun K "finish" "Walk.finish" s_Walk_finish f fd) (T : Tx mg) (T_Walk : WkT K C p0 p1 p2 p3 p4 p5 p6 p7 p8 p9) : FnOk P w K mg base CX0 1 f fd ["self", "told"] (spFinish K C) := by
  refine F.ok sc_Walk_finish (fun vs H Q E h => ?_) (fun cdv A outer s H vs Q E hr h => ?_)
  · obtain ⟨a, dx, kd, ps, w, v, t, rfl, _⟩ := h
    rfl
  · obtain ⟨a, dx, kd, ps, w, v, t, rfl, hw, dv, hl, q⟩ := h
    obtain ⟨x, kvs, R, U, mem, kl⟩ := hw.ex
    have hu := hu_of hr
    refine ⟨_, (pss_cons (ps_sla (pv 0) (pe_tup (pa_cons (pv 1) pa_nil)) in_catA)
      (pss_one (ps_asg (pe_tup (pa_cons pe_int (pa_cons pe_dnewK pa_nil))) (pg_tup (by rfl) (pgs_cons (pg_sl (pv 0)) (pgs_cons (pg_sl (pv 0)) pgs_nil)))))), ?_⟩
    refine ⟨.ref a, rfl, a, C, dx, p4, _, 4, x.e, rfl, R.slt, T_Walk.c, T_Walk.s4, rfl, v, rfl, by show 1 ≤ sizeLine; decide, fun u nu => ?_⟩
    have o1 : Old [] H (upd H u (.tup [v])) := Old.new0 nu
    have d1 : Dp K (upd H u (.tup [v])) (.ref u) (endsD [t]) := dp1 upd_same (PL.Dp.keep (o1.tk NoTup.nil) _ _ (toldD_only t) dv)
    have R1 := R.keep o1
    have U1 := U.keep (o1.tk NoTup.nil)
    generalize upd H u (.tup [v]) = H1 at o1 d1 R1 U1 ⊢
    refine cat_dp U1.e d1 (only_map _ toldD_only _) (only_map _ toldD_only _) (by rw [List.length_map]; exact Nat.le_trans (Nat.succ_le_of_lt hl) (by decide)) fun H2 v2 o2 d2 => ?_
    have R2 := R1.keep o2
    have U2 := U1.keep (o2.tk NoTup.nil)
    rw [← List.map_append] at d2
    refine ⟨_, R2.slt, ?_⟩
    obtain ⟨R3, f3, tk3⟩ := R2.st (SlX.putS 4 v2 (slots w x kd))
    have U3 := U2.keep tk3
    have d3 := PL.Dp.keep tk3 _ _ (endsD_only (w.ends ++ [t])) d2
    have f3 := (Fr.of (o1.trans o2)).trans f3
    generalize SlX.slH H2 a C dx (SlX.putS 4 v2 (slots w x kd)) = H3 at R3 f3 U3 d3 ⊢
    refine fun u nu => ⟨by show 2 ≤ sizeLine; decide, fun r nr => ?_⟩
    have o4 : Old [] H3 (upd (upd H3 u (.dK [])) r (.tup [.int 0, .ref u])) := (Old.new0 nu).new nr
    have hu4 : (upd (upd H3 u (.dK [])) r (.tup [.int 0, .ref u])) u = some (.dK []) := by rw [upd_ne (ne_of_none upd_same nr)]; exact upd_same
    have hr4 : (upd (upd H3 u (.dK [])) r (.tup [.int 0, .ref u])) r = some (.tup [.int 0, .ref u]) := upd_same
    have R4 := R3.keep o4
    have U4 := U3.keep (o4.tk NoTup.nil)
    have d4 := PL.Dp.keep (o4.tk NoTup.nil) _ _ (endsD_only (w.ends ++ [t])) d3
    have f4 := f3.trans (Fr.of o4)
    have hun : H u = none := f3.dm u nu
    generalize upd (upd H3 u (.dK [])) r (.tup [.int 0, .ref u]) = H4 at o4 hu4 hr4 R4 U4 d4 f4 ⊢
    refine ⟨r, _, rfl, SqT.of hr4, rfl, _, _, rfl, .ref a, rfl, a, C, dx, p0, _, 0, rfl, R4.slt, T_Walk.c, T_Walk.s0, ?_⟩
    obtain ⟨R5, g5, tk5⟩ := (R4.swap hu4).st (SlX.putS 0 (.int 0) (SlX.putS 4 v2 (slots w x kd)))
    have f5 := f4.trans (Fr.st (C := C) (vs := SlX.putS 0 (.int 0) (SlX.putS 4 v2 (slots w x kd))))
    have U5 := U4.keep tk5
    have d5 := PL.Dp.keep tk5 _ _ (endsD_only (w.ends ++ [t])) d4
    generalize SlX.slH H4 a C dx (SlX.putS 0 (.int 0) (SlX.putS 4 v2 (slots w x kd))) = H5 at R5 f5 U5 d5 ⊢
    refine ⟨_, _, rfl, .ref a, rfl, a, C, dx, p9, _, 9, rfl, R5.slt, T_Walk.c, T_Walk.s9, rfl, ?_⟩
    obtain ⟨R6, g6, tk6⟩ := R5.st (SlX.putS 9 (.ref u) (SlX.putS 0 (.int 0) (SlX.putS 4 v2 (slots w x kd))))
    have f6 := f5.trans (Fr.st (C := C) (vs := SlX.putS 9 (.ref u) (SlX.putS 0 (.int 0) (SlX.putS 4 v2 (slots w x kd)))))
    have U6 := U5.keep tk6
    have d6 := PL.Dp.keep tk6 _ _ (endsD_only (w.ends ++ [t])) d5
    refine q _ u ⟨f6.old, f6.dm, .inr hun⟩ ⟨{ x with e := v2 }, [], R6, ⟨U6.b, U6.c, U6.l, d6, U6.o, U6.p, U6.ps⟩, ⟨fun r _ => rfl, fun r t e => (nomatch e)⟩, Nat.zero_le _⟩
/-! Walk.place_of: slots self=0 instruction=1 variable=2 number=3; cells [] -/
abbrev s_Walk_place_of : Stmt := inClass (topS 38) 8
abbrev N_Walk_place_of : List Str := ["self", "instruction", "variable", "number"]
theorem sc_Walk_place_of : FnScope N_Walk_place_of ["self", "instruction"] (defScope s_Walk_place_of) := ⟨rfl, rfl, rfl, by decide +kernel, rfl, by decide +kernel, by decide +kernel⟩
theorem ok_wk_place_of {f : Addr} {fd : FuncData} (F : Fun K "place_of" "Walk.place_of" s_Walk_place_of f fd) (T : Tx mg) (T_Walk : WkT K C p0 p1 p2 p3 p4 p5 p6 p7 p8 p9) : FnOk P w K mg base CX0 1 f fd ["self", "instruction"] (spPlaceOf K C) := by
  refine F.ok sc_Walk_place_of (fun vs H Q E h => ?_) (fun cdv A outer s H vs Q E hr h => ?_)
  · obtain ⟨a, dx, kd, ps, w, t, i, rfl, _⟩ := h
    rfl
  · obtain ⟨a, dx, kd, ps, w, t, i, rfl, hw, ht, hl, hun, q⟩ := h
    obtain ⟨x, kvs, R, U, mem, kl⟩ := hw.ex
    have hu := hu_of hr
    refine ⟨_, (pss_cons (ps_asg (pe_dget hu (SlX.pe_sl (pv 0)) (pe_ix ix_tup (pv 1) pe_int (fun _ _ => rfl)) (fun _ _ => rfl)) (pg_tup (by rfl) (pgs_cons (pg_name (i := 2) sc_Walk_place_of.nd rfl (Or.inl rfl)) (pgs_cons (pg_name (i := 3) sc_Walk_place_of.nd rfl (Or.inl rfl)) pgs_nil))))
      (pss_one (ps_ret (pe_tup (pa_cons (pv 2) (pa_cons (pe_op op_add (pv 3) (pe_ix ix_tup (pv 1) (pe_un un_neg pe_int) (fun _ _ => rfl))) pa_nil)))))), ?_⟩
    cases i with
    | load r s n =>
      obtain ⟨v, g1, g2⟩ := mem.yes _ _ (set_of hun (2, s) (.head _))
      have g := DGet.k (k := .inr (PR.rg s)) R.hk
      rw [g1] at g
      obtain ⟨ta, rfl, sa⟩ := tm_at g2
      refine ⟨.ref a, rfl, a, C, dx, p9, _, 9, _, rfl, R.slt, T_Walk.c, T_Walk.s9, rfl, .ref t, rfl, t, _, 2, .str (PR.rg s), rfl, rfl, ht, atI_nat (j := 2) rfl, kd, _, rfl, g, ?_⟩
      refine ⟨ta, _, rfl, sa, rfl, _, _, rfl, _, _, rfl, rfl, ?_⟩
      refine ⟨.int _, rfl, .int _, rfl, .ref t, rfl, 1, rfl, t, _, -1, .int n, rfl, rfl, ht, rfl, _, n, rfl, rfl, by show 2 ≤ sizeLine; decide, fun p np => ?_⟩
      exact q _ p (Old.new0 np) (dp2 upd_same (.int _) (.int _))
    | _ => cases hl
/-! Walk.term_of: slots self=0 instruction=1 word=2 variable=3 number=4; cells [] -/
abbrev s_Walk_term_of : Stmt := inClass (topS 38) 9
abbrev N_Walk_term_of : List Str := ["self", "instruction", "word", "variable", "number"]
theorem sc_Walk_term_of : FnScope N_Walk_term_of ["self", "instruction"] (defScope s_Walk_term_of) := ⟨rfl, rfl, rfl, by decide +kernel, rfl, by decide +kernel, by decide +kernel⟩
theorem ok_wk_term_of {f : Addr} {fd : FuncData} (F : Fun K "term_of" "Walk.term_of" s_Walk_term_of f fd) (T : Tx mg) (T_Walk : WkT K C p0 p1 p2 p3 p4 p5 p6 p7 p8 p9) : FnOk P w K mg base CX0 1 f fd ["self", "instruction"] (spTermOf K C) := by
  refine F.ok sc_Walk_term_of (fun vs H Q E h => ?_) (fun cdv A outer s H vs Q E hr h => ?_)
  · obtain ⟨a, dx, kd, ps, w, t, i, rfl, _⟩ := h
    rfl
  · obtain ⟨a, dx, kd, ps, w, t, i, rfl, hw, ht, hl, hun, q⟩ := h
    obtain ⟨x, kvs, R, U, mem, kl⟩ := hw.ex
    have hu := hu_of hr
    refine ⟨_, (pss_cons (ps_set (i := 2) sc_Walk_term_of.nd rfl (.inl rfl) (pe_ix ix_tup (pv 1) pe_int (fun _ _ => rfl)))
      (pss_cons (ps_if (pt_cmpR op_eq (pv 2) pe_str (nomark _))
       (pss_one (ps_ret (pe_tup (pa_cons (pe_gI (by rfl) T.g_NOUGHT) (pa_cons (pe_ix ix_tup (pv 1) pe_int (fun _ _ => rfl)) pa_nil)))))
       pss_nil)
      (pss_cons (ps_if (pt_cmpR op_eq (pv 2) pe_str (nomark _))
       (pss_one (ps_ret (pe_tup (pa_cons (pe_gI (by rfl) T.g_LENGTH) (pa_cons pe_int pa_nil)))))
       pss_nil)
      (pss_cons (ps_if (pt_cmpR op_eq (pv 2) pe_str (nomark _))
       (pss_one (ps_ret (pe_dget hu (SlX.pe_sl (pv 0)) (pe_ix ix_tup (pv 1) pe_int (fun _ _ => rfl)) (fun _ _ => rfl))))
       pss_nil)
      (pss_cons (ps_asg (pe_dget hu (SlX.pe_sl (pv 0)) (pe_ix ix_tup (pv 1) pe_int (fun _ _ => rfl)) (fun _ _ => rfl)) (pg_tup (by rfl) (pgs_cons (pg_name (i := 3) sc_Walk_term_of.nd rfl (Or.inl rfl)) (pgs_cons (pg_name (i := 4) sc_Walk_term_of.nd rfl (Or.inl rfl)) pgs_nil))))
      (pss_one (ps_ret (pe_tup (pa_cons (pv 3) (pa_cons (pe_op op_add (pv 4) (pe_ix ix_tup (pv 1) pe_int (fun _ _ => rfl))) pa_nil)))))))))), ?_⟩
    refine ⟨.ref t, rfl, t, _, 0, .str (PR.word i), rfl, rfl, ht, atI_nat (j := 0) rfl, ?_⟩
    cases i with
    | set r n =>
      refine ⟨.str "set", rfl, rfl, true, sT rfl, iteT ?_⟩
      refine ⟨.ref t, rfl, t, _, 2, .int n, rfl, rfl, ht, atI_nat (j := 2) rfl, by show 2 ≤ sizeLine; decide, fun p np => ?_⟩
      exact q _ p (Old.new0 np) (dp2 upd_same (.int _) (.int _))
    | length r =>
      refine ⟨.str "length", rfl, rfl, false, sF (by decide +kernel), iteF ?_⟩
      refine ⟨.str "length", rfl, rfl, true, sT rfl, iteT ?_⟩
      refine ⟨by show 2 ≤ sizeLine; decide, fun p np => ?_⟩
      exact q _ p (Old.new0 np) (dp2 upd_same (.int _) (.int _))
    | copy r s =>
      obtain ⟨v, g1, g2⟩ := mem.yes _ _ (set_of hun (2, s) (.head _))
      have g := DGet.k (k := .inr (PR.rg s)) R.hk
      rw [g1] at g
      obtain ⟨ta, rfl, sa⟩ := tm_at g2
      refine ⟨.str "copy", rfl, rfl, false, sF (by decide +kernel), iteF ?_⟩
      refine ⟨.str "copy", rfl, rfl, false, sF (by decide +kernel), iteF ?_⟩
      refine ⟨.str "copy", rfl, rfl, true, sT rfl, iteT ?_⟩
      refine ⟨.ref a, rfl, a, C, dx, p9, _, 9, _, rfl, R.slt, T_Walk.c, T_Walk.s9, rfl, .ref t, rfl, t, _, 2, .str (PR.rg s), rfl, rfl, ht, atI_nat (j := 2) rfl, kd, _, rfl, g, ?_⟩
      exact q _ ta (Old.refl _ _) g2
    | add r n =>
      obtain ⟨v, g1, g2⟩ := mem.yes _ _ (set_of hun (1, r) (.head _))
      have g := DGet.k (k := .inr (PR.rg r)) R.hk
      rw [g1] at g
      obtain ⟨ta, rfl, sa⟩ := tm_at g2
      refine ⟨.str "add", rfl, rfl, false, sF (by decide +kernel), iteF ?_⟩
      refine ⟨.str "add", rfl, rfl, false, sF (by decide +kernel), iteF ?_⟩
      refine ⟨.str "add", rfl, rfl, false, sF (by decide +kernel), iteF ?_⟩
      refine ⟨.ref a, rfl, a, C, dx, p9, _, 9, _, rfl, R.slt, T_Walk.c, T_Walk.s9, rfl, .ref t, rfl, t, _, 1, .str (PR.rg r), rfl, rfl, ht, atI_nat (j := 1) rfl, kd, _, rfl, g, ?_⟩
      refine ⟨ta, _, rfl, sa, rfl, _, _, rfl, _, _, rfl, rfl, ?_⟩
      refine ⟨.int _, rfl, .int _, rfl, .ref t, rfl, t, _, 2, .int n, rfl, rfl, ht, atI_nat (j := 2) rfl, _, n, rfl, rfl, by show 2 ≤ sizeLine; decide, fun p np => ?_⟩
      exact q _ p (Old.new0 np) (dp2 upd_same (.int _) (.int _))
    | _ => cases hl
theorem MemT.put {K : PySem.W.Frag} {H : Hp} {kvs : List (Key × V)} {m : PW.Mt} (h : MemT K H kvs m) (r : Nat) {v : V} {t : PW.Tm} (d : Dp K H v (tmD t)) : MemT K H (putK kvs (.inr (PR.rg r)) v) (PW.putT m r t) := by
  have e : ∀ x, valV (putK kvs (.inr (PR.rg r)) v) (.inr (PR.rg x)) = if x = r then some v else valV kvs (.inr (PR.rg x)) := fun x => by
    rw [valV_put]
    by_cases z : x = r
    · subst z; rw [if_pos rfl, if_pos rfl]
    · rw [if_neg z, if_neg (fun y => z (PR.rg_inj (Sum.inr.inj y)))]
  refine ⟨fun x hx => ?_, fun x u hx => ?_⟩
  · rw [e]
    unfold PW.putT at hx
    by_cases z : x = r
    · rw [if_pos z] at hx; cases hx
    · rw [if_neg z] at hx ⊢; exact h.no x hx
  · rw [e]
    unfold PW.putT at hx
    by_cases z : x = r
    · rw [if_pos z] at hx ⊢; cases hx; exact ⟨v, rfl, d⟩
    · rw [if_neg z] at hx ⊢; exact h.yes x u hx
/-! Walk.load: slots self=0 variable=1; cells [] -/
abbrev s_Walk_load : Stmt := inClass (topS 38) 11
abbrev N_Walk_load : List Str := ["self", "variable"]
theorem sc_Walk_load : FnScope N_Walk_load ["self", "variable"] (defScope s_Walk_load) := ⟨rfl, rfl, rfl, by decide +kernel, rfl, by decide +kernel, by decide +kernel⟩
theorem ok_wk_load {f : Addr} {fd : FuncData} (F : Fun K "load" "Walk.load" s_Walk_load f fd) (T : Tx mg) (T_Walk : WkT K C p0 p1 p2 p3 p4 p5 p6 p7 p8 p9) (M_Walk_instruction : MtC P w K mg base CX0 C "instruction" ["self"] 1 (spInstr_ K C)) : FnOk P w K mg base CX0 2 f fd ["self", "variable"] (spLoad K C) := by
  refine F.ok sc_Walk_load (fun vs H Q E h => ?_) (fun cdv A outer s H vs Q E hr h => ?_)
  · obtain ⟨a, dx, kd, ps, w, i, v, rfl, _⟩ := h
    rfl
  · obtain ⟨a, dx, kd, ps, w, i, v, rfl, hw, hi, ld, ha, q⟩ := h
    obtain ⟨x, kvs, R, U, mem, kl⟩ := hw.ex
    have hu := hu_of hr
    refine ⟨_, (pss_cons (ps_asg (pe_tup (pa_cons (pv 1) (pa_cons pe_int pa_nil))) (pg_sub (SlX.pe_sl (pv 0)) (pe_ix ix_tup (pe_metC0 M_Walk_instruction (pv 0) T_Walk.c hr pass0) pe_int (fun _ _ => rfl)) (set_dict hu)))
      (pss_cons (ps_asg pe_non (pg_sl (pv 0)))
      (pss_one (ps_sla (pv 0) pe_int in_add)))), ?_⟩
    obtain ⟨r, s, n, rfl⟩ : ∃ r s n, i = .load r s n := by cases i <;> first | (cases ld; done) | exact ⟨_, _, _, rfl⟩
    refine ⟨.int (v : Int), rfl, by show 2 ≤ sizeLine; decide, fun u nu => ?_⟩
    have o1 : Old [] H (upd H u (.tup [.int (v : Int), .int 0])) := Old.new0 nu
    have d1 : Dp K (upd H u (.tup [.int (v : Int), .int 0])) (.ref u) (tmD (v, 0)) := dp2 upd_same (.int _) (.int _)
    have hw1 := hw.keep o1
    have R1 := R.keep o1
    have U1 := U.keep (o1.tk NoTup.nil)
    have mem1 := mem.keep (o1.tk NoTup.nil)
    generalize upd H u (.tup [.int (v : Int), .int 0]) = H1 at o1 d1 hw1 R1 U1 mem1 ⊢
    refine ⟨.ref a, rfl, a, C, dx, p9, _, 9, _, rfl, R1.slt, T_Walk.c, T_Walk.s9, rfl, .ref a, rfl, a, dx, _, rfl, R1.slt, a, dx, kd, ps, w, _, rfl, hw1, hi, fun t ht => ?_⟩
    refine ⟨t, _, 1, .str (PR.rg r), rfl, rfl, ht, atI_nat (j := 1) rfl, ?_⟩
    refine ⟨kd, _, rfl, DPut.k (k := .inr (PR.rg r)) R1.hk (Nat.lt_of_le_of_lt (Nat.le_trans kl (Nat.le_of_lt ha)) (by decide)), ?_⟩
    obtain ⟨R2, f2, tk2⟩ := R1.di (putK kvs (.inr (PR.rg r)) (.ref u))
    have U2 := U1.keep tk2
    have mem2 : MemT K (upd H1 kd (.dK (putK kvs (.inr (PR.rg r)) (.ref u)))) (putK kvs (.inr (PR.rg r)) (.ref u)) (PW.putT w.terms r (v, 0)) := (mem1.keep tk2).put r (PL.Dp.keep tk2 _ _ rfl d1)
    have f2 := (Fr.of o1).trans f2
    have kl2 : (putK kvs (.inr (PR.rg r)) (.ref u)).length ≤ w.at_ + 1 := Nat.le_trans (length_putK _ _ _) (Nat.succ_le_succ kl)
    generalize upd H1 kd (.dK (putK kvs (.inr (PR.rg r)) (.ref u))) = H2 at R2 f2 U2 mem2 ⊢
    generalize putK kvs (.inr (PR.rg r)) (.ref u) = kvs2 at R2 mem2 kl2
    refine ⟨.ref a, rfl, a, C, dx, p7, _, 7, rfl, R2.slt, T_Walk.c, T_Walk.s7, ?_⟩
    obtain ⟨R3, f3, tk3⟩ := R2.st (SlX.putS 7 .non (slots w x kd))
    have U3 := U2.keep tk3
    have mem3 := mem2.keep tk3
    have f3 := f2.trans f3
    generalize SlX.slH H2 a C dx (SlX.putS 7 .non (slots w x kd)) = H3 at R3 f3 U3 mem3 ⊢
    refine ⟨.ref a, rfl, a, C, dx, p0, _, 0, .int (w.at_ : Int), rfl, R3.slt, T_Walk.c, T_Walk.s0, rfl, _, 1, rfl, rfl, _, R3.slt, ?_⟩
    obtain ⟨R4, f4, tk4⟩ := R3.st (SlX.putS 0 (.int ((w.at_ : Int) + 1)) (SlX.putS 7 .non (slots w x kd)))
    have U4 := U3.keep tk4
    exact q _ kd (f3.trans f4) ⟨{ x with p := .non }, kvs2, R4, ⟨U4.b, U4.c, U4.l, U4.e, U4.o, rfl, U4.ps⟩, mem3.keep tk4, kl2⟩
end
end L2.T39

namespace L2.T39
open PySem PySem.Spec PyProof.Rows L2.PL
structure TxW (K : PySem.W.Frag) (mg : Str → Option Value) (aF : Addr) : Prop extends Tx mg where
  g_FIRST : mg "FIRST" = some (.ref aF)
  first : ∀ H, Dp K H (.ref aF) (bdsD PW.first)
def spWkInit (K : PySem.W.Frag) (C : Addr) : Sp := fun vs H Q _ => ∃ (H0 : Hp) (a dx : Addr) (v : V) (ps : List (List PR.Ins)), vs = [.ref a, v] ∧ Dp K H v (progsD ps) ∧ Old [] H0 H ∧ H0 a = none ∧ H0 dx = none ∧ dx ≠ a ∧ H a = some (.ins C dx []) ∧ H dx = some (.own a) ∧
  ∀ H' kd, Old [] H0 H' → H0 kd = none → WkAt K H' C a dx kd ps PW.start → Q .non H'
section
variable {P : Program} {w : World} {K : PySem.W.Frag} {mg : Str → Option Value} {base : Heap} {C p0 p1 p2 p3 p4 p5 p6 p7 p8 p9 aF : Addr}
/-! Walk.__init__: slots self=0 programs=1; cells [] -/
abbrev s_Walk_init : Stmt := inClass (topS 38) 1
abbrev N_Walk_init : List Str := ["self", "programs"]
theorem sc_Walk_init : FnScope N_Walk_init ["self", "programs"] (defScope s_Walk_init) := ⟨rfl, rfl, rfl, by decide +kernel, rfl, by decide +kernel, by decide +kernel⟩
theorem ok_wk_init {f : Addr} {fd : FuncData} (F : Fun K "__init__" "Walk.__init__" s_Walk_init f fd) (T : TxW K mg aF) (T_Walk : WkT K C p0 p1 p2 p3 p4 p5 p6 p7 p8 p9) : FnOk P w K mg base CX0 1 f fd ["self", "programs"] (spWkInit K C) := by
  refine F.ok sc_Walk_init (fun vs H Q E h => ?_) (fun cdv A outer s H vs Q E hr h => ?_)
  · obtain ⟨H0, a, dx, v, ps, rfl, _⟩ := h
    rfl
  · obtain ⟨H0, a, dx, v, ps, rfl, dv, o0, ha0, hx0, nxa, hai, hdx, q⟩ := h
    have hu := hu_of hr
    have TW := T_Walk
    refine ⟨_, (pss_cons (ps_asg (pe_tup (pa_cons (pv 1) (pa_cons (pe_tup pa_nil) (pa_cons pe_int (pa_cons pe_dnewK pa_nil))))) (pg_tup (by rfl) (pgs_cons (pg_sl (pv 0)) (pgs_cons (pg_sl (pv 0)) (pgs_cons (pg_sl (pv 0)) (pgs_cons (pg_sl (pv 0)) pgs_nil))))))
      (pss_cons (ps_asg (pe_tup (pa_cons (pe_gR (by rfl) T.g_FIRST) (pa_cons (pe_tup pa_nil) (pa_cons (pe_op op_add (pe_gI (by rfl) T.g_LENGTH) pe_int) (pa_cons (pe_tup pa_nil) pa_nil))))) (pg_tup (by rfl) (pgs_cons (pg_sl (pv 0)) (pgs_cons (pg_sl (pv 0)) (pgs_cons (pg_sl (pv 0)) (pgs_cons (pg_sl (pv 0)) pgs_nil))))))
      (pss_one (ps_asg (pe_tup (pa_cons pe_non (pa_cons pe_non pa_nil))) (pg_tup (by rfl) (pgs_cons (pg_sl (pv 0)) (pgs_cons (pg_sl (pv 0)) pgs_nil))))))), ?_⟩
    refine ⟨v, rfl, Nat.zero_le _, fun e ne => fun kd nk => ⟨by show 4 ≤ sizeLine; decide, fun r nr => ?_⟩⟩
    have o1 : Old [] H (upd (upd (upd H e (.tup [])) kd (.dK [])) r (.tup [v, .ref e, .int 0, .ref kd])) := ((Old.new0 ne).new nk).new nr
    have e1 : (upd (upd (upd H e (.tup [])) kd (.dK [])) r (.tup [v, .ref e, .int 0, .ref kd])) e = some (.tup []) := by
      have h1 : (upd (upd H e (.tup [])) kd (.dK [])) e = some (.tup []) := by rw [upd_ne (ne_of_none upd_same nk)]; exact upd_same
      rw [upd_ne (ne_of_none h1 nr)]; exact h1
    have k1 : (upd (upd (upd H e (.tup [])) kd (.dK [])) r (.tup [v, .ref e, .int 0, .ref kd])) kd = some (.dK []) := by rw [upd_ne (ne_of_none upd_same nr)]; exact upd_same
    have r1 : (upd (upd (upd H e (.tup [])) kd (.dK [])) r (.tup [v, .ref e, .int 0, .ref kd])) r = some (.tup [v, .ref e, .int 0, .ref kd]) := upd_same
    have hk0 : H kd = none := by
      have := nk
      by_cases z : kd = e
      · rw [z, upd_same] at this; cases this
      · rwa [upd_ne z] at this
    generalize upd (upd (upd H e (.tup [])) kd (.dK [])) r (.tup [v, .ref e, .int 0, .ref kd]) = H1 at o1 e1 k1 r1 ⊢
    have a1 := o1 _ _ (by simp) hai
    have x1 := o1 _ _ (by simp) hdx
    have dv1 := PL.Dp.keep (o1.tk NoTup.nil) _ _ (progsD_only ps) dv
    have de1 : Dp K H1 (.ref e) (endsD []) := .tup (SqT.of e1) .nil
    have nka : kd ≠ a := fun z => by rw [z, hai] at hk0; cases hk0
    have nkx : kd ≠ dx := fun z => by rw [z, hdx] at hk0; cases hk0
    have s1 : SlX.Slt H1 a C dx [] := .inl ⟨a1, rfl⟩
    refine ⟨r, _, rfl, SqT.of r1, rfl, _, _, rfl, .ref a, rfl, a, C, dx, p8, _, 8, rfl, s1, TW.c, TW.s8, ?_⟩
    have oB : Old [] H0 (SlX.slH H1 a C dx (SlX.putS 8 v [])) := (o0.trans o1).slot ha0 hx0
    have tkB : Tk H1 (SlX.slH H1 a C dx (SlX.putS 8 v [])) := tk_slot (by rw [a1]; exact ⟨fun xs z => (nomatch z), fun p u z => (nomatch z)⟩) (by rw [x1]; exact ⟨fun xs z => (nomatch z), fun p u z => (nomatch z)⟩)
    have RB : Raw (SlX.slH H1 a C dx (SlX.putS 8 v [])) C a dx kd [] (SlX.putS 8 v []) := ⟨upd_same, by unfold SlX.slH; rw [upd_ne nxa, upd_same], by rw [SlX.slH_ne nka nkx]; exact k1⟩
    have dvB := PL.Dp.keep tkB _ _ (progsD_only ps) dv1
    have deB := PL.Dp.keep tkB _ _ (endsD_only []) de1
    have hk00 : H0 kd = none := o0.free hk0 (by simp)
    clear dv1 de1 r1 k1 e1 s1 a1 x1 o1
    generalize SlX.slH H1 a C dx (SlX.putS 8 v []) = H2 at oB tkB RB dvB deB ⊢
    have hF : ∀ {H' : Hp} {kd' : Addr}, Fr a dx kd H2 H' kd' → Old [] H0 H' := fun f => (f.from oB ha0 hx0 hk00).1
    have slot : ∀ {G : Hp} {vs : List (Option V)}, Fr a dx kd H2 G kd → Raw G C a dx kd [] vs → ∀ vs', Raw (SlX.slH G a C dx vs') C a dx kd [] vs' ∧ Fr a dx kd H2 (SlX.slH G a C dx vs') kd ∧ Tk G (SlX.slH G a C dx vs') := fun f R vs' =>
      let ⟨x, y, z⟩ := R.st vs'; ⟨x, f.trans y, z⟩
    refine ⟨_, _, rfl, .ref a, rfl, a, C, dx, p4, _, 4, rfl, RB.slt, TW.c, TW.s4, ?_⟩
    obtain ⟨R3, f3, t3⟩ := slot (Fr.of (Old.refl _ _)) RB (SlX.putS 4 (.ref e) (SlX.putS 8 v []))
    generalize SlX.slH H2 a C dx (SlX.putS 4 (.ref e) (SlX.putS 8 v [])) = H3 at R3 f3 t3 ⊢
    refine ⟨_, _, rfl, .ref a, rfl, a, C, dx, p0, _, 0, rfl, R3.slt, TW.c, TW.s0, ?_⟩
    obtain ⟨R4, f4, t4⟩ := slot f3 R3 (SlX.putS 0 (.int 0) (SlX.putS 4 (.ref e) (SlX.putS 8 v [])))
    generalize SlX.slH H3 a C dx (SlX.putS 0 (.int 0) (SlX.putS 4 (.ref e) (SlX.putS 8 v []))) = H4 at R4 f4 t4 ⊢
    refine ⟨_, _, rfl, .ref a, rfl, a, C, dx, p9, _, 9, rfl, R4.slt, TW.c, TW.s9, rfl, ?_⟩
    obtain ⟨R5, f5, t5⟩ := slot f4 R4 (SlX.putS 9 (.ref kd) (SlX.putS 0 (.int 0) (SlX.putS 4 (.ref e) (SlX.putS 8 v []))))
    have dv5 := PL.Dp.keep ((t3.trans t4).trans t5) _ _ (progsD_only ps) dvB
    have de5 := PL.Dp.keep ((t3.trans t4).trans t5) _ _ (endsD_only []) deB
    generalize SlX.slH H4 a C dx (SlX.putS 9 (.ref kd) (SlX.putS 0 (.int 0) (SlX.putS 4 (.ref e) (SlX.putS 8 v [])))) = H5 at R5 f5 t5 dv5 de5 ⊢
    generalize hvs5 : SlX.putS 9 (.ref kd) (SlX.putS 0 (.int 0) (SlX.putS 4 (.ref e) (SlX.putS 8 v []))) = vs5 at R5
    clear t3 t4 t5 R3 R4 RB f3 f4 dvB deB tkB oB
    -- the second row
    refine ⟨Nat.zero_le _, fun l nl => ?_⟩
    have o6 : Old [] H5 (upd H5 l (.tup [])) := Old.new0 nl
    have l6 : Dp K (upd H5 l (.tup [])) (.ref l) (cellsD []) := .tup (SqT.of upd_same) .nil
    generalize upd H5 l (.tup []) = H6 at o6 l6 ⊢
    refine ⟨1, 1, rfl, rfl, Nat.zero_le _, fun c nc => ?_⟩
    have o7 : Old [] H6 (upd H6 c (.tup [])) := Old.new0 nc
    have c7 : Dp K (upd H6 c (.tup [])) (.ref c) (cameD []) := .tup (SqT.of upd_same) .nil
    have l7 := keepD o7 rfl l6
    generalize upd H6 c (.tup []) = H7 at o7 c7 l7 ⊢
    refine ⟨by show 4 ≤ sizeLine; decide, fun r nr => ?_⟩
    have o8 : Old [] H7 (upd H7 r (.tup [.ref aF, .ref l, .int (1 + 1), .ref c])) := Old.new0 nr
    have r8 : (upd H7 r (.tup [.ref aF, .ref l, .int (1 + 1), .ref c])) r = some (.tup [.ref aF, .ref l, .int (1 + 1), .ref c]) := upd_same
    have l8 := keepD o8 rfl l7
    have c8 := keepD o8 rfl c7
    generalize upd H7 r (.tup [.ref aF, .ref l, .int (1 + 1), .ref c]) = H8 at o8 r8 l8 c8 ⊢
    have o58 := (o6.trans o7).trans o8
    have dv8 := keepD o58 (progsD_only ps) dv5
    have de8 := keepD o58 (endsD_only []) de5
    have R8 := R5.keep o58
    have f8 := f5.trans (Fr.of o58)
    clear o6 o7 o8 o58 l7 c7 l6 dv5 de5 R5 f5
    refine ⟨r, _, rfl, SqT.of r8, rfl, _, _, rfl, .ref a, rfl, a, C, dx, p1, _, 1, rfl, R8.slt, TW.c, TW.s1, ?_⟩
    obtain ⟨R9, f9, t9⟩ := slot f8 R8 (SlX.putS 1 (.ref aF) vs5)
    generalize SlX.slH H8 a C dx (SlX.putS 1 (.ref aF) vs5) = H9 at R9 f9 t9 ⊢
    refine ⟨_, _, rfl, .ref a, rfl, a, C, dx, p3, _, 3, rfl, R9.slt, TW.c, TW.s3, ?_⟩
    obtain ⟨R10, f10, t10⟩ := slot f9 R9 (SlX.putS 3 (.ref l) (SlX.putS 1 (.ref aF) vs5))
    generalize SlX.slH H9 a C dx (SlX.putS 3 (.ref l) (SlX.putS 1 (.ref aF) vs5)) = H10 at R10 f10 t10 ⊢
    refine ⟨_, _, rfl, .ref a, rfl, a, C, dx, p5, _, 5, rfl, R10.slt, TW.c, TW.s5, ?_⟩
    obtain ⟨R11, f11, t11⟩ := slot f10 R10 (SlX.putS 5 (.int (1 + 1)) (SlX.putS 3 (.ref l) (SlX.putS 1 (.ref aF) vs5)))
    generalize SlX.slH H10 a C dx (SlX.putS 5 (.int (1 + 1)) (SlX.putS 3 (.ref l) (SlX.putS 1 (.ref aF) vs5))) = H11 at R11 f11 t11 ⊢
    refine ⟨_, _, rfl, .ref a, rfl, a, C, dx, p2, _, 2, rfl, R11.slt, TW.c, TW.s2, rfl, ?_⟩
    obtain ⟨R12, f12, t12⟩ := slot f11 R11 (SlX.putS 2 (.ref c) (SlX.putS 5 (.int (1 + 1)) (SlX.putS 3 (.ref l) (SlX.putS 1 (.ref aF) vs5))))
    have t12 := ((t9.trans t10).trans t11).trans t12
    have l12 := PL.Dp.keep t12 _ _ (cellsD_only []) l8
    have c12 := PL.Dp.keep t12 _ _ (cameD_only []) c8
    have dv12 := PL.Dp.keep t12 _ _ (progsD_only ps) dv8
    have de12 := PL.Dp.keep t12 _ _ (endsD_only []) de8
    generalize SlX.slH H11 a C dx (SlX.putS 2 (.ref c) (SlX.putS 5 (.int (1 + 1)) (SlX.putS 3 (.ref l) (SlX.putS 1 (.ref aF) vs5)))) = H12 at R12 f12 t12 l12 c12 dv12 de12 ⊢
    generalize hvs12 : SlX.putS 2 (.ref c) (SlX.putS 5 (.int (1 + 1)) (SlX.putS 3 (.ref l) (SlX.putS 1 (.ref aF) vs5))) = vs12 at R12
    clear R8 R9 R10 R11 f8 f9 f10 f11 t9 t10 t11 l8 c8 dv8 de8
    -- the third row
    refine ⟨by show 2 ≤ sizeLine; decide, fun r nr => ?_⟩
    have o13 : Old [] H12 (upd H12 r (.tup [.non, .non])) := Old.new0 nr
    have r13 : (upd H12 r (.tup [.non, .non])) r = some (.tup [.non, .non]) := upd_same
    generalize upd H12 r (.tup [.non, .non]) = H13 at o13 r13 ⊢
    have R13 := R12.keep o13
    have f13 := f12.trans (Fr.of o13)
    refine ⟨r, _, rfl, SqT.of r13, rfl, _, _, rfl, .ref a, rfl, a, C, dx, p6, _, 6, rfl, R13.slt, TW.c, TW.s6, ?_⟩
    obtain ⟨R14, f14, t14⟩ := slot f13 R13 (SlX.putS 6 .non vs12)
    generalize SlX.slH H13 a C dx (SlX.putS 6 .non vs12) = H14 at R14 f14 t14 ⊢
    refine ⟨_, _, rfl, .ref a, rfl, a, C, dx, p7, _, 7, rfl, R14.slt, TW.c, TW.s7, rfl, ?_⟩
    obtain ⟨R15, f15, t15⟩ := slot f14 R14 (SlX.putS 7 .non (SlX.putS 6 .non vs12))
    have tk := ((o13.tk NoTup.nil).trans t14).trans t15
    generalize SlX.slH H14 a C dx (SlX.putS 7 .non (SlX.putS 6 .non vs12)) = H15 at R15 f15 t15 tk ⊢
    refine q _ kd (hF f15) hk00 ⟨⟨.ref aF, .ref c, .ref l, .ref e, .non, .non, v⟩, [], ?_, ⟨T.first _, PL.Dp.keep tk _ _ (cameD_only []) c12, PL.Dp.keep tk _ _ (cellsD_only []) l12, PL.Dp.keep tk _ _ (endsD_only []) de12, rfl, rfl, PL.Dp.keep tk _ _ (progsD_only ps) dv12⟩, ⟨fun r _ => rfl, fun r t e => (nomatch e)⟩, Nat.zero_le _⟩
    have e1 : SlX.putS 8 v [] = [none, none, none, none, none, none, none, none, some v] := rfl
    have e5 : vs5 = [some (.int 0), none, none, none, some (.ref e), none, none, none, some v, some (.ref kd)] := by
      rw [← hvs5, e1]; rfl
    have e12 : vs12 = [some (.int 0), some (.ref aF), some (.ref c), some (.ref l), some (.ref e), some (.int (1 + 1)), none, none, some v, some (.ref kd)] := by
      rw [← hvs12, e5]; rfl
    rw [e12] at R15
    exact R15
end
end L2.T39

namespace L2.T39
open PySem PySem.Spec PyProof.Rows L2.PL
theorem in_end (i : PR.Ins) : inV (.str (PR.word i)) [.str "pass", .str "drop"] = PR.isEnd i := by
  cases i <;> simp only [PR.word, PR.isEnd] <;> decide +kernel
theorem in_test (i : PR.Ins) : inV (.str (PR.word i)) [.str "less", .str "atmost", .str "same"] = PW.isTest i := by
  cases i <;> simp only [PR.word, PW.isTest] <;> decide +kernel
theorem hop_yes {i : PR.Ins} (h : PW.isHop i = true) : PR.word i = "jump" := by cases i <;> first | (cases h; done) | rfl
theorem hop_no {i : PR.Ins} (h : PW.isHop i = false) : PR.word i ≠ "jump" := by cases i <;> first | (cases h; done) | (simp only [PR.word]; decide +kernel)
theorem load_yes {i : PR.Ins} (h : PW.isLoad i = true) : PR.word i = "load" := by cases i <;> first | (cases h; done) | rfl
theorem load_no {i : PR.Ins} (h : PW.isLoad i = false) : PR.word i ≠ "load" := by cases i <;> first | (cases h; done) | (simp only [PR.word]; decide +kernel)
theorem strNe {x y : Str} (h : x ≠ y) : V.bl (decide (V.str x = V.str y)) = .bl false := congrArg V.bl (decide_eq_false fun z => h (V.str.inj z))
theorem strEq {x y : Str} (h : x = y) : V.bl (decide (V.str x = V.str y)) = .bl true := congrArg V.bl (decide_eq_true (congrArg V.str h))
theorem unset_any (i : PR.Ins) (m : PW.Mt) : ((PR.needs i).any fun p => !(m p.2).isSome) = PW.unsetT i m := by
  unfold PW.unsetT
  congr 1
  funext p
  cases m p.2 <;> rfl
/-- what is good of a walk and its programs -/
structure Gd (ps : List (List PR.Ins)) (w : PW.Wk) : Prop where
  ok : PW.Wok ps w
  ls : ∀ is ∈ ps, PW.LOk is
  pl : ps.length ≤ 4
  sz : w.came.length + w.bounds.length + 4 * PW.mu ps w ≤ 15000000
theorem Gd.ends {ps : List (List PR.Ins)} {w : PW.Wk} (g : Gd ps w) : w.ends.length ≤ 4 := Nat.le_trans g.ok.ends g.pl
theorem Gd.cells {ps : List (List PR.Ins)} {w : PW.Wk} (g : Gd ps w) : w.cells.length ≤ 3000 := by
  have := g.ok.s1; have := g.ok.at_; have := g.ends; omega
def spStep (K : PySem.W.Frag) (C : Addr) : Sp := fun vs H Q _ => ∃ (a dx kd : Addr) (ps : List (List PR.Ins)) (w : PW.Wk), vs = [.ref a] ∧ WkAt K H C a dx kd ps w ∧ Gd ps w ∧ w.ends.length < ps.length ∧ w.options = none ∧ w.pending = none ∧ WkPost K C a dx kd ps H Q (w.step ps)
section
variable {P : Program} {w : World} {K : PySem.W.Frag} {mg : Str → Option Value} {base : Heap} {C p0 p1 p2 p3 p4 p5 p6 p7 p8 p9 dN : Addr}
/-! Walk.step: slots self=0 lines=1 instruction=2 word=3; cells [] -/
abbrev s_Walk_step : Stmt := inClass (topS 38) 7
abbrev N_Walk_step : List Str := ["self", "lines", "instruction", "word"]
theorem sc_Walk_step : FnScope N_Walk_step ["self"] (defScope s_Walk_step) := ⟨rfl, rfl, rfl, by decide +kernel, rfl, by decide +kernel, by decide +kernel⟩
theorem ok_wk_step {f : Addr} {fd : FuncData} (F : Fun K "step" "Walk.step" s_Walk_step f fd) (T : Tx mg) (T_Walk : WkT K C p0 p1 p2 p3 p4 p5 p6 p7 p8 p9) (M_Walk_finish : MtC P w K mg base CX0 C "finish" ["self", "told"] 1 (spFinish K C))
    (C_is_unset : Cal P w K mg base CX0 "is_unset" ["instruction", "known"] 1 (spIsUnset K)) (C_test_options : Cal P w K mg base CX0 "test_options" ["instruction", "names"] 2 (spTest K)) (C_place_options : Cal P w K mg base CX0 "place_options" ["place"] 2 (spPlace K))
    (M_Walk_place_of : MtC P w K mg base CX0 C "place_of" ["self", "instruction"] 1 (spPlaceOf K C)) (M_Walk_term_of : MtC P w K mg base CX0 C "term_of" ["self", "instruction"] 1 (spTermOf K C)) :
    FnOk P w K mg base CX0 3 f fd ["self"] (spStep K C) := by
  refine F.ok sc_Walk_step (fun vs H Q E h => ?_) (fun cdv A outer s H vs Q E hr h => ?_)
  · obtain ⟨a, dx, kd, ps, w, rfl, _⟩ := h
    rfl
  · obtain ⟨a, dx, kd, ps, w, rfl, hw, gd, hne, ho, hp, q⟩ := h
    obtain ⟨x, kvs, R, U, mem, kl⟩ := hw.ex
    have hu := hu_of hr
    have TW := T_Walk
    obtain ⟨e, es, ee, se, al⟩ := dp_tup U.e
    have l1 : es.length = w.ends.length := by rw [PL.DpAll.length al, List.length_map]
    have epl : ps[w.ends.length]? = some (PW.linesAt ps w) := by
      unfold PW.linesAt
      rw [List.getElem?_eq_getElem hne]; rfl
    obtain ⟨b, xs, t, e1, h1, h2, h3, h4⟩ := lines_get U.ps epl
    obtain ⟨t', ys, e2, g1, g2⟩ := dp_tup h4
    cases e2
    have hyl : ys.length = (PW.linesAt ps w).length := by rw [PL.DpAll.length g2, List.length_map]
    have LK : PW.LOk (PW.linesAt ps w) := PW.lines_ok gd.ls
    refine ⟨_, (pss_cons (ps_set (i := 1) sc_Walk_step.nd rfl (.inl rfl) (pe_ix ix_tup (SlX.pe_sl (pv 0)) (pe_callB call_len_seq (by rfl) T.z_len bz_len (pa_cons (SlX.pe_sl (pv 0)) pa_nil)) (fun _ _ => rfl)))
      (pss_cons (ps_if (pt_cmpR op_ge (SlX.pe_sl (pv 0)) (pe_callB call_len_seq (by rfl) T.z_len bz_len (pa_cons (pv 1) pa_nil)) (nomark _))
       (pss_cons (ps_expr (pe_metC M_Walk_finish (pv 0) T_Walk.c hr pass0 (pa_cons (pe_tup (pa_cons (pe_gS (by rfl) T.g_WRONG) (pa_cons (pe_callB call_len_seq (by rfl) T.z_len bz_len (pa_cons (pv 1) pa_nil)) (pa_cons (pe_gS (by rfl) T.g_END) pa_nil)))) pa_nil)))
        (pss_one ps_retN))
       pss_nil)
      (pss_cons (ps_set (i := 2) sc_Walk_step.nd rfl (.inl rfl) (pe_ix ix_tup (pv 1) (SlX.pe_sl (pv 0)) (fun _ _ => rfl)))
      (pss_cons (ps_sla (pv 0) (pe_tup (pa_cons (pe_tup (pa_cons (pe_callB call_len_seq (by rfl) T.z_len bz_len (pa_cons (SlX.pe_sl (pv 0)) pa_nil)) (pa_cons (SlX.pe_sl (pv 0)) pa_nil))) pa_nil)) in_catA)
      (pss_cons (ps_set (i := 3) sc_Walk_step.nd rfl (.inl rfl) (pe_ix ix_tup (pv 2) pe_int (fun _ _ => rfl)))
      (pss_one (ps_if (pt_cmpR op_in_seq (pv 3) (pe_tup (pa_cons pe_str (pa_cons pe_str pa_nil))) (by rfl))
       (pss_one (ps_expr (pe_metC M_Walk_finish (pv 0) T_Walk.c hr pass0 (pa_cons (pe_tup (pa_cons (pv 3) (pa_cons (SlX.pe_sl (pv 0)) pa_nil))) pa_nil))))
       (pss_one (ps_if (pt_val (pe_cal C_is_unset hr (by rfl) pass0 (pa_cons (pv 2) (pa_cons (SlX.pe_sl (pv 0)) pa_nil))))
         (pss_one (ps_expr (pe_metC M_Walk_finish (pv 0) T_Walk.c hr pass0 (pa_cons (pe_tup (pa_cons (pe_gS (by rfl) T.g_WRONG) (pa_cons (SlX.pe_sl (pv 0)) (pa_cons (pe_gS (by rfl) T.g_UNSET) pa_nil)))) pa_nil))))
         (pss_one (ps_if (pt_cmpR op_eq (pv 3) pe_str (nomark _))
           (pss_one (ps_asg (pe_ix ix_tup (pv 2) pe_int (fun _ _ => rfl)) (pg_sl (pv 0))))
           (pss_one (ps_if (pt_cmpR op_in_seq (pv 3) (pe_tup (pa_cons pe_str (pa_cons pe_str (pa_cons pe_str pa_nil)))) (by rfl))
             (pss_one (ps_asg (pe_cal C_test_options hr (by rfl) pass0 (pa_cons (pv 2) (pa_cons (SlX.pe_sl (pv 0)) pa_nil))) (pg_sl (pv 0))))
             (pss_one (ps_if (pt_cmpR op_eq (pv 3) pe_str (nomark _))
               (pss_one (ps_asg (pe_cal C_place_options hr (by rfl) pass0 (pa_cons (pe_metC M_Walk_place_of (pv 0) T_Walk.c hr pass0 (pa_cons (pv 2) pa_nil)) pa_nil)) (pg_sl (pv 0))))
               (pss_cons (ps_asg (pe_metC M_Walk_term_of (pv 0) T_Walk.c hr pass0 (pa_cons (pv 2) pa_nil)) (pg_sub (SlX.pe_sl (pv 0)) (pe_ix ix_tup (pv 2) pe_int (fun _ _ => rfl)) (set_dict hu)))
                (pss_one (ps_sla (pv 0) pe_int in_add)))))))))))))))))), ?_⟩
    refine ⟨.ref a, rfl, a, C, dx, p8, _, 8, x.ps, rfl, R.slt, TW.c, TW.s8, rfl, .ref a, rfl, a, C, dx, p4, _, 4, x.e, rfl, R.slt, TW.c, TW.s4, rfl, e, es, congrArg (fun v => [v]) ee, .inr se, b, xs, _, .ref t, e1, rfl, h1, by rw [l1]; exact atI_nat h3, ?_⟩
    refine ⟨.ref a, rfl, a, C, dx, p0, _, 0, _, rfl, R.slt, TW.c, TW.s0, rfl, .ref t, rfl, t, ys, rfl, .inr g1, (w.at_ : Int), _, rfl, rfl, ?_⟩
    cases ei : (PW.linesAt ps w)[w.at_]? with
    | none =>
      have hge : (PW.linesAt ps w).length ≤ w.at_ := List.getElem?_eq_none_iff.mp ei
      refine ⟨true, congrArg V.bl (decide_eq_true (by rw [hyl]; omega)), iteT ?_⟩
      refine ⟨.ref a, rfl, a, dx, _, rfl, R.slt, .ref t, rfl, t, ys, rfl, .inr g1, by show 3 ≤ sizeLine; decide, fun u nu => ?_⟩
      have o1 : Old [] H (upd H u (.tup [.str "wrong", .int (ys.length : Int), .str "end"])) := Old.new0 nu
      have d1 : Dp K (upd H u (.tup [.str "wrong", .int (ys.length : Int), .str "end"])) (.ref u) (toldD (.end_ (PW.linesAt ps w).length)) := by
        rw [← hyl]; exact dp3 upd_same (.str _) (.int _) (.str _)
      refine ⟨a, dx, kd, ps, w, .ref u, _, rfl, hw.keep o1, d1, by have := gd.ends; omega, fun H' kd' f' w' => ?_⟩
      refine q H' kd' ((Fr.of o1).trans f') ?_
      have es : w.step ps = w.finish (.end_ (PW.linesAt ps w).length) := by unfold PW.Wk.step; rw [ei]
      rw [es]; exact w'
    | some i =>
      have hlt : w.at_ < (PW.linesAt ps w).length := (List.getElem?_eq_some_iff.mp ei).1
      have hat : w.at_ < 200 := Nat.lt_of_lt_of_le hlt LK.len
      have iok := LK.ok _ i ei
      refine ⟨false, congrArg V.bl (decide_eq_false (by rw [hyl]; omega)), iteF ?_⟩
      obtain ⟨u, k1, k2⟩ := PL.DpAll.get g2 (i := w.at_) (d := PR.insD i) (by rw [List.getElem?_map, ei]; rfl)
      obtain ⟨z, rfl, sz⟩ := ins_at k2
      refine ⟨.ref t, rfl, .ref a, rfl, a, C, dx, p0, _, 0, _, rfl, R.slt, TW.c, TW.s0, rfl, t, ys, _, .ref z, rfl, rfl, g1, atI_nat k1, ?_⟩
      -- came
      refine ⟨.ref a, rfl, a, C, dx, p2, _, 2, x.c, rfl, R.slt, TW.c, TW.s2, rfl, .ref a, rfl, a, C, dx, p4, _, 4, x.e, rfl, R.slt, TW.c, TW.s4, rfl, e, es, congrArg (fun v => [v]) ee, .inr se, .ref a, rfl, a, C, dx, p0, _, 0, _, rfl, R.slt, TW.c, TW.s0, rfl,
        by show 2 ≤ sizeLine; decide, fun u1 n1 => ⟨by show 1 ≤ sizeLine; decide, fun u2 n2 => ?_⟩⟩
      have o1 : Old [] H (upd (upd H u1 (.tup [.int (es.length : Int), .int (w.at_ : Int)])) u2 (.tup [.ref u1])) := (Old.new0 n1).new n2
      have d1 : Dp K (upd (upd H u1 (.tup [.int (es.length : Int), .int (w.at_ : Int)])) u2 (.tup [.ref u1])) (.ref u2) (cameD [(w.ends.length, w.at_)]) := by
        rw [← l1]
        exact dp1 upd_same (keepD (Old.new0 n2) rfl (dp2 upd_same (.int _) (.int _)))
      have R1 := R.keep o1
      have U1 := U.keep (o1.tk NoTup.nil)
      generalize upd (upd H u1 (.tup [.int (es.length : Int), .int (w.at_ : Int)])) u2 (.tup [.ref u1]) = H1 at o1 d1 R1 U1 ⊢
      refine cat_dp U1.c d1 (only_map _ (fun _ => rfl) _) rfl (by rw [List.length_map]; have := gd.sz; show _ + 1 ≤ 2 ^ 24; omega) fun H2 v2 o2 d2 => ⟨_, (R1.keep o2).slt, ?_⟩
      have R2 := R1.keep o2
      rw [← List.map_append] at d2
      obtain ⟨R3, f3, t3⟩ := R2.st (SlX.putS 2 v2 (slots w x kd))
      have f3 := (Fr.of (o1.trans o2)).trans f3
      have t03 : Tk H (SlX.slH H2 a C dx (SlX.putS 2 v2 (slots w x kd))) := R.tk f3.old
      have d3 := PL.Dp.keep t3 _ _ (cameD_only (w.came ++ [(w.ends.length, w.at_)])) d2
      have U3 := U.keep t03
      have mem3 := mem.keep t03
      have sz3 := t03.seq sz
      have d3z : Dp K (SlX.slH H2 a C dx (SlX.putS 2 v2 (slots w x kd))) (.ref z) (PR.insD i) := PL.Dp.keep t03 _ _ (insD_only i) k2
      have hw3 : WkAt K (SlX.slH H2 a C dx (SlX.putS 2 v2 (slots w x kd))) C a dx kd ps { w with came := w.came ++ [(w.ends.length, w.at_)] } :=
        ⟨{ x with c := v2 }, kvs, R3, ⟨U3.b, d3, U3.l, U3.e, U3.o, U3.p, U3.ps⟩, mem3, kl⟩
      have hst : w.step ps = PW.Wk.does { w with came := w.came ++ [(w.ends.length, w.at_)] } i := by unfold PW.Wk.step; rw [ei]
      rw [hst] at q
      have ea : ({ w with came := w.came ++ [(w.ends.length, w.at_)] } : PW.Wk).at_ = w.at_ := rfl
      have ee' : ({ w with came := w.came ++ [(w.ends.length, w.at_)] } : PW.Wk).ends = w.ends := rfl
      have et : ({ w with came := w.came ++ [(w.ends.length, w.at_)] } : PW.Wk).terms = w.terms := rfl
      generalize SlX.slH H2 a C dx (SlX.putS 2 v2 (slots w x kd)) = H3 at R3 f3 sz3 d3z hw3 ⊢
      clear R3 t03 d3 U3 mem3 d2 R2 o2 d1 R1 U1 o1 n1 n2 t3 mem
      generalize ({ w with came := w.came ++ [(w.ends.length, w.at_)] } : PW.Wk) = w1 at q hw3 ea ee' et
      refine ⟨.ref z, rfl, z, _, 0, .str (PR.word i), rfl, rfl, sz3, atI_nat (j := 0) rfl, ?_⟩
      refine ⟨.str (PR.word i), rfl, by show 2 ≤ sizeLine; decide, fun q1 nq1 => ⟨q1, _, rfl, .inr (SqT.of upd_same), rfl, rfl, ?_⟩⟩
      have o4 : Old [] H3 (upd H3 q1 (.tup [.str "pass", .str "drop"])) := Old.new0 nq1
      generalize upd H3 q1 (.tup [.str "pass", .str "drop"]) = H4 at o4 ⊢
      have hw4 := hw3.keep o4
      have sz4 := (o4.tk NoTup.nil).seq sz3
      have f4 := f3.trans (Fr.of o4)
      clear hw3 sz3 f3 o4
      obtain ⟨x4, kvs4, R4, U4, mem4, kl4⟩ := hw4.ex
      refine ⟨PR.isEnd i, (by show V.bl (inV _ _) = _; rw [in_end]), ?_⟩
      cases hend : PR.isEnd i with
      | true =>
        refine iteT ?_
        refine ⟨.ref a, rfl, a, dx, _, rfl, R4.slt, .str (PR.word i), rfl, .ref a, rfl, a, C, dx, p0, _, 0, _, rfl, R4.slt, TW.c, TW.s0, rfl, by show 2 ≤ sizeLine; decide, fun u nu => ?_⟩
        have o5 : Old [] H4 (upd H4 u (.tup [.str (PR.word i), .int (w1.at_ : Int)])) := Old.new0 nu
        have d5 : Dp K (upd H4 u (.tup [.str (PR.word i), .int (w1.at_ : Int)])) (.ref u) (toldD (PW.endOf i w1.at_)) := by
          have : toldD (PW.endOf i w1.at_) = .tuple [.str (PR.word i), .int (w1.at_ : Int)] := by cases i <;> first | (cases hend; done) | rfl
          rw [this]
          exact dp2 upd_same (.str _) (.int _)
        refine ⟨a, dx, kd, ps, w1, .ref u, _, rfl, hw4.keep o5, d5, by rw [ee']; have := gd.ends; omega, fun H' kd' f' w' => ?_⟩
        refine q H' kd' (f4.trans ((Fr.of o5).trans f')) ?_
        unfold PW.Wk.does
        rw [if_pos hend]; exact w'
      | false =>
        refine iteF ?_
        refine ⟨.ref z, rfl, .ref a, rfl, a, C, dx, p9, _, 9, _, rfl, R4.slt, TW.c, TW.s9, rfl, z, kd, i, kvs4, fun r => (w1.terms r).isSome, rfl, sz4, R4.hk, mem4.is, fun H5 o5 => ?_⟩
        rw [unset_any]
        have hw5 := hw4.keep o5
        have sz5 := (o5.tk NoTup.nil).seq sz4
        have f5 := f4.trans (Fr.of o5)
        clear hw4 sz4 f4 o5 R4 U4 mem4 kl4
        obtain ⟨x5, kvs5, R5, U5, mem5, kl5⟩ := hw5.ex
        refine ⟨PW.unsetT i w1.terms, rfl, ?_⟩
        cases hun : PW.unsetT i w1.terms with
        | true =>
          refine iteT ?_
          refine ⟨.ref a, rfl, a, dx, _, rfl, R5.slt, .ref a, rfl, a, C, dx, p0, _, 0, _, rfl, R5.slt, TW.c, TW.s0, rfl, by show 3 ≤ sizeLine; decide, fun u nu => ?_⟩
          have o6 : Old [] H5 (upd H5 u (.tup [.str "wrong", .int (w1.at_ : Int), .str "unset"])) := Old.new0 nu
          have d6 : Dp K (upd H5 u (.tup [.str "wrong", .int (w1.at_ : Int), .str "unset"])) (.ref u) (toldD (.unset w1.at_)) := dp3 upd_same (.str _) (.int _) (.str _)
          refine ⟨a, dx, kd, ps, w1, .ref u, _, rfl, hw5.keep o6, d6, by rw [ee']; have := gd.ends; omega, fun H' kd' f' w' => ?_⟩
          refine q H' kd' (f5.trans ((Fr.of o6).trans f')) ?_
          unfold PW.Wk.does
          rw [if_neg (by rw [hend]; decide), if_pos hun]; exact w'
        | false =>
          refine iteF ?_
          have q : WkPost K C a dx kd ps H Q (if PW.isHop i = true then { w1 with at_ := PR.goal i } else if PW.isTest i = true then { w1 with options := some (PW.testOpts w1.terms i) }
              else if PW.isLoad i = true then { w1 with options := some (PW.placeOpts (PW.placeOf w1.terms i)) } else { w1 with terms := PW.putT w1.terms (PW.regOf i) (PW.termOf w1.terms i), at_ := w1.at_ + 1 }) := by
            unfold PW.Wk.does at q
            rw [if_neg (by rw [hend]; decide), if_neg (by rw [hun]; decide)] at q
            exact q
          cases hh : PW.isHop i with
          | true =>
            refine ⟨.str (PR.word i), rfl, rfl, true, strEq (hop_yes hh), iteT ?_⟩
            obtain ⟨l, rfl⟩ : ∃ l, i = .jump l := by cases i <;> first | (cases hh; done) | exact ⟨_, rfl⟩
            refine ⟨.ref z, rfl, z, _, 1, .int (l : Int), rfl, rfl, sz5, atI_nat (j := 1) rfl, .ref a, rfl, a, C, dx, p0, _, 0, rfl, R5.slt, TW.c, TW.s0, ?_⟩
            obtain ⟨R6, f6, t6⟩ := R5.st (SlX.putS 0 (.int (l : Int)) (slots w1 x5 kd))
            have U6 := U5.keep t6
            have g : w.at_ < l ∧ l ≤ 200 := iok (.l l) (.head _)
            exact q _ kd (f5.trans f6) ⟨x5, kvs5, R6, ⟨U6.b, U6.c, U6.l, U6.e, U6.o, U6.p, U6.ps⟩, mem5.keep t6, by rw [ea] at kl5; show kvs5.length ≤ l; omega⟩
          | false =>
            rw [if_neg (by rw [hh]; decide)] at q
            refine ⟨.str (PR.word i), rfl, rfl, false, strNe (hop_no hh), iteF ?_⟩
            refine ⟨.str (PR.word i), rfl, by show 3 ≤ sizeLine; decide, fun q2 nq2 => ⟨q2, _, rfl, .inr (SqT.of upd_same), rfl, rfl, ?_⟩⟩
            have o6 : Old [] H5 (upd H5 q2 (.tup [.str "less", .str "atmost", .str "same"])) := Old.new0 nq2
            generalize upd H5 q2 (.tup [.str "less", .str "atmost", .str "same"]) = H6 at o6 ⊢
            have hw6 := hw5.keep o6
            have sz6 := (o6.tk NoTup.nil).seq sz5
            have R6 := R5.keep o6
            have U6 := U5.keep (o6.tk NoTup.nil)
            have mem6 := mem5.keep (o6.tk NoTup.nil)
            have f6 := f5.trans (Fr.of o6)
            clear hw5 sz5 R5 U5 mem5 f5 o6
            refine ⟨PW.isTest i, (by show V.bl (inV _ _) = _; rw [in_test]), ?_⟩
            cases ht : PW.isTest i with
            | true =>
              rw [if_pos ht] at q
              refine iteT ?_
              refine ⟨.ref z, rfl, .ref a, rfl, a, C, dx, p9, _, 9, _, rfl, R6.slt, TW.c, TW.s9, rfl, z, kd, i, kvs5, w1.terms, rfl, sz6, R6.hk, mem6, ht, hun, fun H7 p o7 d7 => ?_⟩
              have R7 := R6.keep o7
              have U7 := U6.keep (o7.tk NoTup.nil)
              have mem7 := mem6.keep (o7.tk NoTup.nil)
              refine ⟨.ref a, rfl, a, C, dx, p6, _, 6, rfl, R7.slt, TW.c, TW.s6, ?_⟩
              obtain ⟨R8, f8, t8⟩ := R7.st (SlX.putS 6 (.ref p) (slots w1 x5 kd))
              have U8 := U7.keep t8
              exact q _ kd (f6.trans ((Fr.of o7).trans f8)) ⟨{ x5 with o := .ref p }, kvs5, R8, ⟨U8.b, U8.c, U8.l, U8.e, PL.Dp.keep t8 _ _ (optsD_only _) d7, U8.p, U8.ps⟩, mem7.keep t8, kl5⟩
            | false =>
              rw [if_neg (by rw [ht]; decide)] at q
              refine iteF ?_
              cases hld : PW.isLoad i with
              | true =>
                rw [if_pos hld] at q
                refine ⟨.str (PR.word i), rfl, rfl, true, strEq (load_yes hld), iteT ?_⟩
                refine ⟨.ref a, rfl, a, dx, _, rfl, R6.slt, .ref z, rfl, a, dx, kd, ps, w1, z, i, rfl, hw6, sz6, hld, hun, fun H7 p o7 d7 => ?_⟩
                refine ⟨.ref p, _, rfl, d7, fun H8 p2 o8 d8 => ?_⟩
                have o78 := o7.trans o8
                have R8 := R6.keep o78
                have U8 := U6.keep (o78.tk NoTup.nil)
                have mem8 := mem6.keep (o78.tk NoTup.nil)
                refine ⟨.ref a, rfl, a, C, dx, p6, _, 6, rfl, R8.slt, TW.c, TW.s6, ?_⟩
                obtain ⟨R9, f9, t9⟩ := R8.st (SlX.putS 6 (.ref p2) (slots w1 x5 kd))
                have U9 := U8.keep t9
                exact q _ kd (f6.trans ((Fr.of o78).trans f9)) ⟨{ x5 with o := .ref p2 }, kvs5, R9, ⟨U9.b, U9.c, U9.l, U9.e, PL.Dp.keep t9 _ _ (optsD_only _) d8, U9.p, U9.ps⟩, mem8.keep t9, kl5⟩
              | false =>
                rw [if_neg (by rw [hld]; decide)] at q
                refine ⟨.str (PR.word i), rfl, rfl, false, strNe (load_no hld), iteF ?_⟩
                have hset : isSet i = true := by cases i <;> first | rfl | (cases hend; done) | (cases hh; done) | (cases ht; done) | (cases hld; done)
                refine ⟨.ref a, rfl, a, dx, _, rfl, R6.slt, .ref z, rfl, a, dx, kd, ps, w1, z, i, rfl, hw6, sz6, hset, hun, fun H7 p o7 d7 => ?_⟩
                have R7 := R6.keep o7
                have U7 := U6.keep (o7.tk NoTup.nil)
                have mem7 := mem6.keep (o7.tk NoTup.nil)
                have sz7 := (o7.tk NoTup.nil).seq sz6
                have hreg : (PR.insV i)[1]? = some (.str (PR.rg (PW.regOf i))) := by cases i <;> first | (cases hset; done) | rfl
                refine ⟨.ref a, rfl, a, C, dx, p9, _, 9, _, rfl, R7.slt, TW.c, TW.s9, rfl, .ref z, rfl, z, _, 1, .str (PR.rg (PW.regOf i)), rfl, rfl, sz7, atI_nat (j := 1) hreg, ?_⟩
                refine ⟨kd, _, rfl, DPut.k (k := .inr (PR.rg (PW.regOf i))) R7.hk (Nat.lt_of_le_of_lt (Nat.le_trans kl5 (by rw [ea]; exact Nat.le_of_lt hat)) (by decide)), ?_⟩
                obtain ⟨R8, f8, t8⟩ := R7.di (putK kvs5 (.inr (PR.rg (PW.regOf i))) (.ref p))
                have U8 := U7.keep t8
                have mem8 := (mem7.keep t8).put (PW.regOf i) (PL.Dp.keep t8 _ _ rfl d7)
                have kl8 : (putK kvs5 (.inr (PR.rg (PW.regOf i))) (.ref p)).length ≤ w1.at_ + 1 := Nat.le_trans (length_putK _ _ _) (Nat.succ_le_succ kl5)
                generalize upd H7 kd (.dK (putK kvs5 (.inr (PR.rg (PW.regOf i))) (.ref p))) = H8 at R8 f8 t8 U8 mem8 ⊢
                generalize putK kvs5 (.inr (PR.rg (PW.regOf i))) (.ref p) = kvs8 at R8 mem8 kl8
                refine ⟨.ref a, rfl, a, C, dx, p0, _, 0, .int (w1.at_ : Int), rfl, R8.slt, TW.c, TW.s0, rfl, _, 1, rfl, rfl, _, R8.slt, ?_⟩
                obtain ⟨R9, f9, t9⟩ := R8.st (SlX.putS 0 (.int ((w1.at_ : Int) + 1)) (slots w1 x5 kd))
                have U9 := U8.keep t9
                exact q _ kd (f6.trans ((Fr.of o7).trans (f8.trans f9))) ⟨x5, kvs8, R9, ⟨U9.b, U9.c, U9.l, U9.e, U9.o, U9.p, U9.ps⟩, mem8.keep t9, kl8⟩
end
end L2.T39

namespace L2.T39
open PySem PySem.Spec PyProof.Rows L2.PL
theorem eqv_tm (a b : PW.Tm) : PyData.eqv (tmD a) (tmD b) = decide (a = b) := by
  have e : PyData.eqv (tmD a) (tmD b) = (((a.1 : Int) == (b.1 : Int)) && ((a.2 == b.2) && true)) := rfl
  rw [e, Bool.and_true]
  by_cases h : a = b
  · subst h; simp
  · rw [decide_eq_false h]
    by_cases h1 : a.1 = b.1
    · have h2 : a.2 ≠ b.2 := fun z => h (Prod.ext h1 z)
      simp [h2]
    · have : ((a.1 : Int) == (b.1 : Int)) = false := beq_eq_false_iff_ne.mpr fun z => h1 (by omega)
      rw [this]; rfl
theorem pair_at {K : PySem.W.Frag} {H : Hp} {v : V} {t : PW.Tm} {n : Nat} (h : Dp K H v (.tuple [tmD t, .int (n : Int)])) : ∃ a u, v = .ref a ∧ SqT K H a [.ref u, .int (n : Int)] ∧ Dp K H (.ref u) (tmD t) := by
  obtain ⟨a, xs, e, h1, h2⟩ := dp_tup h
  cases h2 with
  | cons p q =>
    cases q with
    | cons r s =>
      cases s
      cases r
      obtain ⟨u, rfl, _⟩ := tm_at p
      exact ⟨a, u, e, h1, p⟩
theorem cell_get {K : PySem.W.Frag} {H : Hp} {v : V} {cs : List (PW.Tm × Nat)} (h : Dp K H v (cellsD cs)) : ∃ l ls, v = .ref l ∧ SqT K H l ls ∧ ls.length = cs.length ∧ ∀ (j : Nat) (t : PW.Tm) (n : Nat), cs[j]? = some (t, n) → ∃ (a u : Addr), ls[j]? = some (.ref a) ∧ SqT K H a [.ref u, .int (n : Int)] ∧ Dp K H (.ref u) (tmD t) := by
  obtain ⟨l, ls, e, h1, h2⟩ := dp_tup h
  refine ⟨l, ls, e, h1, by rw [PL.DpAll.length h2, List.length_map], fun j t n ej => ?_⟩
  obtain ⟨v, g1, g2⟩ := PL.DpAll.get h2 (i := j) (d := cellD (t, n)) (by rw [List.getElem?_map, ej]; rfl)
  obtain ⟨a, u, rfl, s, d⟩ := pair_at g2
  exact ⟨a, u, g1, s, d⟩
def spLook (K : PySem.W.Frag) (C : Addr) : Sp := fun vs H Q _ => ∃ (a dx kd : Addr) (ps : List (List PR.Ins)) (w : PW.Wk) (p : PW.Tm) (n : Nat), vs = [.ref a] ∧ WkAt K H C a dx kd ps w ∧ Gd ps w ∧ w.options = none ∧ w.pending = some (p, n) ∧ WkPost K C a dx kd ps H Q (w.look ps p n)
section
variable {P : Program} {w : World} {K : PySem.W.Frag} {mg : Str → Option Value} {base : Heap} {C p0 p1 p2 p3 p4 p5 p6 p7 p8 p9 : Addr}
/-! Walk.look_at_cells: slots self=0 place=1 number=2 other=3 variable=4; cells [] -/
abbrev s_Walk_look_at_cells : Stmt := inClass (topS 38) 10
abbrev N_Walk_look_at_cells : List Str := ["self", "place", "number", "other", "variable"]
theorem sc_Walk_look_at_cells : FnScope N_Walk_look_at_cells ["self"] (defScope s_Walk_look_at_cells) := ⟨rfl, rfl, rfl, by decide +kernel, rfl, by decide +kernel, by decide +kernel⟩
theorem ok_wk_look {f : Addr} {fd : FuncData} (F : Fun K "look_at_cells" "Walk.look_at_cells" s_Walk_look_at_cells f fd) (T : Tx mg) (T_Walk : WkT K C p0 p1 p2 p3 p4 p5 p6 p7 p8 p9) (M_Walk_load : MtC P w K mg base CX0 C "load" ["self", "variable"] 2 (spLoad K C))
    (C_cell_options : Cal P w K mg base CX0 "cell_options" ["place", "other"] 2 (spCell K)) : FnOk P w K mg base CX0 3 f fd ["self"] (spLook K C) := by
  refine F.ok sc_Walk_look_at_cells (fun vs H Q E h => ?_) (fun cdv A outer s H vs Q E hr h => ?_)
  · obtain ⟨a, dx, kd, ps, w, p, n, rfl, _⟩ := h
    rfl
  · obtain ⟨a, dx, kd, ps, w, p, n, rfl, hw, gd, ho, hp, q⟩ := h
    obtain ⟨x, kvs, R, U, mem, kl⟩ := hw.ex
    have TW := T_Walk
    have PE := gd.ok.pend p n hp
    obtain ⟨i, ei, ld, un, ep⟩ := PE.ins
    have eins : PW.insAt ps w = i := PW.insAt_of ei
    have hat : w.at_ < 200 := Nat.lt_of_lt_of_le (List.getElem?_eq_some_iff.mp ei).1 (PW.lines_ok gd.ls).len
    have Up := U.p
    rw [hp] at Up
    obtain ⟨pa, pu, epa, spa, dpu⟩ := pair_at Up
    obtain ⟨l, ls, el, sl, hll, hlg⟩ := cell_get U.l
    have hcl := gd.cells
    refine ⟨_, (pss_cons (ps_asg (SlX.pe_sl (pv 0)) (pg_tup (by rfl) (pgs_cons (pg_name (i := 1) sc_Walk_look_at_cells.nd rfl (Or.inl rfl)) (pgs_cons (pg_name (i := 2) sc_Walk_look_at_cells.nd rfl (Or.inl rfl)) pgs_nil))))
      (pss_cons (ps_while PassesOwn.never (pt_cmpR op_lt (pv 2) (pe_callB call_len_seq (by rfl) T.z_len bz_len (pa_cons (SlX.pe_sl (pv 0)) pa_nil)) (nomark _))
       (pss_cons (ps_asg (pe_ix ix_tup (SlX.pe_sl (pv 0)) (pv 2) (fun _ _ => rfl)) (pg_tup (by rfl) (pgs_cons (pg_name (i := 3) sc_Walk_look_at_cells.nd rfl (Or.inl rfl)) (pgs_cons (pg_name (i := 4) sc_Walk_look_at_cells.nd rfl (Or.inl rfl)) pgs_nil))))
        (pss_cons (ps_if (pt_cmpR (op_eqD hr.units) (pv 3) (pv 1) (nomark _))
         (pss_cons (ps_expr (pe_metC M_Walk_load (pv 0) T_Walk.c hr pass0 (pa_cons (pv 4) pa_nil)))
          (pss_one ps_retN))
         pss_nil)
        (pss_cons (ps_if (pt_cmpR op_ne (pe_ix ix_tup (pv 3) pe_int (fun _ _ => rfl)) (pe_ix ix_tup (pv 1) pe_int (fun _ _ => rfl)) (nomark _))
         (pss_cons (ps_asg (pe_tup (pa_cons (pe_cal C_cell_options hr (by rfl) pass0 (pa_cons (pv 1) (pa_cons (pv 3) pa_nil))) (pa_cons (pe_tup (pa_cons (pv 1) (pa_cons (pv 2) pa_nil))) pa_nil))) (pg_tup (by rfl) (pgs_cons (pg_sl (pv 0)) (pgs_cons (pg_sl (pv 0)) pgs_nil))))
          (pss_one ps_retN))
         pss_nil)
        (pss_one (ps_aug (i := 2) sc_Walk_look_at_cells.nd rfl (.inl rfl) pe_int ip_add))))))
      (pss_cons (ps_set (i := 4) sc_Walk_look_at_cells.nd rfl (.inl rfl) (SlX.pe_sl (pv 0)))
      (pss_cons (ps_sla (pv 0) pe_int in_add)
      (pss_cons (ps_sla (pv 0) (pe_tup (pa_cons (pe_tup (pa_cons (pv 4) (pa_cons (pe_gI (by rfl) T.g_NOUGHT) (pa_cons (pe_gI (by rfl) T.g_MOST_CELL) pa_nil)))) (pa_cons (pe_tup (pa_cons (pe_gI (by rfl) T.g_NOUGHT) (pa_cons (pv 4) (pa_cons pe_int pa_nil)))) pa_nil))) in_catA)
      (pss_cons (ps_sla (pv 0) (pe_tup (pa_cons (pe_tup (pa_cons (pv 1) (pa_cons (pv 4) pa_nil))) pa_nil)) in_catA)
      (pss_one (ps_expr (pe_metC M_Walk_load (pv 0) T_Walk.c hr pass0 (pa_cons (pv 4) pa_nil)))))))))), ?_⟩
    refine ⟨.ref a, rfl, a, C, dx, p7, _, 7, _, rfl, R.slt, TW.c, TW.s7, rfl, pa, _, epa, spa, rfl, _, _, rfl, _, _, rfl, rfl, ?_⟩
    refine ⟨fun m σ H' => ∃ (k : Nat) (y3 y4 : Option V), σ = [some (.ref a), some (.ref pu), some (.int (k : Int)), y3, y4] ∧ Old [] H H' ∧ k ≤ w.cells.length ∧ m = w.cells.length - k ∧ w.lookF i p (w.cells.drop k) k = w.look ps p n,
      ⟨w.cells.length - n, n, none, none, rfl, Old.refl _ _, PE.le, rfl, by unfold PW.Wk.look; rw [eins]⟩, ?_⟩
    rintro m σ H1 ⟨k, y3, y4, rfl, o1, hk, rfl, hlk⟩
    have R1 := R.keep o1
    have U1 := U.keep (o1.tk NoTup.nil)
    have hw1 := hw.keep o1
    have sl1 : SqT K H1 l ls := (o1.tk NoTup.nil).seq sl
    have dp1' := keepD o1 rfl dpu
    refine ⟨.int (k : Int), rfl, .ref a, rfl, a, C, dx, p3, _, 3, _, rfl, R1.slt, TW.c, TW.s3, rfl, l, ls, congrArg (fun v => [v]) el, .inr sl1, (k : Int), _, rfl, rfl, ?_⟩
    cases ec : w.cells[k]? with
    | none =>
      have hge := List.getElem?_eq_none_iff.mp ec
      refine ⟨false, congrArg V.bl (decide_eq_false (by rw [hll]; omega)), iteF ?_⟩
      have hkl : k = w.cells.length := Nat.le_antisymm hk hge
      have hd : w.cells.drop k = [] := List.drop_eq_nil_of_le hge
      rw [hd] at hlk
      have hlk : w.fresh i p = w.look ps p n := hlk
      rw [← hlk] at q
      have mem1 := mem.keep (o1.tk NoTup.nil)
      refine ⟨.ref a, rfl, a, C, dx, p5, _, 5, _, rfl, R1.slt, TW.c, TW.s5, rfl, ?_⟩
      refine ⟨.ref a, rfl, a, C, dx, p5, _, 5, .int (w.many : Int), rfl, R1.slt, TW.c, TW.s5, rfl, _, 1, rfl, rfl, _, R1.slt, ?_⟩
      obtain ⟨R2, f2, t2⟩ := R1.st (SlX.putS 5 (.int ((w.many : Int) + 1)) (slots w x kd))
      have U2 := U1.keep t2
      have mem2 := mem1.keep t2
      have dp2' := PL.Dp.keep t2 _ _ rfl dp1'
      have f2 := (Fr.of o1).trans f2
      generalize SlX.slH H1 a C dx (SlX.putS 5 (.int ((w.many : Int) + 1)) (slots w x kd)) = H2 at R2 f2 t2 U2 mem2 dp2' ⊢
      generalize hv2 : SlX.putS 5 (.int ((w.many : Int) + 1)) (slots w x kd) = vs2 at R2
      have hv2 : vs2 = [some (.int (w.at_ : Int)), some x.b, some x.c, some x.l, some x.e, some (.int ((w.many : Int) + 1)), some x.o, some x.p, some x.ps, some (.ref kd)] := by rw [← hv2]; rfl
      -- bounds
      refine ⟨.ref a, rfl, a, C, dx, p1, _, 1, x.b, rfl, R2.slt, TW.c, TW.s1, by rw [hv2]; rfl, .int (w.many : Int), rfl, by show 3 ≤ sizeLine; decide, fun u1 n1 => ⟨.int (w.many : Int), rfl, by show 3 ≤ sizeLine; decide, fun u2 n2 => ⟨by show 2 ≤ sizeLine; decide, fun u3 n3 => ?_⟩⟩⟩
      have o3 : Old [] H2 (upd (upd (upd H2 u1 (.tup [.int (w.many : Int), .int 0, .int 255])) u2 (.tup [.int 0, .int (w.many : Int), .int 0])) u3 (.tup [.ref u1, .ref u2])) := ((Old.new0 n1).new n2).new n3
      have d3 : Dp K (upd (upd (upd H2 u1 (.tup [.int (w.many : Int), .int 0, .int 255])) u2 (.tup [.int 0, .int (w.many : Int), .int 0])) u3 (.tup [.ref u1, .ref u2])) (.ref u3) (bdsD [(w.many, 0, 255), (0, w.many, 0)]) :=
        dp2 upd_same (keepD (Old.new0 n3) rfl (keepD (Old.new0 n2) rfl (dp3 upd_same (.int _) (.int _) (.int _)))) (keepD (Old.new0 n3) rfl (dp3 upd_same (.int _) (.int _) (.int _)))
      generalize upd (upd (upd H2 u1 (.tup [.int (w.many : Int), .int 0, .int 255])) u2 (.tup [.int 0, .int (w.many : Int), .int 0])) u3 (.tup [.ref u1, .ref u2]) = H3 at o3 d3 ⊢
      have U3 := U2.keep (o3.tk NoTup.nil)
      refine cat_dp U3.b d3 (only_map _ (fun _ => rfl) _) rfl (by rw [List.length_map]; have := gd.sz; show _ + 2 ≤ 2 ^ 24; omega) fun H4 vb o4 d4 => ⟨_, (R2.keep (o3.trans o4)).slt, ?_⟩
      rw [← List.map_append] at d4
      have R4 := R2.keep (o3.trans o4)
      obtain ⟨R5, f5, t5⟩ := R4.st (SlX.putS 1 vb vs2)
      have t25 := ((o3.trans o4).tk NoTup.nil).trans t5
      have U5 := U2.keep t25
      have mem5 := mem2.keep t25
      have dp5' := PL.Dp.keep t25 _ _ rfl dp2'
      have d5 := PL.Dp.keep t5 _ _ (bdsD_only (w.bounds ++ [(w.many, 0, 255), (0, w.many, 0)])) d4
      have f5 := f2.trans ((Fr.of (o3.trans o4)).trans f5)
      generalize SlX.slH H4 a C dx (SlX.putS 1 vb vs2) = H5 at R5 f5 t5 t25 U5 mem5 dp5' d5 ⊢
      generalize hv5 : SlX.putS 1 vb vs2 = vs5 at R5
      have hv5 : vs5 = [some (.int (w.at_ : Int)), some vb, some x.c, some x.l, some x.e, some (.int ((w.many : Int) + 1)), some x.o, some x.p, some x.ps, some (.ref kd)] := by rw [← hv5, hv2]; rfl
      clear R4 R2 R1 U3 U2 U1 mem2 mem1 d4 d3 o3 o4 n1 n2 n3 t2 f2
      -- cells
      refine ⟨.ref a, rfl, a, C, dx, p3, _, 3, x.l, rfl, R5.slt, TW.c, TW.s3, by rw [hv5]; rfl, .ref pu, rfl, .int (w.many : Int), rfl, by show 2 ≤ sizeLine; decide, fun u1 n1 => ⟨by show 1 ≤ sizeLine; decide, fun u2 n2 => ?_⟩⟩
      have o6 : Old [] H5 (upd (upd H5 u1 (.tup [.ref pu, .int (w.many : Int)])) u2 (.tup [.ref u1])) := (Old.new0 n1).new n2
      have d6 : Dp K (upd (upd H5 u1 (.tup [.ref pu, .int (w.many : Int)])) u2 (.tup [.ref u1])) (.ref u2) (cellsD [(p, w.many)]) := dp1 upd_same (keepD (Old.new0 n2) rfl (dp2 upd_same (keepD (Old.new0 n1) rfl dp5') (.int _)))
      generalize upd (upd H5 u1 (.tup [.ref pu, .int (w.many : Int)])) u2 (.tup [.ref u1]) = H6 at o6 d6 ⊢
      have U6 := U5.keep (o6.tk NoTup.nil)
      refine cat_dp U6.l d6 (only_map _ (fun _ => rfl) _) rfl (by rw [List.length_map]; show _ + 1 ≤ 2 ^ 24; omega) fun H7 vl o7 d7 => ⟨_, (R5.keep (o6.trans o7)).slt, ?_⟩
      rw [← List.map_append] at d7
      have R7 := R5.keep (o6.trans o7)
      obtain ⟨R8, f8, t8⟩ := R7.st (SlX.putS 3 vl vs5)
      have t58 := ((o6.trans o7).tk NoTup.nil).trans t8
      have U8 := U5.keep t58
      have mem8 := mem5.keep t58
      have d8 := PL.Dp.keep t8 _ _ (cellsD_only (w.cells ++ [(p, w.many)])) d7
      have e8 := PL.Dp.keep t58 _ _ (bdsD_only (w.bounds ++ [(w.many, 0, 255), (0, w.many, 0)])) d5
      have f8 := f5.trans ((Fr.of (o6.trans o7)).trans f8)
      generalize SlX.slH H7 a C dx (SlX.putS 3 vl vs5) = H8 at R8 f8 t8 t58 U8 mem8 d8 e8 ⊢
      generalize hv8 : SlX.putS 3 vl vs5 = vs8 at R8
      have hv8 : vs8 = [some (.int (w.at_ : Int)), some vb, some x.c, some vl, some x.e, some (.int ((w.many : Int) + 1)), some x.o, some x.p, some x.ps, some (.ref kd)] := by rw [← hv8, hv5]; rfl
      clear R7 R5 U6 U5 mem5 d7 d6 o6 o7 n1 n2 f5
      rw [hv8] at R8
      have hw8 : WkAt K H8 C a dx kd ps { w with many := w.many + 1, bounds := w.bounds ++ [(w.many, 0, 255), (0, w.many, 0)], cells := w.cells ++ [(p, w.many)] } :=
        ⟨{ x with b := vb, l := vl }, kvs, R8, ⟨e8, U8.c, d8, U8.e, U8.o, U8.p, U8.ps⟩, mem8, kl⟩
      refine ⟨.ref a, rfl, a, dx, _, rfl, R8.slt, .int (w.many : Int), rfl, a, dx, kd, ps, _, i, w.many, rfl, hw8, ei, ld, hat, fun H' kd' f' w' => q H' kd' (f8.trans f') w'⟩
    | some c =>
      obtain ⟨qo, v⟩ := c
      have hlt := (List.getElem?_eq_some_iff.mp ec).1
      refine ⟨true, congrArg V.bl (decide_eq_true (by rw [hll]; omega)), iteT ?_⟩
      obtain ⟨ca, cu, g1, g2, g3⟩ := hlg k qo v ec
      have g2 := (o1.tk NoTup.nil).seq g2
      have g3 := keepD o1 rfl g3
      refine ⟨fun σ H' => ∃ (k' : Nat) (y3 y4 : Option V), σ = [some (.ref a), some (.ref pu), some (.int (k' : Int)), y3, y4] ∧ Old [] H H' ∧ k' = k + 1 ∧ w.lookF i p (w.cells.drop k') k' = w.look ps p n, ?_, ?_⟩
      · rintro σ' H' ⟨k', y3, y4, h1, h2, rfl, h3⟩
        exact ⟨w.cells.length - (k + 1), by omega, k + 1, y3, y4, h1, h2, hlt, rfl, h3⟩
      refine ⟨.ref a, rfl, a, C, dx, p3, _, 3, _, rfl, R1.slt, TW.c, TW.s3, rfl, .int (k : Int), rfl, l, ls, _, .ref ca, el, rfl, sl1, atI_nat g1, ca, _, rfl, g2, rfl, _, _, rfl, _, _, rfl, rfl, ?_⟩
      have hdrop : w.cells.drop k = (qo, v) :: w.cells.drop (k + 1) := by
        rw [List.drop_eq_getElem_cons hlt]
        congr 1
        exact Option.some.inj ((List.getElem?_eq_getElem hlt).symm.trans ec)
      rw [hdrop] at hlk
      have hlk : (if qo = p then w.load i v else if qo.1 = p.1 then w.lookF i p (w.cells.drop (k + 1)) (k + 1) else { w with options := some (PW.cellOpts p qo), pending := some (p, k) }) = w.look ps p n := hlk
      refine ⟨.ref cu, rfl, .ref pu, rfl, _, _, g3, dp1', rfl, rfl, ?_⟩
      rw [eqv_tm]
      refine ⟨decide (qo = p), rfl, ?_⟩
      by_cases c1 : qo = p
      · rw [decide_eq_true c1]
        refine iteT ?_
        rw [if_pos c1] at hlk
        rw [← hlk] at q
        exact ⟨.ref a, rfl, a, dx, _, rfl, R1.slt, .int (v : Int), rfl, a, dx, kd, ps, w, i, v, rfl, hw1, ei, ld, hat, fun H' kd' f' w' => q H' kd' ((Fr.of o1).trans f') w'⟩
      · rw [decide_eq_false c1]
        refine iteF ?_
        rw [if_neg c1] at hlk
        obtain ⟨cu', ecu, scu⟩ := tm_at g3
        cases ecu
        obtain ⟨pu', epu, spu⟩ := tm_at dp1'
        cases epu
        refine ⟨.ref cu, rfl, cu, _, 0, _, rfl, rfl, scu, rfl, .ref pu, rfl, pu, _, 0, _, rfl, rfl, spu, rfl, rfl, ?_⟩
        by_cases c2 : qo.1 = p.1
        · rw [if_pos c2] at hlk
          refine ⟨false, congrArg V.bl (by rw [c2]; simp), iteF ?_⟩
          exact ⟨_, rfl, _, 1, rfl, rfl, k + 1, _, _, rfl, o1, rfl, hlk⟩
        · rw [if_neg c2] at hlk
          rw [← hlk] at q
          refine ⟨true, congrArg V.bl (by rw [Bool.not_eq_true']; exact decide_eq_false fun z => c2 (by have : (qo.1 : Int) = (p.1 : Int) := V.int.inj z; omega)), iteT ?_⟩
          refine ⟨.ref pu, rfl, .ref cu, rfl, .ref pu, .ref cu, p, qo, rfl, dp1', g3, fun H2 t2 o2 d2 => ?_⟩
          refine ⟨.ref pu, rfl, .int (k : Int), rfl, by show 2 ≤ sizeLine; decide, fun u nu => ⟨by show 2 ≤ sizeLine; decide, fun r nr => ?_⟩⟩
          have o3 : Old [] H2 (upd (upd H2 u (.tup [.ref pu, .int (k : Int)])) r (.tup [.ref t2, .ref u])) := (Old.new0 nu).new nr
          have d3 : Dp K (upd (upd H2 u (.tup [.ref pu, .int (k : Int)])) r (.tup [.ref t2, .ref u])) (.ref u) (pendD (p, k)) := keepD (Old.new0 nr) rfl (dp2 upd_same (keepD (o2.trans (Old.new0 nu)) rfl dp1') (.int _))
          have d2 := keepD o3 rfl d2
          have r3 : (upd (upd H2 u (.tup [.ref pu, .int (k : Int)])) r (.tup [.ref t2, .ref u])) r = some (.tup [.ref t2, .ref u]) := upd_same
          generalize upd (upd H2 u (.tup [.ref pu, .int (k : Int)])) r (.tup [.ref t2, .ref u]) = H3 at o3 d3 d2 r3 ⊢
          have o13 := o2.trans o3
          have R3 := R1.keep o13
          refine ⟨r, _, rfl, SqT.of r3, rfl, _, _, rfl, .ref a, rfl, a, C, dx, p6, _, 6, rfl, R3.slt, TW.c, TW.s6, ?_⟩
          obtain ⟨R4, f4, t4⟩ := R3.st (SlX.putS 6 (.ref t2) (slots w x kd))
          generalize SlX.slH H3 a C dx (SlX.putS 6 (.ref t2) (slots w x kd)) = H4 at R4 f4 t4 ⊢
          refine ⟨_, _, rfl, .ref a, rfl, a, C, dx, p7, _, 7, rfl, R4.slt, TW.c, TW.s7, rfl, ?_⟩
          obtain ⟨R5, f5, t5⟩ := R4.st (SlX.putS 7 (.ref u) (SlX.putS 6 (.ref t2) (slots w x kd)))
          have tk := ((o13.tk NoTup.nil).trans t4).trans t5
          have U5 := U1.keep tk
          exact q _ kd ((Fr.of (o1.trans o13)).trans (f4.trans f5)) ⟨{ x with o := .ref t2, p := .ref u }, kvs, R5, ⟨U5.b, U5.c, U5.l, U5.e, PL.Dp.keep (t4.trans t5) _ _ (optsD_only _) d2, PL.Dp.keep (t4.trans t5) _ _ rfl d3, U5.ps⟩, (mem.keep (o1.tk NoTup.nil)).keep tk, kl⟩
end
end L2.T39

/-! the walk as one machine: how much it grows; looking at cells as steps -/
namespace L2.PW
open L2.PR
section
variable {ps : List (List Ins)} {w w' w1 w2 : Wk} {cs cs' cs1 cs2 : List Nat}
theorem look_reach (ho : w.options = none) (he : w.ends.length ≠ ps.length) {p : Tm} (j : Nat) : ∀ k, w.cells.length - k = j → ∃ u, cstep ps { w with pending := some (p, k) } cs = some (u, cs) ∧ Reach ps u cs (w.lookF (insAt ps w) p (w.cells.drop k) k) cs := by
  induction j using Nat.strongRecOn with
  | _ j ih =>
    intro k hj
    have c : cstep ps { w with pending := some (p, k) } cs = some (({ w with pending := some (p, k) } : Wk).lookC ps p k, cs) := cstep_look ho he rfl
    cases ec : w.cells[k]? with
    | none =>
      have hd : w.cells.drop k = [] := List.drop_eq_nil_of_le (List.getElem?_eq_none_iff.mp ec)
      rw [hd]
      refine ⟨_, c.trans (congrArg (fun u => some (u, cs)) ?_), .refl _ _⟩
      unfold Wk.lookC
      rw [show ({ w with pending := some (p, k) } : Wk).cells[k]? = none from ec]
      rfl
    | some q =>
      obtain ⟨q, v⟩ := q
      have hlt := (List.getElem?_eq_some_iff.mp ec).1
      have hd : w.cells.drop k = (q, v) :: w.cells.drop (k + 1) := by
        rw [List.drop_eq_getElem_cons hlt]
        congr 1
        exact Option.some.inj ((List.getElem?_eq_getElem hlt).symm.trans ec)
      rw [hd]
      show ∃ u, cstep ps { w with pending := some (p, k) } cs = some (u, cs) ∧ Reach ps u cs (if q = p then w.load (insAt ps w) v else if q.1 = p.1 then w.lookF (insAt ps w) p (w.cells.drop (k + 1)) (k + 1) else { w with options := some (cellOpts p q), pending := some (p, k) }) cs
      have hc : ({ w with pending := some (p, k) } : Wk).lookC ps p k = (if q = p then w.load (insAt ps w) v else if q.1 = p.1 then { w with pending := some (p, k + 1) } else { w with options := some (cellOpts p q), pending := some (p, k) }) := by
        unfold Wk.lookC
        rw [show ({ w with pending := some (p, k) } : Wk).cells[k]? = some (q, v) from ec]
        rfl
      rw [hc] at c
      by_cases c1 : q = p
      · rw [if_pos c1] at c ⊢; exact ⟨_, c, .refl _ _⟩
      · rw [if_neg c1] at c ⊢
        by_cases c2 : q.1 = p.1
        · rw [if_pos c2] at c ⊢
          obtain ⟨u, c', r'⟩ := ih (w.cells.length - (k + 1)) (by omega) (k + 1) rfl
          exact ⟨_, c, .head c' r'⟩
        · rw [if_neg c2] at c ⊢; exact ⟨_, c, .refl _ _⟩
theorem look_step1 (ho : w.options = none) (he : w.ends.length ≠ ps.length) {p : Tm} {n : Nat} (hp : w.pending = some (p, n)) : ∃ u, cstep ps w cs = some (u, cs) ∧ Reach ps u cs (w.look ps p n) cs := by
  have := look_reach (cs := cs) (ps := ps) ho he (p := p) _ n rfl
  have e : ({ w with pending := some (p, n) } : Wk) = w := by
    cases w; simp only at hp; subst hp; rfl
  rw [e] at this
  exact this
theorem look_steps (ho : w.options = none) (he : w.ends.length ≠ ps.length) {p : Tm} {n : Nat} (hp : w.pending = some (p, n)) : Reach ps w cs (w.look ps p n) cs := by
  obtain ⟨u, c, r⟩ := look_step1 (cs := cs) ho he hp
  exact .head c r
theorem opt_len (h : Wok ps w) {os : List (List Bd)} (o : w.options = some os) : ∀ bs ∈ os, bs.length ≤ 2 := by
  have O := h.opts os o
  unfold Opts at O
  split at O
  · obtain ⟨q, v, _, _, rfl⟩ := O
    intro bs hb
    simp only [cellOpts, List.mem_cons, List.not_mem_nil, or_false] at hb
    rcases hb with rfl | rfl | rfl <;> simp
  · obtain ⟨i, _, _, ⟨_, rfl⟩ | ⟨_, rfl⟩⟩ := O
    · intro bs hb
      unfold testOpts at hb
      generalize testOf w.terms i = x at hb
      obtain ⟨a, c, n⟩ := x
      simp only at hb
      split at hb <;> simp only [List.mem_cons, List.not_mem_nil, or_false] at hb
      · rcases hb with rfl | rfl | rfl <;> simp
      · rcases hb with rfl | rfl <;> simp
    · intro bs hb
      simp only [placeOpts, List.mem_cons, List.not_mem_nil, or_false] at hb
      rcases hb with rfl | rfl | rfl <;> simp
theorem cstep_sz (h : Wok ps w) (e : cstep ps w cs = some (w', cs')) : w'.came.length + w'.bounds.length ≤ w.came.length + w.bounds.length + 3 := by
  unfold cstep at e
  split at e
  · rename_i os o
    split at e
    · cases e
    · rename_i c r
      split at e
      · rename_i hc
        cases e
        have hl := opt_len h o os[c] (List.getElem_mem hc)
        have eb : (os[c]?).getD [] = os[c] := by rw [List.getElem?_eq_getElem hc]; rfl
        unfold Wk.takeF
        rw [eb]
        have key : ({ w with bounds := w.bounds ++ os[c], options := none } : Wk).bounds.length ≤ w.bounds.length + 2 := by
          show (w.bounds ++ os[c]).length ≤ _
          rw [List.length_append]; omega
        have b1 : (w.bounds ++ os[c]).length ≤ w.bounds.length + 2 := key
        simp only
        split
        · split
          · show w.came.length + (w.bounds ++ os[c]).length ≤ _; omega
          · show w.came.length + (w.bounds ++ os[c]).length ≤ _; omega
        · split
          · show w.came.length + (w.bounds ++ os[c]).length ≤ _; omega
          · split
            · show w.came.length + (w.bounds ++ os[c]).length ≤ _; omega
            · show w.came.length + (w.bounds ++ os[c]).length ≤ _; omega
      · cases e
  · split at e
    · cases e
    · split at e
      · cases e
        unfold Wk.step
        split
        · show w.came.length + w.bounds.length ≤ _; omega
        · unfold Wk.does
          have hh : (w.came ++ [(w.ends.length, w.at_)]).length = w.came.length + 1 := by rw [List.length_append]; rfl
          split
          · show (w.came ++ [(w.ends.length, w.at_)]).length + w.bounds.length ≤ _; omega
          · split
            · show (w.came ++ [(w.ends.length, w.at_)]).length + w.bounds.length ≤ _; omega
            · split
              · show (w.came ++ [(w.ends.length, w.at_)]).length + w.bounds.length ≤ _; omega
              · split
                · show (w.came ++ [(w.ends.length, w.at_)]).length + w.bounds.length ≤ _; omega
                · split
                  · show (w.came ++ [(w.ends.length, w.at_)]).length + w.bounds.length ≤ _; omega
                  · show (w.came ++ [(w.ends.length, w.at_)]).length + w.bounds.length ≤ _; omega
      · cases e
        unfold Wk.lookC
        split
        · show w.came.length + (w.bounds ++ [_, _]).length ≤ _
          rw [List.length_append]
          show w.came.length + (w.bounds.length + 2) ≤ _; omega
        · split
          · show w.came.length + w.bounds.length ≤ _; omega
          · split
            · show w.came.length + w.bounds.length ≤ _; omega
            · show w.came.length + w.bounds.length ≤ _; omega
theorem reach_mu (hps : ∀ is ∈ ps, LOk is) (h : Wok ps w) (r : Reach ps w cs w' cs') : mu ps w' ≤ mu ps w ∧ w'.came.length + w'.bounds.length + 4 * mu ps w' ≤ w.came.length + w.bounds.length + 4 * mu ps w := by
  induction r with
  | refl => exact ⟨Nat.le_refl _, Nat.le_refl _⟩
  | head e _ ih =>
    have s := h.cstep hps e
    have z := cstep_sz h e
    have := ih s.1
    omega
theorem reach_lt (hps : ∀ is ∈ ps, LOk is) (h : Wok ps w) (e : cstep ps w cs = some (w1, cs1)) (r : Reach ps w1 cs1 w' cs') : mu ps w' < mu ps w := by
  have s := h.cstep hps e
  have := (reach_mu hps s.1 r).1
  omega
theorem look_lt (hps : ∀ is ∈ ps, LOk is) (h : Wok ps w) (ho : w.options = none) (he : w.ends.length ≠ ps.length) {p : Tm} {n : Nat} (hp : w.pending = some (p, n)) : mu ps (w.look ps p n) < mu ps w := by
  obtain ⟨u, c, r⟩ := look_step1 (cs := []) ho he hp
  exact reach_lt hps h c r
end
end L2.PW

namespace L2.T39
open PySem PySem.Spec PyProof.Rows L2.PL
theorem Gd.reach {ps : List (List PR.Ins)} {w w' : PW.Wk} {cs cs' : List Nat} (g : Gd ps w) (r : PW.Reach ps w cs w' cs') : Gd ps w' :=
  ⟨g.ok.reach g.ls r, g.ls, g.pl, by have := (PW.reach_mu g.ls g.ok r).2; have := g.sz; omega⟩
theorem Gd.start {ps : List (List PR.Ins)} (h : ∀ is ∈ ps, PW.LOk is) (hl : ps.length ≤ 4) : Gd ps PW.start := by
  refine ⟨PW.Wok.start, h, hl, ?_⟩
  have e : PW.mu ps PW.start = ps.length * (201 * PW.muX ps) + 200 * PW.muX ps + 5 := rfl
  have ex : PW.muX ps ≤ 2018 := by unfold PW.muX; omega
  have e1 : ps.length * (201 * PW.muX ps) ≤ 4 * (201 * PW.muX ps) := Nat.mul_le_mul_right _ hl
  rw [e]
  show 0 + 2 + 4 * (ps.length * (201 * PW.muX ps) + 200 * PW.muX ps + 5) ≤ _
  have e2 : 201 * PW.muX ps ≤ 201 * 2018 := Nat.mul_le_mul_left _ ex
  omega
def spTake_ (K : PySem.W.Frag) (C : Addr) : Sp := fun vs H Q _ => ∃ (a dx kd : Addr) (ps : List (List PR.Ins)) (w : PW.Wk) (os : List (List PW.Bd)) (c : Nat), vs = [.ref a, .int (c : Int)] ∧ WkAt K H C a dx kd ps w ∧ Gd ps w ∧ w.options = some os ∧ c < os.length ∧ WkPost K C a dx kd ps H Q (PW.Wk.takeF ps w os c)
def spGo (K : PySem.W.Frag) (C : Addr) : Sp := fun vs H Q _ => ∃ (a dx kd : Addr) (ps : List (List PR.Ins)) (w : PW.Wk), vs = [.ref a] ∧ WkAt K H C a dx kd ps w ∧ Gd ps w ∧
  ∀ w', (∀ cs, PW.Reach ps w cs w' cs) → (w'.options.isSome = true ∨ w'.ends.length = ps.length) → WkPost K C a dx kd ps H Q w'
theorem opts_at {K : PySem.W.Frag} {H : Hp} {v : V} {os : List (List PW.Bd)} (h : Dp K H v (optsD os)) : ∃ b xs, v = .ref b ∧ SqT K H b xs ∧ xs.length = os.length ∧ ∀ (c : Nat) bs, os[c]? = some bs → ∃ u, xs[c]? = some u ∧ Dp K H u (bdsD bs) := by
  obtain ⟨b, xs, e, h1, h2⟩ := dp_tup h
  refine ⟨b, xs, e, h1, by rw [PL.DpAll.length h2, List.length_map], fun c bs ec => ?_⟩
  exact PL.DpAll.get h2 (i := c) (d := bdsD bs) (by rw [List.getElem?_map, ec]; rfl)
section
variable {P : Program} {w : World} {K : PySem.W.Frag} {mg : Str → Option Value} {base : Heap} {C p0 p1 p2 p3 p4 p5 p6 p7 p8 p9 : Addr}
/-! Walk.go: slots self=0; cells [] -/
abbrev s_Walk_go : Stmt := inClass (topS 38) 5
abbrev N_Walk_go : List Str := ["self"]
theorem sc_Walk_go : FnScope N_Walk_go ["self"] (defScope s_Walk_go) := ⟨rfl, rfl, rfl, by decide +kernel, rfl, by decide +kernel, by decide +kernel⟩
theorem ok_wk_go {f : Addr} {fd : FuncData} (F : Fun K "go" "Walk.go" s_Walk_go f fd) (T : Tx mg) (T_Walk : WkT K C p0 p1 p2 p3 p4 p5 p6 p7 p8 p9) (M_Walk_is_ended : MtC P w K mg base CX0 C "is_ended" ["self"] 1 (spEnded K C)) (M_Walk_step : MtC P w K mg base CX0 C "step" ["self"] 3 (spStep K C)) (M_Walk_look_at_cells : MtC P w K mg base CX0 C "look_at_cells" ["self"] 3 (spLook K C)) :
    FnOk P w K mg base CX0 4 f fd ["self"] (spGo K C) := by
  refine F.ok sc_Walk_go (fun vs H Q E h => ?_) (fun cdv A outer s H vs Q E hr h => ?_)
  · obtain ⟨a, dx, kd, ps, w, rfl, _⟩ := h
    rfl
  · obtain ⟨a, dx, kd, ps, w, rfl, hw, gd, q⟩ := h
    have TW := T_Walk
    refine ⟨_, (pss_one (ps_while PassesOwn.never (PW.pt (pw_and (pt_cmpR op_isN (SlX.pe_sl (pv 0)) pe_non (nomark _)) (pw_and1 (pt_not (pt_val (pe_metC0 M_Walk_is_ended (pv 0) T_Walk.c hr pass0))))))
       (pss_one (ps_if (pt_cmpR op_isN (SlX.pe_sl (pv 0)) pe_non (nomark _))
         (pss_one (ps_expr (pe_metC0 M_Walk_step (pv 0) T_Walk.c hr pass0)))
         (pss_one (ps_expr (pe_metC0 M_Walk_look_at_cells (pv 0) T_Walk.c hr pass0))))))), ?_⟩
    refine ⟨fun m σ H' => ∃ (kd' : Addr) (w1 : PW.Wk), σ = [some (.ref a)] ∧ Fr a dx kd H H' kd' ∧ WkAt K H' C a dx kd' ps w1 ∧ Gd ps w1 ∧ (∀ cs, PW.Reach ps w cs w1 cs) ∧ m = PW.mu ps w1,
      ⟨_, kd, w, rfl, Fr.of (Old.refl _ _), hw, gd, fun cs => .refl _ _, rfl⟩, ?_⟩
    rintro m σ H1 ⟨kd1, w1, rfl, f1, hw1, gd1, re, rfl⟩
    obtain ⟨x, kvs, R, U, mem, kl⟩ := hw1.ex
    refine ⟨.ref a, rfl, a, C, dx, p6, _, 6, x.o, rfl, R.slt, TW.c, TW.s6, rfl, ?_⟩
    have Uo := U.o
    cases ho : w1.options with
    | some os =>
      rw [ho] at Uo
      obtain ⟨b, _, eb, _⟩ := dp_tup Uo
      refine ⟨rfl, false, by rw [eb]; rfl, iteF ?_⟩
      exact q w1 re (.inl (by rw [ho]; rfl)) H1 kd1 f1 hw1
    | none =>
      rw [ho] at Uo
      have Uo : x.o = .non := Uo
      refine ⟨rfl, true, by rw [Uo]; rfl, iteT ?_⟩
      refine ⟨.ref a, rfl, a, dx, _, rfl, R.slt, a, dx, kd1, ps, w1, rfl, hw1, _, rfl, ?_⟩
      by_cases he : w1.ends.length = ps.length
      · rw [decide_eq_true he]
        refine iteF ?_
        exact q w1 re (.inr he) H1 kd1 f1 hw1
      · rw [decide_eq_false he]
        refine iteT ?_
        refine ⟨fun σ H' => ∃ (kd' : Addr) (w2 : PW.Wk), σ = [some (.ref a)] ∧ Fr a dx kd H H' kd' ∧ WkAt K H' C a dx kd' ps w2 ∧ (∀ cs, PW.Reach ps w1 cs w2 cs) ∧ PW.mu ps w2 < PW.mu ps w1, ?_, ?_⟩
        · rintro σ' H' ⟨kd', w2, h1, h2, h3, h4, h5⟩
          exact ⟨_, h5, kd', w2, h1, h2, h3, gd1.reach (h4 []), fun cs => (re cs).trans (h4 cs), rfl⟩
        have hlt : w1.ends.length < ps.length := Nat.lt_of_le_of_ne gd1.ok.ends he
        refine ⟨.ref a, rfl, a, C, dx, p7, _, 7, x.p, rfl, R.slt, TW.c, TW.s7, rfl, rfl, ?_⟩
        have Up := U.p
        cases hp : w1.pending with
        | none =>
          rw [hp] at Up
          have Up : x.p = .non := Up
          refine ⟨true, by rw [Up]; rfl, iteT ?_⟩
          have st := PW.cstep_step (cs := []) ho he hp
          exact ⟨.ref a, rfl, a, dx, _, rfl, R.slt, a, dx, kd1, ps, w1, rfl, hw1, gd1, hlt, ho, hp, fun H' kd' f' w' => ⟨kd', _, rfl, f1.trans f', w', fun cs => .one (PW.cstep_step ho he hp), (gd1.ok.step gd1.ls ho he hp).2⟩⟩
        | some pn =>
          obtain ⟨p, n⟩ := pn
          rw [hp] at Up
          obtain ⟨b, _, eb, _⟩ := dp_tup Up
          refine ⟨false, by rw [eb]; rfl, iteF ?_⟩
          exact ⟨.ref a, rfl, a, dx, _, rfl, R.slt, a, dx, kd1, ps, w1, p, n, rfl, hw1, gd1, ho, hp, fun H' kd' f' w' => ⟨kd', _, rfl, f1.trans f', w', fun cs => PW.look_steps ho he hp, PW.look_lt gd1.ls gd1.ok ho he hp⟩⟩
/-! Walk.take: slots self=0 number=1 instruction=2 place=3 at=4; cells [] -/
abbrev s_Walk_take : Stmt := inClass (topS 38) 12
abbrev N_Walk_take : List Str := ["self", "number", "instruction", "place", "at"]
theorem sc_Walk_take : FnScope N_Walk_take ["self", "number"] (defScope s_Walk_take) := ⟨rfl, rfl, rfl, by decide +kernel, rfl, by decide +kernel, by decide +kernel⟩
theorem ok_wk_take {f : Addr} {fd : FuncData} (F : Fun K "take" "Walk.take" s_Walk_take f fd) (T : Tx mg) (T_Walk : WkT K C p0 p1 p2 p3 p4 p5 p6 p7 p8 p9) (M_Walk_instruction : MtC P w K mg base CX0 C "instruction" ["self"] 1 (spInstr_ K C)) (M_Walk_load : MtC P w K mg base CX0 C "load" ["self", "variable"] 2 (spLoad K C))
    (M_Walk_place_of : MtC P w K mg base CX0 C "place_of" ["self", "instruction"] 1 (spPlaceOf K C)) (M_Walk_finish : MtC P w K mg base CX0 C "finish" ["self", "told"] 1 (spFinish K C)) :
    FnOk P w K mg base CX0 3 f fd ["self", "number"] (spTake_ K C) := by
  refine F.ok sc_Walk_take (fun vs H Q E h => ?_) (fun cdv A outer s H vs Q E hr h => ?_)
  · obtain ⟨a, dx, kd, ps, w, os, c, rfl, _⟩ := h
    rfl
  · obtain ⟨a, dx, kd, ps, w, os, c, rfl, hw, gd, ho, hc, q⟩ := h
    obtain ⟨x, kvs, R, U, mem, kl⟩ := hw.ex
    have TW := T_Walk
    have O := gd.ok.opts os ho
    have hi : ∃ i, (PW.linesAt ps w)[w.at_]? = some i ∧ PW.unsetT i w.terms = false ∧ (w.pending.isSome = true → PW.isLoad i = true) := by
      unfold PW.Opts at O
      cases hp : w.pending with
      | some pn =>
        obtain ⟨p, n⟩ := pn
        obtain ⟨i, ei, ld, un, _⟩ := (gd.ok.pend p n hp).ins
        exact ⟨i, ei, un, fun _ => ld⟩
      | none =>
        rw [hp] at O
        obtain ⟨i, ei, un, _⟩ := O
        exact ⟨i, ei, un, fun z => nomatch z⟩
    obtain ⟨i, ei, un, hld⟩ := hi
    have LK : PW.LOk (PW.linesAt ps w) := PW.lines_ok gd.ls
    have hat : w.at_ < 200 := Nat.lt_of_lt_of_le (List.getElem?_eq_some_iff.mp ei).1 LK.len
    have iok := LK.ok _ i ei
    have eins : PW.insAt ps w = i := PW.insAt_of ei
    have Uo := U.o
    rw [ho] at Uo
    obtain ⟨b, xs, eb, sb, hbl, hbg⟩ := opts_at Uo
    obtain ⟨u, gu, du⟩ := hbg c os[c] (List.getElem?_eq_getElem hc)
    have hgo : (os[c]?).getD [] = os[c] := by rw [List.getElem?_eq_getElem hc]; rfl
    have hol := PW.opt_len gd.ok ho os[c] (List.getElem_mem hc)
    refine ⟨_, (pss_cons (ps_set (i := 2) sc_Walk_take.nd rfl (.inl rfl) (pe_metC0 M_Walk_instruction (pv 0) T_Walk.c hr pass0))
      (pss_cons (ps_sla (pv 0) (pe_ix ix_tup (SlX.pe_sl (pv 0)) (pv 1) (fun _ _ => rfl)) in_catA)
      (pss_cons (ps_asg pe_non (pg_sl (pv 0)))
      (pss_one (ps_if (pt_cmpR op_notN (SlX.pe_sl (pv 0)) pe_non (nomark _))
       (pss_cons (ps_asg (SlX.pe_sl (pv 0)) (pg_tup (by rfl) (pgs_cons (pg_name (i := 3) sc_Walk_take.nd rfl (Or.inl rfl)) (pgs_cons (pg_name (i := 4) sc_Walk_take.nd rfl (Or.inl rfl)) pgs_nil))))
        (pss_one (ps_if (pt_cmpR op_eq (pv 1) pe_int (nomark _))
         (pss_one (ps_expr (pe_metC M_Walk_load (pv 0) T_Walk.c hr pass0 (pa_cons (pe_ix ix_tup (pe_ix ix_tup (SlX.pe_sl (pv 0)) (pv 4) (fun _ _ => rfl)) pe_int (fun _ _ => rfl)) pa_nil))))
         (pss_one (ps_asg (pe_tup (pa_cons (pv 3) (pa_cons (pe_op op_add (pv 4) pe_int) pa_nil))) (pg_sl (pv 0)))))))
       (pss_one (ps_if (pt_cmpR op_ne (pe_ix ix_tup (pv 2) pe_int (fun _ _ => rfl)) pe_str (nomark _))
         (pss_one (ps_asg (pe_ifExp (pt_cmpR op_eq (pv 1) pe_int (nomark _)) (pe_ix ix_tup (pv 2) (pe_un un_neg pe_int) (fun _ _ => rfl)) (pe_op op_add (SlX.pe_sl (pv 0)) pe_int)) (pg_sl (pv 0))))
         (pss_one (ps_if (pt_cmpR op_eq (pv 1) pe_int (nomark _))
           (pss_one (ps_asg (pe_tup (pa_cons (pe_metC M_Walk_place_of (pv 0) T_Walk.c hr pass0 (pa_cons (pv 2) pa_nil)) (pa_cons pe_int pa_nil))) (pg_sl (pv 0))))
           (pss_one (ps_expr (pe_metC M_Walk_finish (pv 0) T_Walk.c hr pass0 (pa_cons (pe_tup (pa_cons (pe_gS (by rfl) T.g_WRONG) (pa_cons (SlX.pe_sl (pv 0)) (pa_cons (pe_gS (by rfl) T.g_BEYOND) pa_nil)))) pa_nil))))))))))))), ?_⟩
    refine ⟨.ref a, rfl, a, dx, _, rfl, R.slt, a, dx, kd, ps, w, i, rfl, hw, ei, fun t ht => ?_⟩
    refine ⟨.ref a, rfl, a, C, dx, p1, _, 1, x.b, rfl, R.slt, TW.c, TW.s1, rfl, .ref a, rfl, a, C, dx, p6, _, 6, x.o, rfl, R.slt, TW.c, TW.s6, rfl, .int (c : Int), rfl, b, xs, _, u, eb, rfl, sb, atI_nat gu, ?_⟩
    refine cat_dp U.b du (only_map _ (fun _ => rfl) _) (only_map _ (fun _ => rfl) _) (by rw [List.length_map, List.length_map]; have := gd.sz; show _ + _ ≤ 2 ^ 24; omega) fun H1 vb o1 d1 => ⟨_, (R.keep o1).slt, ?_⟩
    rw [← List.map_append] at d1
    obtain ⟨R2, f2, t2⟩ := (R.keep o1).st (SlX.putS 1 vb (slots w x kd))
    generalize SlX.slH H1 a C dx (SlX.putS 1 vb (slots w x kd)) = H2 at R2 f2 t2 ⊢
    refine ⟨.ref a, rfl, a, C, dx, p6, _, 6, rfl, R2.slt, TW.c, TW.s6, ?_⟩
    obtain ⟨R3, f3, t3⟩ := R2.st (SlX.putS 6 .non (SlX.putS 1 vb (slots w x kd)))
    have f3 := (Fr.of o1).trans (f2.trans f3)
    have tk := ((o1.tk NoTup.nil).trans t2).trans t3
    have U3 := U.keep tk
    have mem3 := mem.keep tk
    have d3 := PL.Dp.keep (t2.trans t3) _ _ (bdsD_only (w.bounds ++ os[c])) d1
    have ht3 := tk.seq ht
    generalize SlX.slH H2 a C dx (SlX.putS 6 .non (SlX.putS 1 vb (slots w x kd))) = H3 at R3 f3 t3 tk U3 mem3 d3 ht3 ⊢
    have hw3 : WkAt K H3 C a dx kd ps { w with bounds := w.bounds ++ os[c], options := none } := ⟨{ x with b := vb, o := .non }, kvs, R3, ⟨d3, U3.c, U3.l, U3.e, rfl, U3.p, U3.ps⟩, mem3, kl⟩
    unfold PW.Wk.takeF at q
    rw [hgo, eins] at q
    simp only at q
    refine ⟨.ref a, rfl, a, C, dx, p7, _, 7, x.p, rfl, R3.slt, TW.c, TW.s7, rfl, ?_⟩
    have Up := U3.p
    unfold PW.Opts at O
    cases hp : w.pending with
    | some pn =>
      obtain ⟨p, n⟩ := pn
      rw [hp] at Up q O hw3
      simp only at q
      obtain ⟨qo, v, ec, nq, _⟩ := O
      obtain ⟨pa, pu, epa, spa, dpu⟩ := pair_at Up
      refine ⟨rfl, true, by rw [epa]; rfl, iteT ?_⟩
      refine ⟨.ref a, rfl, a, C, dx, p7, _, 7, x.p, rfl, R3.slt, TW.c, TW.s7, rfl, pa, _, epa, spa, rfl, _, _, rfl, _, _, rfl, rfl, ?_⟩
      have PE := gd.ok.pend p n hp
      by_cases c0 : c = 0
      · subst c0
        refine ⟨.int 0, rfl, rfl, true, rfl, iteT ?_⟩
        obtain ⟨l, ls, el, sl, hll, hlg⟩ := cell_get U3.l
        obtain ⟨ca, cu, g1, g2, g3⟩ := hlg n qo v ec
        rw [if_pos rfl, ec] at q
        refine ⟨.ref a, rfl, a, dx, _, rfl, R3.slt, .ref a, rfl, a, C, dx, p3, _, 3, x.l, rfl, R3.slt, TW.c, TW.s3, rfl, .int (n : Int), rfl, l, ls, _, .ref ca, el, rfl, sl, atI_nat g1, ca, _, 1, .int (v : Int), rfl, rfl, g2, rfl, ?_⟩
        exact ⟨a, dx, kd, ps, _, i, v, rfl, hw3, ei, hld (by rw [hp]; rfl), hat, fun H' kd' f' w' => q H' kd' (f3.trans f') w'⟩
      · refine ⟨.int (c : Int), rfl, rfl, false, congrArg V.bl (decide_eq_false fun z => c0 (by have : (c : Int) = 0 := V.int.inj z; omega)), iteF ?_⟩
        rw [if_neg c0] at q
        refine ⟨.ref pu, rfl, .int (n : Int), rfl, _, 1, rfl, rfl, by show 2 ≤ sizeLine; decide, fun u4 n4 => ?_⟩
        have o4 : Old [] H3 (upd H3 u4 (.tup [.ref pu, .int ((n : Int) + 1)])) := Old.new0 n4
        have d4 : Dp K (upd H3 u4 (.tup [.ref pu, .int ((n : Int) + 1)])) (.ref u4) (pendD (p, n + 1)) := dp2 upd_same (keepD o4 rfl dpu) (.int _)
        have R4 := R3.keep o4
        refine ⟨.ref a, rfl, a, C, dx, p7, _, 7, rfl, R4.slt, TW.c, TW.s7, ?_⟩
        obtain ⟨R5, f5, t5⟩ := R4.st (SlX.putS 7 (.ref u4) (SlX.putS 6 .non (SlX.putS 1 vb (slots w x kd))))
        have t35 := (o4.tk NoTup.nil).trans t5
        have U5 := U3.keep t35
        exact q _ kd (f3.trans ((Fr.of o4).trans f5)) ⟨{ x with b := vb, o := .non, p := .ref u4 }, kvs, R5, ⟨PL.Dp.keep t35 _ _ (bdsD_only _) d3, U5.c, U5.l, U5.e, rfl, PL.Dp.keep t5 _ _ rfl d4, U5.ps⟩, mem3.keep t35, kl⟩
    | none =>
      rw [hp] at Up q O hw3
      simp only at q
      have Up : x.p = .non := Up
      refine ⟨rfl, false, by rw [Up]; rfl, iteF ?_⟩
      obtain ⟨i', ei', _, O⟩ := O
      rw [ei] at ei'
      cases ei'
      have finish : PW.isLoad i = true → c ≠ 2 → True := fun _ _ => trivial
      refine ⟨.ref t, rfl, t, _, 0, .str (PR.word i), rfl, rfl, ht3, atI_nat (j := 0) rfl, rfl, ?_⟩
      rcases O with ⟨ti, eo⟩ | ⟨ld, eo⟩
      · have nl : PW.isLoad i = false := by cases i <;> first | rfl | cases ti
        rw [if_pos nl] at q
        refine ⟨true, congrArg V.bl (by rw [Bool.not_eq_true']; exact decide_eq_false fun z => load_no nl (V.str.inj z)), iteT ?_⟩
        have g := PW.goal_le (.inr ti) iok
        have hgl : atI (PR.insV i) (-1) = some (.int (PR.goal i : Int)) := by cases i <;> first | (cases ti; done) | rfl
        refine ⟨.int (c : Int), rfl, rfl, ?_⟩
        by_cases c0 : c = 0
        · subst c0
          rw [if_pos rfl] at q
          refine ⟨true, rfl, iteT ?_⟩
          refine ⟨.ref t, rfl, 1, rfl, t, _, -1, .int (PR.goal i : Int), rfl, rfl, ht3, hgl, ?_⟩
          refine ⟨.ref a, rfl, a, C, dx, p0, _, 0, rfl, R3.slt, TW.c, TW.s0, ?_⟩
          obtain ⟨R5, f5, t5⟩ := R3.st (SlX.putS 0 (.int (PR.goal i : Int)) (SlX.putS 6 .non (SlX.putS 1 vb (slots w x kd))))
          have U5 := U3.keep t5
          exact q _ kd (f3.trans f5) ⟨{ x with b := vb, o := .non }, kvs, R5, ⟨PL.Dp.keep t5 _ _ (bdsD_only _) d3, U5.c, U5.l, U5.e, rfl, Up, U5.ps⟩, mem3.keep t5, by show kvs.length ≤ PR.goal i; omega⟩
        · rw [if_neg c0] at q
          refine ⟨false, congrArg V.bl (decide_eq_false fun z => c0 (by have : (c : Int) = 0 := V.int.inj z; omega)), iteF ?_⟩
          refine ⟨.ref a, rfl, a, C, dx, p0, _, 0, _, rfl, R3.slt, TW.c, TW.s0, rfl, _, 1, rfl, rfl, ?_⟩
          refine ⟨.ref a, rfl, a, C, dx, p0, _, 0, rfl, R3.slt, TW.c, TW.s0, ?_⟩
          obtain ⟨R5, f5, t5⟩ := R3.st (SlX.putS 0 (.int ((w.at_ : Int) + 1)) (SlX.putS 6 .non (SlX.putS 1 vb (slots w x kd))))
          have U5 := U3.keep t5
          exact q _ kd (f3.trans f5) ⟨{ x with b := vb, o := .non }, kvs, R5, ⟨PL.Dp.keep t5 _ _ (bdsD_only _) d3, U5.c, U5.l, U5.e, rfl, Up, U5.ps⟩, mem3.keep t5, by show kvs.length ≤ w.at_ + 1; omega⟩
      · rw [if_neg (by rw [ld]; decide)] at q
        refine ⟨false, congrArg V.bl (by rw [Bool.not_eq_false']; exact decide_eq_true (congrArg V.str (load_yes ld))), iteF ?_⟩
        refine ⟨.int (c : Int), rfl, rfl, ?_⟩
        by_cases c2 : c = 2
        · subst c2
          rw [if_pos rfl] at q
          refine ⟨true, rfl, iteT ?_⟩
          refine ⟨.ref a, rfl, a, dx, _, rfl, R3.slt, .ref t, rfl, a, dx, kd, ps, _, t, i, rfl, hw3, ht3, ld, un, fun H4 p o4 d4 => ⟨by show 2 ≤ sizeLine; decide, fun u n5 => ?_⟩⟩
          have o5 : Old [] H3 (upd H4 u (.tup [.ref p, .int 0])) := o4.new n5
          have d5 : Dp K (upd H4 u (.tup [.ref p, .int 0])) (.ref u) (pendD (PW.placeOf w.terms i, 0)) := dp2 upd_same (keepD (Old.new0 n5) rfl d4) (.int _)
          have R5 := R3.keep o5
          refine ⟨.ref a, rfl, a, C, dx, p7, _, 7, rfl, R5.slt, TW.c, TW.s7, ?_⟩
          obtain ⟨R6, f6, t6⟩ := R5.st (SlX.putS 7 (.ref u) (SlX.putS 6 .non (SlX.putS 1 vb (slots w x kd))))
          have t36 := (o5.tk NoTup.nil).trans t6
          have U6 := U3.keep t36
          exact q _ kd (f3.trans ((Fr.of o5).trans f6)) ⟨{ x with b := vb, o := .non, p := .ref u }, kvs, R6, ⟨PL.Dp.keep t36 _ _ (bdsD_only _) d3, U6.c, U6.l, U6.e, rfl, PL.Dp.keep t6 _ _ rfl d5, U6.ps⟩, mem3.keep t36, kl⟩
        · rw [if_neg c2] at q
          refine ⟨false, congrArg V.bl (decide_eq_false fun z => c2 (by have : (c : Int) = 2 := V.int.inj z; omega)), iteF ?_⟩
          refine ⟨.ref a, rfl, a, dx, _, rfl, R3.slt, .ref a, rfl, a, C, dx, p0, _, 0, _, rfl, R3.slt, TW.c, TW.s0, rfl, by show 3 ≤ sizeLine; decide, fun u n5 => ?_⟩
          have o5 : Old [] H3 (upd H3 u (.tup [.str "wrong", .int (w.at_ : Int), .str "beyond"])) := Old.new0 n5
          have d5 : Dp K (upd H3 u (.tup [.str "wrong", .int (w.at_ : Int), .str "beyond"])) (.ref u) (toldD (.beyond w.at_)) := dp3 upd_same (.str _) (.int _) (.str _)
          exact ⟨a, dx, kd, ps, _, .ref u, _, rfl, hw3.keep o5, d5, by have := gd.ends; show w.ends.length < 1000; omega, fun H' kd' f' w' => q H' kd' (f3.trans ((Fr.of o5).trans f')) w'⟩
end
end L2.T39

namespace L2.T34
open PySem PySem.Spec PyProof.Rows L2.PL
/-! ### matrices as lists of lists -/
def oV : Option Int → V
  | none => .non
  | some i => .int i
def rowV (n : Nat) (M : PD.Mx) (i : Nat) : List V := (List.range n).map fun j => oV (M i j)
theorem rowV_len (n : Nat) (M : PD.Mx) (i : Nat) : (rowV n M i).length = n := by simp [rowV]
theorem rowV_get {n : Nat} {M : PD.Mx} {i j : Nat} (h : j < n) : (rowV n M i)[j]? = some (oV (M i j)) := by
  unfold rowV
  rw [List.getElem?_map, List.getElem?_range h]
  rfl
def set2 (M : PD.Mx) (x y : Nat) (v : Option Int) : PD.Mx := fun a b => if a = x ∧ b = y then v else M a b
theorem set2_same (M : PD.Mx) (x y : Nat) (v : Option Int) : set2 M x y v x y = v := if_pos ⟨rfl, rfl⟩
theorem set2_ne {M : PD.Mx} {x y a b : Nat} {v : Option Int} (h : ¬ (a = x ∧ b = y)) : set2 M x y v a b = M a b := if_neg h
theorem rowV_set {n : Nat} {M : PD.Mx} {x y : Nat} {v : Option Int} (h : y < n) : (rowV n M x).set y (oV v) = rowV n (set2 M x y v) x := by
  apply List.ext_getElem?
  intro j
  by_cases hj : j < n
  · by_cases e : j = y
    · subst e
      rw [List.getElem?_set_self (by rw [rowV_len]; exact h), rowV_get h, set2_same]
    · rw [List.getElem?_set_ne (Ne.symm e), rowV_get hj, rowV_get hj, set2_ne (fun z => e z.2)]
  · rw [List.getElem?_eq_none (by rw [List.length_set, rowV_len]; omega), List.getElem?_eq_none (by rw [rowV_len]; omega)]
theorem rowV_other {n : Nat} {M : PD.Mx} {x y a : Nat} {v : Option Int} (h : a ≠ x) : rowV n (set2 M x y v) a = rowV n M a := by
  unfold rowV
  apply List.map_congr_left
  intro j _
  rw [set2_ne (fun z => h z.1)]
/-- a matrix of n rows at m, its rows at rs, all new since H0 -/
structure MxAt (H0 H : Hp) (m : Addr) (rs : List Addr) (n : Nat) (M : PD.Mx) : Prop where
  m0 : H0 m = none
  r0 : ∀ r ∈ rs, H0 r = none ∧ r ≠ m
  nd : rs.Nodup
  len : rs.length = n
  top : H m = some (.lst (rs.map V.ref))
  row : ∀ (i : Nat) r, rs[i]? = some r → H r = some (.lst (rowV n M i))
section
variable {H0 H H' : Hp} {m : Addr} {rs : List Addr} {n : Nat} {M : PD.Mx}
theorem MxAt.get (x : MxAt H0 H m rs n M) {i : Nat} (h : i < n) : ∃ r, rs[i]? = some r ∧ (rs.map V.ref)[i]? = some (.ref r) ∧ H r = some (.lst (rowV n M i)) := by
  have hi : i < rs.length := by rw [x.len]; exact h
  refine ⟨rs[i], List.getElem?_eq_getElem hi, ?_, x.row i _ (List.getElem?_eq_getElem hi)⟩
  rw [List.getElem?_map, List.getElem?_eq_getElem hi]; rfl
theorem MxAt.keep (x : MxAt H0 H m rs n M) (h : ∀ b, H0 b = none → ∀ o, H b = some o → H' b = some o) : MxAt H0 H' m rs n M :=
  ⟨x.m0, x.r0, x.nd, x.len, h _ x.m0 _ x.top, fun i r e => h r (x.r0 r (List.mem_of_getElem? e)).1 _ (x.row i r e)⟩
theorem MxAt.same (x : MxAt H0 H m rs n M) (h : Same H H') : MxAt H0 H' m rs n M := x.keep fun b _ o e => h b o e
theorem MxAt.new {p : Addr} {o : HO} (x : MxAt H0 H m rs n M) (h : H p = none) : MxAt H0 (upd H p o) m rs n M := x.same (Old.new0 (W := []) h).same
theorem MxAt.congr {M' : PD.Mx} (x : MxAt H0 H m rs n M) (h : ∀ i j, i < n → j < n → M' i j = M i j) : MxAt H0 H m rs n M' :=
  ⟨x.m0, x.r0, x.nd, x.len, x.top, fun i r e => by
    rw [x.row i r e]
    have hi : i < n := by rw [← x.len]; exact (List.getElem?_eq_some_iff.mp e).1
    congr 2
    unfold rowV
    apply List.map_congr_left
    intro j hj
    rw [h i j hi (List.mem_range.mp hj)]⟩
/-- a number stored -/
theorem MxAt.put (x : MxAt H0 H m rs n M) {i j : Nat} {r : Addr} {v : Option Int} (hi : rs[i]? = some r) (hj : j < n) : MxAt H0 (upd H r (.lst ((rowV n M i).set j (oV v)))) m rs n (set2 M i j v) := by
  refine ⟨x.m0, x.r0, x.nd, x.len, ?_, fun a q e => ?_⟩
  · rw [upd_ne (x.r0 r (List.mem_of_getElem? hi)).2.symm]; exact x.top
  · by_cases ea : a = i
    · subst ea
      rw [hi] at e; cases e
      rw [upd_same, rowV_set hj]
    · have hq : q ≠ r := fun z => by
        subst z
        obtain ⟨h1, e1⟩ := List.getElem?_eq_some_iff.mp hi
        obtain ⟨h2, e2⟩ := List.getElem?_eq_some_iff.mp e
        exact ea ((List.getElem_inj x.nd).mp (e2.trans e1.symm))
      rw [upd_ne hq, x.row a q e, rowV_other ea]
end
end L2.T34

namespace L2.T39
open PySem PySem.Spec PyProof.Rows L2.PL
abbrev MxAt := @L2.T34.MxAt
def prD (p : Nat × Int) : PyData := .tuple [.int (p.1 : Int), .int p.2]
/-- a list of pairs -/
structure PrAt (K : PySem.W.Frag) (H : Hp) (D : Addr) (l : List (Nat × Int)) : Prop where
  ex : ∃ vs, H D = some (.lst vs) ∧ DpAll K H vs (l.map prD)
theorem prA_only (l : List (Nat × Int)) : tupOnlyAll (l.map prD) = true := only_map prD (fun _ => rfl) l
theorem PrAt.keep {K : PySem.W.Frag} {H H' : Hp} {D : Addr} {l : List (Nat × Int)} (h : PrAt K H D l) (t : Tk H H') (e : H' D = H D) : PrAt K H' D l := by
  obtain ⟨vs, h1, h2⟩ := h.ex
  exact ⟨vs, e.trans h1, PL.Dp.keepAll t _ _ (prA_only l) h2⟩
theorem pr_at {K : PySem.W.Frag} {H : Hp} {v : V} {p : Nat × Int} (h : Dp K H v (prD p)) : ∃ a, v = .ref a ∧ SqT K H a [.int (p.1 : Int), .int p.2] := by
  obtain ⟨a, xs, e, h1, h2⟩ := dp_tup h
  cases h2 with
  | cons p q =>
    cases q with
    | cons r s => cases s; cases p; cases r; exact ⟨a, e, h1⟩
/-- those of the first i that are there -/
def some_ (f : Nat → Option Int) (i : Nat) : List (Nat × Int) := (List.range i).filterMap fun a => (f a).map fun v => (a, v)
theorem some_succ (f : Nat → Option Int) (i : Nat) : some_ f (i + 1) = some_ f i ++ (match f i with | none => [] | some v => [(i, v)]) := by
  unfold some_
  rw [List.range_succ, List.filterMap_append]
  congr 1
  cases h : f i with
  | none => simp [List.filterMap_cons, h]
  | some v => simp [List.filterMap_cons, h]
theorem some_len (f : Nat → Option Int) (i : Nat) : (some_ f i).length ≤ i := by
  induction i with
  | zero => exact Nat.le_refl _
  | succ i ih =>
    rw [some_succ, List.length_append]
    cases f i with
    | none => show _ + 0 ≤ _; omega
    | some v => show _ + 1 ≤ _; omega
theorem some_mem {f : Nat → Option Int} {i a : Nat} {v : Int} : (a, v) ∈ some_ f i ↔ a < i ∧ f a = some v := by
  unfold some_
  rw [List.mem_filterMap]
  constructor
  · rintro ⟨b, hb, e⟩
    cases h : f b with
    | none => rw [h] at e; cases e
    | some u =>
      rw [h] at e
      cases e
      exact ⟨List.mem_range.mp hb, h⟩
  · rintro ⟨h1, h2⟩
    exact ⟨a, List.mem_range.mpr h1, by rw [h2]; rfl⟩
theorem some_nodup (f : Nat → Option Int) (i : Nat) : ((some_ f i).map (·.1)).Nodup := by
  have : ((some_ f i).map (·.1)).Sublist (List.range i) := by
    induction i with
    | zero => exact List.Sublist.refl _
    | succ i ih =>
      rw [some_succ, List.map_append, List.range_succ]
      refine ih.append ?_
      cases f i with
      | none => exact List.nil_sublist _
      | some v => exact List.Sublist.refl _
  exact this.nodup List.nodup_range
def spPutIn (K : PySem.W.Frag) : Sp := fun vs H Q _ => ∃ (H0 : Hp) (m : Addr) (rs : List Addr) (n : Nat) (M : PD.Mx) (x y : Nat) (c : Int), vs = [.ref m, .int (x : Int), .int (y : Int), .int c] ∧ Old [] H0 H ∧ MxAt H0 H m rs n M ∧ x < n ∧ y < n ∧ n ≤ 4096 ∧
  ∀ H', Old [] H0 H' → MxAt H0 H' m rs n (PD.putM M x y c) → Q .non H'
section
variable {P : Program} {w : World} {K : PySem.W.Frag} {mg : Str → Option Value} {base : Heap}
/-! put_in: slots sums=0 x=1 y=2 c=3 heads=4 tails=5 a=6 one=7 row=8 b=9 other=10 total=11 number=12; cells ['x'] -/
abbrev s_put_in : Stmt := topS 40
abbrev N_put_in : List Str := ["sums", "x", "y", "c", "heads", "tails", "a", "one", "row", "b", "other", "total", "number"]
theorem sc_put_in : FnScope N_put_in ["sums", "x", "y", "c"] (defScope s_put_in) := ⟨rfl, rfl, rfl, by decide +kernel, rfl, by decide +kernel, by decide +kernel⟩
theorem ok_put_in {f : Addr} {fd : FuncData} (F : Fun K "put_in" "put_in" s_put_in f fd) (T : Tx mg) : FnOk P w K mg base CX0 1 f fd ["sums", "x", "y", "c"] (spPutIn K) := by
  refine F.ok sc_put_in (fun vs H Q E h => ?_) (fun cdv A outer s H vs Q E hr h => ?_)
  · obtain ⟨H0, m, rs, n, M, x, y, c, rfl, _⟩ := h
    rfl
  · obtain ⟨H0, m, rs, n, M, x, y, c, rfl, o0, X, hx, hy, hn, q⟩ := h
    refine ⟨_, (pss_cons (ps_setLc (i := 4) (own := [("a", 6), ("row", 8)]) (g := gTup K 2 (gCons (gName 6) (gCons (gName 8) gNil))) (tt := _) rfl sc_put_in.nd rfl rfl (sw_true rfl rfl rfl (by decide +kernel)) (pi_enum (by rfl) T.z_enumerate (pa_cons (pv 0) pa_nil)) (blkOk_by (N := N_put_in) (sc := defScope s_put_in) (by decide +kernel)) (fun _ _ _ _ _ => (pg_tup (by rfl) (pgs_cons (pg_name (i := 6) sc_put_in.nd rfl (Or.inl rfl)) (pgs_cons (pg_name (i := 8) sc_put_in.nd rfl (Or.inl rfl)) pgs_nil)))) (fun _ _ _ _ _ => pts_one (pt_cmpR op_notN (pe_ix (ix_listK (K := K)) (pv 8) (pv 1) (fun _ _ => rfl)) pe_non (nomark _))) (fun _ _ _ _ _ => (pe_tup (pa_cons (pv 6) (pa_cons (pe_ix (ix_listK (K := K)) (pv 8) (pv 1) (fun _ _ => rfl)) pa_nil)))))
      (pss_cons (ps_setLc (i := 5) (own := [("b", 9), ("number", 12)]) (g := gTup K 2 (gCons (gName 9) (gCons (gName 12) gNil))) (tt := _) rfl sc_put_in.nd rfl rfl (sw_true rfl rfl rfl (by decide +kernel)) (pi_enum (by rfl) T.z_enumerate (pa_cons (pe_ix ix_list (pv 0) (pv 2) (fun _ _ => rfl)) pa_nil)) (blkOk_by (N := N_put_in) (sc := defScope s_put_in) (by decide +kernel)) (fun _ _ _ _ _ => (pg_tup (by rfl) (pgs_cons (pg_name (i := 9) sc_put_in.nd rfl (Or.inl rfl)) (pgs_cons (pg_name (i := 12) sc_put_in.nd rfl (Or.inl rfl)) pgs_nil)))) (fun _ _ _ _ _ => pts_one (pt_cmpR op_notN (pv 12) pe_non (nomark _))) (fun _ _ _ _ _ => (pe_tup (pa_cons (pv 9) (pa_cons (pv 12) pa_nil)))))
      (pss_one (ps_for PassesOwn.never rfl (pi_list (pv 4)) (pg_tup (by rfl) (pgs_cons (pg_name (i := 6) sc_put_in.nd rfl (Or.inl rfl)) (pgs_cons (pg_name (i := 7) sc_put_in.nd rfl (Or.inl rfl)) pgs_nil)))
       (pss_cons (ps_set (i := 8) sc_put_in.nd rfl (.inl rfl) (pe_ix ix_list (pv 0) (pv 6) (fun _ _ => rfl)))
        (pss_one (ps_for PassesOwn.never rfl (pi_list (pv 5)) (pg_tup (by rfl) (pgs_cons (pg_name (i := 9) sc_put_in.nd rfl (Or.inl rfl)) (pgs_cons (pg_name (i := 10) sc_put_in.nd rfl (Or.inl rfl)) pgs_nil)))
         (pss_cons (ps_set (i := 11) sc_put_in.nd rfl (.inl rfl) (pe_op op_add (pe_op op_add (pv 7) (pv 3)) (pv 10)))
          (pss_one (ps_if (PW.pt (pw_or (pt_cmpR op_isN (pe_ix ix_list (pv 8) (pv 9) (fun _ _ => rfl)) pe_non (nomark _)) (pw_or1 (pt_cmpR op_lt (pv 11) (pe_ix ix_list (pv 8) (pv 9) (fun _ _ => rfl)) (nomark _)))))
           (pss_one (ps_asg (pv 11) (pg_sub (pv 8) (pv 9) set_list)))
           pss_nil)))))))))), ?_⟩
    have hrl : (rs.map V.ref).length = n := by rw [List.length_map]; exact X.len
    refine ⟨.ref m, rfl, m, _, rfl, SqL.of X.top, fun D hD => ?_⟩
    have hD0 : H0 D = none := o0.free hD (by simp)
    refine lc_it (walk_enum (K := K) (a := m) (xs := rs.map V.ref)) (fun i H' => Old [] H H' ∧ PrAt K H' D (some_ (fun a => M a x) i)) ⟨Old.new0 hD, ⟨[], upd_same, .nil⟩⟩ (fun i H' _ h => SqL.of (h.1 _ _ (by simp) X.top)) ?_ ?_
    · rintro i v H1 H2 hi ⟨o1, p1⟩ ⟨t, k, z, rfl, nt, rfl, hk, hz⟩
      rw [hrl] at hi
      cases hk
      obtain ⟨r, g1, g2, g3⟩ := X.get hi
      have hz : (rs.map V.ref)[i]? = some z := hz
      rw [g2] at hz
      cases hz
      have o2 : Old [] H (upd H1 t (.tup [.int (i : Int), .ref r])) := o1.new nt
      have hDt : D ≠ t := fun z => by obtain ⟨vs, e, _⟩ := p1.ex; rw [z, nt] at e; cases e
      have p2 : PrAt K (upd H1 t (.tup [.int (i : Int), .ref r])) D (some_ (fun a => M a x) i) := p1.keep ((Old.new0 nt).tk NoTup.nil) (upd_ne hDt)
      have t2 : (upd H1 t (.tup [.int (i : Int), .ref r])) t = some (.tup [.int (i : Int), .ref r]) := upd_same
      generalize upd H1 t (.tup [.int (i : Int), .ref r]) = H2 at o2 p2 t2 ⊢
      have g3' := o2 _ _ (by simp) g3
      refine ⟨t, _, rfl, SqT.of t2, rfl, _, _, rfl, _, _, rfl, rfl, ?_⟩
      refine ⟨rfl, .ref r, rfl, .int (x : Int), rfl, r, _, _, _, rfl, rfl, SqL.of g3', atI_nat (L2.T34.rowV_get hx), rfl, _, rfl, ?_⟩
      rw [some_succ]
      cases hM : M i x with
      | none =>
        refine iteF ⟨o2, ?_⟩
        rw [List.append_nil]
        exact p2
      | some u =>
        refine iteT ?_
        refine ⟨.int (i : Int), rfl, .ref r, rfl, .int (x : Int), rfl, r, _, _, .int u, rfl, rfl, SqL.of g3', atI_nat (by rw [L2.T34.rowV_get hx, hM]; rfl), by show 2 ≤ sizeLine; decide, fun e ne => ?_⟩
        obtain ⟨vs, h1, h2⟩ := p2.ex
        have hDe : D ≠ e := fun z => by rw [z, ne] at h1; cases h1
        have tk := (Old.new0 (W := []) (o := HO.tup [V.int (i : Int), V.int u]) ne).tk NoTup.nil
        have hvl : vs.length ≤ i := by rw [PL.DpAll.length h2, List.length_map]; exact some_len _ _
        refine ⟨vs, by rw [upd_ne hDe]; exact h1, Nat.lt_of_le_of_lt hvl (Nat.lt_of_lt_of_le hi (Nat.le_trans hn (by decide))), (o2.new ne).put0 hD, ⟨vs ++ [.ref e], upd_same, ?_⟩⟩
        have t2 : Tk (upd H2 e (.tup [.int (i : Int), .int u])) (upd (upd H2 e (.tup [.int (i : Int), .int u])) D (.lst (vs ++ [.ref e]))) :=
          Old.tk (W := [D]) ((Old.refl _ _).put (by simp)) (NoTup.one (by rw [upd_ne hDe]; exact h1))
        rw [List.map_append]
        exact PL.DpAll.append (PL.Dp.keepAll (tk.trans t2) _ _ (prA_only _) h2) (.cons (PL.Dp.keep t2 _ _ rfl (dp2 upd_same (.int _) (.int _))) .nil)
    rintro H1 ⟨o1, p1⟩
    rw [hrl] at p1
    have X1 := X.same o1.same
    have hDr : ∀ r ∈ rs, D ≠ r := fun r hr z => by
      obtain ⟨i, hi, e⟩ := List.mem_iff_getElem.mp hr
      have := X.row i r (by rw [List.getElem?_eq_getElem hi, e])
      rw [← z, hD] at this; cases this
    clear hD
    obtain ⟨ry, y1, y2, y3⟩ := X1.get hy
    have hyl := L2.T34.rowV_len n M y
    refine ⟨.ref m, rfl, .int (y : Int), rfl, m, _, _, .ref ry, rfl, rfl, SqL.of X1.top, atI_nat y2, ry, _, rfl, SqL.of y3, fun G hG => ?_⟩
    have o01 := o0.trans o1
    have hG0 : H0 G = none := o01.free hG (by simp)
    have hGr : ∀ r ∈ rs, G ≠ r := fun r hr z => by
      obtain ⟨i, hi, e⟩ := List.mem_iff_getElem.mp hr
      have := X1.row i r (by rw [List.getElem?_eq_getElem hi, e])
      rw [← z, hG] at this; cases this
    refine lc_it (walk_enum (K := K) (a := ry) (xs := L2.T34.rowV n M y)) (fun i H' => Old [] H1 H' ∧ PrAt K H' G (some_ (fun b => M y b) i)) ⟨Old.new0 hG, ⟨[], upd_same, .nil⟩⟩ (fun i H' _ h => SqL.of (h.1 _ _ (by simp) y3)) ?_ ?_
    · rintro i v H2 H3 hi ⟨o2, p2⟩ ⟨t, k, z, rfl, nt, rfl, hk, hz⟩
      rw [hyl] at hi
      cases hk
      have hz : (L2.T34.rowV n M y)[i]? = some z := hz
      rw [L2.T34.rowV_get hi] at hz
      cases hz
      have o3 : Old [] H1 (upd H2 t (.tup [.int (i : Int), L2.T34.oV (M y i)])) := o2.new nt
      have hEt : G ≠ t := fun z => by obtain ⟨vs, e, _⟩ := p2.ex; rw [z, nt] at e; cases e
      have p3 : PrAt K (upd H2 t (.tup [.int (i : Int), L2.T34.oV (M y i)])) G (some_ (fun b => M y b) i) := p2.keep ((Old.new0 nt).tk NoTup.nil) (upd_ne hEt)
      have t3 : (upd H2 t (.tup [.int (i : Int), L2.T34.oV (M y i)])) t = some (.tup [.int (i : Int), L2.T34.oV (M y i)]) := upd_same
      generalize upd H2 t (.tup [.int (i : Int), L2.T34.oV (M y i)]) = H3 at o3 p3 t3 ⊢
      refine ⟨t, _, rfl, SqT.of t3, rfl, _, _, rfl, _, _, rfl, rfl, ?_⟩
      refine ⟨rfl, _, rfl, rfl, _, rfl, ?_⟩
      rw [some_succ]
      cases hM : M y i with
      | none =>
        refine iteF ⟨o3, ?_⟩
        rw [List.append_nil]
        exact p3
      | some u =>
        refine iteT ?_
        refine ⟨.int (i : Int), rfl, .int u, rfl, by show 2 ≤ sizeLine; decide, fun e ne => ?_⟩
        obtain ⟨vs, h1, h2⟩ := p3.ex
        have hEe : G ≠ e := fun z => by rw [z, ne] at h1; cases h1
        have tk := (Old.new0 (W := []) (o := HO.tup [V.int (i : Int), V.int u]) ne).tk NoTup.nil
        have hvl : vs.length ≤ i := by rw [PL.DpAll.length h2, List.length_map]; exact some_len _ _
        refine ⟨vs, by rw [upd_ne hEe]; exact h1, Nat.lt_of_le_of_lt hvl (Nat.lt_of_lt_of_le hi (Nat.le_trans hn (by decide))), (o3.new ne).put0 hG, ⟨vs ++ [.ref e], upd_same, ?_⟩⟩
        have t2 : Tk (upd H3 e (.tup [.int (i : Int), .int u])) (upd (upd H3 e (.tup [.int (i : Int), .int u])) G (.lst (vs ++ [.ref e]))) :=
          Old.tk (W := [G]) ((Old.refl _ _).put (by simp)) (NoTup.one (by rw [upd_ne hEe]; exact h1))
        rw [List.map_append]
        exact PL.DpAll.append (PL.Dp.keepAll (tk.trans t2) _ _ (prA_only _) h2) (.cons (PL.Dp.keep t2 _ _ rfl (dp2 upd_same (.int _) (.int _))) .nil)
    rintro H2 ⟨o2, p2⟩
    rw [hyl] at p2
    have X2 := X1.same o2.same
    have pD2 : PrAt K H2 D (some_ (fun a => M a x) n) := by
      obtain ⟨vs, h1, h2⟩ := p1.ex
      exact ⟨vs, o2 _ _ (by simp) h1, PL.Dp.keepAll (o2.tk NoTup.nil) _ _ (prA_only _) h2⟩
    have o02 := o01.trans o2
    clear p1 o1 X1 y1 y2 y3 o01 hG o2
    generalize hhs : some_ (fun a => M a x) n = hs at pD2
    generalize hts : some_ (fun b => M y b) n = ts at p2
    have hsn : (hs.map (·.1)).Nodup := by rw [← hhs]; exact some_nodup _ _
    have tsn : (ts.map (·.1)).Nodup := by rw [← hts]; exact some_nodup _ _
    have hsm : ∀ a v, (a, v) ∈ hs ↔ a < n ∧ M a x = some v := fun a v => by rw [← hhs]; exact some_mem
    have tsm : ∀ b v, (b, v) ∈ ts ↔ b < n ∧ M y b = some v := fun b v => by rw [← hts]; exact some_mem
    -- the lists of the pairs
    obtain ⟨hvs, eD, _⟩ := pD2.ex
    obtain ⟨tvs, eG, _⟩ := p2.ex
    have hvl : ∀ {H' : Hp} {vs : List V} {D : Addr} {l : List (Nat × Int)}, H' D = some (.lst vs) → PrAt K H' D l → vs.length = l.length ∧ ∀ (i : Nat) p, l[i]? = some p → ∃ e, vs[i]? = some (.ref e) ∧ SqT K H' e [.int (p.1 : Int), .int p.2] := by
      intro H' vs D l e h
      obtain ⟨vs', h1, h2⟩ := h.ex
      rw [e] at h1
      cases h1
      refine ⟨by rw [PL.DpAll.length h2, List.length_map], fun i p hp => ?_⟩
      obtain ⟨v, g1, g2⟩ := PL.DpAll.get h2 (i := i) (d := prD p) (by rw [List.getElem?_map, hp]; rfl)
      obtain ⟨a, rfl, s⟩ := pr_at g2
      exact ⟨a, g1, s⟩
    have hl1 := (hvl eD pD2).1
    have hl2 := (hvl eG p2).1
    have step : ∀ {l : List (Nat × Int)} {i : Nat} {p : Nat × Int}, (l.map (·.1)).Nodup → l[i]? = some p → (∀ a, a ∈ (l.take (i + 1)).map (·.1) ↔ a ∈ (l.take i).map (·.1) ∨ a = p.1) ∧ p.1 ∉ (l.take i).map (·.1) := by
      intro l i p nd e
      have hi := (List.getElem?_eq_some_iff.mp e).1
      have ei : l[i] = p := Option.some.inj ((List.getElem?_eq_getElem hi).symm.trans e)
      refine ⟨fun a => by rw [List.take_succ_eq_append_getElem hi, ei, List.map_append, List.mem_append]; simp, fun hm => ?_⟩
      have h2 := List.take_append_drop i l
      rw [← h2, List.map_append, List.nodup_append] at nd
      refine nd.2.2 p.1 hm p.1 ?_ rfl
      rw [List.drop_eq_getElem_cons hi, ei]
      exact List.mem_cons_self
    refine ⟨.ref D, rfl, D, rfl, ⟨_, SqL.of eD⟩, for_list (K := K) (a := D) (xs := hvs) (fun j σ H' => ∃ (y6 y7 y8 y9 y10 y11 : Option V) (N : PD.Mx), σ = [some (.ref m), some (.int (x : Int)), some (.int (y : Int)), some (.int c), some (.ref D), some (.ref G), y6, y7, y8, y9, y10, y11, none] ∧ Old [] H0 H' ∧
        MxAt H0 H' m rs n N ∧ PrAt K H' D hs ∧ PrAt K H' G ts ∧ H' D = some (.lst hvs) ∧ H' G = some (.lst tvs) ∧ ∀ a b, a < n → b < n → (a ∈ (hs.take j).map (·.1) → N a b = PD.putM M x y c a b) ∧ (a ∉ (hs.take j).map (·.1) → N a b = M a b))
      ⟨none, none, none, none, none, none, M, rfl, o02, X2, pD2, p2, eD, eG, fun a b _ _ => ⟨fun z => by simp at z, fun _ => rfl⟩⟩ (fun j σ H' _ ⟨_, _, _, _, _, _, _, _, _, _, _, _, h, _⟩ => SqL.of h) ?_ ?_⟩
    · rintro j v σ H3 hv ⟨y6, y7, y8, y9, y10, y11, N, rfl, o3, X3, pD3, pG3, eD3, eG3, hN⟩
      have hj : j < hs.length := by rw [← hl1]; exact (List.getElem?_eq_some_iff.mp hv).1
      obtain ⟨e, g1, g2⟩ := (hvl eD3 pD3).2 j hs[j] (List.getElem?_eq_getElem hj)
      rw [hv] at g1
      cases g1
      have hst := step hsn (List.getElem?_eq_getElem hj)
      have hmem : hs[j] ∈ hs := List.getElem_mem hj
      generalize hs[j] = p at g2 hst hmem
      obtain ⟨a, one⟩ := p
      obtain ⟨han, hax⟩ := (hsm a one).mp hmem
      refine ⟨e, _, rfl, g2, rfl, _, _, rfl, _, _, rfl, rfl, ?_⟩
      obtain ⟨ra, a1, a2, a3⟩ := X3.get han
      refine ⟨.ref m, rfl, .int (a : Int), rfl, m, _, _, .ref ra, rfl, rfl, SqL.of X3.top, atI_nat a2, ?_⟩
      refine ⟨.ref G, rfl, G, rfl, ⟨_, SqL.of eG3⟩, for_list (K := K) (a := G) (xs := tvs) (fun l σ H' => ∃ (y9 y10 y11 : Option V) (N' : PD.Mx), σ = [some (.ref m), some (.int (x : Int)), some (.int (y : Int)), some (.int c), some (.ref D), some (.ref G), some (.int (a : Int)), some (.int one), some (.ref ra), y9, y10, y11, none] ∧ Old [] H0 H' ∧
          MxAt H0 H' m rs n N' ∧ PrAt K H' D hs ∧ PrAt K H' G ts ∧ H' D = some (.lst hvs) ∧ H' G = some (.lst tvs) ∧ (∀ a' b, a' < n → b < n → a' ≠ a → N' a' b = N a' b) ∧ ∀ b, b < n → (b ∈ (ts.take l).map (·.1) → N' a b = PD.putM M x y c a b) ∧ (b ∉ (ts.take l).map (·.1) → N' a b = M a b))
        ⟨y9, y10, y11, N, rfl, o3, X3, pD3, pG3, eD3, eG3, fun _ _ _ _ _ => rfl, fun b hb => ⟨fun z => by simp at z, fun _ => (hN a b han hb).2 hst.2⟩⟩ (fun j σ H' _ ⟨_, _, _, _, _, _, _, _, _, _, h, _⟩ => SqL.of h) ?_ ?_⟩
      · rintro l v σ H4 hv4 ⟨y9, y10, y11, N', rfl, o4, X4, pD4, pG4, eD4, eG4, hN1, hN2⟩
        have hl : l < ts.length := by rw [← hl2]; exact (List.getElem?_eq_some_iff.mp hv4).1
        obtain ⟨e, g1, g2⟩ := (hvl eG4 pG4).2 l ts[l] (List.getElem?_eq_getElem hl)
        rw [hv4] at g1
        cases g1
        have hst2 := step tsn (List.getElem?_eq_getElem hl)
        have hmem2 : ts[l] ∈ ts := List.getElem_mem hl
        generalize ts[l] = p at g2 hst2 hmem2
        obtain ⟨b, other⟩ := p
        obtain ⟨hbn, hyb⟩ := (tsm b other).mp hmem2
        have hrow := X4.row a ra a1
        have hNab : N' a b = M a b := (hN2 b hbn).2 hst2.2
        have hput : PD.putM M x y c a b = PD.omin (M a b) (some (one + c + other)) := by
          show PD.omin (M a b) (PD.oadd (PD.oadd (M a x) (some c)) (M y b)) = _
          rw [hax, hyb]; rfl
        refine ⟨e, _, rfl, g2, rfl, _, _, rfl, _, _, rfl, rfl, ?_⟩
        refine ⟨.int one, rfl, .int c, rfl, one, c, rfl, rfl, .int other, rfl, _, other, rfl, rfl, ?_⟩
        refine ⟨.ref ra, rfl, .int (b : Int), rfl, ra, _, _, _, rfl, rfl, SqL.of hrow, atI_nat (L2.T34.rowV_get hbn), rfl, _, rfl, ?_⟩
        have ixb : ixN (L2.T34.rowV n N' a).length (b : Int) = some b := by
          unfold ixN; rw [if_pos (by omega), if_pos (by rw [L2.T34.rowV_len]; omega)]; simp
        have fin : ∀ (N'' : PD.Mx), (∀ a' b', ¬ (a' = a ∧ b' = b) → N'' a' b' = N' a' b') → N'' a b = PD.putM M x y c a b →
            (∀ a' b', a' < n → b' < n → a' ≠ a → N'' a' b' = N a' b') ∧ ∀ b', b' < n → (b' ∈ (ts.take (l + 1)).map (·.1) → N'' a b' = PD.putM M x y c a b') ∧ (b' ∉ (ts.take (l + 1)).map (·.1) → N'' a b' = M a b') := by
          intro N'' h1 h2
          refine ⟨fun a' b' h3 h4 h5 => by rw [h1 a' b' (fun z => h5 z.1)]; exact hN1 a' b' h3 h4 h5, fun b' hb' => ?_⟩
          by_cases eb : b' = b
          · subst eb
            exact ⟨fun _ => h2, fun z => absurd ((hst2.1 b').mpr (.inr rfl)) z⟩
          · rw [h1 a b' (fun z => eb z.2)]
            exact ⟨fun z => (hN2 b' hb').1 (((hst2.1 b').mp z).resolve_right eb), fun z => (hN2 b' hb').2 fun y => z ((hst2.1 b').mpr (.inl y))⟩
        have store : PD.omin (M a b) (some (one + c + other)) = some (one + c + other) → ∃ (y9 y10 y11 : Option V) (N'' : PD.Mx),
            [some (.ref m), some (.int (x : Int)), some (.int (y : Int)), some (.int c), some (.ref D), some (.ref G), some (.int (a : Int)), some (.int one), some (.ref ra), some (.int (b : Int)), some (.int other), some (.int (one + c + other)), none] = [some (.ref m), some (.int (x : Int)), some (.int (y : Int)), some (.int c), some (.ref D), some (.ref G), some (.int (a : Int)), some (.int one), some (.ref ra), y9, y10, y11, none] ∧
            Old [] H0 (upd H4 ra (.lst ((L2.T34.rowV n N' a).set b (.int (one + c + other))))) ∧ MxAt H0 (upd H4 ra (.lst ((L2.T34.rowV n N' a).set b (.int (one + c + other))))) m rs n N'' ∧
            PrAt K (upd H4 ra (.lst ((L2.T34.rowV n N' a).set b (.int (one + c + other))))) D hs ∧ PrAt K (upd H4 ra (.lst ((L2.T34.rowV n N' a).set b (.int (one + c + other))))) G ts ∧
            (upd H4 ra (.lst ((L2.T34.rowV n N' a).set b (.int (one + c + other))))) D = some (.lst hvs) ∧ (upd H4 ra (.lst ((L2.T34.rowV n N' a).set b (.int (one + c + other))))) G = some (.lst tvs) ∧
            (∀ a' b', a' < n → b' < n → a' ≠ a → N'' a' b' = N a' b') ∧ ∀ b', b' < n → (b' ∈ (ts.take (l + 1)).map (·.1) → N'' a b' = PD.putM M x y c a b') ∧ (b' ∉ (ts.take (l + 1)).map (·.1) → N'' a b' = M a b') := by
          intro ho
          have hra : ra ∈ rs := List.mem_of_getElem? a1
          have hDra := hDr ra hra
          have hGra := hGr ra hra
          have tk : Tk H4 (upd H4 ra (.lst ((L2.T34.rowV n N' a).set b (.int (one + c + other))))) := Old.tk (W := [ra]) ((Old.refl _ _).put (by simp)) (NoTup.one hrow)
          have f := fin (L2.T34.set2 N' a b (some (one + c + other))) (fun a' b' h => L2.T34.set2_ne h) (by rw [L2.T34.set2_same, hput, ho])
          exact ⟨_, _, _, _, rfl, o4.put0 (X4.r0 ra hra).1, L2.T34.MxAt.put (v := some (one + c + other)) X4 a1 hbn, pD4.keep tk (upd_ne hDra), pG4.keep tk (upd_ne hGra), by rw [upd_ne hDra]; exact eD4, by rw [upd_ne hGra]; exact eG4, f.1, f.2⟩
        rw [hNab]
        cases hM : M a b with
        | none =>
          refine iteT ?_
          refine iteT ?_
          refine ⟨.int (one + c + other), rfl, .ref ra, rfl, .int (b : Int), rfl, ra, _, _, b, rfl, rfl, hrow, ixb, ?_⟩
          exact store (by rw [hM]; rfl)
        | some d =>
          refine iteF ?_
          refine ⟨.int (one + c + other), rfl, .ref ra, rfl, .int (b : Int), rfl, ra, _, _, .int d, rfl, rfl, SqL.of hrow, atI_nat (by rw [L2.T34.rowV_get hbn, hNab, hM]; rfl), _, _, rfl, rfl, _, rfl, ite2 (fun cc => ?_) (fun cc => ?_)⟩
          · have cc : one + c + other < d := of_decide_eq_true cc
            refine ⟨.int (one + c + other), rfl, .ref ra, rfl, .int (b : Int), rfl, ra, _, _, b, rfl, rfl, hrow, ixb, ?_⟩
            exact store (by rw [hM]; show some (if one + c + other < d then one + c + other else d) = _; rw [if_pos cc])
          · have cc : ¬ one + c + other < d := fun z => cc (decide_eq_true z)
            have f := fin N' (fun _ _ _ => rfl) (by rw [hput, hNab, hM]; show some d = some (if one + c + other < d then one + c + other else d); rw [if_neg cc])
            exact ⟨_, _, _, N', rfl, o4, X4, pD4, pG4, eD4, eG4, f.1, f.2⟩
      · rintro σ H4 ⟨y9, y10, y11, N', rfl, o4, X4, pD4, pG4, eD4, eG4, hN1, hN2⟩
        rw [hl2, List.take_length] at hN2
        refine ⟨_, _, _, _, _, _, N', rfl, o4, X4, pD4, pG4, eD4, eG4, fun a' b ha' hb => ?_⟩
        by_cases ea : a' = a
        · subst ea
          refine ⟨fun _ => ?_, fun z => absurd ((hst.1 a').mpr (.inr rfl)) z⟩
          by_cases hb2 : b ∈ ts.map (·.1)
          · exact (hN2 b hb).1 hb2
          · rw [(hN2 b hb).2 hb2]
            have : M y b = none := by
              cases h : M y b with
              | none => rfl
              | some v => exact absurd (List.mem_map.mpr ⟨(b, v), (tsm b v).mpr ⟨hb, h⟩, rfl⟩) hb2
            show _ = PD.omin (M a' b) (PD.oadd (PD.oadd (M a' x) (some c)) (M y b))
            rw [this, hax]
            cases M a' b <;> rfl
        · rw [hN1 a' b ha' hb ea]
          exact ⟨fun z => (hN a' b ha' hb).1 (((hst.1 a').mp z).resolve_right ea), fun z => (hN a' b ha' hb).2 fun y => z ((hst.1 a').mpr (.inl y))⟩
    · rintro σ H3 ⟨y6, y7, y8, y9, y10, y11, N, rfl, o3, X3, pD3, pG3, eD3, eG3, hN⟩
      rw [hl1, List.take_length] at hN
      refine q H3 o3 (X3.congr fun a b ha hb => ?_)
      by_cases h : a ∈ hs.map (·.1)
      · exact ((hN a b ha hb).1 h).symm
      · rw [(hN a b ha hb).2 h]
        have : M a x = none := by
          cases h' : M a x with
          | none => rfl
          | some v => exact absurd (List.mem_map.mpr ⟨(a, v), (hsm a v).mpr ⟨ha, h'⟩, rfl⟩) h
        show PD.omin (M a b) (PD.oadd (PD.oadd (M a x) (some c)) (M y b)) = _
        rw [this]
        cases M a b <;> rfl
end
end L2.T39

namespace L2.T39
open PySem PySem.Spec PyProof.Rows L2.PL
structure NrT (K : PySem.W.Frag) (C p0 : Addr) : Prop where
  c : SlX.SCls K C
  s0 : SlX.Slot1 K C "sums" p0 0
def spNrInit (K : PySem.W.Frag) (C : Addr) : Sp := fun vs H Q _ => ∃ (H0 : Hp) (a dx : Addr) (v : V), vs = [.ref a, v] ∧ Old [] H0 H ∧ H0 a = none ∧ H0 dx = none ∧ dx ≠ a ∧ H a = some (.ins C dx []) ∧ H dx = some (.own a) ∧
  ∀ H', Old [] H0 H' → (∀ b, b ≠ a → b ≠ dx → H' b = H b) → SlX.Slt H' a C dx [some v] → Q .non H'
/-- sums at p -/
structure NearAt (H : Hp) (C p : Addr) (v : V) : Prop where
  ex : ∃ dx, SlX.Slt H p C dx [some v]
def spWithB (K : PySem.W.Frag) (C : Addr) : Sp := fun vs H Q _ => ∃ (p s : Addr) (n : Nat) (v : V) (B : List PW.Bd), vs = [.ref p, .int (n : Int), v] ∧ NearAt H C p (.ref s) ∧ H s = some (.lst []) ∧ Dp K H v (bdsD B) ∧ (∀ b ∈ B, b.1 < n ∧ b.2.1 < n) ∧ n ≤ 4096 ∧
  (PD.inTo (fun x y => if x = y then some 0 else none) B = none → ∀ H', Old [] H H' → Q .non H') ∧
  (∀ M, PD.inTo (fun x y => if x = y then some 0 else none) B = some M → ∀ H' r m rs, Old [] H H' → H r = none → NearAt H' C r (.ref m) → MxAt H H' m rs n M → Q (.ref r) H')
theorem bd_at {K : PySem.W.Frag} {H : Hp} {v : V} {b : PW.Bd} (h : Dp K H v (bdD b)) : ∃ a, v = .ref a ∧ SqT K H a [.int (b.1 : Int), .int (b.2.1 : Int), .int b.2.2] := by
  obtain ⟨a, xs, e, h1, h2⟩ := dp_tup h
  cases h2 with
  | cons p q =>
    cases q with
    | cons r s =>
      cases s with
      | cons t u => cases u; cases p; cases r; cases t; exact ⟨a, e, h1⟩
theorem bds_get {K : PySem.W.Frag} {H : Hp} {v : V} {B : List PW.Bd} (h : Dp K H v (bdsD B)) : ∃ b xs, v = .ref b ∧ SqT K H b xs ∧ xs.length = B.length ∧ ∀ (i : Nat) e, B[i]? = some e → ∃ r, xs[i]? = some (.ref r) ∧ SqT K H r [.int (e.1 : Int), .int (e.2.1 : Int), .int e.2.2] := by
  obtain ⟨b, xs, e, h1, h2⟩ := dp_tup h
  refine ⟨b, xs, e, h1, by rw [PL.DpAll.length h2, List.length_map], fun i e ei => ?_⟩
  obtain ⟨v, g1, g2⟩ := PL.DpAll.get h2 (i := i) (d := bdD e) (by rw [List.getElem?_map, ei]; rfl)
  obtain ⟨a, rfl, s⟩ := bd_at g2
  exact ⟨a, g1, s⟩
section
variable {P : Program} {w : World} {K : PySem.W.Frag} {mg : Str → Option Value} {base : Heap} {C p0 : Addr}
/-! Near.__init__: slots self=0 sums=1; cells [] -/
abbrev s_Near_init : Stmt := inClass (topS 39) 1
abbrev N_Near_init : List Str := ["self", "sums"]
theorem sc_Near_init : FnScope N_Near_init ["self", "sums"] (defScope s_Near_init) := ⟨rfl, rfl, rfl, by decide +kernel, rfl, by decide +kernel, by decide +kernel⟩
theorem ok_nr_init {f : Addr} {fd : FuncData} (F : Fun K "__init__" "Near.__init__" s_Near_init f fd) (T_Near : NrT K C p0) : FnOk P w K mg base CX0 1 f fd ["self", "sums"] (spNrInit K C) := by
  refine F.ok sc_Near_init (fun vs H Q E h => ?_) (fun cdv A outer s H vs Q E hr h => ?_)
  · obtain ⟨H0, a, dx, v, rfl, _⟩ := h
    rfl
  · obtain ⟨H0, a, dx, v, rfl, o0, ha0, hx0, ndx, hai, hdx, q⟩ := h
    refine ⟨_, (pss_one (ps_asg (pv 1) (pg_sl (pv 0)))), ?_⟩
    have s0 : SlX.Slt H a C dx [] := .inl ⟨hai, rfl⟩
    refine ⟨v, rfl, .ref a, rfl, a, C, dx, p0, _, 0, rfl, s0, T_Near.c, T_Near.s0, ?_⟩
    exact q _ (o0.slot ha0 hx0) (fun b h1 h2 => SlX.slH_ne h1 h2) (SlX.slH_slt ndx)
/-! Near.with_bounds: slots self=0 many=1 bounds=2 sums=3 variable=4 x=5 y=6 c=7 row=8 other=9; cells ['many', 'variable'] -/
abbrev s_Near_with_bounds : Stmt := inClass (topS 39) 2
abbrev N_Near_with_bounds : List Str := ["self", "many", "bounds", "sums", "variable", "x", "y", "c", "row", "other"]
theorem sc_Near_with_bounds : FnScope N_Near_with_bounds ["self", "many", "bounds"] (defScope s_Near_with_bounds) := ⟨rfl, rfl, rfl, by decide +kernel, rfl, by decide +kernel, by decide +kernel⟩
theorem ok_with_bounds {f : Addr} {fd : FuncData} (F : Fun K "with_bounds" "Near.with_bounds" s_Near_with_bounds f fd) (T : Tx mg) (T_Near : NrT K C p0) (C_put_in : Cal P w K mg base CX0 "put_in" ["sums", "x", "y", "c"] 1 (spPutIn K)) (M_Near : MkC P w K mg base CX0 "Near" C ["self", "sums"] 1 (spNrInit K C)) :
    FnOk P w K mg base CX0 3 f fd ["self", "many", "bounds"] (spWithB K C) := by
  refine F.ok sc_Near_with_bounds (fun vs H Q E h => ?_) (fun cdv A outer s H vs Q E hr h => ?_)
  · obtain ⟨p, s, n, v, B, rfl, _⟩ := h
    rfl
  · obtain ⟨p, s0, n, v, B, rfl, nr, hs, dv, hB, hn, q1, q2⟩ := h
    obtain ⟨dx, sl⟩ := nr.ex
    obtain ⟨b, xs, rfl, sb, hxl, hxg⟩ := bds_get dv
    refine ⟨_, (pss_cons (ps_setLc (i := 3) (own := [("row", 8)]) (g := gName 8) (tt := tYes) rfl sc_Near_with_bounds.nd rfl rfl (sw_true rfl rfl rfl (by decide +kernel)) (pi_list (SlX.pe_sl (pv 0))) (blkOk_by (N := N_Near_with_bounds) (sc := defScope s_Near_with_bounds) (by decide +kernel)) (fun _ _ _ _ _ => (pg_name (i := 8) sc_Near_with_bounds.nd rfl (Or.inl rfl))) (fun _ _ _ _ _ => pts_nil) (fun _ _ _ _ _ => (pe_op op_cat (pv 8) (pe_op op_rep (pe_lst (pa_cons pe_non pa_nil)) (pe_op op_sub (pv 1) (pe_callB (call_len_seqK (K := K)) (by rfl) T.z_len bz_len (pa_cons (pv 8) pa_nil)))))))
      (pss_cons (ps_for PassesOwn.never rfl (pi_range2 (by rfl) T.z_range (pa_cons (pe_callB call_len_seq (by rfl) T.z_len bz_len (pa_cons (pv 3) pa_nil)) (pa_cons (pv 1) pa_nil))) (pg_name (i := 4) sc_Near_with_bounds.nd rfl (Or.inr rfl))
       (pss_one (ps_expr (pe_bm PySem.F.plainAttrs_list PySem.F.slot_list_append PySem.F.type_list_append mt_append (pv 3) (pa_cons (pe_lc (own := [("other", 9)]) (g := gName 9) (tt := tYes) rfl sc_Near_with_bounds.nd (pi_range1 (by rfl) T.z_range (pa_cons (pv 1) pa_nil)) (blkOk_by (N := N_Near_with_bounds) (sc := defScope s_Near_with_bounds) (by decide +kernel)) (fun _ _ _ _ _ => (pg_name (i := 9) sc_Near_with_bounds.nd rfl (Or.inl rfl))) (fun _ _ _ _ _ => pts_nil) (fun _ _ _ _ _ => (pe_ifExp (pt_cmpR op_eq (pv 9) (pv 4) (nomark _)) pe_int pe_non))) pa_nil)))))
      (pss_cons (ps_for PassesOwn.never rfl (pi_tup (pv 2)) (pg_tup (by rfl) (pgs_cons (pg_name (i := 5) sc_Near_with_bounds.nd rfl (Or.inl rfl)) (pgs_cons (pg_name (i := 6) sc_Near_with_bounds.nd rfl (Or.inl rfl)) (pgs_cons (pg_name (i := 7) sc_Near_with_bounds.nd rfl (Or.inl rfl)) pgs_nil))))
       (pss_cutP (ps_if (PW.pt (pw_or (PW.pt (pw_and (pt_cmpR op_eq (pv 5) (pv 6) (nomark _)) (pw_and1 (pt_cmpR op_lt (pv 7) pe_int (nomark _))))) (pw_or1 (PW.pt (pw_and (pt_cmpR op_notN (pe_ix ix_list (pe_ix ix_list (pv 3) (pv 6) (fun _ _ => rfl)) (pv 5) (fun _ _ => rfl)) pe_non (nomark _)) (pw_and1 (pt_cmpR op_lt (pe_op op_add (pe_ix ix_list (pe_ix ix_list (pv 3) (pv 6) (fun _ _ => rfl)) (pv 5) (fun _ _ => rfl)) (pv 7)) pe_int (nomark _))))))))
         (pss_one (ps_ret pe_non))
         pss_nil)
        (pss_one (ps_if (PW.pt (pw_and (pt_cmpR op_ne (pv 5) (pv 6) (nomark _)) (pw_and1 (PW.pt (pw_or (pt_cmpR op_isN (pe_ix ix_list (pe_ix ix_list (pv 3) (pv 5) (fun _ _ => rfl)) (pv 6) (fun _ _ => rfl)) pe_non (nomark _)) (pw_or1 (pt_cmpR op_lt (pv 7) (pe_ix ix_list (pe_ix ix_list (pv 3) (pv 5) (fun _ _ => rfl)) (pv 6) (fun _ _ => rfl)) (nomark _))))))))
         (pss_one (ps_expr (pe_cal C_put_in hr (by rfl) pass0 (pa_cons (pv 3) (pa_cons (pv 5) (pa_cons (pv 6) (pa_cons (pv 7) pa_nil)))))))
         pss_nil))))
      (pss_one (ps_ret (pe_makC M_Near hr (by rfl) pass0 (pa_cons (pv 3) pa_nil))))))), ?_⟩
    refine ⟨.ref p, rfl, p, C, dx, p0, _, 0, .ref s0, rfl, sl, T_Near.c, T_Near.s0, rfl, s0, rfl, ⟨_, SqL.of hs⟩, fun m hm => ?_⟩
    refine lc_list (K := K) (a := s0) (xs := []) (fun i H' => Old [] H H' ∧ H' m = some (.lst [])) ⟨Old.new0 hm, upd_same⟩ (fun i H' _ h => SqL.of (h.1 _ _ (by simp) hs)) (fun i x H' hx _ => by simp at hx) ?_
    rintro H1 ⟨o1, h1⟩
    refine ⟨.ref m, rfl, m, [], rfl, .inl (SqL.of h1), .int (n : Int), rfl, 0, (n : Int), rfl, ⟨by omega, by omega, by omega, by omega⟩, ?_⟩
    have en : (((n : Int) - 0)).toNat = n := by omega
    refine for_range (lo := 0) (n := (((n : Int) - 0)).toNat) (fun i σ H' => ∃ (y4 : Option V) (rs : List Addr), σ = [some (.ref p), some (.int (n : Int)), some (.ref b), some (.ref m), y4, none, none, none, none, none] ∧ Old [] H H' ∧ rs.length = i ∧ rs.Nodup ∧ (∀ r ∈ rs, H r = none ∧ r ≠ m) ∧ H' m = some (.lst (rs.map V.ref)) ∧
        ∀ (j : Nat) r, rs[j]? = some r → H' r = some (.lst (L2.T34.rowV n (fun x y => if x = y then some 0 else none) j)))
      ⟨none, [], rfl, o1, rfl, List.nodup_nil, fun r hr => by simp at hr, h1, fun j r e => by simp at e⟩ ?_ ?_
    · rintro i σ H2 hi ⟨y4, rs, rfl, o2, hl, nd, hr0, htop, hrow⟩
      rw [en] at hi
      refine ⟨.ref m, rfl, .inl ⟨rfl, _, SqL.of htop⟩, .int (n : Int), rfl, (n : Int), rfl, by omega, by omega, fun r hr => ?_⟩
      have enn : ((n : Int)).toNat = n := by omega
      refine lc_range (lo := 0) (n := ((n : Int)).toNat) (fun j H' => Old [] H2 H' ∧ H' r = some (.lst ((List.range j).map fun y => L2.T34.oV (if i = y then some 0 else none)))) ⟨Old.new0 hr, upd_same⟩ ?_ ?_
      · rintro j H3 hj ⟨o3, hr3⟩
        rw [enn] at hj
        refine ⟨rfl, .int (0 + (j : Int)), rfl, .int (0 + (i : Int)), rfl, rfl, _, rfl, ite2 (fun c => ?_) (fun c => ?_)⟩
        · have e : i = j := by have := of_decide_eq_true c; injection this; omega
          refine ⟨_, hr3, ?_, o3.put0 hr, ?_⟩
          · rw [List.length_map, List.length_range]; exact Nat.lt_of_lt_of_le (Nat.lt_of_lt_of_le hj hn) (by decide)
          · rw [upd_same, List.range_succ, List.map_append]
            subst e
            show _ = some (HO.lst (_ ++ [L2.T34.oV (if i = i then some 0 else none)]))
            rw [if_pos rfl]; rfl
        · have e : i ≠ j := fun z => c (by subst z; simp)
          refine ⟨_, hr3, ?_, o3.put0 hr, ?_⟩
          · rw [List.length_map, List.length_range]; exact Nat.lt_of_lt_of_le (Nat.lt_of_lt_of_le hj hn) (by decide)
          · rw [upd_same, List.range_succ, List.map_append]
            show _ = some (HO.lst (_ ++ [L2.T34.oV (if i = j then some 0 else none)]))
            rw [if_neg e]; rfl
      · rintro H3 ⟨o3, hr3⟩
        rw [enn] at hr3
        have nmr : m ≠ r := ne_of_none htop hr
        have hm3 : H3 m = some (.lst (rs.map V.ref)) := o3 _ _ (by simp) htop
        have hr00 : H r = none := o2.free hr (by simp)
        have nrs : ∀ (j : Nat) q, rs[j]? = some q → q ≠ r := fun j q e z => by
          have := hrow j q e
          rw [z, hr] at this
          cases this
        refine ⟨m, _, .ref r, rfl, rfl, hm3, ?_, _, rs ++ [r], rfl, ?_, ?_, ?_, ?_, ?_, ?_⟩
        · rw [List.length_map, hl]; exact Nat.lt_of_lt_of_le (Nat.lt_of_lt_of_le hi hn) (by decide)
        · exact (o2.trans o3).put0 hm
        · rw [List.length_append, hl]; rfl
        · rw [List.nodup_append]
          refine ⟨nd, by simp, fun x hx y hy => ?_⟩
          have ey : y = r := by simpa using hy
          subst ey
          obtain ⟨j, hj, e⟩ := List.mem_iff_getElem.mp hx
          exact nrs j x (by rw [List.getElem?_eq_getElem hj, e])
        · intro z hz
          rcases List.mem_append.mp hz with hz | hz
          · exact hr0 z hz
          · have ez : z = r := by simpa using hz
            subst ez
            exact ⟨hr00, nmr.symm⟩
        · rw [upd_same, List.map_append]; rfl
        · intro j z e
          by_cases hj : j < rs.length
          · rw [List.getElem?_append_left hj] at e
            have nz : z ≠ m := (hr0 z (List.mem_of_getElem? e)).2
            rw [upd_ne nz]
            exact o3 _ _ (by simp) (hrow j z e)
          · rw [List.getElem?_append_right (by omega)] at e
            have hj0 : j - rs.length = 0 := by
              have := (List.getElem?_eq_some_iff.mp e).1
              simp at this; omega
            rw [hj0] at e
            have ez : r = z := by simpa using e
            subst ez
            have ej : j = i := by omega
            subst ej
            rw [upd_ne nmr.symm, hr3]; rfl
    rintro σ H2 ⟨y4, rs, rfl, o2, hl, nd, hr0, htop, hrow⟩
    rw [en] at hl
    have X0 : MxAt H H2 m rs n (fun x y => if x = y then some 0 else none) := ⟨hm, hr0, nd, hl, htop, hrow⟩
    refine ⟨.ref b, rfl, b, rfl, ⟨_, (o2.tk NoTup.nil).seq sb⟩, for_tup (K := K) (a := b) (xs := xs) (fun i σ H' => ∃ (y4 y5 y6 y7 : Option V) (M : PD.Mx), σ = [some (.ref p), some (.int (n : Int)), some (.ref b), some (.ref m), y4, y5, y6, y7, none, none] ∧ Old [] H H' ∧ MxAt H H' m rs n M ∧
        PD.inTo (fun x y => if x = y then some 0 else none) (B.take i) = some M)
      ⟨y4, none, none, none, _, rfl, o2, X0, rfl⟩ (fun i σ H' _ ⟨_, _, _, _, _, _, o, _⟩ => (o.tk NoTup.nil).seq sb) ?_ ?_⟩
    · rintro i y σ H3 hy ⟨y4, y5, y6, y7, M, rfl, o3, X3, hM⟩
      have hi : i < B.length := by rw [← hxl]; exact (List.getElem?_eq_some_iff.mp hy).1
      obtain ⟨r, g1, g2⟩ := hxg i _ (List.getElem?_eq_getElem hi)
      rw [hy] at g1
      cases g1
      have hm' : B[i] ∈ B := List.getElem_mem hi
      have hxy := hB _ hm'
      have htk : B.take (i + 1) = B.take i ++ [B[i]] := List.take_succ_eq_append_getElem hi
      have hdr : B = B.take i ++ (B[i] :: B.drop (i + 1)) := by rw [← List.drop_eq_getElem_cons hi, List.take_append_drop]
      have hnx : PD.inTo (fun x y => if x = y then some 0 else none) (B.take (i + 1)) = PD.stepM M B[i] := by
        rw [htk, PD.inTo_append, hM]; rfl
      have hno : PD.stepM M B[i] = none → PD.inTo (fun x y => if x = y then some 0 else none) B = none := fun z => by
        rw [hdr, PD.inTo_append, hM]
        show PD.inTo M ([B[i]] ++ B.drop (i + 1)) = none
        rw [PD.inTo_append, PD.inTo_one, z]; rfl
      generalize B[i] = e at g2 hxy hnx hno
      obtain ⟨x, y, c⟩ := e
      have hx : x < n := hxy.1
      have hyn : y < n := hxy.2
      obtain ⟨ry, a1, a2, a3⟩ := X3.get hyn
      obtain ⟨rx, b1, b2, b3⟩ := X3.get hx
      refine ⟨r, _, rfl, (o3.tk NoTup.nil).seq g2, rfl, _, _, rfl, _, _, rfl, _, _, rfl, rfl, ?_⟩
      have exy : V.bl (decide (V.int (x : Int) = V.int (y : Int))) = V.bl (decide (x = y)) := by
        by_cases z : x = y
        · subst z; simp
        · rw [decide_eq_false z]; exact congrArg V.bl (decide_eq_false fun k => z (by have : (x : Int) = (y : Int) := V.int.inj k; omega))
      refine ⟨fun σ' H' => σ' = [some (.ref p), some (.int (n : Int)), some (.ref b), some (.ref m), y4, some (.int (x : Int)), some (.int (y : Int)), some (.int c), none, none] ∧ H' = H3 ∧ ¬ ((x = y ∧ c < 0) ∨ PD.negS (M y x) c = true), ?_, ?_⟩
      · have hret : ((x = y ∧ c < 0) ∨ PD.negS (M y x) c = true) → Q .non H3 := fun z => q1 (hno (by unfold PD.stepM; exact if_pos z)) H3 o3
        -- sums[y][x]
        refine ⟨.int (x : Int), rfl, .int (y : Int), rfl, rfl, decide (x = y), exy, ?_⟩
        by_cases h1 : x = y ∧ c < 0
        · rw [decide_eq_true h1.1]
          refine iteT ⟨.int c, rfl, c, 0, rfl, rfl, true, congrArg V.bl (decide_eq_true h1.2), iteT (iteT ?_)⟩
          exact hret (.inl h1)
        · by_cases hxye : x = y
          · have hc : ¬ c < 0 := fun z => h1 ⟨hxye, z⟩
            rw [decide_eq_true hxye]
            refine iteT ⟨.int c, rfl, c, 0, rfl, rfl, false, congrArg V.bl (decide_eq_false hc), iteF ?_⟩
            refine ⟨.ref m, rfl, .int (y : Int), rfl, m, _, _, .ref ry, rfl, rfl, SqL.of X3.top, atI_nat a2, .int (x : Int), rfl, ry, _, _, _, rfl, rfl, SqL.of a3, atI_nat (L2.T34.rowV_get hx), rfl, _, rfl, ?_⟩
            cases hMyx : M y x with
            | none =>
              refine iteF (iteF ?_)
              exact ⟨rfl, rfl, fun z => z.elim h1 fun k => by cases k⟩
            | some d =>
              refine iteT ?_
              refine ⟨.ref m, rfl, .int (y : Int), rfl, m, _, _, .ref ry, rfl, rfl, SqL.of X3.top, atI_nat a2, .int (x : Int), rfl, ry, _, _, .int d, rfl, rfl, SqL.of a3, atI_nat (by rw [L2.T34.rowV_get hx, hMyx]; rfl), .int c, rfl, d, c, rfl, rfl, _, 0, rfl, rfl, _, rfl, ite2 (fun cc => ?_) (fun cc => ?_)⟩
              · have cc : d + c < 0 := of_decide_eq_true cc
                exact hret (.inr (by rw [hMyx]; exact decide_eq_true cc))
              · have cc : ¬ d + c < 0 := fun z => cc (decide_eq_true z)
                exact ⟨rfl, rfl, fun z => z.elim h1 fun k => cc (of_decide_eq_true k)⟩
          · rw [decide_eq_false hxye]
            refine iteF (iteF ?_)
            refine ⟨.ref m, rfl, .int (y : Int), rfl, m, _, _, .ref ry, rfl, rfl, SqL.of X3.top, atI_nat a2, .int (x : Int), rfl, ry, _, _, _, rfl, rfl, SqL.of a3, atI_nat (L2.T34.rowV_get hx), rfl, _, rfl, ?_⟩
            cases hMyx : M y x with
            | none =>
              refine iteF (iteF ?_)
              exact ⟨rfl, rfl, fun z => z.elim h1 fun k => by cases k⟩
            | some d =>
              refine iteT ?_
              refine ⟨.ref m, rfl, .int (y : Int), rfl, m, _, _, .ref ry, rfl, rfl, SqL.of X3.top, atI_nat a2, .int (x : Int), rfl, ry, _, _, .int d, rfl, rfl, SqL.of a3, atI_nat (by rw [L2.T34.rowV_get hx, hMyx]; rfl), .int c, rfl, d, c, rfl, rfl, _, 0, rfl, rfl, _, rfl, ite2 (fun cc => ?_) (fun cc => ?_)⟩
              · have cc : d + c < 0 := of_decide_eq_true cc
                exact hret (.inr (by rw [hMyx]; exact decide_eq_true cc))
              · have cc : ¬ d + c < 0 := fun z => cc (decide_eq_true z)
                exact ⟨rfl, rfl, fun z => z.elim h1 fun k => cc (of_decide_eq_true k)⟩
      · rintro σ' H' ⟨rfl, rfl, hno2⟩
        have nxt : ∀ (H' : Hp) (M' : PD.Mx), Old [] H H' → MxAt H H' m rs n M' → PD.stepM M (x, y, c) = some M' → ∃ (y4' y5 y6 y7 : Option V) (M : PD.Mx), [some (.ref p), some (.int (n : Int)), some (.ref b), some (.ref m), y4, some (.int (x : Int)), some (.int (y : Int)), some (.int c), none, none] = [some (.ref p), some (.int (n : Int)), some (.ref b), some (.ref m), y4', y5, y6, y7, none, none] ∧ Old [] H H' ∧ MxAt H H' m rs n M ∧
            PD.inTo (fun x y => if x = y then some 0 else none) (B.take (i + 1)) = some M := fun H' M' o X e => ⟨_, _, _, _, M', rfl, o, X, by rw [hnx]; exact e⟩
        have skip : ¬ (x ≠ y ∧ PD.lessS (M x y) c = true) → PD.stepM M (x, y, c) = some M := fun z => by unfold PD.stepM; rw [if_neg hno2]; exact if_neg z
        have take : (x ≠ y ∧ PD.lessS (M x y) c = true) → PD.stepM M (x, y, c) = some (PD.putM M x y c) := fun z => by unfold PD.stepM; rw [if_neg hno2]; exact if_pos z
        refine ⟨.int (x : Int), rfl, .int (y : Int), rfl, rfl, !decide (x = y), ?_, ?_⟩
        · by_cases z : x = y
          · subst z; simp
          · rw [decide_eq_false z]; exact congrArg V.bl (congrArg Bool.not (decide_eq_false fun k => z (by have : (x : Int) = (y : Int) := V.int.inj k; omega)))
        by_cases hxye : x = y
        · rw [decide_eq_true hxye]
          refine iteF (iteF ?_)
          exact nxt _ M o3 X3 (skip fun z => z.1 hxye)
        · rw [decide_eq_false hxye]
          refine iteT ?_
          refine ⟨.ref m, rfl, .int (x : Int), rfl, m, _, _, .ref rx, rfl, rfl, SqL.of X3.top, atI_nat b2, .int (y : Int), rfl, rx, _, _, _, rfl, rfl, SqL.of b3, atI_nat (L2.T34.rowV_get hyn), rfl, _, rfl, ?_⟩
          cases hMxy : M x y with
          | none =>
            refine iteT (iteT ?_)
            exact ⟨.ref m, rfl, .int (x : Int), rfl, .int (y : Int), rfl, .int c, rfl, H, m, rs, n, M, x, y, c, rfl, o3, X3, hx, hyn, hn, fun H' o' X' => nxt H' _ o' X' (take ⟨hxye, by rw [hMxy]; rfl⟩)⟩
          | some d =>
            refine iteF ?_
            refine ⟨.int c, rfl, .ref m, rfl, .int (x : Int), rfl, m, _, _, .ref rx, rfl, rfl, SqL.of X3.top, atI_nat b2, .int (y : Int), rfl, rx, _, _, .int d, rfl, rfl, SqL.of b3, atI_nat (by rw [L2.T34.rowV_get hyn, hMxy]; rfl), _, _, rfl, rfl, _, rfl, ite2 (fun cc => ?_) (fun cc => ?_)⟩
            · have cc : c < d := of_decide_eq_true cc
              exact ⟨.ref m, rfl, .int (x : Int), rfl, .int (y : Int), rfl, .int c, rfl, H, m, rs, n, M, x, y, c, rfl, o3, X3, hx, hyn, hn, fun H' o' X' => nxt H' _ o' X' (take ⟨hxye, by rw [hMxy]; exact decide_eq_true cc⟩)⟩
            · have cc : ¬ c < d := fun z => cc (decide_eq_true z)
              exact nxt _ M o3 X3 (skip fun z => by rw [hMxy] at z; exact cc (of_decide_eq_true z.2))
    · rintro σ H3 ⟨y4, y5, y6, y7, M, rfl, o3, X3, hM⟩
      rw [hxl, List.take_length] at hM
      refine ⟨.ref m, rfl, fun r dr nr ndr nn => ?_⟩
      have o34 : Old [] H3 (upd (upd H3 dr (.own r)) r (.ins C dr [])) := (Old.new0 ndr).put0 nr
      refine ⟨H3, r, dr, .ref m, rfl, o34, nr, ndr, nn, upd_same, by rw [upd_ne nn, upd_same], fun H4 o4 _ sl4 => ⟨rfl, ?_⟩⟩
      exact q2 M hM H4 r m rs (o3.trans o4) (o3.free nr (by simp)) ⟨dr, sl4⟩ (X3.same o4.same)
end
end L2.T39

/-! the numbers of a walk's variables with a packet; the packet of the least numbers -/
namespace L2.PW
open L2.PR
theorem snoc_ind {α : Type} {P : List α → Prop} (h0 : P []) (h1 : ∀ l a, P l → P (l ++ [a])) (l : List α) : P l := by
  have key : ∀ l : List α, P l.reverse := by
    intro l
    induction l with
    | nil => exact h0
    | cons a l ih => rw [List.reverse_cons]; exact h1 _ _ ih
  have := key l.reverse
  rwa [List.reverse_reverse] at this
def nums (pk : List Int) (cs : List (Tm × Nat)) : List Int := cs.foldl (fun vs c => vs ++ [pk.getD (vs.getD c.1.1 0 + c.1.2).toNat 0]) [0, (pk.length : Int)]
theorem nums_snoc (pk : List Int) (cs : List (Tm × Nat)) (c : Tm × Nat) : nums pk (cs ++ [c]) = nums pk cs ++ [pk.getD ((nums pk cs).getD c.1.1 0 + c.1.2).toNat 0] := by
  unfold nums; rw [List.foldl_append]; rfl
theorem nums_len (pk : List Int) (cs : List (Tm × Nat)) : (nums pk cs).length = 2 + cs.length := by
  induction cs using snoc_ind with
  | h0 => rfl
  | h1 cs c ih => rw [nums_snoc, List.length_append, List.length_append, ih]; rfl
def vf (pk : List Int) (cs : List (Tm × Nat)) (v : Nat) : Int := (nums pk cs).getD v 0
theorem vf_snoc {pk : List Int} {cs : List (Tm × Nat)} {c : Tm × Nat} {v : Nat} (h : v < 2 + cs.length) : vf pk (cs ++ [c]) v = vf pk cs v := by
  unfold vf
  rw [nums_snoc, List.getD_eq_getElem?_getD, List.getElem?_append_left (by rw [nums_len]; exact h), ← List.getD_eq_getElem?_getD]
theorem vf_last {pk : List Int} {cs : List (Tm × Nat)} {c : Tm × Nat} : vf pk (cs ++ [c]) (2 + cs.length) = pk.getD (vf pk cs c.1.1 + c.1.2).toNat 0 := by
  unfold vf
  rw [nums_snoc, List.getD_eq_getElem?_getD, List.getElem?_append_right (by rw [nums_len]; omega), nums_len, Nat.sub_self]
  rfl
theorem vf_take {pk : List Int} : ∀ (cs : List (Tm × Nat)) {j v : Nat}, j ≤ cs.length → v < 2 + j → vf pk cs v = vf pk (cs.take j) v := by
  intro cs
  induction cs using snoc_ind with
  | h0 => intro j v h _; rw [List.take_nil]
  | h1 cs c ih =>
    intro j v hj hv
    by_cases e : j = (cs ++ [c]).length
    · subst e; rw [List.take_length]
    · have hj' : j ≤ cs.length := by rw [List.length_append] at hj e; have : [c].length = 1 := rfl; omega
      rw [vf_snoc (by omega), List.take_append_of_le_length hj']
      exact ih hj' hv
theorem vf0 (pk : List Int) (cs : List (Tm × Nat)) : vf pk cs 0 = 0 := by
  rw [vf_take cs (j := 0) (Nat.zero_le _) (by omega), List.take_zero]; rfl
theorem vf1 (pk : List Int) (cs : List (Tm × Nat)) : vf pk cs 1 = (pk.length : Int) := by
  rw [vf_take cs (j := 0) (Nat.zero_le _) (by omega), List.take_zero]; rfl
section
variable {B : List Bd} {cs : List (Tm × Nat)} {n : Nat} {m : Mt} {pk : List Int} {f : Nat → Int} {p q : Tm}
theorem Core.at_ (h : Core B cs n m) {j : Nat} {p : Tm} {v : Nat} (e : cs[j]? = some (p, v)) : vf pk cs v = pk.getD (vf pk cs p.1 + p.2).toNat 0 := by
  have hj := (List.getElem?_eq_some_iff.mp e).1
  obtain ⟨rfl, hp⟩ := h.cell j p v e
  have et : cs.take (j + 1) = cs.take j ++ [(p, 2 + j)] := by
    rw [List.take_succ_eq_append_getElem hj]
    congr 2
    exact Option.some.inj ((List.getElem?_eq_getElem hj).symm.trans e)
  have hl : (cs.take j).length = j := by rw [List.length_take]; omega
  rw [vf_take cs (j := j + 1) hj (by omega), vf_take cs (j := j) (by omega) hp, et]
  have := vf_last (pk := pk) (cs := cs.take j) (c := (p, 2 + j))
  rw [hl] at this
  exact this
theorem in_lo (hv : PD.Vals B f) (f0 : f 0 = 0) (h : In B p) : 0 ≤ f p.1 + p.2 := by
  have := hv _ h.1
  simp only [atMost, nought] at this
  omega
theorem in_hi (hv : PD.Vals B f) (h : In B p) : f p.1 + p.2 < f 1 := by
  have := hv _ h.2
  simp only [atMost, length_] at this
  omega
theorem sep_ne (hv : PD.Vals B f) (h : Sep B p q) : f p.1 + p.2 ≠ f q.1 + q.2 := by
  rcases h with ⟨h1, h2⟩ | h | h
  · rw [h1]; omega
  · have := hv _ h
    simp only [atMost] at this
    omega
  · have := hv _ h
    simp only [atMost] at this
    omega
end
/-! ### a packet that fits -/
def Fit (pk : List Int) (w : Wk) : Prop := PD.Vals w.bounds (vf pk w.cells)
structure PkIs (pk : List Int) : Prop where
  l1 : 1 ≤ pk.length
  l2 : pk.length ≤ 24
  ok : ∀ c ∈ pk, 0 ≤ c ∧ c ≤ 255
section
variable {ps : List (List Ins)} {w w' : Wk} {cs cs' : List Nat} {pk : List Int}
theorem Fit.start (h : PkIs pk) : Fit pk start := fun b hb => by
  have h0 := vf0 pk []
  have h1 := vf1 pk []
  have l1 := h.l1
  have l2 := h.l2
  simp only [PW.start, first, List.mem_cons, List.not_mem_nil, or_false] at hb ⊢
  rcases hb with rfl | rfl <;> simp only [h0, h1] <;> omega
theorem Fit.range (h : Wok ps w) (f : Fit pk w) {p : Tm} (hi : In w.bounds p) : 0 ≤ vf pk w.cells p.1 + p.2 ∧ vf pk w.cells p.1 + p.2 < (pk.length : Int) := by
  refine ⟨in_lo f (vf0 _ _) hi, ?_⟩
  have := in_hi f hi
  rw [vf1] at this
  exact this
theorem Fit.fresh (hk : PkIs pk) (h : Wok ps w) (f : Fit pk w) {p : Tm} (hp : p.1 < w.many) (hi : In w.bounds p) : PD.Vals (w.bounds ++ [(w.many, 0, 255), (0, w.many, 0)]) (vf pk (w.cells ++ [(p, w.many)])) := by
  have hm := h.core.many
  have old : ∀ v, v < w.many → vf pk (w.cells ++ [(p, w.many)]) v = vf pk w.cells v := fun v hv => vf_snoc (by omega)
  have new : vf pk (w.cells ++ [(p, w.many)]) w.many = pk.getD (vf pk w.cells p.1 + p.2).toNat 0 := by rw [hm]; exact vf_last
  have rg := Fit.range h f hi
  have hc : 0 ≤ pk.getD (vf pk w.cells p.1 + p.2).toNat 0 ∧ pk.getD (vf pk w.cells p.1 + p.2).toNat 0 ≤ 255 := by
    have hlt : (vf pk w.cells p.1 + p.2).toNat < pk.length := by omega
    rw [List.getD_eq_getElem?_getD, List.getElem?_eq_getElem hlt]
    exact hk.ok _ (List.getElem_mem hlt)
  have h2 := h.core.two
  intro b hb
  rcases List.mem_append.mp hb with hb | hb
  · have hv := h.core.var b hb
    rw [old _ hv.1, old _ hv.2]
    exact f b hb
  · rcases List.mem_cons.mp hb with rfl | hb
    · show vf pk _ w.many - vf pk _ 0 ≤ 255
      rw [new, vf0]; omega
    · rw [List.mem_singleton.mp hb]
      show vf pk _ 0 - vf pk _ w.many ≤ 0
      rw [new, vf0]; omega
theorem Fit.cstep (hk : PkIs pk) (h : Wok ps w) (f : Fit pk w) (e : cstep ps w cs = some (w', cs')) (hc : ∀ os c r, w.options = some os → cs = c :: r → PD.Vals ((os[c]?).getD []) (vf pk w.cells)) : Fit pk w' := by
  cases o : w.options with
  | some os =>
    cases cs with
    | nil => rw [halt_split o] at e; cases e
    | cons c r =>
      by_cases hcl : c < os.length
      · rw [cstep_take o hcl] at e
        cases e
        have v := hc os c cs' o rfl
        have key : PD.Vals (w.bounds ++ (os[c]?).getD []) (vf pk w.cells) := fun b hb => (List.mem_append.mp hb).elim (f b) (v b)
        unfold Wk.takeF
        simp only
        split
        · split <;> exact key
        · split
          · exact key
          · split <;> exact key
      · unfold PW.cstep at e
        rw [o] at e
        simp only [if_neg hcl] at e
        cases e
  | none =>
    unfold PW.cstep at e
    rw [o] at e
    simp only at e
    split at e
    · cases e
    · split at e
      · cases e
        unfold Wk.step
        split
        · exact f
        · unfold Wk.does
          split
          · exact f
          · split
            · exact f
            · split
              · exact f
              · split
                · exact f
                · split <;> exact f
      · rename_i p n hp
        cases e
        have P := h.pend p n hp
        unfold Wk.lookC
        split
        · exact Fit.fresh hk h f P.var P.in_
        · split
          · exact f
          · split <;> exact f
theorem Fit.reach0 (hps : ∀ is ∈ ps, LOk is) (hk : PkIs pk) (h : Wok ps w) (f : Fit pk w) (r : ∀ cs, Reach ps w cs w' cs) : Fit pk w' := by
  have key : ∀ {w cs w' cs'}, Reach ps w cs w' cs' → cs = [] → Wok ps w → Fit pk w → Fit pk w' := by
    intro w cs w' cs' r
    induction r with
    | refl => exact fun _ _ f => f
    | head e _ ih =>
      intro ec h f
      subst ec
      have f1 := Fit.cstep hk h f e (fun os c r _ z => nomatch z)
      refine ih ?_ (h.cstep hps e).1 f1
      unfold PW.cstep at e
      split at e
      · cases e
      · split at e
        · cases e
        · split at e <;> (cases e; rfl)
  exact key (r []) rfl h f
theorem Fit.take (h : Wok ps w) (f : Fit pk w) {os : List (List Bd)} {c : Nat} (v : PD.Vals ((os[c]?).getD []) (vf pk w.cells)) : Fit pk (Wk.takeF ps w os c) := by
  have key : PD.Vals (w.bounds ++ (os[c]?).getD []) (vf pk w.cells) := fun b hb => (List.mem_append.mp hb).elim (f b) (v b)
  unfold Wk.takeF
  simp only
  split
  · split <;> exact key
  · split
    · exact key
    · split <;> exact key
/-- one of a split's alternatives fits -/
theorem fit_some (h : Wok ps w) (f : Fit pk w) {os : List (List Bd)} (o : w.options = some os) : ∃ c, ∃ (hc : c < os.length), PD.Vals os[c] (vf pk w.cells) := by
  have h0 := vf0 pk w.cells
  have O := h.opts os o
  generalize vf pk w.cells = g at *
  have two : ∀ (a b : Tm) (k : Int), PD.Vals [atMost a b k] g ↔ (g a.1 + a.2) - (g b.1 + b.2) ≤ k := fun a b k => by
    constructor
    · intro z
      have := z _ List.mem_cons_self
      simp only [atMost] at this
      omega
    · intro z b' hb
      rw [List.mem_singleton.mp hb]
      show g a.1 - g b.1 ≤ k - a.2 + b.2
      omega
  have both : ∀ (a b c d : Tm) (k l : Int), (g a.1 + a.2) - (g b.1 + b.2) ≤ k → (g c.1 + c.2) - (g d.1 + d.2) ≤ l → PD.Vals [atMost a b k, atMost c d l] g := fun a b c d k l h1 h2 => by
    intro x hx
    rcases List.mem_cons.mp hx with rfl | hx
    · exact (two a b k).mpr h1 _ List.mem_cons_self
    · exact (two c d l).mpr h2 _ hx
  unfold Opts at O
  split at O
  · rename_i p n hp
    obtain ⟨q, v, _, _, rfl⟩ := O
    rcases Int.lt_trichotomy (g p.1 + p.2) (g q.1 + q.2) with z | z | z
    · exact ⟨1, by simp [cellOpts], (two p q (-1)).mpr (by omega)⟩
    · exact ⟨0, by simp [cellOpts], both p q q p 0 0 (by omega) (by omega)⟩
    · exact ⟨2, by simp [cellOpts], (two q p (-1)).mpr (by omega)⟩
  · obtain ⟨i, _, _, ⟨_, rfl⟩ | ⟨_, rfl⟩⟩ := O
    · unfold testOpts
      generalize testOf w.terms i = x
      obtain ⟨a, b, k⟩ := x
      simp only
      split
      · rcases Int.lt_trichotomy ((g a.1 + a.2) - (g b.1 + b.2)) k with z | z | z
        · exact ⟨1, by simp, (two a b (k - 1)).mpr (by omega)⟩
        · exact ⟨0, by simp, both a b b a k (-k) (by omega) (by omega)⟩
        · exact ⟨2, by simp, (two b a (-k - 1)).mpr (by omega)⟩
      · by_cases z : (g a.1 + a.2) - (g b.1 + b.2) ≤ k
        · exact ⟨0, by simp, (two a b k).mpr z⟩
        · exact ⟨1, by simp, (two b a (-k - 1)).mpr (by omega)⟩
    · generalize placeOf w.terms i = p
      have e0 : g nought.1 + nought.2 = 0 := by show g 0 + 0 = 0; omega
      by_cases z : g p.1 + p.2 < 0
      · exact ⟨0, by simp [placeOpts], (two p nought (-1)).mpr (by omega)⟩
      · by_cases y : g length_.1 + length_.2 ≤ g p.1 + p.2
        · exact ⟨1, by simp [placeOpts], (two length_ p 0).mpr (by omega)⟩
        · exact ⟨2, by simp [placeOpts], both nought p p length_ 0 (-1) (by omega) (by omega)⟩
end
/-! ### the packet of the least numbers -/
def setAll (l : List Int) (ps : List (Nat × Int)) : List Int := ps.foldl (fun l p => l.set p.1 p.2) l
theorem setAll_len (l : List Int) (ps : List (Nat × Int)) : (setAll l ps).length = l.length := by
  unfold setAll
  induction ps generalizing l with
  | nil => rfl
  | cons p ps ih => rw [List.foldl_cons, ih, List.length_set]
theorem setAll_get : ∀ (ps : List (Nat × Int)) (l : List Int), (ps.map (·.1)).Nodup → (∀ p ∈ ps, p.1 < l.length) → (∀ p ∈ ps, (setAll l ps)[p.1]? = some p.2) ∧ ∀ i, i ∉ ps.map (·.1) → (setAll l ps)[i]? = l[i]?
  | [], l, _, _ => ⟨fun p h => (nomatch h), fun i _ => rfl⟩
  | p :: ps, l, nd, hl => by
    rw [List.map_cons, List.nodup_cons] at nd
    have ih := setAll_get ps (l.set p.1 p.2) nd.2 (fun q hq => by rw [List.length_set]; exact hl q (List.mem_cons_of_mem _ hq))
    have e : setAll l (p :: ps) = setAll (l.set p.1 p.2) ps := rfl
    rw [e]
    refine ⟨fun q hq => ?_, fun i hi => ?_⟩
    · rcases List.mem_cons.mp hq with rfl | hq
      · rw [ih.2 _ nd.1, List.getElem?_set_self (hl _ List.mem_cons_self)]
      · exact ih.1 q hq
    · rw [List.map_cons, List.mem_cons, not_or] at hi
      rw [ih.2 i hi.2, List.getElem?_set_ne (Ne.symm hi.1)]
/-- where a cell stands and what stands there -/
def spot (vs : List Int) (c : Tm × Nat) : Nat × Int := ((vs.getD c.1.1 0 + c.1.2).toNat, vs.getD c.2 0)
def leastF (vs : List Int) (cs : List (Tm × Nat)) : List Int := setAll (List.replicate (vs.getD 1 0).toNat 0) (cs.map (spot vs))
def lows (n : Nat) (M : PD.Mx) : List Int := (List.range n).map fun v => -(M 0 v).getD 0
theorem lows_get {n : Nat} {M : PD.Mx} {v : Nat} (h : v < n) : (lows n M).getD v 0 = -(M 0 v).getD 0 := by
  unfold lows
  rw [List.getD_eq_getElem?_getD, List.getElem?_map, List.getElem?_range h]; rfl
section
variable {B : List Bd} {cs : List (Tm × Nat)} {n : Nat} {m : Mt} {M : PD.Mx}
theorem lows_is (h : Core B cs n m) (c : PD.Cl n B M) {v : Nat} (hv : v < n) : M 0 v = some (-((lows n M).getD v 0)) := by
  have h2 := h.two
  rw [lows_get hv]
  have key : ∃ d, M 0 v = some d := by
    by_cases e0 : v = 0
    · subst e0; exact ⟨0, c.diag 0 (by omega)⟩
    · by_cases e1 : v = 1
      · subst e1
        obtain ⟨d, e, _⟩ := c.low _ h.f1 (-1) rfl
        exact ⟨d, e⟩
      · obtain ⟨d, e, _⟩ := c.low _ (h.low v (by omega) hv).1 0 rfl
        exact ⟨d, e⟩
  obtain ⟨d, e⟩ := key
  rw [e]
  show some d = some (- -d)
  rw [Int.neg_neg]
theorem lows_vals (h : Core B cs n m) (c : PD.Cl n B M) : PD.Vals B fun v => (lows n M).getD v 0 := c.told.lows h.var fun v hv => lows_is h c hv
theorem lows_0 (h : Core B cs n m) (c : PD.Cl n B M) : (lows n M).getD 0 0 = 0 := by
  have := lows_is h c (v := 0) (by have := h.two; omega)
  rw [c.diag 0 (by have := h.two; omega)] at this
  have := Option.some.inj this
  omega
theorem lows_1 (h : Core B cs n m) (c : PD.Cl n B M) : 1 ≤ (lows n M).getD 1 0 ∧ (lows n M).getD 1 0 ≤ 24 := by
  have v := lows_vals h c
  have z := lows_0 h c
  have h1 := v _ h.f0
  have h2 := v _ h.f1
  have h1 : (lows n M).getD 1 0 - (lows n M).getD 0 0 ≤ 24 := h1
  have h2 : (lows n M).getD 0 0 - (lows n M).getD 1 0 ≤ -1 := h2
  omega
theorem lows_c (h : Core B cs n m) (c : PD.Cl n B M) {v : Nat} (h2 : 2 ≤ v) (hv : v < n) : 0 ≤ (lows n M).getD v 0 ∧ (lows n M).getD v 0 ≤ 255 := by
  have vv := lows_vals h c
  have z := lows_0 h c
  have := h.low v h2 hv
  have h1 : (lows n M).getD 0 0 - (lows n M).getD v 0 ≤ 0 := vv _ this.1
  have h2 : (lows n M).getD v 0 - (lows n M).getD 0 0 ≤ 255 := vv _ this.2
  omega
theorem lows_in (h : Core B cs n m) (c : PD.Cl n B M) {p : Tm} {u : Nat} (hm : (p, u) ∈ cs) : 0 ≤ (lows n M).getD p.1 0 + p.2 ∧ (lows n M).getD p.1 0 + p.2 < (lows n M).getD 1 0 :=
  have i := h.within _ hm
  ⟨in_lo (f := fun v => (lows n M).getD v 0) (lows_vals h c) (lows_0 h c) i, in_hi (f := fun v => (lows n M).getD v 0) (lows_vals h c) i⟩
theorem least_len (h : Core B cs n m) (c : PD.Cl n B M) : ((leastF (lows n M) cs).length : Int) = (lows n M).getD 1 0 := by
  have := lows_1 h c
  unfold leastF
  rw [setAll_len, List.length_replicate]
  omega
theorem spots_nodup (h : Core B cs n m) (c : PD.Cl n B M) : ((cs.map (spot (lows n M))).map (·.1)).Nodup := by
  rw [List.map_map, List.Nodup, List.pairwise_map, List.pairwise_iff_getElem]
  intro i j hi hj hij
  have s := h.sep i j cs[i].1 cs[j].1 cs[i].2 cs[j].2 hij (List.getElem?_eq_getElem hi) (List.getElem?_eq_getElem hj)
  have ne := sep_ne (f := fun v => (lows n M).getD v 0) (lows_vals h c) s
  have r1 := lows_in h c (p := cs[i].1) (u := cs[i].2) (List.getElem_mem hi)
  have r2 := lows_in h c (p := cs[j].1) (u := cs[j].2) (List.getElem_mem hj)
  show ((lows n M).getD cs[i].1.1 0 + cs[i].1.2).toNat ≠ ((lows n M).getD cs[j].1.1 0 + cs[j].1.2).toNat
  have ne : (lows n M).getD cs[i].1.1 0 + cs[i].1.2 ≠ (lows n M).getD cs[j].1.1 0 + cs[j].1.2 := ne
  omega
theorem least_at (h : Core B cs n m) (c : PD.Cl n B M) {p : Tm} {u : Nat} (hm : (p, u) ∈ cs) : (leastF (lows n M) cs).getD ((lows n M).getD p.1 0 + p.2).toNat 0 = (lows n M).getD u 0 := by
  have g := (setAll_get (cs.map (spot (lows n M))) (List.replicate ((lows n M).getD 1 0).toNat 0) (spots_nodup h c) (fun q hq => by
    obtain ⟨⟨p', u'⟩, hx, rfl⟩ := List.mem_map.mp hq
    have := lows_in h c hx
    rw [List.length_replicate]
    show ((lows n M).getD p'.1 0 + p'.2).toNat < _
    omega)).1 _ (List.mem_map.mpr ⟨(p, u), hm, rfl⟩)
  unfold leastF
  rw [List.getD_eq_getElem?_getD]
  have g : (setAll (List.replicate ((lows n M).getD 1 0).toNat 0) (cs.map (spot (lows n M))))[((lows n M).getD p.1 0 + p.2).toNat]? = some ((lows n M).getD u 0) := g
  rw [g]; rfl
/-- the least packet has the least numbers -/
theorem least_vf (h : Core B cs n m) (c : PD.Cl n B M) : ∀ v, v < n → vf (leastF (lows n M) cs) cs v = (lows n M).getD v 0 := by
  intro v
  induction v using Nat.strongRecOn with
  | _ v ih =>
    intro hv
    by_cases e0 : v = 0
    · subst e0; rw [vf0, lows_0 h c]
    · by_cases e1 : v = 1
      · subst e1; rw [vf1]; exact least_len h c
      · have hm := h.many
        have hj : v - 2 < cs.length := by omega
        have ec : cs[v - 2]? = some (cs[v - 2].1, cs[v - 2].2) := List.getElem?_eq_getElem hj
        obtain ⟨e2, e3⟩ := h.cell _ _ _ ec
        have ev : cs[v - 2].2 = v := by omega
        have := h.at_ (pk := leastF (lows n M) cs) ec
        rw [ev] at this
        rw [this, ih _ (by omega) (by omega)]
        have la := least_at h c (p := cs[v - 2].1) (u := cs[v - 2].2) (List.getElem_mem hj)
        rw [ev] at la
        exact la
theorem least_le (h : Core B cs n m) (c : PD.Cl n B M) {pk : List Int} (f : PD.Vals B (vf pk cs)) : ∀ v, v < n → (lows n M).getD v 0 ≤ vf pk cs v := by
  intro v hv
  have := c.told.sound _ f 0 v _ (by have := h.two; omega) hv (lows_is h c hv)
  rw [vf0] at this
  omega
end
end L2.PW

namespace L2.T39
open PySem PySem.Spec PyProof.Rows L2.PL
def nD (c : Nat) : PyData := .int (c : Int)
def chD (cs : List Nat) : PyData := .tuple (cs.map nD)
theorem chD_only (cs : List Nat) : tupOnly (chD cs) = true := only_map nD (fun _ => rfl) cs
theorem ch_get {K : PySem.W.Frag} {H : Hp} {v : V} {cs : List Nat} (h : Dp K H v (chD cs)) : ∃ b xs, v = .ref b ∧ SqT K H b xs ∧ xs.length = cs.length ∧ ∀ (i : Nat) c, cs[i]? = some c → xs[i]? = some (.int (c : Int)) := by
  obtain ⟨b, xs, e, h1, h2⟩ := dp_tup h
  refine ⟨b, xs, e, h1, by rw [PL.DpAll.length h2, List.length_map], fun i c ei => ?_⟩
  obtain ⟨v, g1, g2⟩ := PL.DpAll.get h2 (i := i) (d := nD c) (by rw [List.getElem?_map, ei]; rfl)
  cases g2
  exact g1
/-- right choices, and where they lead -/
def Right (ps : List (List PR.Ins)) (cs : List Nat) (w : PW.Wk) : Prop := PW.Reach ps PW.start cs w [] ∧ PW.cstep ps w [] = none
/-- a walk that is new since H -/
def NewWk (K : PySem.W.Frag) (C : Addr) (ps : List (List PR.Ins)) (H : Hp) (Q : V → Hp → Prop) (w : PW.Wk) : Prop := ∀ H' a dx kd, Old [] H H' → H a = none → H dx = none → H kd = none → WkAt K H' C a dx kd ps w → Q (.ref a) H'
def spWalkBy (K : PySem.W.Frag) (C : Addr) : Sp := fun vs H Q _ => ∃ (v u : V) (ps : List (List PR.Ins)) (cs : List Nat) (w : PW.Wk), vs = [v, u] ∧ Dp K H v (progsD ps) ∧ Dp K H u (chD cs) ∧ (∀ is ∈ ps, PW.LOk is) ∧ ps.length ≤ 4 ∧ Right ps cs w ∧ NewWk K C ps H Q w
theorem WkAt.slt {K : PySem.W.Frag} {H : Hp} {C a dx kd : Addr} {ps : List (List PR.Ins)} {w : PW.Wk} (h : WkAt K H C a dx kd ps w) : ∃ x, SlX.Slt H a C dx (slots w x kd) ∧ Tup K H x ps w := by
  obtain ⟨x, kvs, R, U, _⟩ := h.ex
  exact ⟨x, R.slt, U⟩
section
variable {P : Program} {w : World} {K : PySem.W.Frag} {mg : Str → Option Value} {base : Heap} {C p0 p1 p2 p3 p4 p5 p6 p7 p8 p9 : Addr}
/-! walk_by: slots programs=0 choices=1 walk=2 number=3; cells [] -/
abbrev s_walk_by : Stmt := topS 41
abbrev N_walk_by : List Str := ["programs", "choices", "walk", "number"]
theorem sc_walk_by : FnScope N_walk_by ["programs", "choices"] (defScope s_walk_by) := ⟨rfl, rfl, rfl, by decide +kernel, rfl, by decide +kernel, by decide +kernel⟩
theorem ok_walk_by {f : Addr} {fd : FuncData} (F : Fun K "walk_by" "walk_by" s_walk_by f fd) (T : Tx mg) (T_Walk : WkT K C p0 p1 p2 p3 p4 p5 p6 p7 p8 p9) (C_is_int : Cal P w K mg base CX0 "is_int" ["value", "low", "high"] 1 spIsInt) (M_Walk : MkC P w K mg base CX0 "Walk" C ["self", "programs"] 1 (spWkInit K C)) (M_Walk_go : MtC P w K mg base CX0 C "go" ["self"] 4 (spGo K C)) (M_Walk_take : MtC P w K mg base CX0 C "take" ["self", "number"] 3 (spTake_ K C)) :
    FnOk P w K mg base CX0 5 f fd ["programs", "choices"] (spWalkBy K C) := by
  refine F.ok sc_walk_by (fun vs H Q E h => ?_) (fun cdv A outer s H vs Q E hr h => ?_)
  · obtain ⟨v, u, ps, cs, w, rfl, _⟩ := h
    rfl
  · obtain ⟨v, u, ps, cs, w, rfl, dv, du, hps, hpl, rt, q⟩ := h
    have TW := T_Walk
    obtain ⟨b, xs, rfl, sb, hxl, hxg⟩ := ch_get du
    refine ⟨_, (pss_cons (ps_if (pt_not (pt_val (pe_callB call_isi (by rfl) T.z_isinstance bz_isinstance (pa_cons (pv 1) (pa_cons (pe_bltn (v := .ty "tuple") (by rfl) T.z_tuple bz_tuple rfl) pa_nil)))))
       pss_never
       pss_nil)
      (pss_cons (ps_set (i := 2) sc_walk_by.nd rfl (.inl rfl) (pe_makC M_Walk hr (by rfl) pass0 (pa_cons (pv 0) pa_nil)))
      (pss_cons (ps_expr (pe_metC0 M_Walk_go (pv 2) T_Walk.c hr pass0))
      (pss_cons (ps_for PassesOwn.never rfl (pi_tup (pv 1)) (pg_name (i := 3) sc_walk_by.nd rfl (Or.inl rfl))
       (pss_cons (ps_if (PW.pt (pw_or (pt_cmpR op_isN (SlX.pe_sl (pv 2)) pe_non (nomark _)) (pw_or1 (pt_not (pt_val (pe_cal C_is_int hr (by rfl) pass0 (pa_cons (pv 3) (pa_cons pe_int (pa_cons (pe_op op_sub (pe_callB call_len_seq (by rfl) T.z_len bz_len (pa_cons (SlX.pe_sl (pv 2)) pa_nil)) pe_int) pa_nil)))))))))
         pss_never
         pss_nil)
        (pss_cons (ps_expr (pe_metC M_Walk_take (pv 2) T_Walk.c hr pass0 (pa_cons (pv 3) pa_nil)))
        (pss_one (ps_expr (pe_metC0 M_Walk_go (pv 2) T_Walk.c hr pass0))))))
      (pss_one (ps_ret (pv 2))))))), ?_⟩
    refine ⟨.ref b, rfl, .ref b, .ty "tuple", _, _, true, rfl, .ty _, tyx_tup sb, kit_tup_tup, true, rfl, iteF ?_⟩
    refine ⟨v, rfl, fun a dx na ndx nn => ?_⟩
    have o0 : Old [] H (upd (upd H dx (.own a)) a (.ins C dx [])) := (Old.new0 ndx).put0 na
    refine ⟨H, a, dx, v, ps, rfl, PL.Dp.keep (o0.tk NoTup.nil) _ _ (progsD_only ps) dv, o0, na, ndx, nn, upd_same, by rw [upd_ne nn, upd_same], fun H1 kd o1 hkd hw => ⟨rfl, ?_⟩⟩
    obtain ⟨x, sl, U⟩ := hw.slt
    have gd0 : Gd ps PW.start := Gd.start hps hpl
    refine ⟨.ref a, rfl, a, dx, _, rfl, sl, a, dx, kd, ps, PW.start, rfl, hw, gd0, fun w1 re1 hs1 H2 kd1 f1 hw1 => ?_⟩
    obtain ⟨o2, hkd1⟩ := f1.from o1 na ndx hkd
    have keepb : ∀ {H'}, Old [] H H' → SqT K H' b xs := fun o => (o.tk NoTup.nil).seq sb
    refine ⟨.ref b, rfl, b, rfl, ⟨_, keepb o2⟩, for_tup (K := K) (a := b) (xs := xs) (fun i σ H' => ∃ (kd' : Addr) (w' : PW.Wk) (y3 : Option V), σ = [some v, some (.ref b), some (.ref a), y3] ∧ Old [] H H' ∧ H kd' = none ∧ WkAt K H' C a dx kd' ps w' ∧ Gd ps w' ∧ (∀ r, PW.Reach ps PW.start (cs.take i ++ r) w' r) ∧
        (w'.options.isSome = true ∨ w'.ends.length = ps.length))
      ⟨kd1, w1, none, rfl, o2, hkd1, hw1, gd0.reach (re1 []), fun r => re1 r, hs1⟩ (fun i σ H' _ ⟨_, _, _, _, o, _⟩ => keepb o) ?_ ?_⟩
    · rintro i y σ H3 hy ⟨kd', w', y3, rfl, o3, hk3, hw3, gd3, re3, hs3⟩
      have hi : i < cs.length := by rw [← hxl]; exact (List.getElem?_eq_some_iff.mp hy).1
      have hci := hxg i cs[i] (List.getElem?_eq_getElem hi)
      rw [hy] at hci
      cases hci
      have htk : cs.take (i + 1) = cs.take i ++ [cs[i]] := List.take_succ_eq_append_getElem hi
      have hall : cs.take i ++ (cs[i] :: cs.drop (i + 1)) = cs := by rw [← List.drop_eq_getElem_cons hi, List.take_append_drop]
      have r3 := re3 (cs[i] :: cs.drop (i + 1))
      rw [hall] at r3
      have rw' := rt.1.to_halt rt.2 r3
      generalize cs[i] = c at htk hall r3 rw' ⊢
      obtain ⟨os, ho, hc⟩ : ∃ os, w'.options = some os ∧ c < os.length := by
        cases ho : w'.options with
        | none =>
          have he : w'.ends.length = ps.length := by
            rcases hs3 with z | z
            · rw [ho] at z; cases z
            · exact z
          cases rw' with
          | head e _ => rw [PW.halt_end ho he] at e; cases e
        | some os =>
          refine ⟨os, rfl, Classical.byContradiction fun hc => ?_⟩
          cases rw' with
          | head e _ =>
            unfold PW.cstep at e
            rw [ho] at e
            simp only [if_neg hc] at e
            cases e
      obtain ⟨x3, sl3, U3⟩ := hw3.slt
      have Uo := U3.o
      rw [ho] at Uo
      obtain ⟨ob, oxs, eo, so, hol, _⟩ := opts_at Uo
      refine ⟨.ref a, rfl, a, C, dx, p6, _, 6, x3.o, rfl, sl3, TW.c, TW.s6, rfl, rfl, false, by rw [eo]; rfl, iteF ?_⟩
      refine ⟨.int (c : Int), rfl, .ref a, rfl, a, C, dx, p6, _, 6, x3.o, rfl, sl3, TW.c, TW.s6, rfl, ob, oxs, congrArg (fun v => [v]) eo, .inr so, _, 1, rfl, rfl, c, 0, _, rfl, ?_⟩
      have eb : (decide ((0 : Int) ≤ (c : Int)) && decide ((c : Int) ≤ (oxs.length : Int) - 1)) = true := by
        rw [hol]; simp; omega
      rw [eb]
      refine ⟨true, rfl, iteF ?_⟩
      refine ⟨.ref a, rfl, a, dx, _, rfl, sl3, .int (c : Int), rfl, a, dx, kd', ps, w', os, c, rfl, hw3, gd3, ho, hc, fun H4 kd4 f4 hw4 => ?_⟩
      have st : ∀ r, PW.Reach ps w' (c :: r) (PW.Wk.takeF ps w' os c) r := fun r => .one (PW.cstep_take ho hc)
      have gd4 := gd3.reach (st [])
      obtain ⟨x4, sl4, U4⟩ := hw4.slt
      refine ⟨.ref a, rfl, a, dx, _, rfl, sl4, a, dx, kd4, ps, _, rfl, hw4, gd4, fun w5 re5 hs5 H5 kd5 f5 hw5 => ?_⟩
      obtain ⟨o5, hk5⟩ := (f4.trans f5).from o3 na ndx hk3
      refine ⟨kd5, w5, _, rfl, o5, hk5, hw5, gd4.reach (re5 []), fun r => ?_, hs5⟩
      rw [htk, List.append_assoc]
      exact ((re3 (c :: r)).trans (st r)).trans (re5 r)
    · rintro σ H3 ⟨kd', w', y3, rfl, o3, hk3, hw3, gd3, re3, hs3⟩
      rw [hxl, List.take_length] at re3
      have r3 := re3 []
      rw [List.append_nil] at r3
      have hh : PW.cstep ps w' [] = none := by
        cases ho : w'.options with
        | none =>
          refine PW.halt_end ho ?_
          rcases hs3 with z | z
          · rw [ho] at z; cases z
          · exact z
        | some os => exact PW.halt_split ho
      obtain ⟨rfl, _⟩ := rt.1.fin rt.2 r3 hh
      exact ⟨.ref a, rfl, q H3 a dx kd' o3 na ndx hk3 hw3⟩
end
end L2.T39

namespace L2.T39
open PySem PySem.Spec PyProof.Rows L2.PL
theorem pk_get {K : PySem.W.Frag} {H : Hp} {v : V} {pk : List Int} (h : Dp K H v (pkD pk)) : ∃ b, v = .ref b ∧ SqT K H b (pk.map V.int) := by
  obtain ⟨b, xs, e, h1, h2⟩ := dp_tup h
  have key : ∀ (l : List Int) (ys : List V), DpAll K H ys (l.map PyData.int) → ys = l.map V.int := by
    intro l
    induction l with
    | nil => intro ys h; cases h; rfl
    | cons a l ih =>
      intro ys h
      cases h with
      | cons p q => cases p; rw [ih _ q]; rfl
  rw [key _ _ h2] at h1
  exact ⟨b, e, h1⟩
theorem pkIs {pk : List Int} (h : PkOk pk) : PW.PkIs pk := ⟨h.l1, h.l2, h.ok⟩
def spValues (K : PySem.W.Frag) (C : Addr) : Sp := fun vs H Q _ => ∃ (a dx kd : Addr) (ps : List (List PR.Ins)) (w : PW.Wk) (v : V) (pk : List Int), vs = [.ref a, v] ∧ WkAt K H C a dx kd ps w ∧ Dp K H v (pkD pk) ∧ PkOk pk ∧ Gd ps w ∧ PW.Fit pk w ∧
  ∀ H' l, Old [] H H' → H l = none → H' l = some (.lst ((PW.nums pk w.cells).map V.int)) → Q (.ref l) H'
def spLeast (K : PySem.W.Frag) (C N : Addr) : Sp := fun vs H Q _ => ∃ (H0 : Hp) (a dx kd r m : Addr) (rs : List Addr) (ps : List (List PR.Ins)) (w : PW.Wk) (M : PD.Mx), vs = [.ref a, .ref r] ∧ WkAt K H C a dx kd ps w ∧ NearAt H N r (.ref m) ∧ MxAt H0 H m rs w.many M ∧ Gd ps w ∧ PD.Cl w.many w.bounds M ∧
  ∀ H' t, Old [] H H' → Dp K H' (.ref t) (pkD (PW.leastF (PW.lows w.many M) w.cells)) → Q (.ref t) H'
section
variable {P : Program} {w : World} {K : PySem.W.Frag} {mg : Str → Option Value} {base : Heap} {C N p0 p1 p2 p3 p4 p5 p6 p7 p8 p9 n0 : Addr}
/-! values_of: slots walk=0 packet=1 values=2 variable=3 number=4 cell=5; cells [] -/
abbrev s_values_of : Stmt := topS 42
abbrev N_values_of : List Str := ["walk", "packet", "values", "variable", "number", "cell"]
theorem sc_values_of : FnScope N_values_of ["walk", "packet"] (defScope s_values_of) := ⟨rfl, rfl, rfl, by decide +kernel, rfl, by decide +kernel, by decide +kernel⟩
theorem ok_values_of {f : Addr} {fd : FuncData} (F : Fun K "values_of" "values_of" s_values_of f fd) (T : Tx mg) (T_Walk : WkT K C p0 p1 p2 p3 p4 p5 p6 p7 p8 p9) : FnOk P w K mg base CX0 1 f fd ["walk", "packet"] (spValues K C) := by
  refine F.ok sc_values_of (fun vs H Q E h => ?_) (fun cdv A outer s H vs Q E hr h => ?_)
  · obtain ⟨a, dx, kd, ps, w, v, pk, rfl, _⟩ := h
    rfl
  · obtain ⟨a, dx, kd, ps, w, v, pk, rfl, hw, dv, pok, gd, fit, q⟩ := h
    have TW := T_Walk
    obtain ⟨x, sl, U⟩ := hw.slt
    obtain ⟨b, rfl, sb⟩ := pk_get dv
    obtain ⟨l, ls, el, sl3, hll, hlg⟩ := cell_get U.l
    have hcl := gd.cells
    have core := gd.ok.core
    refine ⟨_, (pss_cons (ps_set (i := 2) sc_values_of.nd rfl (.inl rfl) (pe_lst (pa_cons pe_int (pa_cons (pe_callB call_len_seq (by rfl) T.z_len bz_len (pa_cons (pv 1) pa_nil)) pa_nil))))
      (pss_cons (ps_for PassesOwn.never rfl (pi_tup (SlX.pe_sl (pv 0))) (pg_tup (by rfl) (pgs_cons (pg_tup (by rfl) (pgs_cons (pg_name (i := 3) sc_values_of.nd rfl (Or.inl rfl)) (pgs_cons (pg_name (i := 4) sc_values_of.nd rfl (Or.inl rfl)) pgs_nil))) (pgs_cons (pg_name (i := 5) sc_values_of.nd rfl (Or.inl rfl)) pgs_nil)))
       (pss_one (ps_expr (pe_bm PySem.F.plainAttrs_list PySem.F.slot_list_append PySem.F.type_list_append mt_append (pv 2) (pa_cons (pe_ix ix_tup (pv 1) (pe_op op_add (pe_ix ix_list (pv 2) (pv 3) (fun _ _ => rfl)) (pv 4)) (fun _ _ => rfl)) pa_nil)))))
      (pss_one (ps_ret (pv 2))))), ?_⟩
    refine ⟨.ref b, rfl, b, _, rfl, .inr sb, by show 2 ≤ sizeLine; decide, fun vl nvl => ?_⟩
    have o1 : Old [] H (upd H vl (.lst [.int 0, .int ((pk.map V.int).length : Int)])) := Old.new0 nvl
    have h1 : (upd H vl (.lst [.int 0, .int ((pk.map V.int).length : Int)])) vl = some (.lst ((PW.nums pk []).map V.int)) := by rw [upd_same, List.length_map]; rfl
    generalize upd H vl (.lst [.int 0, .int ((pk.map V.int).length : Int)]) = H1 at o1 h1 ⊢
    have sl1 := Slt.same o1.same sl
    refine ⟨.ref a, rfl, a, C, dx, p3, _, 3, x.l, rfl, sl1, TW.c, TW.s3, rfl, l, el, ⟨_, (o1.tk NoTup.nil).seq sl3⟩, for_tup (K := K) (a := l) (xs := ls) (fun i σ H' => ∃ (y3 y4 y5 : Option V), σ = [some (.ref a), some (.ref b), some (.ref vl), y3, y4, y5] ∧ Old [] H H' ∧ H' vl = some (.lst ((PW.nums pk (w.cells.take i)).map V.int)))
      ⟨none, none, none, rfl, o1, h1⟩ (fun i σ H' _ ⟨_, _, _, _, o, _⟩ => (o.tk NoTup.nil).seq sl3) ?_ ?_⟩
    · rintro i y σ H2 hy ⟨y3, y4, y5, rfl, o2, h2⟩
      have hi : i < w.cells.length := by rw [← hll]; exact (List.getElem?_eq_some_iff.mp hy).1
      have ec : w.cells[i]? = some (w.cells[i].1, w.cells[i].2) := List.getElem?_eq_getElem hi
      obtain ⟨ca, cu, g1, g2, g3⟩ := hlg i _ _ ec
      rw [hy] at g1
      cases g1
      have tk := o2.tk NoTup.nil
      obtain ⟨cu', ecu, scu⟩ := tm_at (PL.Dp.keep tk _ _ rfl g3)
      cases ecu
      have htk : w.cells.take (i + 1) = w.cells.take i ++ [w.cells[i]] := List.take_succ_eq_append_getElem hi
      have hin := core.within _ (List.getElem_mem hi)
      have rg := PW.Fit.range gd.ok fit hin
      have hc := core.cell i _ _ ec
      have evf := PW.vf_take (pk := pk) w.cells (Nat.le_of_lt hi) hc.2
      refine ⟨ca, _, rfl, tk.seq g2, rfl, _, _, rfl, cu, _, rfl, scu, rfl, _, _, rfl, _, _, rfl, rfl, _, _, rfl, rfl, ?_⟩
      have sb2 := tk.seq sb
      have hlen : (PW.nums pk (w.cells.take i)).length = 2 + i := by rw [PW.nums_len, List.length_take]; omega
      generalize w.cells[i] = c at htk hin rg hc evf
      obtain ⟨⟨pv, pn⟩, u⟩ := c
      have hpv : pv < 2 + i := hc.2
      have gnum : ((PW.nums pk (w.cells.take i)).map V.int)[pv]? = some (.int (PW.vf pk w.cells pv)) := by
        have h3 : pv < (PW.nums pk (w.cells.take i)).length := by omega
        rw [List.getElem?_map, List.getElem?_eq_getElem h3]
        have e2 : PW.vf pk w.cells pv = (PW.nums pk (w.cells.take i)).getD pv 0 := evf
        rw [e2, List.getD_eq_getElem?_getD, List.getElem?_eq_getElem h3]; rfl
      have rg1 : 0 ≤ PW.vf pk w.cells pv + pn := rg.1
      have rg2 : PW.vf pk w.cells pv + pn < (pk.length : Int) := rg.2
      have hidx : (PW.vf pk w.cells pv + pn).toNat < pk.length := by omega
      have gpk : atI (pk.map V.int) (PW.vf pk w.cells pv + pn) = some (.int (pk.getD (PW.vf pk w.cells pv + pn).toNat 0)) := by
        have e3 : PW.vf pk w.cells pv + pn = (((PW.vf pk w.cells pv + pn).toNat : Nat) : Int) := by omega
        rw [e3]
        refine atI_nat ?_
        rw [List.getElem?_map, Int.toNat_natCast, List.getElem?_eq_getElem hidx, List.getD_eq_getElem?_getD, List.getElem?_eq_getElem hidx]; rfl
      refine ⟨.ref vl, rfl, .inl ⟨rfl, _, SqL.of h2⟩, .ref b, rfl, .ref vl, rfl, .int (pv : Int), rfl, vl, _, _, _, rfl, rfl, SqL.of h2, atI_nat gnum, .int pn, rfl, _, _, rfl, rfl, b, _, _, _, rfl, rfl, sb2, gpk, ?_⟩
      refine ⟨vl, _, _, rfl, rfl, h2, ?_, _, _, _, rfl, o2.put0 nvl, ?_⟩
      · rw [List.length_map, hlen]; show 2 + i < 2 ^ 24; omega
      · rw [upd_same, htk, PW.nums_snoc, List.map_append]
        have e4 : (PW.nums pk (w.cells.take i)).getD pv 0 = PW.vf pk w.cells pv := evf.symm
        show some (HO.lst (_ ++ [V.int (pk.getD (PW.vf pk w.cells pv + pn).toNat 0)])) = some (HO.lst (_ ++ [V.int (pk.getD ((PW.nums pk (w.cells.take i)).getD pv 0 + pn).toNat 0)]))
        rw [e4]
    · rintro σ H2 ⟨y3, y4, y5, rfl, o2, h2⟩
      rw [hll, List.take_length] at h2
      exact ⟨.ref vl, rfl, q H2 vl o2 nvl h2⟩
/-! least_packet: slots walk=0 near=1 values=2 cells=3 variable=4 number=5 cell=6; cells [] -/
abbrev s_least_packet : Stmt := topS 44
abbrev N_least_packet : List Str := ["walk", "near", "values", "cells", "variable", "number", "cell"]
theorem sc_least_packet : FnScope N_least_packet ["walk", "near"] (defScope s_least_packet) := ⟨rfl, rfl, rfl, by decide +kernel, rfl, by decide +kernel, by decide +kernel⟩
theorem ok_least_packet {f : Addr} {fd : FuncData} (F : Fun K "least_packet" "least_packet" s_least_packet f fd) (T : Tx mg) (T_Walk : WkT K C p0 p1 p2 p3 p4 p5 p6 p7 p8 p9) (T_Near : NrT K N n0) : FnOk P w K mg base CX0 1 f fd ["walk", "near"] (spLeast K C N) := by
  refine F.ok sc_least_packet (fun vs H Q E h => ?_) (fun cdv A outer s H vs Q E hr h => ?_)
  · obtain ⟨H0, a, dx, kd, r, m, rs, ps, w, M, rfl, _⟩ := h
    rfl
  · obtain ⟨H0, a, dx, kd, r, m, rs, ps, w, M, rfl, hw, nr, X, gd, cl, q⟩ := h
    have TW := T_Walk
    obtain ⟨x, sl, U⟩ := hw.slt
    obtain ⟨ndx, nsl⟩ := nr.ex
    obtain ⟨l, ls, el, sl3, hll, hlg⟩ := cell_get U.l
    have hcl := gd.cells
    have core := gd.ok.core
    have hm := core.many
    have h2 := core.two
    obtain ⟨r0, a1, a2, a3⟩ := X.get (i := 0) (by omega)
    have hlow : ∀ v, v < w.many → M 0 v = some (-((PW.lows w.many M).getD v 0)) := fun v hv => PW.lows_is core cl hv
    refine ⟨_, (pss_cons (ps_setLc (i := 2) (own := [("number", 5)]) (g := gName 5) (tt := tYes) rfl sc_least_packet.nd rfl rfl (sw_true rfl rfl rfl (by decide +kernel)) (pi_list (pe_ix ix_list (SlX.pe_sl (pv 1)) (pe_gI (by rfl) T.g_NOUGHT) (fun _ _ => rfl))) (blkOk_by (N := N_least_packet) (sc := defScope s_least_packet) (by decide +kernel)) (fun _ _ _ _ _ => (pg_name (i := 5) sc_least_packet.nd rfl (Or.inl rfl))) (fun _ _ _ _ _ => pts_nil) (fun _ _ _ _ _ => (pe_un un_neg (pv 5))))
      (pss_cons (ps_set (i := 3) sc_least_packet.nd rfl (.inl rfl) (pe_op op_rep (pe_lst (pa_cons pe_int pa_nil)) (pe_ix ix_list (pv 2) (pe_gI (by rfl) T.g_LENGTH) (fun _ _ => rfl))))
      (pss_cons (ps_for PassesOwn.never rfl (pi_tup (SlX.pe_sl (pv 0))) (pg_tup (by rfl) (pgs_cons (pg_tup (by rfl) (pgs_cons (pg_name (i := 4) sc_least_packet.nd rfl (Or.inl rfl)) (pgs_cons (pg_name (i := 5) sc_least_packet.nd rfl (Or.inl rfl)) pgs_nil))) (pgs_cons (pg_name (i := 6) sc_least_packet.nd rfl (Or.inl rfl)) pgs_nil)))
       (pss_one (ps_asg (pe_ix ix_list (pv 2) (pv 6) (fun _ _ => rfl)) (pg_sub (pv 3) (pe_op op_add (pe_ix ix_list (pv 2) (pv 4) (fun _ _ => rfl)) (pv 5)) set_list))))
      (pss_one (ps_ret (pe_callTy call_tuple_of (by rfl) T.z_tuple bz_tuple (pa_cons (pv 3) pa_nil))))))), ?_⟩
    refine ⟨.ref r, rfl, r, N, ndx, n0, _, 0, .ref m, rfl, nsl, T_Near.c, T_Near.s0, rfl, m, _, 0, .ref r0, rfl, rfl, SqL.of X.top, atI_nat (j := 0) a2, r0, rfl, ⟨_, SqL.of a3⟩, fun D hD => ?_⟩
    have nDr : r0 ≠ D := ne_of_none a3 hD
    refine lc_list (K := K) (a := r0) (xs := L2.T34.rowV w.many M 0) (fun i H' => Old [] H H' ∧ H' D = some (.lst (((PW.lows w.many M).take i).map V.int))) ⟨Old.new0 hD, upd_same⟩ (fun i H' _ h => SqL.of (h.1 _ _ (by simp) a3)) ?_ ?_
    · rintro i y H1 hy ⟨o1, h1⟩
      have hi : i < w.many := by have := (List.getElem?_eq_some_iff.mp hy).1; rwa [L2.T34.rowV_len] at this
      rw [L2.T34.rowV_get hi, hlow i hi] at hy
      cases hy
      have hlen : (PW.lows w.many M).length = w.many := by unfold PW.lows; rw [List.length_map, List.length_range]
      have hil : i < (PW.lows w.many M).length := by rw [hlen]; exact hi
      refine ⟨rfl, .int (-(PW.lows w.many M).getD i 0), rfl, _, rfl, _, h1, ?_, o1.put0 hD, ?_⟩
      · rw [List.length_map, List.length_take, hlen]; show _ < 2 ^ 24; omega
      · rw [upd_same, List.take_succ_eq_append_getElem hil, List.map_append, List.getD_eq_getElem?_getD, List.getElem?_eq_getElem hil]
        show some (HO.lst (_ ++ [V.int (- -(PW.lows w.many M)[i])])) = _
        rw [Int.neg_neg]; rfl
    rintro H1 ⟨o1, h1⟩
    have hlen : (PW.lows w.many M).length = w.many := by unfold PW.lows; rw [List.length_map, List.length_range]
    have l1 := PW.lows_1 core cl
    have lin : ∀ {p : PW.Tm} {u : Nat}, (p, u) ∈ w.cells → 0 ≤ (PW.lows w.many M).getD p.1 0 + p.2 ∧ (PW.lows w.many M).getD p.1 0 + p.2 < (PW.lows w.many M).getD 1 0 := fun h => PW.lows_in core cl h
    have h1 : H1 D = some (.lst ((PW.lows w.many M).map V.int)) := by
      have e : (PW.lows w.many M).take (L2.T34.rowV w.many M 0).length = PW.lows w.many M := by rw [L2.T34.rowV_len]; exact List.take_of_length_le (Nat.le_of_eq hlen)
      rw [e] at h1; exact h1
    have el' : PW.leastF (PW.lows w.many M) w.cells = PW.setAll (List.replicate ((PW.lows w.many M).getD 1 0).toNat 0) (w.cells.map (PW.spot (PW.lows w.many M))) := rfl
    rw [el'] at q
    clear el'
    generalize PW.lows w.many M = vs at hlen l1 lin h1 q
    have g : ∀ v, v < w.many → (vs.map V.int)[v]? = some (.int (vs.getD v 0)) := fun v hv => by
      have hv' : v < vs.length := by rw [hlen]; exact hv
      rw [List.getElem?_map, List.getElem?_eq_getElem hv', List.getD_eq_getElem?_getD, List.getElem?_eq_getElem hv']; rfl
    have g1 := g 1 (by omega)
    refine ⟨by show 1 ≤ sizeLine; decide, fun u nu => ?_⟩
    have nDu : D ≠ u := ne_of_none h1 nu
    have hD2 : (upd H1 u (.lst [.int 0])) D = some (.lst (vs.map V.int)) := by rw [upd_ne nDu]; exact h1
    refine ⟨.ref D, rfl, D, _, 1, .int (vs.getD 1 0), rfl, rfl, SqL.of hD2, atI_nat (j := 1) g1, u, vs.getD 1 0, _, rfl, rfl, upd_same, by omega, by omega, by show 1 * _ ≤ 2 ^ 24; omega, fun p np => ?_⟩
    have o2 : Old [] H (upd (upd H1 u (.lst [.int 0])) p (.lst (List.replicate (vs.getD 1 0).toNat [V.int 0]).flatten)) := (o1.new nu).new np
    have hp2 : (upd (upd H1 u (.lst [.int 0])) p (.lst (List.replicate (vs.getD 1 0).toNat [V.int 0]).flatten)) p = some (.lst ((PW.setAll (List.replicate (vs.getD 1 0).toNat 0) []).map V.int)) := by
      have e : (List.replicate (vs.getD 1 0).toNat [V.int 0]).flatten = (PW.setAll (List.replicate (vs.getD 1 0).toNat 0) []).map V.int := by
        show _ = (List.replicate (vs.getD 1 0).toNat (0 : Int)).map V.int
        rw [List.map_replicate, List.flatten_replicate_singleton]
      rw [upd_same, e]
    have nDp : D ≠ p := ne_of_none hD2 np
    have hD3 : (upd (upd H1 u (.lst [.int 0])) p (.lst (List.replicate (vs.getD 1 0).toNat [V.int 0]).flatten)) D = some (.lst (vs.map V.int)) := by rw [upd_ne nDp]; exact hD2
    have hp0 : H p = none := (o1.new nu).free np (by simp)
    generalize upd (upd H1 u (.lst [.int 0])) p (.lst (List.replicate (vs.getD 1 0).toNat [V.int 0]).flatten) = H2 at o2 hp2 hD3 ⊢
    clear nu np hD2 h1 o1
    have sl2 := Slt.same o2.same sl
    refine ⟨.ref a, rfl, a, C, dx, p3, _, 3, x.l, rfl, sl2, TW.c, TW.s3, rfl, l, el, ⟨_, (o2.tk NoTup.nil).seq sl3⟩, for_tup (K := K) (a := l) (xs := ls) (fun i σ H' => ∃ (y4 y5 y6 : Option V), σ = [some (.ref a), some (.ref r), some (.ref D), some (.ref p), y4, y5, y6] ∧ Old [] H H' ∧ H' D = some (.lst (vs.map V.int)) ∧
        H' p = some (.lst ((PW.setAll (List.replicate (vs.getD 1 0).toNat 0) ((w.cells.take i).map (PW.spot vs))).map V.int)))
      ⟨none, none, none, rfl, o2, hD3, hp2⟩ (fun i σ H' _ ⟨_, _, _, _, o, _⟩ => (o.tk NoTup.nil).seq sl3) ?_ ?_⟩
    · rintro i y σ H3 hy ⟨y4, y5, y6, rfl, o3, hD4, hp4⟩
      have hi : i < w.cells.length := by rw [← hll]; exact (List.getElem?_eq_some_iff.mp hy).1
      have ec : w.cells[i]? = some (w.cells[i].1, w.cells[i].2) := List.getElem?_eq_getElem hi
      obtain ⟨ca, cu, g2, g3, g4⟩ := hlg i _ _ ec
      rw [hy] at g2
      cases g2
      have tk := o3.tk NoTup.nil
      obtain ⟨cu', ecu, scu⟩ := tm_at (PL.Dp.keep tk _ _ rfl g4)
      cases ecu
      have htk : w.cells.take (i + 1) = w.cells.take i ++ [w.cells[i]] := List.take_succ_eq_append_getElem hi
      have hc := core.cell i _ _ ec
      have rg := lin (p := w.cells[i].1) (u := w.cells[i].2) (List.getElem_mem hi)
      refine ⟨ca, _, rfl, tk.seq g3, rfl, _, _, rfl, cu, _, rfl, scu, rfl, _, _, rfl, _, _, rfl, rfl, _, _, rfl, rfl, ?_⟩
      generalize w.cells[i] = c at htk hc rg
      obtain ⟨⟨pv, pn⟩, cv⟩ := c
      have hcv : cv = 2 + i := hc.1
      have hpv : pv < 2 + i := hc.2
      have gc := g cv (by omega)
      have gp := g pv (by omega)
      have r1 : 0 ≤ vs.getD pv 0 + pn := rg.1
      have r2 : vs.getD pv 0 + pn < vs.getD 1 0 := rg.2
      have hpl : ((PW.setAll (List.replicate (vs.getD 1 0).toNat 0) ((w.cells.take i).map (PW.spot vs))).map V.int).length = (vs.getD 1 0).toNat := by rw [List.length_map, PW.setAll_len, List.length_replicate]
      have ixk : ixN ((PW.setAll (List.replicate (vs.getD 1 0).toNat 0) ((w.cells.take i).map (PW.spot vs))).map V.int).length (vs.getD pv 0 + pn) = some (vs.getD pv 0 + pn).toNat := by
        unfold ixN; rw [if_pos (by omega), if_pos (by rw [hpl]; omega)]
      refine ⟨.ref D, rfl, .int (cv : Int), rfl, D, _, _, _, rfl, rfl, SqL.of hD4, atI_nat gc, .ref p, rfl, .ref D, rfl, .int (pv : Int), rfl, D, _, _, _, rfl, rfl, SqL.of hD4, atI_nat gp, .int pn, rfl, _, _, rfl, rfl, p, _, _, _, rfl, rfl, hp4, ixk, ?_⟩
      refine ⟨_, _, _, rfl, o3.put0 hp0, by rw [upd_ne nDp]; exact hD4, ?_⟩
      rw [upd_same, htk, List.map_append]
      unfold PW.setAll
      rw [List.foldl_append, ← List.map_set]
      rfl
    · rintro σ H3 ⟨y4, y5, y6, rfl, o3, hD4, hp4⟩
      rw [hll, List.take_length] at hp4
      refine ⟨.ref p, rfl, p, _, rfl, .inl ⟨SqL.of hp4, fun t nt => ?_⟩⟩
      refine q _ t (o3.new nt) (.tup (SqT.of upd_same) ?_)
      exact PL.Dp.ofInts _
end
end L2.T39

namespace L2.T39
open PySem PySem.Spec PyProof.Rows L2.PL
theorem lok_of {is : List PR.Ins} (L : Lns is) : PW.LOk is := ⟨L.len, L.ok⟩
def spPkAlong (K : PySem.W.Frag) (C : Addr) : Sp := fun vs H Q _ => ∃ (p : Addr) (u : V) (is : List PR.Ins) (cs : List Nat) (w : PW.Wk), vs = [.ref p, u] ∧ ProgAt K C H p is ∧ Lns is ∧ Dp K H u (chD cs) ∧ Right [is] cs w ∧
  (¬ PD.Feas w.bounds → ∀ H', Old [] H H' → Q .non H') ∧
  (∀ M, PD.Cl w.many w.bounds M → ∀ H' t, Old [] H H' → Dp K H' (.ref t) (pkD (PW.leastF (PW.lows w.many M) w.cells)) → Q (.ref t) H')
def spAlong (K : PySem.W.Frag) (C : Addr) : Sp := fun vs H Q _ => ∃ (p : Addr) (v : V) (is : List PR.Ins) (pk : List Int), vs = [.ref p, v] ∧ ProgAt K C H p is ∧ Lns is ∧ Dp K H v (pkD pk) ∧ PkOk pk ∧
  ∀ H' t cs w, Old [] H H' → Dp K H' (.ref t) (chD cs) → cs.length ≤ 1000000 → Right [is] cs w → PW.Fit pk w → Q (.ref t) H'
section
variable {P : Program} {w : World} {K : PySem.W.Frag} {mg : Str → Option Value} {base : Heap} {CP C N q0 q1 p0 p1 p2 p3 p4 p5 p6 p7 p8 p9 n0 : Addr}
/-! packet_along: slots program=0 choices=1 walk=2 near=3; cells [] -/
abbrev s_packet_along : Stmt := topS 45
abbrev N_packet_along : List Str := ["program", "choices", "walk", "near"]
theorem sc_packet_along : FnScope N_packet_along ["program", "choices"] (defScope s_packet_along) := ⟨rfl, rfl, rfl, by decide +kernel, rfl, by decide +kernel, by decide +kernel⟩
theorem ok_packet_along {f : Addr} {fd : FuncData} (F : Fun K "packet_along" "packet_along" s_packet_along f fd) (T_Program : PrT K CP q0 q1) (P_Program_lines : PrC P w K mg base CX0 CP "lines" 1 (spLines K CP)) (T_Walk : WkT K C p0 p1 p2 p3 p4 p5 p6 p7 p8 p9) (T_Near : NrT K N n0)
    (C_walk_by : Cal P w K mg base CX0 "walk_by" ["programs", "choices"] 5 (spWalkBy K C)) (M_Near : MkC P w K mg base CX0 "Near" N ["self", "sums"] 1 (spNrInit K N)) (M_Near_with_bounds : MtC P w K mg base CX0 N "with_bounds" ["self", "many", "bounds"] 3 (spWithB K N))
    (C_least_packet : Cal P w K mg base CX0 "least_packet" ["walk", "near"] 1 (spLeast K C N)) : FnOk P w K mg base CX0 6 f fd ["program", "choices"] (spPkAlong K CP) := by
  refine F.ok sc_packet_along (fun vs H Q E h => ?_) (fun cdv A outer s H vs Q E hr h => ?_)
  · obtain ⟨p, u, is, cs, w, rfl, _⟩ := h
    rfl
  · obtain ⟨p, u, is, cs, w, rfl, pr, L, du, rt, q1, q2⟩ := h
    have TW := T_Walk
    obtain ⟨pdx, pt, psl, pd⟩ := pr.ex
    refine ⟨_, (pss_cons (ps_set (i := 2) sc_packet_along.nd rfl (.inl rfl) (pe_cal C_walk_by hr (by rfl) pass0 (pa_cons (pe_tup (pa_cons (pe_prC P_Program_lines (pv 0) T_Program.c hr) pa_nil)) (pa_cons (pv 1) pa_nil))))
      (pss_cons (ps_set (i := 3) sc_packet_along.nd rfl (.inl rfl) (pe_metC M_Near_with_bounds (pe_makC M_Near hr (by rfl) pass0 (pa_cons (pe_lst pa_nil) pa_nil)) T_Near.c hr pass0 (pa_cons (SlX.pe_sl (pv 2)) (pa_cons (SlX.pe_sl (pv 2)) pa_nil))))
      (pss_one (ps_ret (pe_ifExp (pt_cmpR op_isN (pv 3) pe_non (nomark _)) pe_non (pe_cal C_least_packet hr (by rfl) pass0 (pa_cons (pv 2) (pa_cons (pv 3) pa_nil)))))))), ?_⟩
    have lps : ∀ is' ∈ [is], PW.LOk is' := fun is' h => by rw [List.mem_singleton.mp h]; exact lok_of L
    have gd : Gd [is] w := (Gd.start lps (by show 1 ≤ 4; decide)).reach rt.1
    have core := gd.ok.core
    refine ⟨.ref p, rfl, p, pdx, _, rfl, psl, p, pdx, _, _, rfl, psl, by show 1 ≤ sizeLine; decide, fun t nt => ?_⟩
    have o1 : Old [] H (upd H t (.tup [.ref pt])) := Old.new0 nt
    have d1 : Dp K (upd H t (.tup [.ref pt])) (.ref t) (progsD [is]) := dp1 upd_same (PL.Dp.keep (o1.tk NoTup.nil) _ _ (linesD_only is) pd)
    have du1 := PL.Dp.keep (o1.tk NoTup.nil) _ _ (chD_only cs) du
    generalize upd H t (.tup [.ref pt]) = H1 at o1 d1 du1 ⊢
    refine ⟨u, rfl, .ref t, u, [is], cs, w, rfl, d1, du1, lps, by show 1 ≤ 4; decide, rt, fun H2 a dx kd o2 na nx nk hw => ?_⟩
    refine ⟨Nat.zero_le _, fun e ne => fun r dr nr ndr nn => ?_⟩
    have he3 : (upd H2 e (.lst [])) e = some (.lst []) := upd_same
    have o3 : Old [] H2 (upd H2 e (.lst [])) := Old.new0 ne
    generalize upd H2 e (.lst []) = H3 at he3 o3 nr ndr ⊢
    have o34 : Old [] H3 (upd (upd H3 dr (.own r)) r (.ins N dr [])) := (Old.new0 ndr).put0 nr
    refine ⟨H3, r, dr, .ref e, rfl, o34, nr, ndr, nn, upd_same, by rw [upd_ne nn, upd_same], fun H4 o4 _ sl4 => ⟨rfl, ?_⟩⟩
    have o24 := o3.trans o4
    have he4 := o4 _ _ (by simp) he3
    have hw4 := hw.keep o24
    obtain ⟨x, sl, U⟩ := hw4.slt
    refine ⟨r, dr, _, rfl, sl4, .ref a, rfl, a, C, dx, p5, _, 5, _, rfl, sl, TW.c, TW.s5, rfl, .ref a, rfl, a, C, dx, p1, _, 1, _, rfl, sl, TW.c, TW.s1, rfl, ?_⟩
    have o04 := (o1.trans o2).trans o24
    have key := PD.inTo_cl w.bounds [] (fun x y => if x = y then some 0 else none) (PD.Cl.zero w.many) core.var
    refine ⟨r, e, w.many, x.b, w.bounds, rfl, ⟨dr, sl4⟩, he4, U.b, core.var, by have := gd.cells; have := core.many; omega, fun z H5 o5 => ?_, fun M z H5 r' m rs o5 nr' na' X' => ?_⟩
    · rw [z] at key
      exact ⟨.non, rfl, rfl, true, rfl, iteT (q1 key H5 (o04.trans o5))⟩
    · rw [z] at key
      exact ⟨.ref r', rfl, rfl, false, rfl, iteF ⟨.ref a, rfl, .ref r', rfl, H4, a, dx, kd, r', m, rs, [is], w, M, rfl, hw4.keep o5, na', X', gd, key, fun H6 t6 o6 d6 => q2 M key H6 t6 ((o04.trans o5).trans o6) d6⟩⟩
end
end L2.T39

namespace L2.T39
open PySem PySem.Spec PyProof.Rows L2.PL
theorem walk_enumT {K : PySem.W.Frag} {a : Addr} {xs : List V} : Walk (IteT K a) xs.length (fun H => SqT K H a xs) (YPair (fun i => some (.int (i : Nat))) (fun i => xs[i]?)) := by
  refine ⟨fun i _ hi q => ⟨xs, xs[i], q, by simp [hi]⟩, fun _ q => ⟨xs, q, rfl⟩, fun i H v H' _ q y => ?_⟩
  obtain ⟨T, x, h1, h2, h3, h4⟩ := y
  exact ⟨T, .int (i : Nat), x, h1, h2, h3, rfl, h4 xs q⟩
abbrev sc1_along : Scope := relS { kind := .function, names := [(PySem.Str.ofString ".0", .local), (PySem.Str.ofString "number", .local), (PySem.Str.ofString "bounds", .local), (PySem.Str.ofString "all", .globalImplicit), (PySem.Str.ofString "values", .free)], isGenerator := false, isCoroutine := false, more := [] } (defScope (topS 43))
/-- does an alternative fit -/
def fitB (f : Nat → Int) (bs : List PW.Bd) : Bool := (bs.map fun b => decide (f b.1 - f b.2.1 ≤ b.2.2)).all id
theorem fitB_iff {f : Nat → Int} {bs : List PW.Bd} : fitB f bs = true ↔ PD.Vals bs f := by
  unfold fitB
  rw [List.all_eq_true]
  constructor
  · intro h b hb
    exact of_decide_eq_true (h _ (List.mem_map.mpr ⟨b, hb, rfl⟩))
  · intro h x hx
    obtain ⟨b, hb, rfl⟩ := List.mem_map.mp hx
    exact decide_eq_true (h b hb)
def fits (f : Nat → Int) (os : List (List PW.Bd)) (i : Nat) : List Nat := (List.range i).filter fun k => fitB f ((os[k]?).getD [])
theorem fits_succ (f : Nat → Int) (os : List (List PW.Bd)) (i : Nat) : fits f os (i + 1) = fits f os i ++ if fitB f ((os[i]?).getD []) = true then [i] else [] := by
  unfold fits
  rw [List.range_succ, List.filter_append]
  congr 1
  by_cases h : fitB f ((os[i]?).getD []) = true
  · rw [if_pos h]; simp [h]
  · rw [if_neg h]; simp [h]
theorem fits_len (f : Nat → Int) (os : List (List PW.Bd)) (i : Nat) : (fits f os i).length ≤ i := by
  have := List.length_filter_le (fun k => fitB f ((os[k]?).getD [])) (List.range i)
  rw [List.length_range] at this
  exact this
theorem fits_head {f : Nat → Int} {os : List (List PW.Bd)} {c : Nat} (hc : c < os.length) (h : PD.Vals os[c] f) : ∃ d r, fits f os os.length = d :: r ∧ d < os.length ∧ PD.Vals ((os[d]?).getD []) f := by
  have hm : c ∈ fits f os os.length := by
    unfold fits
    rw [List.mem_filter]
    refine ⟨List.mem_range.mpr hc, ?_⟩
    rw [List.getElem?_eq_getElem hc]
    exact fitB_iff.mpr h
  cases e : fits f os os.length with
  | nil => rw [e] at hm; cases hm
  | cons d r =>
    have hd : d ∈ fits f os os.length := by rw [e]; exact List.mem_cons_self
    unfold fits at hd
    rw [List.mem_filter] at hd
    exact ⟨d, r, rfl, List.mem_range.mp hd.1, fitB_iff.mp hd.2⟩
section
variable {P : Program} {w : World} {K : PySem.W.Frag} {mg : Str → Option Value} {base : Heap} {CP C q0 q1 p0 p1 p2 p3 p4 p5 p6 p7 p8 p9 : Addr}
/-! along: slots program=0 packet=1 walk=2 choices=3 values=4 fit=5 number=6 bounds=7 x=8 y=9 c=10; cells ['values'] -/
abbrev s_along : Stmt := topS 43
abbrev N_along : List Str := ["program", "packet", "walk", "choices", "values", "fit", "number", "bounds", "x", "y", "c"]
theorem sc_along : FnScope N_along ["program", "packet"] (defScope s_along) := ⟨rfl, rfl, rfl, by decide +kernel, rfl, by decide +kernel, by decide +kernel⟩
theorem ok_along {f : Addr} {fd : FuncData} (F : Fun K "along" "along" s_along f fd) (T : Tx mg) (T_Program : PrT K CP q0 q1) (P_Program_lines : PrC P w K mg base CX0 CP "lines" 1 (spLines K CP)) (T_Walk : WkT K C p0 p1 p2 p3 p4 p5 p6 p7 p8 p9)
    (C_look_at_packet : Cal P w K mg base CX0 "look_at_packet" ["packet"] 3 (spLookPk K)) (M_Walk : MkC P w K mg base CX0 "Walk" C ["self", "programs"] 1 (spWkInit K C)) (M_Walk_go : MtC P w K mg base CX0 C "go" ["self"] 4 (spGo K C)) (M_Walk_take : MtC P w K mg base CX0 C "take" ["self", "number"] 3 (spTake_ K C))
    (C_values_of : Cal P w K mg base CX0 "values_of" ["walk", "packet"] 1 (spValues K C)) : FnOk P w K mg base CX0 5 f fd ["program", "packet"] (spAlong K CP) := by
  refine F.ok sc_along (fun vs H Q E h => ?_) (fun cdv A outer s H vs Q E hr h => ?_)
  · obtain ⟨p, v, is, pk, rfl, _⟩ := h
    rfl
  · obtain ⟨p, v, is, pk, rfl, pr, L, dv, pok, q⟩ := h
    have TW := T_Walk
    obtain ⟨pdx, pt, psl, pd⟩ := pr.ex
    have lps : ∀ is' ∈ [is], PW.LOk is' := fun is' h => by rw [List.mem_singleton.mp h]; exact lok_of L
    have gd0 : Gd [is] PW.start := Gd.start lps (by show 1 ≤ 4; decide)
    have m0 : PW.mu [is] PW.start ≤ 1000000 := by
      show 1 * (201 * (402 * 1 + 410)) + 200 * (402 * 1 + 410) + 5 ≤ 1000000
      decide
    refine ⟨_, (pss_cons (ps_expr (pe_cal C_look_at_packet hr (by rfl) pass0 (pa_cons (pv 1) pa_nil)))
      (pss_cons (ps_par (i := 2) (j := 3) (by rfl) sc_along.nd rfl rfl (by decide) rfl rfl (pa_cons (pe_makC M_Walk hr (by rfl) pass0 (pa_cons (pe_tup (pa_cons (pe_prC P_Program_lines (pv 0) T_Program.c hr) pa_nil)) pa_nil)) (pa_cons (pe_tup pa_nil) pa_nil)) (by rfl))
      (pss_cons (ps_expr (pe_metC0 M_Walk_go (pv 2) T_Walk.c hr pass0))
      (pss_cons (ps_while PassesOwn.never (pt_cmpR op_notN (SlX.pe_sl (pv 2)) pe_non (nomark _))
       (pss_cons (ps_set (i := 4) sc_along.nd rfl (.inr rfl) (pe_cal C_values_of hr (by rfl) pass0 (pa_cons (pv 2) (pa_cons (pv 1) pa_nil))))
        (pss_cons (ps_setLc (i := 5) (own := [("number", 6), ("bounds", 7)]) (g := gTup K 2 (gCons (gName 6) (gCons (gName 7) gNil))) (tt := _) rfl sc_along.nd rfl rfl (sw_true rfl rfl rfl (by decide +kernel)) (pi_enumT (by rfl) T.z_enumerate (pa_cons (SlX.pe_sl (pv 2)) pa_nil)) (blkOk_by (N := N_along) (sc := defScope s_along) (by decide +kernel)) (fun _ _ _ _ _ => (pg_tup (by rfl) (pgs_cons (pg_name (i := 6) sc_along.nd rfl (Or.inl rfl)) (pgs_cons (pg_name (i := 7) sc_along.nd rfl (Or.inl rfl)) pgs_nil)))) (fun _ _ _ _ _ => pts_one (pt_val (pe_callB (cr_allK (K := K) rfl) (by rfl) T.z_all bz_all (pa_cons (pe_lc (own := [("x", 8), ("y", 9), ("c", 10)]) (g := gTup K 3 (gCons (gName 8) (gCons (gName 9) (gCons (gName 10) gNil)))) (tt := tYes) rfl sc_along.nd ((pi_tupK (K := K)) (pv 7)) (blkOk_by (N := N_along) (sc := sc1_along) (by decide +kernel)) (fun _ _ _ _ _ => (pg_tup (by rfl) (pgs_cons (pg_name (i := 8) sc_along.nd rfl (Or.inl rfl)) (pgs_cons (pg_name (i := 9) sc_along.nd rfl (Or.inl rfl)) (pgs_cons (pg_name (i := 10) sc_along.nd rfl (Or.inl rfl)) pgs_nil))))) (fun _ _ _ _ _ => pts_nil) (fun _ _ _ _ _ => (pe_cmpR op_le (pe_op op_sub (pe_ix (ix_listK (K := K)) (pv 4) (pv 8) (fun _ _ => rfl)) (pe_ix (ix_listK (K := K)) (pv 4) (pv 9) (fun _ _ => rfl))) (pv 10) (nomark _)))) pa_nil)))) (fun _ _ _ _ _ => (pv 6)))
        (pss_cons (ps_aug (i := 3) sc_along.nd rfl (.inl rfl) (pe_tup (pa_cons (pe_ix ix_list (pv 5) pe_int (fun _ _ => rfl)) pa_nil)) ip_catA)
        (pss_cons (ps_expr (pe_metC M_Walk_take (pv 2) T_Walk.c hr pass0 (pa_cons (pe_ix ix_list (pv 5) pe_int (fun _ _ => rfl)) pa_nil)))
        (pss_one (ps_expr (pe_metC0 M_Walk_go (pv 2) T_Walk.c hr pass0))))))))
      (pss_one (ps_ret (pv 3))))))), ?_⟩
    refine ⟨v, rfl, v, pk, rfl, dv, pok, fun H1 o1 => ?_⟩
    have psl1 := Slt.same o1.same psl
    refine ⟨.ref p, rfl, p, pdx, _, rfl, psl1, p, pdx, _, _, rfl, psl1, by show 1 ≤ sizeLine; decide, fun t nt => fun a dx na ndx nn => ?_⟩
    have o2 : Old [] H (upd H1 t (.tup [.ref pt])) := o1.new nt
    have d2 : Dp K (upd H1 t (.tup [.ref pt])) (.ref t) (progsD [is]) := dp1 upd_same (PL.Dp.keep (o2.tk NoTup.nil) _ _ (linesD_only is) pd)
    generalize upd H1 t (.tup [.ref pt]) = H2 at o2 d2 na ndx ⊢
    have o3 : Old [] H2 (upd (upd H2 dx (.own a)) a (.ins C dx [])) := (Old.new0 ndx).put0 na
    refine ⟨H2, a, dx, .ref t, [is], rfl, PL.Dp.keep (o3.tk NoTup.nil) _ _ (progsD_only _) d2, o3, na, ndx, nn, upd_same, by rw [upd_ne nn, upd_same], fun H3 kd o4 hkd hw => ⟨rfl, ?_⟩⟩
    have na0 := o2.free na (by simp)
    have nx0 := o2.free ndx (by simp)
    have nk0 := o2.free hkd (by simp)
    refine ⟨Nat.zero_le _, fun ch nch => ⟨_, _, rfl, ?_⟩⟩
    have o5 : Old [] H (upd H3 ch (.tup [])) := (o2.trans o4).new nch
    have dch : Dp K (upd H3 ch (.tup [])) (.ref ch) (chD []) := .tup (SqT.of upd_same) .nil
    have hw5 := hw.keep (Old.new0 (o := HO.tup []) nch)
    generalize upd H3 ch (.tup []) = H5 at o5 dch hw5 ⊢
    obtain ⟨x, sl, U⟩ := hw5.slt
    refine ⟨.ref a, rfl, a, dx, _, rfl, sl, a, dx, kd, [is], PW.start, rfl, hw5, gd0, fun w1 re1 hs1 H6 kd1 f1 hw1 => ?_⟩
    obtain ⟨o6, hkd1⟩ := f1.from o5 na0 nx0 nk0
    obtain ⟨_, kv5, R5, _⟩ := hw5.ex
    have dch6 := PL.Dp.keep (R5.tk f1.old) _ _ (chD_only []) dch
    have fit1 : PW.Fit pk w1 := PW.Fit.reach0 lps (pkIs pok) gd0.ok (PW.Fit.start (pkIs pok)) re1
    have mu1 := (PW.reach_mu lps gd0.ok (re1 [])).1
    refine ⟨fun m σ H' => ∃ (kd' : Addr) (w' : PW.Wk) (ch : Addr) (cs : List Nat) (y4 y5 : Option V), σ = [some (.ref p), some v, some (.ref a), some (.ref ch), y4, y5, none, none, none, none, none] ∧ Old [] H H' ∧ H kd' = none ∧ WkAt K H' C a dx kd' [is] w' ∧ Gd [is] w' ∧ PW.Fit pk w' ∧
        (∀ r, PW.Reach [is] PW.start (cs ++ r) w' r) ∧ (w'.options.isSome = true ∨ w'.ends.length = [is].length) ∧ Dp K H' (.ref ch) (chD cs) ∧ cs.length + PW.mu [is] w' ≤ 1000000 ∧ m = PW.mu [is] w',
      ⟨_, kd1, w1, ch, [], none, none, rfl, o6, hkd1, hw1, gd0.reach (re1 []), fit1, fun r => re1 r, hs1, dch6, by show 0 + _ ≤ _; omega, rfl⟩, ?_⟩
    clear dch6 mu1 fit1 hkd1 o6 hw1 f1 hs1 re1 R5 hw5 dch o5 nch U sl x
    rintro m σ H7 ⟨kd', w', ch, cs, y4, y5, rfl, o7, hk7, hw7, gd7, fit7, re7, hs7, dch7, hl7, rfl⟩
    obtain ⟨x, sl, U⟩ := hw7.slt
    have Uo := U.o
    refine ⟨.ref a, rfl, a, C, dx, p6, _, 6, x.o, rfl, sl, TW.c, TW.s6, rfl, rfl, ?_⟩
    cases ho : w'.options with
    | none =>
      rw [ho] at Uo
      have Uo : x.o = .non := Uo
      refine ⟨false, by rw [Uo]; rfl, iteF ?_⟩
      have he : w'.ends.length = [is].length := by
        rcases hs7 with z | z
        · rw [ho] at z; cases z
        · exact z
      have r7 := re7 []
      rw [List.append_nil] at r7
      exact ⟨.ref ch, rfl, q H7 ch cs w' o7 dch7 (by omega) ⟨r7, PW.halt_end ho he⟩ fit7⟩
    | some os =>
      rw [ho] at Uo
      obtain ⟨ob, oxs, eo, so, hol, hog⟩ := opts_at Uo
      refine ⟨true, by rw [eo]; rfl, iteT ?_⟩
      obtain ⟨c0, hc0, hv0⟩ := PW.fit_some gd7.ok fit7 ho
      obtain ⟨d, rest, hfs, hd, hvd⟩ := fits_head hc0 hv0
      refine ⟨fun σ H' => ∃ (kd'' : Addr) (w'' : PW.Wk) (ch : Addr) (cs : List Nat) (y4 y5 : Option V), σ = [some (.ref p), some v, some (.ref a), some (.ref ch), y4, y5, none, none, none, none, none] ∧ Old [] H H' ∧ H kd'' = none ∧ WkAt K H' C a dx kd'' [is] w'' ∧ Gd [is] w'' ∧ PW.Fit pk w'' ∧
          (∀ r, PW.Reach [is] PW.start (cs ++ r) w'' r) ∧ (w''.options.isSome = true ∨ w''.ends.length = [is].length) ∧ Dp K H' (.ref ch) (chD cs) ∧ cs.length + PW.mu [is] w'' ≤ 1000000 ∧ PW.mu [is] w'' < PW.mu [is] w', ?_, ?_⟩
      · rintro σ' H' ⟨kd'', w'', ch, cs, y4, y5, h1, h2, h3, h4, h5, h6, h7, h8, h9, h10, h11⟩
        exact ⟨_, h11, kd'', w'', ch, cs, y4, y5, h1, h2, h3, h4, h5, h6, h7, h8, h9, h10, rfl⟩
      refine ⟨.ref a, rfl, v, rfl, a, dx, kd', [is], w', v, pk, rfl, hw7, PL.Dp.keep (o7.tk NoTup.nil) _ _ (pkD_only pk) dv, pok, gd7, fit7, fun H8 vl o8 nvl hvl => ?_⟩
      have sl8 := Slt.same o8.same sl
      have so8 := (o8.tk NoTup.nil).seq so
      refine ⟨.ref a, rfl, a, C, dx, p6, _, 6, x.o, rfl, sl8, TW.c, TW.s6, rfl, ob, oxs, congrArg (fun v => [v]) eo, so8, fun D hD => ?_⟩
      have core := gd7.ok.core
      have hmany := core.many
      have hvar := PW.opts_lt gd7.ok ho
      have hol2 := PW.opt_len gd7.ok ho
      have hnl : (PW.nums pk w'.cells).length = w'.many := by rw [PW.nums_len, hmany]
      have gval : ∀ u, u < w'.many → ((PW.nums pk w'.cells).map V.int)[u]? = some (.int (PW.vf pk w'.cells u)) := fun u hu => by
        have h3 : u < (PW.nums pk w'.cells).length := by omega
        unfold PW.vf
        rw [List.getElem?_map, List.getElem?_eq_getElem h3, List.getD_eq_getElem?_getD, List.getElem?_eq_getElem h3]; rfl
      have hos3 : os.length ≤ 3 := by
        have O := gd7.ok.opts os ho
        unfold PW.Opts at O
        split at O
        · obtain ⟨_, _, _, _, rfl⟩ := O; exact Nat.le_refl 3
        · obtain ⟨i, _, _, ⟨_, rfl⟩ | ⟨_, rfl⟩⟩ := O
          · unfold PW.testOpts
            simp only
            split
            · exact Nat.le_refl 3
            · show 2 ≤ 3; decide
          · exact Nat.le_refl 3
      have hlen : oxs.length = os.length := hol
      refine lc_it (walk_enumT (K := K) (a := ob) (xs := oxs)) (fun i H' => Old [] H8 H' ∧ H' D = some (.lst ((fits (PW.vf pk w'.cells) os i).map fun c : Nat => V.int (c : Int)))) ⟨Old.new0 hD, upd_same⟩ (fun i H' _ h => (h.1.tk NoTup.nil).seq so8) ?_ ?_
      · rintro i y H9 H10 hi ⟨o9, h9⟩ ⟨t, k, z, rfl, nt, rfl, hk, hz⟩
        rw [hlen] at hi
        cases hk
        obtain ⟨bu, g1, g2⟩ := hog i os[i] (List.getElem?_eq_getElem hi)
        have hz : oxs[i]? = some z := hz
        rw [hz] at g1
        cases g1
        have eos : (os[i]?).getD [] = os[i] := by rw [List.getElem?_eq_getElem hi]; rfl
        have hv := hvar os[i] (List.getElem_mem hi)
        have h2 := hol2 os[i] (List.getElem_mem hi)
        rw [fits_succ, eos]
        clear hz
        generalize os[i] = bs at g2 hv h2 ⊢
        have o10 : Old [] H8 (upd H9 t (.tup [.int (i : Int), z])) := o9.new nt
        have t10 : (upd H9 t (.tup [.int (i : Int), z])) t = some (.tup [.int (i : Int), z]) := upd_same
        have nDt : D ≠ t := ne_of_none h9 nt
        have h10 : (upd H9 t (.tup [.int (i : Int), z])) D = some (.lst ((fits (PW.vf pk w'.cells) os i).map fun c : Nat => V.int (c : Int))) := by rw [upd_ne nDt]; exact h9
        generalize upd H9 t (.tup [.int (i : Int), z]) = H10 at o10 t10 h10 ⊢
        have g3 := PL.Dp.keep ((o8.trans o10).tk NoTup.nil) _ _ (bdsD_only bs) g2
        obtain ⟨bb, bxs, rfl, sbb, hbl, hbg⟩ := bds_get g3
        have hvl10 := o10 _ _ (by simp) hvl
        refine ⟨t, _, rfl, SqT.of t10, rfl, _, _, rfl, _, _, rfl, rfl, rfl, ?_⟩
        refine ⟨.ref bb, rfl, bb, rfl, ⟨_, sbb⟩, fun E hE => ?_⟩
        have nDE : D ≠ E := ne_of_none h10 hE
        refine lc_tup (K := K) (a := bb) (xs := bxs) (fun j H' => Old [] H10 H' ∧ H' E = some (.lst (((bs.take j).map fun b => decide (PW.vf pk w'.cells b.1 - PW.vf pk w'.cells b.2.1 ≤ b.2.2)).map V.bl))) ⟨Old.new0 hE, upd_same⟩ (fun j H' _ h => (h.1.tk NoTup.nil).seq sbb) ?_ ?_
        · rintro j y H11 hy ⟨o11, h11⟩
          have hj : j < bs.length := by rw [← hbl]; exact (List.getElem?_eq_some_iff.mp hy).1
          obtain ⟨r, g4, g5⟩ := hbg j bs[j] (List.getElem?_eq_getElem hj)
          rw [hy] at g4
          cases g4
          have hvj := hv bs[j] (List.getElem_mem hj)
          have htk : bs.take (j + 1) = bs.take j ++ [bs[j]] := List.take_succ_eq_append_getElem hj
          rw [htk]
          generalize bs[j] = e at g5 hvj ⊢
          obtain ⟨x1, x2, x3⟩ := e
          have hvl11 := o11 _ _ (by simp) hvl10
          refine ⟨r, _, rfl, (o11.tk NoTup.nil).seq g5, rfl, _, _, rfl, _, _, rfl, _, _, rfl, rfl, rfl, ?_⟩
          refine ⟨.ref vl, rfl, .int (x1 : Int), rfl, vl, _, _, _, rfl, rfl, SqL.of hvl11, atI_nat (gval x1 hvj.1), .ref vl, rfl, .int (x2 : Int), rfl, vl, _, _, _, rfl, rfl, SqL.of hvl11, atI_nat (gval x2 hvj.2), _, _, rfl, rfl, .int x3, rfl, _, x3, rfl, rfl, _, h11, ?_, o11.put0 hE, ?_⟩
          · rw [List.length_map, List.length_map, List.length_take]; show _ < 2 ^ 24; omega
          · rw [upd_same, List.map_append, List.map_append]; rfl
        · rintro H11 ⟨o11, h11⟩
          rw [hbl, List.take_length] at h11
          have h11D := o11 _ _ (by simp) h10
          refine ⟨E, _, rfl, SqL.of h11, fitB (PW.vf pk w'.cells) bs, rfl, ?_⟩
          cases hfb : fitB (PW.vf pk w'.cells) bs with
          | true =>
            refine iteT ?_
            refine ⟨.int (i : Int), rfl, _, h11D, ?_, (o10.trans o11).put0 hD, ?_⟩
            · rw [List.length_map]; have := fits_len (PW.vf pk w'.cells) os i; show _ < 2 ^ 24; omega
            · rw [upd_same, List.map_append]; rfl
          | false =>
            refine iteF ⟨o10.trans o11, ?_⟩
            rw [h11D]
            simp
      rintro H9 ⟨o9, h9⟩
      rw [hlen, hfs] at h9
      have gh : atI ((d :: rest).map fun c : Nat => V.int (c : Int)) 0 = some (.int (d : Int)) := atI_nat (j := 0) rfl
      have o79 := o8.trans o9
      refine ⟨_, rfl, .ref D, rfl, D, _, 0, .int (d : Int), rfl, rfl, SqL.of h9, gh, by show 1 ≤ sizeLine; decide, fun u nu => ?_⟩
      have o10 : Old [] H7 (upd H9 u (.tup [.int (d : Int)])) := o79.new nu
      have d10 : Dp K (upd H9 u (.tup [.int (d : Int)])) (.ref u) (chD [d]) := dp1 upd_same (.int _)
      have h10 : (upd H9 u (.tup [.int (d : Int)])) D = some (.lst ((d :: rest).map fun c : Nat => V.int (c : Int))) := by rw [upd_ne (ne_of_none h9 nu)]; exact h9
      generalize upd H9 u (.tup [.int (d : Int)]) = H10 at o10 d10 h10 ⊢
      refine cat_dp (PL.Dp.keep (o10.tk NoTup.nil) _ _ (chD_only cs) dch7) d10 (chD_only cs) (chD_only [d]) (by rw [List.length_map]; show _ + 1 ≤ 2 ^ 24; omega) fun H11 v11 o11 d11 => ?_
      rw [← List.map_append] at d11
      obtain ⟨ch', _, rfl, _, _⟩ := dp_tup d11
      have o711 := o10.trans o11
      have hw11 := hw7.keep o711
      obtain ⟨x11, sl11, _⟩ := hw11.slt
      have h11 := o11 _ _ (by simp) h10
      refine ⟨.ref a, rfl, a, dx, _, rfl, sl11, .ref D, rfl, D, _, 0, .int (d : Int), rfl, rfl, SqL.of h11, gh, ?_⟩
      refine ⟨a, dx, kd', [is], w', os, d, rfl, hw11, gd7, ho, hd, fun H12 kd12 f12 hw12 => ?_⟩
      have st : ∀ r, PW.Reach [is] w' (d :: r) (PW.Wk.takeF [is] w' os d) r := fun r => .one (PW.cstep_take ho hd)
      have gd12 := gd7.reach (st [])
      have fit12 := PW.Fit.take (ps := [is]) gd7.ok fit7 (os := os) (c := d) hvd
      obtain ⟨x12, sl12, _⟩ := hw12.slt
      refine ⟨.ref a, rfl, a, dx, _, rfl, sl12, a, dx, kd12, [is], _, rfl, hw12, gd12, fun w13 re13 hs13 H13 kd13 f13 hw13 => ?_⟩
      obtain ⟨o13, hk13⟩ := (f12.trans f13).from (o7.trans o711) na0 nx0 hk7
      have mlt : PW.mu [is] w13 < PW.mu [is] w' := Nat.lt_of_le_of_lt (PW.reach_mu lps gd12.ok (re13 [])).1 (gd7.ok.take lps ho hd).2
      obtain ⟨_, kv11, R11, _⟩ := hw11.ex
      refine ⟨kd13, w13, ch', cs ++ [d], _, _, rfl, o13, hk13, hw13, gd12.reach (re13 []), PW.Fit.reach0 lps (pkIs pok) gd12.ok fit12 re13, fun r => ?_, hs13, PL.Dp.keep (R11.tk (f12.trans f13).old) _ _ (chD_only _) d11, ?_, mlt⟩
      · rw [List.append_assoc]
        exact ((re7 (d :: r)).trans (st r)).trans (re13 r)
      · rw [List.length_append]
        show cs.length + 1 + _ ≤ _
        omega
end
end L2.T39

namespace L2.T39
open PySem PySem.Spec PyProof.Rows L2.PL
/-- a list of lines -/
structure LinesAt (K : PySem.W.Frag) (H : Hp) (l : Addr) (is : List PR.Ins) : Prop where
  ex : ∃ rs, H l = some (.lst rs) ∧ DpAll K H rs (is.map PR.insD)
def spNumber : Sp := fun vs H Q _ => ∃ (a : Addr) (B : Nat), vs = [.ref a] ∧ Pot H a B ∧ B ≤ 1000000 ∧ ∀ H' n, -9999 ≤ n → n ≤ 9999 → Old [a] H H' → Pot H' a (B + 1) → Q (.int n) H'
def spText (K : PySem.W.Frag) : Sp := fun vs H Q _ => ∃ (l : Addr) (is : List PR.Ins), vs = [.ref l] ∧ LinesAt K H l is ∧ Lns is ∧ ∀ H', Old [] H H' → Q (.str (PR.progS is)) H'
def spPacket (K : PySem.W.Frag) : Sp := fun vs H Q _ => ∃ (a : Addr) (B : Nat) (m : Int), vs = [.ref a, .int m] ∧ Pot H a B ∧ B ≤ 900000 ∧ 1 ≤ m ∧ m ≤ 24 ∧ ∀ H' t pk, PkOk pk → Old [a] H H' → Pot H' a (B + 60) → Dp K H' (.ref t) (pkD pk) → Q (.ref t) H'
section
variable {P : Program} {w : World} {K : PySem.W.Frag} {mg : Str → Option Value} {base : Heap}
/-! _law_number: slots pot=0; cells [] -/
abbrev s_l_number : Stmt := topS 52
abbrev N_l_number : List Str := ["pot"]
theorem sc_l_number : FnScope N_l_number ["pot"] (defScope s_l_number) := ⟨rfl, rfl, rfl, by decide +kernel, rfl, by decide +kernel, by decide +kernel⟩
theorem ok_number {f : Addr} {fd : FuncData} (F : Fun K "_law_number" "_law_number" s_l_number f fd) (T : Bt mg) (C_l_of : Cal P w K mg base CX0 "_law_of" ["pot", "some"] 2 (spOf K)) : FnOk P w K mg base CX0 3 f fd ["pot"] spNumber := by
  refine F.ok sc_l_number (fun vs H Q E h => ?_) (fun cdv A outer s H vs Q E hr h => ?_)
  · obtain ⟨a, B, rfl, _⟩ := h
    rfl
  · obtain ⟨a, B, rfl, hP, hB, q⟩ := h
    refine ⟨_, (pss_one (ps_ret (pe_callTy call_int1 (by rfl) T.z_int bz_int (pa_cons (pe_cal C_l_of hr (by rfl) pass0 (pa_cons (pv 0) (pa_cons (pe_lst (pa_cons pe_int (pa_cons pe_int (pa_cons pe_int (pa_cons pe_int (pa_cons pe_int (pa_cons pe_int (pa_cons (pe_un un_neg pe_int) (pa_cons (pe_un un_neg pe_int) (pa_cons pe_int (pa_cons pe_int (pa_cons pe_int (pa_cons pe_int (pa_cons pe_int (pa_cons pe_int (pa_cons pe_int (pa_cons (pe_un un_neg pe_int) (pa_cons pe_int pa_nil)))))))))))))))))) pa_nil))) pa_nil)))), ?_⟩
    refine ⟨.ref a, rfl, 1, rfl, 2, rfl, 9999, rfl, (by show 17 ≤ sizeLine; decide), fun l nl => ?_⟩
    have nal : a ≠ l := hP.ne nl
    have oL : Old [] H (upd H l (.lst [.int 0, .int 0, .int 1, .int 1, .int 2, .int 3, .int (-1), .int (-2), .int 5, .int 23, .int 24, .int 100, .int 254, .int 255, .int 256, .int (-9999), .int 9999])) := Old.new0 nl
    refine ⟨a, l, _, B, rfl, hP.old oL (by simp), SqL.of upd_same, nal.symm, by show 0 < 17; decide, by show 17 < 1000; decide, hB, fun H1 x hx o1 p1 => ?_⟩
    obtain ⟨n, rfl, n1, n2⟩ : ∃ n : Int, x = .int n ∧ -9999 ≤ n ∧ n ≤ 9999 := by
      simp only [List.mem_cons, List.not_mem_nil, or_false] at hx
      rcases hx with rfl | rfl | rfl | rfl | rfl | rfl | rfl | rfl | rfl | rfl | rfl | rfl | rfl | rfl | rfl | rfl | rfl <;> exact ⟨_, rfl, by decide, by decide⟩
    exact .inl ⟨n, rfl, q H1 n n1 n2 ((oL.mono (fun x h => by simp at h)).trans o1) p1⟩
abbrev sc1_l_text : Scope := relS { kind := .function, names := [(PySem.Str.ofString ".0", .local), (PySem.Str.ofString "line", .local)], isGenerator := false, isCoroutine := false, more := [] } (defScope (topS 42))
/-! _law_text: slots lines=0 line=1 word=2; cells [] -/
abbrev s_l_text : Stmt := topS 55
abbrev N_l_text : List Str := ["lines", "line", "word"]
theorem sc_l_text : FnScope N_l_text ["lines"] (defScope s_l_text) := ⟨rfl, rfl, rfl, by decide +kernel, rfl, by decide +kernel, by decide +kernel⟩
theorem ok_text {f : Addr} {fd : FuncData} (F : Fun K "_law_text" "_law_text" s_l_text f fd) (T : Bt mg) : FnOk P w K mg base CX0 1 f fd ["lines"] (spText K) := by
  refine F.ok sc_l_text (fun vs H Q E h => ?_) (fun cdv A outer s H vs Q E hr h => ?_)
  · obtain ⟨l, is, rfl, _⟩ := h
    rfl
  · obtain ⟨l, is, rfl, ⟨rs, hl, hrs⟩, L, q⟩ := h
    refine ⟨_, (pss_one (ps_ret (pe_join pe_str (pe_lc (own := [("line", 1)]) (g := gName 1) (tt := tYes) rfl sc_l_text.nd (pi_list (pv 0)) (blkOk_by (N := N_l_text) (sc := defScope s_l_text) (by decide +kernel)) (fun _ _ _ _ _ => (pg_name (i := 1) sc_l_text.nd rfl (Or.inl rfl))) (fun _ _ _ _ _ => pts_nil) (fun _ _ _ _ _ => (pe_joinK (K := K) pe_str (pe_lc (own := [("word", 2)]) (g := gName 2) (tt := tYes) rfl sc_l_text.nd ((pi_tupK (K := K)) (pv 1)) (blkOk_by (N := N_l_text) (sc := sc1_l_text) (by decide +kernel)) (fun _ _ _ _ _ => (pg_name (i := 2) sc_l_text.nd rfl (Or.inl rfl))) (fun _ _ _ _ _ => pts_nil) (fun _ _ _ _ _ => (pe_callTy call_str_any (by rfl) T.z_str bz_str (pa_cons (pv 2) pa_nil)))))))))), ?_⟩
    have only := linesA_only is
    have hrl : rs.length = is.length := by rw [PL.DpAll.length hrs, List.length_map]
    refine ⟨⟨_, rfl⟩, .ref l, rfl, l, rfl, ⟨_, SqL.of hl⟩, fun D nD => ?_⟩
    refine lc_list (K := K) (a := l) (xs := rs) (fun j H' => Old [] H H' ∧ H' D = some (.lst (((is.take j).map PR.lineS).map V.str))) ⟨Old.new0 nD, upd_same⟩ (fun j H' _ h => SqL.of (h.1 _ _ (by simp) hl)) ?_ ?_
    · rintro j y H1 hy ⟨o1, h1⟩
      have hj : j < is.length := by have := (List.getElem?_eq_some_iff.mp hy).1; omega
      have ei : is[j]? = some is[j] := List.getElem?_eq_getElem hj
      have iok := L.ok j is[j] ei
      obtain ⟨v, hv, dv⟩ := PL.DpAll.get hrs (i := j) (d := PR.insD is[j]) (by rw [List.getElem?_map, ei]; rfl)
      rw [hy] at hv
      cases hv
      rw [List.take_succ_eq_append_getElem hj]
      generalize is[j] = i at iok dv ⊢
      obtain ⟨t, rfl, ht⟩ := ins_at dv
      have ht1 := (o1.tk NoTup.nil).seq ht
      refine ⟨rfl, ⟨_, rfl⟩, .ref t, rfl, t, rfl, ⟨_, ht1⟩, fun E nE => ?_⟩
      have nDE : D ≠ E := ne_of_none h1 nE
      refine lc_tup (K := K) (a := t) (xs := PR.insV i) (fun k H' => Old [] H1 H' ∧ H' E = some (.lst (((PR.wordsS i).take k).map V.str))) ⟨Old.new0 nE, upd_same⟩ (fun k H' _ h => (h.1.tk NoTup.nil).seq ht1) ?_ ?_
      · rintro k y H2 hy ⟨o2, h2⟩
        have hwl : (PR.wordsS i).length = (PR.insV i).length := by simp [PR.wordsS, PR.insV]
        have hk : k < (PR.wordsS i).length := by rw [hwl]; exact (List.getElem?_eq_some_iff.mp hy).1
        have hal := PR.args_len i
        have hll : (((PR.wordsS i).take k).map V.str).length < sizeLine := by
          rw [List.length_map, List.length_take]
          refine Nat.lt_of_le_of_lt (Nat.min_le_right _ _) ?_
          show ((PR.args i).map PR.Arg.txt).length + 1 < sizeLine
          rw [List.length_map]
          exact Nat.lt_of_le_of_lt (Nat.succ_le_succ hal) (by decide)
        have fin : ∀ x : Str, (PR.wordsS i)[k]? = some x → ∃ acc, H2 E = some (.lst acc) ∧ acc.length < sizeLine ∧ Old [] H1 (upd H2 E (.lst (acc ++ [.str x]))) ∧ (upd H2 E (.lst (acc ++ [.str x]))) E = some (.lst (((PR.wordsS i).take (k + 1)).map V.str)) := fun x hx => by
          refine ⟨_, h2, hll, o2.put0 nE, ?_⟩
          have : x = (PR.wordsS i)[k] := by rw [List.getElem?_eq_getElem hk] at hx; exact (Option.some.inj hx).symm
          rw [upd_same, List.take_succ_eq_append_getElem hk, List.map_append, this]; rfl
        refine ⟨rfl, y, rfl, ?_⟩
        cases k with
        | zero =>
          have ey : y = .str (PR.word i) := (Option.some.inj hy).symm
          subst ey
          exact .inr ⟨PR.word i, rfl, fin _ rfl⟩
        | succ k =>
          have hy : ((PR.args i).map PR.Arg.v)[k]? = some y := hy
          have hka : k < (PR.args i).length := by have := (List.getElem?_eq_some_iff.mp hy).1; rw [List.length_map] at this; exact this
          rw [List.getElem?_map, List.getElem?_eq_getElem hka] at hy
          have ey : y = (PR.args i)[k].v := (Option.some.inj hy).symm
          have hx : (PR.wordsS i)[k + 1]? = some (PR.args i)[k].txt := by
            show ((PR.args i).map PR.Arg.txt)[k]? = _
            rw [List.getElem?_map, List.getElem?_eq_getElem hka]; rfl
          have aok := iok (PR.args i)[k] (List.getElem_mem hka)
          have small : ∀ n : Int, -9999 ≤ n → n ≤ 9999 → n.natAbs.log2 < 1920 := fun n a b => by
            by_cases e : n.natAbs = 0
            · rw [e]; decide
            · have : n.natAbs.log2 < 14 := (Nat.log2_lt e).mpr (by omega)
              omega
          generalize (PR.args i)[k] = ar at ey hx aok
          subst ey
          cases ar with
          | r z => exact .inr ⟨PR.rg z, rfl, fin _ hx⟩
          | n z => exact .inl ⟨z, rfl, small z aok.1 aok.2, fin _ hx⟩
          | l g =>
            have aok : j < g ∧ g ≤ 200 := aok
            exact .inl ⟨(g : Int), rfl, small _ (by omega) (by omega), fin _ hx⟩
      · rintro H2 ⟨o2, h2⟩
        have hwl : (PR.insV i).length = (PR.wordsS i).length := by simp [PR.wordsS, PR.insV]
        rw [hwl, List.take_length] at h2
        refine ⟨" ", E, PR.wordsS i, rfl, rfl, .inl (SqL.of h2), ?_, ?_⟩
        · have hal := PR.args_len i
          have hl1 : (PR.wordsS i).length ≤ 5 := by
            show ((PR.args i).map PR.Arg.txt).length + 1 ≤ 5
            rw [List.length_map]; omega
          have := PR.sum_le (fun x : Str => x.length) 6 (PR.wordsS i) (fun p hp => by
            have e : p.length = (PR.tl p).length := TL.len_tl p
            show p.length ≤ 6
            rw [e]; exact PR.words_len iok p hp)
          have e1 : (" " : Str).length = 1 := by decide +kernel
          rw [e1]
          omega
        · refine ⟨_, o2 _ _ (by simp) h1, ?_, (o1.trans o2).put0 nD, ?_⟩
          · have L2' := L.len
            rw [List.length_map, List.length_map, List.length_take]
            exact Nat.lt_of_le_of_lt (Nat.le_trans (Nat.min_le_right _ _) L2') (by decide)
          · rw [upd_same, List.map_append, List.map_append]; rfl
    · rintro H1 ⟨o1, h1⟩
      rw [hrl, List.take_length] at h1
      refine ⟨"\n", D, is.map PR.lineS, rfl, rfl, .inl (SqL.of h1), ?_, q H1 o1⟩
      have L2' := L.len
      have := PR.sum_le (fun x : Str => x.length) 35 (is.map PR.lineS) (fun p hp => by
        obtain ⟨i, hi, rfl⟩ := List.mem_map.mp hp
        obtain ⟨k, hk, e⟩ := List.mem_iff_getElem.mp hi
        exact PR.line_len (L.ok k i (by rw [List.getElem?_eq_getElem hk, e])))
      have e1 : ("\n" : Str).length = 1 := by decide +kernel
      rw [e1]
      rw [List.length_map] at this ⊢
      omega
/-! _law_packet: slots pot=0 most=1 many=2 at=3; cells ['pot'] -/
abbrev s_l_packet : Stmt := topS 56
abbrev N_l_packet : List Str := ["pot", "most", "many", "at"]
theorem sc_l_packet : FnScope N_l_packet ["pot", "most"] (defScope s_l_packet) := ⟨rfl, rfl, rfl, by decide +kernel, rfl, by decide +kernel, by decide +kernel⟩
theorem ok_packet {f : Addr} {fd : FuncData} (F : Fun K "_law_packet" "_law_packet" s_l_packet f fd) (T : Bt mg) (C_l_of : Cal P w K mg base CX0 "_law_of" ["pot", "some"] 2 (spOf K)) (C_l_take : Cal P w K mg base CX0 "_law_take" ["pot", "upto"] 1 spTake) : FnOk P w K mg base CX0 3 f fd ["pot", "most"] (spPacket K) := by
  refine F.ok sc_l_packet (fun vs H Q E h => ?_) (fun cdv A outer s H vs Q E hr h => ?_)
  · obtain ⟨a, B, m, rfl, _⟩ := h
    rfl
  · obtain ⟨a, B, m, rfl, hP, hB, m1, m2, q⟩ := h
    refine ⟨_, (pss_cons (ps_set (i := 2) sc_l_packet.nd rfl (.inl rfl) (pe_op op_add pe_int (pe_cal C_l_take hr (by rfl) pass0 (pa_cons (pv 0) (pa_cons (pv 1) pa_nil)))))
      (pss_one (ps_ret (pe_callTy call_tuple_of (by rfl) T.z_tuple bz_tuple (pa_cons (pe_lc (own := [("at", 3)]) (g := gName 3) (tt := tYes) rfl sc_l_packet.nd (pi_range1 (by rfl) T.z_range (pa_cons (pv 2) pa_nil)) (blkOk_by (N := N_l_packet) (sc := defScope s_l_packet) (by decide +kernel)) (fun _ _ _ _ _ => (pg_name (i := 3) sc_l_packet.nd rfl (Or.inl rfl))) (fun _ _ _ _ _ => pts_nil) (fun _ _ _ _ _ => (pe_callTy call_int1 (by rfl) T.z_int bz_int (pa_cons (pe_cal C_l_of hr (by rfl) pass0 (pa_cons (pv 0) (pa_cons (pe_lst (pa_cons pe_int (pa_cons pe_int (pa_cons pe_int (pa_cons pe_int (pa_cons pe_int (pa_cons pe_int (pa_cons pe_int (pa_cons pe_int (pa_cons pe_int (pa_cons pe_int (pa_cons (pe_cal C_l_take hr (by rfl) pass0 (pa_cons (pv 0) (pa_cons pe_int pa_nil))) pa_nil)))))))))))) pa_nil))) pa_nil)))) pa_nil))))), ?_⟩
    refine ⟨.ref a, rfl, .int m, rfl, a, m, B, rfl, hP, by omega, by omega, by omega, fun H1 d d0 d1 o1 p1 => ⟨1, d, rfl, rfl, ?_⟩⟩
    obtain ⟨n, hn⟩ : ∃ n : Nat, 1 + d = (n : Int) := ⟨(1 + d).toNat, by omega⟩
    dsimp only
    rw [hn]
    have hn1 : 1 ≤ n := by omega
    have hn2 : n ≤ 24 := by omega
    have en : ((n : Int)).toNat = n := by omega
    refine ⟨.int (n : Int), rfl, (n : Int), rfl, by omega, by omega, fun D nD => ?_⟩
    have naD : a ≠ D := p1.ne nD
    have hD0 : H D = none := o1.free nD (by simp; exact naD.symm)
    refine lc_range (lo := 0) (n := ((n : Int)).toNat) (fun i H' => ∃ pk : List Int, pk.length = i ∧ (∀ c ∈ pk, 0 ≤ c ∧ c ≤ 255) ∧ Old [a] H H' ∧ H' D = some (.lst (pk.map V.int)) ∧ Pot H' a (B + 1 + 2 * i))
      ⟨[], rfl, fun c h => by simp at h, o1.new nD, upd_same, p1.old (W := []) (Old.new0 nD) (by simp)⟩ ?_ ?_
    · rintro i H2 hi ⟨pk, hpl, hpc, o2, h2, p2⟩
      rw [en] at hi
      refine ⟨rfl, .ref a, rfl, .ref a, rfl, a, 256, _, rfl, p2, by decide, by decide, by omega, fun H3 e e0 e1 o3 p3 => ?_⟩
      refine ⟨(by show 11 ≤ sizeLine; decide), fun l nl => ?_⟩
      have nal : a ≠ l := p3.ne nl
      have oL : Old [] H3 (upd H3 l (.lst [.int 0, .int 0, .int 1, .int 1, .int 2, .int 3, .int 5, .int 100, .int 254, .int 255, .int e])) := Old.new0 nl
      refine ⟨a, l, _, _, rfl, p3.old oL (by simp), SqL.of upd_same, nal.symm, by show 0 < 11; decide, by show 11 < 1000; decide, by omega, fun H4 x hx o4 p4 => ?_⟩
      obtain ⟨c, rfl, c1, c2⟩ : ∃ c : Int, x = .int c ∧ 0 ≤ c ∧ c ≤ 255 := by
        simp only [List.mem_cons, List.not_mem_nil, or_false] at hx
        rcases hx with rfl | rfl | rfl | rfl | rfl | rfl | rfl | rfl | rfl | rfl | rfl
        · exact ⟨_, rfl, by decide, by decide⟩
        · exact ⟨_, rfl, by decide, by decide⟩
        · exact ⟨_, rfl, by decide, by decide⟩
        · exact ⟨_, rfl, by decide, by decide⟩
        · exact ⟨_, rfl, by decide, by decide⟩
        · exact ⟨_, rfl, by decide, by decide⟩
        · exact ⟨_, rfl, by decide, by decide⟩
        · exact ⟨_, rfl, by decide, by decide⟩
        · exact ⟨_, rfl, by decide, by decide⟩
        · exact ⟨_, rfl, by decide, by decide⟩
        · exact ⟨e, rfl, e0, by omega⟩
      have o24 : Old [a] H2 H4 := (o3.trans (oL.mono (fun x h => by simp at h))).trans o4
      have h4 := o24 _ _ (by simp; exact naD.symm) h2
      refine .inl ⟨c, rfl, _, h4, ?_, pk ++ [c], by rw [List.length_append, hpl]; rfl, ?_, (o2.trans o24).put0 hD0, ?_, ?_⟩
      · rw [List.length_map, hpl]; exact Nat.lt_of_lt_of_le (Nat.lt_of_lt_of_le hi hn2) (by decide)
      · intro c' h
        rcases List.mem_append.mp h with h | h
        · exact hpc c' h
        · have : c' = c := by simpa using h
          subst this
          exact ⟨c1, c2⟩
      · rw [upd_same, List.map_append]; rfl
      · exact (p4.old (W := [D]) ((Old.refl _ _).put (by simp)) (by simp; exact naD)).mono (by omega)
    · rintro H2 ⟨pk, hpl, hpc, o2, h2, p2⟩
      rw [en] at hpl p2
      refine ⟨D, _, rfl, .inl ⟨SqL.of h2, fun t nt => ?_⟩⟩
      refine q _ t pk ⟨by omega, by omega, hpc⟩ (o2.new nt) ((p2.old (W := []) (Old.new0 nt) (by simp)).mono (by omega)) (.tup (SqT.of upd_same) (PL.Dp.ofInts pk))
/-! _law_lacks: slots line=0 known=1 needs=2 at=3; cells ['known', 'line'] -/
abbrev s_l_lacks : Stmt := topS 57
abbrev N_l_lacks : List Str := ["line", "known", "needs", "at"]
theorem sc_l_lacks : FnScope N_l_lacks ["line", "known"] (defScope s_l_lacks) := ⟨rfl, rfl, rfl, by decide +kernel, rfl, by decide +kernel, by decide +kernel⟩
theorem ok_lacks {f : Addr} {fd : FuncData} (F : Fun K "_law_lacks" "_law_lacks" s_l_lacks f fd) (T : Bt mg) : FnOk P w K mg base CX0 1 f fd ["line", "known"] (spIsUnset K) := by
  refine F.ok sc_l_lacks (fun vs H Q E h => ?_) (fun cdv A outer s H vs Q E hr h => ?_)
  · obtain ⟨t, kd, i, kvs, m, rfl, _⟩ := h
    rfl
  · obtain ⟨t, kd, i, kvs, m, rfl, ht, hk, mem, q⟩ := h
    have hu := hu_of hr
    refine ⟨_, (pss_cons (ps_set (i := 2) sc_l_lacks.nd rfl (.inl rfl) (pe_disp (pps_cons pe_str (pe_lst (pa_cons pe_int pa_nil)) (pps_cons pe_str (pe_lst (pa_cons pe_int pa_nil)) (pps_cons pe_str (pe_lst (pa_cons pe_int pa_nil)) (pps_cons pe_str (pe_lst (pa_cons pe_int (pa_cons pe_int pa_nil))) (pps_cons pe_str (pe_lst (pa_cons pe_int pa_nil)) (pps_cons pe_str (pe_lst (pa_cons pe_int pa_nil)) pps_nil)))))) (by rfl) (by rfl) (fun z => nomatch z) (by decide)))
      (pss_one (ps_ret (pe_callB (cr_any rfl) (by rfl) T.z_any bz_any (pa_cons (pe_lc (own := [("at", 3)]) (g := gName 3) (tt := tYes) rfl sc_l_lacks.nd (pi_list (pe_dget2 hu (pv 2) (pe_ix ix_tup (pv 0) pe_int (fun _ _ => rfl)) (pe_lst pa_nil) ⟨by rfl, by rfl, by rfl, by rfl⟩)) (blkOk_by (N := N_l_lacks) (sc := defScope s_l_lacks) (by decide +kernel)) (fun _ _ _ _ _ => (pg_name (i := 3) sc_l_lacks.nd rfl (Or.inl rfl))) (fun _ _ _ _ _ => pts_nil) (fun _ _ _ _ _ => (pe_cmp (pc_dnotin hu (pe_ix (ix_tupK (K := K)) (pv 0) (pv 3) (fun _ _ => rfl)) (pv 1)) rfl))) pa_nil))))), ?_⟩
    refine fun d nd => ?_
    have oA : Old [] H (upd H d (.dK [])) := Old.new0 nd
    have hdA : (upd H d (.dK [])) d = some (.dK []) := upd_same
    generalize upd H d (.dK []) = H0 at oA hdA ⊢
    have G0 : Ls [] H0 H0 [] := Ls.nil
    refine ⟨(by show 1 ≤ sizeLine; decide), fun l1 n1 => ?_⟩
    have G1 := G0.new n1 (by simp) [.int 2]
    generalize upd H0 l1 (.lst [.int 2]) = H1 at G1 ⊢
    clear G0 n1
    refine ⟨(by show 1 ≤ sizeLine; decide), fun l2 n2 => ?_⟩
    have G2 := G1.new n2 (by simp) [.int 1]
    generalize upd H1 l2 (.lst [.int 1]) = H2 at G2 ⊢
    clear G1 n2
    refine ⟨(by show 1 ≤ sizeLine; decide), fun l3 n3 => ?_⟩
    have G3 := G2.new n3 (by simp) [.int 2]
    generalize upd H2 l3 (.lst [.int 2]) = H3 at G3 ⊢
    clear G2 n3
    refine ⟨(by show 2 ≤ sizeLine; decide), fun l4 n4 => ?_⟩
    have G4 := G3.new n4 (by simp) [.int 1, .int 2]
    generalize upd H3 l4 (.lst [.int 1, .int 2]) = H4 at G4 ⊢
    clear G3 n4
    refine ⟨(by show 1 ≤ sizeLine; decide), fun l5 n5 => ?_⟩
    have G5 := G4.new n5 (by simp) [.int 1]
    generalize upd H4 l5 (.lst [.int 1]) = H5 at G5 ⊢
    clear G4 n5
    refine ⟨(by show 1 ≤ sizeLine; decide), fun l6 n6 => ?_⟩
    have G6 := G5.new n6 (by simp) [.int 1]
    generalize upd H5 l6 (.lst [.int 1]) = H6 at G6 ⊢
    clear G5 n6
    have hd6 := G6.o _ _ (by simp) hdA
    refine ⟨hd6, [(.inr "copy", .ref l1), (.inr "add", .ref l2), (.inr "load", .ref l3), (.inr "less", .ref l4), (.inr "atmost", .ref l5), (.inr "same", .ref l6)], rfl, by show 6 ≤ 15; decide, ?_⟩
    have o6 : Old [] H (upd H6 d (.dK (mergeK [] [(.inr "copy", .ref l1), (.inr "add", .ref l2), (.inr "load", .ref l3), (.inr "less", .ref l4), (.inr "atmost", .ref l5), (.inr "same", .ref l6)]))) := (oA.trans G6.o).put0 nd
    have hD : (upd H6 d (.dK (mergeK [] [(.inr "copy", .ref l1), (.inr "add", .ref l2), (.inr "load", .ref l3), (.inr "less", .ref l4), (.inr "atmost", .ref l5), (.inr "same", .ref l6)]))) d = some (.dK (mergeK [] [(.inr "copy", .ref l1), (.inr "add", .ref l2), (.inr "load", .ref l3), (.inr "less", .ref l4), (.inr "atmost", .ref l5), (.inr "same", .ref l6)])) := upd_same
    have at6 : ∀ p ∈ [(l6, [V.int 1]), (l5, [V.int 1]), (l4, [V.int 1, V.int 2]), (l3, [V.int 2]), (l2, [V.int 1]), (l1, [V.int 2])], (upd H6 d (.dK (mergeK [] [(.inr "copy", .ref l1), (.inr "add", .ref l2), (.inr "load", .ref l3), (.inr "less", .ref l4), (.inr "atmost", .ref l5), (.inr "same", .ref l6)]))) p.1 = some (.lst p.2) := fun p hp => by
      rw [upd_ne (ne_of (G6.at_ p hp) hd6 (fun z => nomatch z))]
      exact G6.at_ p hp
    have hval : ∀ k, valV (mergeK [] [(.inr "copy", .ref l1), (.inr "add", .ref l2), (.inr "load", .ref l3), (.inr "less", .ref l4), (.inr "atmost", .ref l5), (.inr "same", .ref l6)]) k = [(.inr "copy", .ref l1), (.inr "add", .ref l2), (.inr "load", .ref l3), (.inr "less", .ref l4), (.inr "atmost", .ref l5), (.inr "same", .ref l6)].foldl (fun acc p => if k = p.1 then some p.2 else acc) none := fun k => valV_merge k _ []
    generalize hmk : mergeK [] [(.inr "copy", .ref l1), (.inr "add", .ref l2), (.inr "load", .ref l3), (.inr "less", .ref l4), (.inr "atmost", .ref l5), (.inr "same", .ref l6)] = kds at o6 hD at6 hval ⊢
    generalize upd H6 d (.dK kds) = H7 at o6 hD at6 ⊢
    clear hmk
    have ht7 := (o6.tk NoTup.nil).seq ht
    refine ⟨.ref d, rfl, d, rfl, .inl ⟨_, .inl hD⟩, .ref t, rfl, t, _, 0, .str (PR.word i), rfl, rfl, ht7, atI_nat (j := 0) rfl, Nat.zero_le _, fun e ne => ?_⟩
    have o8 : Old [] H7 (upd H7 e (.lst [])) := Old.new0 ne
    have he8 : (upd H7 e (.lst [])) e = some (.lst []) := upd_same
    refine ⟨_, DGet.k (k := .inr (PR.word i)) (o8 _ _ (by simp) hD), ?_⟩
    obtain ⟨tt, hv, hsq⟩ : ∃ tt : Addr, (valV kds (.inr (PR.word i))).getD (.ref e) = .ref tt ∧ (upd H7 e (.lst [])) tt = some (.lst ((PR.needs i).map fun p => V.int (p.1 : Int))) := by
      have at8 : ∀ p ∈ [(l6, [V.int 1]), (l5, [V.int 1]), (l4, [V.int 1, V.int 2]), (l3, [V.int 2]), (l2, [V.int 1]), (l1, [V.int 2])], (upd H7 e (.lst [])) p.1 = some (.lst p.2) := fun p hp => o8 _ _ (by simp) (at6 p hp)
      have pick : ∀ (tt : Addr) (xs : List V), (tt, xs) ∈ [(l6, [V.int 1]), (l5, [V.int 1]), (l4, [V.int 1, V.int 2]), (l3, [V.int 2]), (l2, [V.int 1]), (l1, [V.int 2])] → (PR.needs i).map (fun p => V.int (p.1 : Int)) = xs → (upd H7 e (.lst [])) tt = some (.lst ((PR.needs i).map fun p => V.int (p.1 : Int))) := fun tt xs hm hx => by
        rw [hx]; exact at8 _ hm
      rw [hval]
      cases i <;> simp only [PR.word, List.foldl]
      case copy r s => exact ⟨l1, (by (repeat (first | rw [if_pos rfl] | rw [if_neg (by decide +kernel)])); try rfl), pick l1 [.int 2] (by simp) rfl⟩
      case add r n => exact ⟨l2, (by (repeat (first | rw [if_pos rfl] | rw [if_neg (by decide +kernel)])); try rfl), pick l2 [.int 1] (by simp) rfl⟩
      case load r s n => exact ⟨l3, (by (repeat (first | rw [if_pos rfl] | rw [if_neg (by decide +kernel)])); try rfl), pick l3 [.int 2] (by simp) rfl⟩
      case less r s n l => exact ⟨l4, (by (repeat (first | rw [if_pos rfl] | rw [if_neg (by decide +kernel)])); try rfl), pick l4 [.int 1, .int 2] (by simp) rfl⟩
      case atmost r n l => exact ⟨l5, (by (repeat (first | rw [if_pos rfl] | rw [if_neg (by decide +kernel)])); try rfl), pick l5 [.int 1] (by simp) rfl⟩
      case same r n l => exact ⟨l6, (by (repeat (first | rw [if_pos rfl] | rw [if_neg (by decide +kernel)])); try rfl), pick l6 [.int 1] (by simp) rfl⟩
      case set r n => exact ⟨e, (by (repeat (first | rw [if_pos rfl] | rw [if_neg (by decide +kernel)])); try rfl), he8⟩
      case length r => exact ⟨e, (by (repeat (first | rw [if_pos rfl] | rw [if_neg (by decide +kernel)])); try rfl), he8⟩
      case jump l => exact ⟨e, (by (repeat (first | rw [if_pos rfl] | rw [if_neg (by decide +kernel)])); try rfl), he8⟩
      case pass => exact ⟨e, (by (repeat (first | rw [if_pos rfl] | rw [if_neg (by decide +kernel)])); try rfl), he8⟩
      case drop => exact ⟨e, (by (repeat (first | rw [if_pos rfl] | rw [if_neg (by decide +kernel)])); try rfl), he8⟩
    rw [hv]
    have o18 := o6.trans o8
    generalize upd H7 e (.lst []) = H8 at hsq o18 ⊢
    refine ⟨tt, rfl, ⟨_, SqL.of hsq⟩, fun D nD => ?_⟩
    refine lc_list (K := K) (a := tt) (xs := (PR.needs i).map fun p => V.int (p.1 : Int)) (fun j H' => Old [] H8 H' ∧ H' D = some (.lst ((((PR.needs i).take j).map fun p => !m p.2).map V.bl))) ⟨Old.new0 nD, upd_same⟩ (fun j H' _ h => SqL.of (h.1 _ _ (by simp) hsq)) ?_ ?_
    · rintro j y H2 hy ⟨o2, h2⟩
      have hj : j < (PR.needs i).length := by have := (List.getElem?_eq_some_iff.mp hy).1; rw [List.length_map] at this; exact this
      rw [List.getElem?_map, List.getElem?_eq_getElem hj] at hy
      have ey : y = .int ((PR.needs i)[j].1 : Int) := (Option.some.inj hy).symm
      subst ey
      have hm := List.getElem_mem hj
      have hn := needs_at i _ hm
      rw [List.take_succ_eq_append_getElem hj]
      generalize (PR.needs i)[j] = pr at hn ⊢
      have ht2 := ((o18.trans o2).tk NoTup.nil).seq ht
      have hk2 := (o18.trans o2) _ _ (by simp) hk
      refine ⟨rfl, .ref t, rfl, .int (pr.1 : Int), rfl, t, _, (pr.1 : Int), .str (PR.rg pr.2), rfl, rfl, ht2, atI_nat hn, .ref kd, rfl, kd, _, rfl, DGet.k (k := .inr (PR.rg pr.2)) hk2, ?_⟩
      rw [mem]
      refine ⟨_, h2, ?_, o2.put0 nD, ?_⟩
      · rw [List.length_map, List.length_map, List.length_take]
        have : (PR.needs i).length ≤ 2 := by cases i <;> simp [PR.needs]
        exact Nat.lt_of_le_of_lt (Nat.le_trans (Nat.min_le_right _ _) this) (by decide)
      · rw [upd_same, List.map_append, List.map_append]; rfl
    · rintro H2 ⟨o2, h2⟩
      rw [List.length_map, List.take_length] at h2
      refine ⟨D, _, rfl, SqL.of h2, ?_⟩
      have e : (((PR.needs i).map fun p => !m p.2).any id) = (PR.needs i).any fun p => !m p.2 := by
        rw [List.any_map]; rfl
      rw [e]
      exact q H2 (o18.trans o2)
end
end L2.T39

namespace L2.T39
open PySem PySem.Spec PyProof.Rows L2.PL
def spInstr : Sp := fun vs H Q _ => ∃ (a : Addr) (B number size : Nat), vs = [.ref a, .int (number : Int), .int (size : Int)] ∧ Pot H a B ∧ B ≤ 900000 ∧ number < size ∧ size ≤ 20 ∧
  ∀ H' t i, PR.insOk number i → Old [a] H H' → Pot H' a (B + 20) → H' t = some (.tup (PR.insV i)) → Q (.ref t) H'
theorem reg_of {x : V} (h : x ∈ [V.str "a", .str "b", .str "c"]) : ∃ r, r < 3 ∧ x = .str (PR.rg r) := by
  simp only [List.mem_cons, List.not_mem_nil, or_false] at h
  rcases h with rfl | rfl | rfl
  · exact ⟨0, by decide, congrArg V.str (by decide +kernel)⟩
  · exact ⟨1, by decide, congrArg V.str (by decide +kernel)⟩
  · exact ⟨2, by decide, congrArg V.str (by decide +kernel)⟩
/-- the instruction of a drawn word -/
def insOf (x : Str) (r s : Nat) (n1 n2 n3 n4 n5 n6 : Int) (g : Nat) : PR.Ins :=
  if x = "load" then .load r s n1 else if x = "less" then .less r s n2 g else if x = "copy" then .copy r s else if x = "atmost" then .atmost r n3 g else if x = "same" then .same r n4 g else if x = "jump" then .jump g else if x = "add" then .add r n5 else if x = "set" then .set r n6 else .length r
section
variable {P : Program} {w : World} {K : PySem.W.Frag} {mg : Str → Option Value} {base : Heap}
/-! _law_instruction: slots pot=0 number=1 size=2 word=3 one=4 other=5 goal=6 words=7; cells [] -/
abbrev s_l_instruction : Stmt := topS 53
abbrev N_l_instruction : List Str := ["pot", "number", "size", "word", "one", "other", "goal", "words"]
theorem sc_l_instruction : FnScope N_l_instruction ["pot", "number", "size"] (defScope s_l_instruction) := ⟨rfl, rfl, rfl, by decide +kernel, rfl, by decide +kernel, by decide +kernel⟩
theorem ok_instr {f : Addr} {fd : FuncData} (F : Fun K "_law_instruction" "_law_instruction" s_l_instruction f fd) (T : Bt mg) (C_l_of : Cal P w K mg base CX0 "_law_of" ["pot", "some"] 2 (spOf K)) (C_l_take : Cal P w K mg base CX0 "_law_take" ["pot", "upto"] 1 spTake) (C_l_number : Cal P w K mg base CX0 "_law_number" ["pot"] 3 spNumber) : FnOk P w K mg base CX0 4 f fd ["pot", "number", "size"] spInstr := by
  refine F.ok sc_l_instruction (fun vs H Q E h => ?_) (fun cdv A outer s H vs Q E hr h => ?_)
  · obtain ⟨a, B, number, size, rfl, _⟩ := h
    rfl
  · obtain ⟨a, B, number, size, rfl, hP, hB, hns, hsz, q⟩ := h
    have hu := hu_of hr
    refine ⟨_, (pss_cons (ps_set (i := 3) sc_l_instruction.nd rfl (.inl rfl) (pe_cal C_l_of hr (by rfl) pass0 (pa_cons (pv 0) (pa_cons (pe_lst (pa_cons pe_str (pa_cons pe_str (pa_cons pe_str (pa_cons pe_str (pa_cons pe_str (pa_cons pe_str (pa_cons pe_str (pa_cons pe_str (pa_cons pe_str (pa_cons pe_str (pa_cons pe_str pa_nil)))))))))))) pa_nil))))
      (pss_cons (ps_par (i := 4) (j := 5) (by rfl) sc_l_instruction.nd rfl rfl (by decide) rfl rfl (pa_cons (pe_cal C_l_of hr (by rfl) pass0 (pa_cons (pv 0) (pa_cons (pe_lst (pa_cons pe_str (pa_cons pe_str (pa_cons pe_str pa_nil)))) pa_nil))) (pa_cons (pe_cal C_l_of hr (by rfl) pass0 (pa_cons (pv 0) (pa_cons (pe_lst (pa_cons pe_str (pa_cons pe_str (pa_cons pe_str pa_nil)))) pa_nil))) pa_nil)) (by rfl))
      (pss_cons (ps_set (i := 6) sc_l_instruction.nd rfl (.inl rfl) (pe_op op_add (pe_op op_add (pv 1) pe_int) (pe_cal C_l_take hr (by rfl) pass0 (pa_cons (pv 0) (pa_cons (pe_callB (call_max2 rfl) (by rfl) T.z_max bz_max (pa_cons pe_int (pa_cons (pe_callB (call_min2 rfl) (by rfl) T.z_min bz_min (pa_cons pe_int (pa_cons (pe_op op_sub (pv 2) (pv 1)) pa_nil))) pa_nil))) pa_nil)))))
      (pss_cons (ps_set (i := 7) sc_l_instruction.nd rfl (.inl rfl) (pe_disp (pps_cons pe_str (pe_lst (pa_cons (pv 4) (pa_cons (pv 5) (pa_cons (pe_cal C_l_number hr (by rfl) pass0 (pa_cons (pv 0) pa_nil)) pa_nil)))) (pps_cons pe_str (pe_lst (pa_cons (pv 4) (pa_cons (pv 5) (pa_cons (pe_cal C_l_number hr (by rfl) pass0 (pa_cons (pv 0) pa_nil)) (pa_cons (pv 6) pa_nil))))) (pps_cons pe_str (pe_lst (pa_cons (pv 4) (pa_cons (pv 5) pa_nil))) pps_nil))) (by rfl) (by rfl) (fun z => nomatch z) (by decide)))
      (pss_cons (ps_expr (pe_dupd (pv 7) (pe_disp (pps_cons pe_str (pe_lst (pa_cons (pv 4) (pa_cons (pe_cal C_l_number hr (by rfl) pass0 (pa_cons (pv 0) pa_nil)) (pa_cons (pv 6) pa_nil)))) (pps_cons pe_str (pe_lst (pa_cons (pv 4) (pa_cons (pe_cal C_l_number hr (by rfl) pass0 (pa_cons (pv 0) pa_nil)) (pa_cons (pv 6) pa_nil)))) (pps_cons pe_str (pe_lst (pa_cons (pv 6) pa_nil)) pps_nil))) (by rfl) (by rfl) (fun z => nomatch z) (by decide)) ⟨by rfl, by rfl, by rfl, by rfl⟩))
      (pss_cons (ps_expr (pe_dupd (pv 7) (pe_disp (pps_cons pe_str (pe_lst (pa_cons (pv 4) (pa_cons (pe_cal C_l_number hr (by rfl) pass0 (pa_cons (pv 0) pa_nil)) pa_nil))) (pps_cons pe_str (pe_lst (pa_cons (pv 4) (pa_cons (pe_cal C_l_number hr (by rfl) pass0 (pa_cons (pv 0) pa_nil)) pa_nil))) (pps_cons pe_str (pe_lst (pa_cons (pv 4) pa_nil)) pps_nil))) (by rfl) (by rfl) (fun z => nomatch z) (by decide)) ⟨by rfl, by rfl, by rfl, by rfl⟩))
      (pss_one (ps_ret (pe_op op_catA (pe_tup (pa_cons (pv 3) pa_nil)) (pe_callTy call_tuple_of (by rfl) T.z_tuple bz_tuple (pa_cons (pe_dget hu (pv 7) (pv 3) (fun _ _ => rfl)) pa_nil))))))))))), ?_⟩
    -- the word
    refine ⟨.ref a, rfl, (by show 11 ≤ sizeLine; decide), fun l0 nl0 => ?_⟩
    have na0 : a ≠ l0 := hP.ne nl0
    have oA : Old [] H (upd H l0 (.lst [.str "load", .str "load", .str "load", .str "less", .str "atmost", .str "same", .str "copy", .str "add", .str "set", .str "length", .str "jump"])) := Old.new0 nl0
    refine ⟨a, l0, _, B, rfl, hP.old oA (by simp), SqL.of upd_same, na0.symm, by show 0 < 11; decide, by show 11 < 1000; decide, by omega, fun H1 x hx o1 p1 => ?_⟩
    have o01 : Old [a] H H1 := (oA.mono (fun x h => by simp at h)).trans o1
    clear oA na0 nl0 o1
    -- the registers
    refine ⟨.ref a, rfl, (by show 3 ≤ sizeLine; decide), fun l1 nl1 => ?_⟩
    have na1 : a ≠ l1 := p1.ne nl1
    have oB : Old [] H1 (upd H1 l1 (.lst [.str "a", .str "b", .str "c"])) := Old.new0 nl1
    refine ⟨a, l1, _, _, rfl, p1.old oB (by simp), SqL.of upd_same, na1.symm, by show 0 < 3; decide, by show 3 < 1000; decide, by omega, fun H2 y hy o2 p2 => ?_⟩
    obtain ⟨r, hr3, rfl⟩ := reg_of hy
    have o02 : Old [a] H H2 := (o01.trans (oB.mono (fun x h => by simp at h))).trans o2
    clear oB na1 nl1 o2 o01 p1 hy
    refine ⟨.ref a, rfl, (by show 3 ≤ sizeLine; decide), fun l2 nl2 => ?_⟩
    have na2 : a ≠ l2 := p2.ne nl2
    have oC : Old [] H2 (upd H2 l2 (.lst [.str "a", .str "b", .str "c"])) := Old.new0 nl2
    refine ⟨a, l2, _, _, rfl, p2.old oC (by simp), SqL.of upd_same, na2.symm, by show 0 < 3; decide, by show 3 < 1000; decide, by omega, fun H3 y hy o3 p3 => ?_⟩
    obtain ⟨s', hs3, rfl⟩ := reg_of hy
    have o03 : Old [a] H H3 := (o02.trans (oC.mono (fun x h => by simp at h))).trans o3
    clear oC na2 nl2 o3 o02 p2 hy
    refine ⟨_, _, rfl, ?_⟩
    -- the goal
    refine ⟨.int (number : Int), rfl, (number : Int), 1, rfl, rfl, .ref a, rfl, .int (size : Int), rfl, .int (number : Int), rfl, (size : Int), (number : Int), rfl, rfl, 4, _, rfl, 1, _, rfl, a, _, _, rfl, p3, ?_, ?_, by omega, fun H4 d d0 d1 o4 p4 => ?_⟩
    · split <;> omega
    · have : (if (size : Int) - number < 4 then (size : Int) - number else 4) ≤ 4 := by split <;> omega
      split <;> omega
    have hd4 : d < 4 := by
      have : (if (size : Int) - number < 4 then (size : Int) - number else 4) ≤ 4 := by split <;> omega
      revert d1
      split <;> omega
    refine ⟨_, d, rfl, rfl, ?_⟩
    obtain ⟨g, hg⟩ : ∃ g : Nat, (number : Int) + 1 + d = (g : Int) := ⟨((number : Int) + 1 + d).toNat, by omega⟩
    dsimp only
    rw [hg]
    have g1 : number < g := by omega
    have g2 : g ≤ 200 := by omega
    have o04 : Old [a] H H4 := o03.trans o4
    clear o03 o4 p3 d0 d1 hd4 hg d
    have G0 : Ls [a] H4 H4 [] := Ls.nil
    refine fun d1 nd1 => ?_
    have nad1 : a ≠ d1 := p4.ne nd1
    have zd1 : H4 d1 = none := G0.o.free nd1 (by simp; exact nad1.symm)
    have G1 := G0.keep ((Old.new0 (W := []) (o := HO.dK []) nd1).mono (fun x h => by simp at h))
    have q2 := p4.old (W := []) (Old.new0 (o := HO.dK []) nd1) (by simp)
    have e3 : (upd H4 d1 (.dK [])) d1 = some (.dK []) := upd_same
    generalize upd H4 d1 (.dK []) = H5 at G1 q2 e3 ⊢
    clear G0 p4 nd1
    refine ⟨.str (PR.rg r), rfl, .str (PR.rg s'), rfl, .ref a, rfl, a, _, rfl, q2, by omega, fun H6 n1 n1a n1b o4 q5 => ?_⟩
    have G6 := G1.keep o4
    have e7 := o4 _ _ (by simp; exact nad1.symm) e3
    clear G1 q2 o4 e3
    refine ⟨(by show 3 ≤ sizeLine; decide), fun la nla => ?_⟩
    have nala : a ≠ la := q5.ne nla
    have G8 := G6.new nla (by simp; exact nala.symm) [.str (PR.rg r), .str (PR.rg s'), .int n1]
    have q9 := q5.old (W := []) (Old.new0 (o := HO.lst [.str (PR.rg r), .str (PR.rg s'), .int n1]) nla) (by simp)
    have e10 : (upd H6 la (.lst [.str (PR.rg r), .str (PR.rg s'), .int n1])) d1 = some (.dK []) := by rw [upd_ne (ne_of_none e7 nla)]; exact e7
    generalize upd H6 la (.lst [.str (PR.rg r), .str (PR.rg s'), .int n1]) = H7 at G8 q9 e10 ⊢
    clear G6 q5 nla nala e7
    refine ⟨.str (PR.rg r), rfl, .str (PR.rg s'), rfl, .ref a, rfl, a, _, rfl, q9, by omega, fun H8 n2 n2a n2b o11 q12 => ?_⟩
    have G13 := G8.keep o11
    have e14 := o11 _ _ (by simp; exact nad1.symm) e10
    clear G8 q9 o11 e10
    refine ⟨.int (g : Int), rfl, (by show 4 ≤ sizeLine; decide), fun lb nlb => ?_⟩
    have nalb : a ≠ lb := q12.ne nlb
    have G15 := G13.new nlb (by simp; exact nalb.symm) [.str (PR.rg r), .str (PR.rg s'), .int n2, .int (g : Int)]
    have q16 := q12.old (W := []) (Old.new0 (o := HO.lst [.str (PR.rg r), .str (PR.rg s'), .int n2, .int (g : Int)]) nlb) (by simp)
    have e17 : (upd H8 lb (.lst [.str (PR.rg r), .str (PR.rg s'), .int n2, .int (g : Int)])) d1 = some (.dK []) := by rw [upd_ne (ne_of_none e14 nlb)]; exact e14
    generalize upd H8 lb (.lst [.str (PR.rg r), .str (PR.rg s'), .int n2, .int (g : Int)]) = H9 at G15 q16 e17 ⊢
    clear G13 q12 nlb nalb e14
    refine ⟨.str (PR.rg r), rfl, .str (PR.rg s'), rfl, (by show 2 ≤ sizeLine; decide), fun lc nlc => ?_⟩
    have nalc : a ≠ lc := q16.ne nlc
    have G18 := G15.new nlc (by simp; exact nalc.symm) [.str (PR.rg r), .str (PR.rg s')]
    have q19 := q16.old (W := []) (Old.new0 (o := HO.lst [.str (PR.rg r), .str (PR.rg s')]) nlc) (by simp)
    have e20 : (upd H9 lc (.lst [.str (PR.rg r), .str (PR.rg s')])) d1 = some (.dK []) := by rw [upd_ne (ne_of_none e17 nlc)]; exact e17
    generalize upd H9 lc (.lst [.str (PR.rg r), .str (PR.rg s')]) = H10 at G18 q19 e20 ⊢
    clear G15 q16 nlc nalc e17
    refine ⟨e20, [(.inr "load", .ref la), (.inr "less", .ref lb), (.inr "copy", .ref lc)], rfl, by show 3 ≤ 15; decide, ?_⟩
    have G21 := G18.dict (ks := mergeK [] [(.inr "load", .ref la), (.inr "less", .ref lb), (.inr "copy", .ref lc)]) e20 zd1
    have q22 := q19.old (W := [d1]) ((Old.refl _ _).put (p := d1) (o := HO.dK (mergeK [] [(.inr "load", .ref la), (.inr "less", .ref lb), (.inr "copy", .ref lc)])) (by simp)) (by simp; exact nad1)
    have e23 : (upd H10 d1 (.dK (mergeK [] [(.inr "load", .ref la), (.inr "less", .ref lb), (.inr "copy", .ref lc)]))) d1 = some (.dK (mergeK [] [(.inr "load", .ref la), (.inr "less", .ref lb), (.inr "copy", .ref lc)])) := upd_same
    generalize upd H10 d1 (.dK (mergeK [] [(.inr "load", .ref la), (.inr "less", .ref lb), (.inr "copy", .ref lc)])) = H11 at G21 q22 e23 ⊢
    clear G18 q19 e20
    refine ⟨.ref d1, rfl, d1, rfl, .inl ⟨_, .inl e23⟩, ?_⟩
    refine fun d2 nd2 => ?_
    have nad2 : a ≠ d2 := q22.ne nd2
    have zd2 : H4 d2 = none := G21.o.free nd2 (by simp; exact nad2.symm)
    have G24 := G21.keep ((Old.new0 (W := []) (o := HO.dK []) nd2).mono (fun x h => by simp at h))
    have q25 := q22.old (W := []) (Old.new0 (o := HO.dK []) nd2) (by simp)
    have e26 : (upd H11 d2 (.dK [])) d1 = some (.dK (mergeK [] [(.inr "load", .ref la), (.inr "less", .ref lb), (.inr "copy", .ref lc)])) := by rw [upd_ne (ne_of_none e23 nd2)]; exact e23
    have e27 : (upd H11 d2 (.dK [])) d2 = some (.dK []) := upd_same
    have ne_d1_d2 : d1 ≠ d2 := ne_of_none e23 nd2
    generalize upd H11 d2 (.dK []) = H12 at G24 q25 e26 e27 ⊢
    clear G21 q22 e23 nd2
    refine ⟨.str (PR.rg r), rfl, .ref a, rfl, a, _, rfl, q25, by omega, fun H13 n3 n3a n3b o28 q29 => ?_⟩
    have G30 := G24.keep o28
    have e31 := o28 _ _ (by simp; exact nad1.symm) e26
    have e32 := o28 _ _ (by simp; exact nad2.symm) e27
    clear G24 q25 o28 e26 e27
    refine ⟨.int (g : Int), rfl, (by show 3 ≤ sizeLine; decide), fun ld nld => ?_⟩
    have nald : a ≠ ld := q29.ne nld
    have G33 := G30.new nld (by simp; exact nald.symm) [.str (PR.rg r), .int n3, .int (g : Int)]
    have q34 := q29.old (W := []) (Old.new0 (o := HO.lst [.str (PR.rg r), .int n3, .int (g : Int)]) nld) (by simp)
    have e35 : (upd H13 ld (.lst [.str (PR.rg r), .int n3, .int (g : Int)])) d1 = some (.dK (mergeK [] [(.inr "load", .ref la), (.inr "less", .ref lb), (.inr "copy", .ref lc)])) := by rw [upd_ne (ne_of_none e31 nld)]; exact e31
    have e36 : (upd H13 ld (.lst [.str (PR.rg r), .int n3, .int (g : Int)])) d2 = some (.dK []) := by rw [upd_ne (ne_of_none e32 nld)]; exact e32
    generalize upd H13 ld (.lst [.str (PR.rg r), .int n3, .int (g : Int)]) = H14 at G33 q34 e35 e36 ⊢
    clear G30 q29 nld nald e31 e32
    refine ⟨.str (PR.rg r), rfl, .ref a, rfl, a, _, rfl, q34, by omega, fun H15 n4 n4a n4b o37 q38 => ?_⟩
    have G39 := G33.keep o37
    have e40 := o37 _ _ (by simp; exact nad1.symm) e35
    have e41 := o37 _ _ (by simp; exact nad2.symm) e36
    clear G33 q34 o37 e35 e36
    refine ⟨.int (g : Int), rfl, (by show 3 ≤ sizeLine; decide), fun le nle => ?_⟩
    have nale : a ≠ le := q38.ne nle
    have G42 := G39.new nle (by simp; exact nale.symm) [.str (PR.rg r), .int n4, .int (g : Int)]
    have q43 := q38.old (W := []) (Old.new0 (o := HO.lst [.str (PR.rg r), .int n4, .int (g : Int)]) nle) (by simp)
    have e44 : (upd H15 le (.lst [.str (PR.rg r), .int n4, .int (g : Int)])) d1 = some (.dK (mergeK [] [(.inr "load", .ref la), (.inr "less", .ref lb), (.inr "copy", .ref lc)])) := by rw [upd_ne (ne_of_none e40 nle)]; exact e40
    have e45 : (upd H15 le (.lst [.str (PR.rg r), .int n4, .int (g : Int)])) d2 = some (.dK []) := by rw [upd_ne (ne_of_none e41 nle)]; exact e41
    generalize upd H15 le (.lst [.str (PR.rg r), .int n4, .int (g : Int)]) = H16 at G42 q43 e44 e45 ⊢
    clear G39 q38 nle nale e40 e41
    refine ⟨.int (g : Int), rfl, (by show 1 ≤ sizeLine; decide), fun lf nlf => ?_⟩
    have nalf : a ≠ lf := q43.ne nlf
    have G46 := G42.new nlf (by simp; exact nalf.symm) [.int (g : Int)]
    have q47 := q43.old (W := []) (Old.new0 (o := HO.lst [.int (g : Int)]) nlf) (by simp)
    have e48 : (upd H16 lf (.lst [.int (g : Int)])) d1 = some (.dK (mergeK [] [(.inr "load", .ref la), (.inr "less", .ref lb), (.inr "copy", .ref lc)])) := by rw [upd_ne (ne_of_none e44 nlf)]; exact e44
    have e49 : (upd H16 lf (.lst [.int (g : Int)])) d2 = some (.dK []) := by rw [upd_ne (ne_of_none e45 nlf)]; exact e45
    generalize upd H16 lf (.lst [.int (g : Int)]) = H17 at G46 q47 e48 e49 ⊢
    clear G42 q43 nlf nalf e44 e45
    refine ⟨e49, [(.inr "atmost", .ref ld), (.inr "same", .ref le), (.inr "jump", .ref lf)], rfl, by show 3 ≤ 15; decide, ?_⟩
    have G50 := G46.dict (ks := mergeK [] [(.inr "atmost", .ref ld), (.inr "same", .ref le), (.inr "jump", .ref lf)]) e49 zd2
    have q51 := q47.old (W := [d2]) ((Old.refl _ _).put (p := d2) (o := HO.dK (mergeK [] [(.inr "atmost", .ref ld), (.inr "same", .ref le), (.inr "jump", .ref lf)])) (by simp)) (by simp; exact nad2)
    have e52 : (upd H17 d2 (.dK (mergeK [] [(.inr "atmost", .ref ld), (.inr "same", .ref le), (.inr "jump", .ref lf)]))) d1 = some (.dK (mergeK [] [(.inr "load", .ref la), (.inr "less", .ref lb), (.inr "copy", .ref lc)])) := by rw [upd_ne ne_d1_d2]; exact e48
    have e53 : (upd H17 d2 (.dK (mergeK [] [(.inr "atmost", .ref ld), (.inr "same", .ref le), (.inr "jump", .ref lf)]))) d2 = some (.dK (mergeK [] [(.inr "atmost", .ref ld), (.inr "same", .ref le), (.inr "jump", .ref lf)])) := upd_same
    generalize upd H17 d2 (.dK (mergeK [] [(.inr "atmost", .ref ld), (.inr "same", .ref le), (.inr "jump", .ref lf)])) = H18 at G50 q51 e52 e53 ⊢
    clear G46 q47 e48 e49
    refine ⟨d2, _, _, rfl, ne_d1_d2, e52, e53, (Nat.le_trans (Nat.add_le_add (length_mergeK _ _) (length_mergeK _ _)) (by show 0 + 3 + (0 + 3) ≤ sizeLine; decide)), ?_⟩
    have G54 := G50.dict (ks := mergeK (mergeK [] [(.inr "load", .ref la), (.inr "less", .ref lb), (.inr "copy", .ref lc)]) (mergeK [] [(.inr "atmost", .ref ld), (.inr "same", .ref le), (.inr "jump", .ref lf)])) e52 zd1
    have q55 := q51.old (W := [d1]) ((Old.refl _ _).put (p := d1) (o := HO.dK (mergeK (mergeK [] [(.inr "load", .ref la), (.inr "less", .ref lb), (.inr "copy", .ref lc)]) (mergeK [] [(.inr "atmost", .ref ld), (.inr "same", .ref le), (.inr "jump", .ref lf)]))) (by simp)) (by simp; exact nad1)
    have e56 : (upd H18 d1 (.dK (mergeK (mergeK [] [(.inr "load", .ref la), (.inr "less", .ref lb), (.inr "copy", .ref lc)]) (mergeK [] [(.inr "atmost", .ref ld), (.inr "same", .ref le), (.inr "jump", .ref lf)])))) d1 = some (.dK (mergeK (mergeK [] [(.inr "load", .ref la), (.inr "less", .ref lb), (.inr "copy", .ref lc)]) (mergeK [] [(.inr "atmost", .ref ld), (.inr "same", .ref le), (.inr "jump", .ref lf)]))) := upd_same
    have e57 : (upd H18 d1 (.dK (mergeK (mergeK [] [(.inr "load", .ref la), (.inr "less", .ref lb), (.inr "copy", .ref lc)]) (mergeK [] [(.inr "atmost", .ref ld), (.inr "same", .ref le), (.inr "jump", .ref lf)])))) d2 = some (.dK (mergeK [] [(.inr "atmost", .ref ld), (.inr "same", .ref le), (.inr "jump", .ref lf)])) := by rw [upd_ne ne_d1_d2.symm]; exact e53
    generalize upd H18 d1 (.dK (mergeK (mergeK [] [(.inr "load", .ref la), (.inr "less", .ref lb), (.inr "copy", .ref lc)]) (mergeK [] [(.inr "atmost", .ref ld), (.inr "same", .ref le), (.inr "jump", .ref lf)]))) = H19 at G54 q55 e56 e57 ⊢
    clear G50 q51 e52 e53
    refine ⟨.ref d1, rfl, d1, rfl, .inl ⟨_, .inl e56⟩, ?_⟩
    refine fun d3 nd3 => ?_
    have nad3 : a ≠ d3 := q55.ne nd3
    have zd3 : H4 d3 = none := G54.o.free nd3 (by simp; exact nad3.symm)
    have G58 := G54.keep ((Old.new0 (W := []) (o := HO.dK []) nd3).mono (fun x h => by simp at h))
    have q59 := q55.old (W := []) (Old.new0 (o := HO.dK []) nd3) (by simp)
    have e60 : (upd H19 d3 (.dK [])) d1 = some (.dK (mergeK (mergeK [] [(.inr "load", .ref la), (.inr "less", .ref lb), (.inr "copy", .ref lc)]) (mergeK [] [(.inr "atmost", .ref ld), (.inr "same", .ref le), (.inr "jump", .ref lf)]))) := by rw [upd_ne (ne_of_none e56 nd3)]; exact e56
    have e61 : (upd H19 d3 (.dK [])) d2 = some (.dK (mergeK [] [(.inr "atmost", .ref ld), (.inr "same", .ref le), (.inr "jump", .ref lf)])) := by rw [upd_ne (ne_of_none e57 nd3)]; exact e57
    have e62 : (upd H19 d3 (.dK [])) d3 = some (.dK []) := upd_same
    have ne_d1_d3 : d1 ≠ d3 := ne_of_none e56 nd3
    have ne_d2_d3 : d2 ≠ d3 := ne_of_none e57 nd3
    generalize upd H19 d3 (.dK []) = H20 at G58 q59 e60 e61 e62 ⊢
    clear G54 q55 e56 e57 nd3
    refine ⟨.str (PR.rg r), rfl, .ref a, rfl, a, _, rfl, q59, by omega, fun H21 n5 n5a n5b o63 q64 => ?_⟩
    have G65 := G58.keep o63
    have e66 := o63 _ _ (by simp; exact nad1.symm) e60
    have e67 := o63 _ _ (by simp; exact nad2.symm) e61
    have e68 := o63 _ _ (by simp; exact nad3.symm) e62
    clear G58 q59 o63 e60 e61 e62
    refine ⟨(by show 2 ≤ sizeLine; decide), fun lg nlg => ?_⟩
    have nalg : a ≠ lg := q64.ne nlg
    have G69 := G65.new nlg (by simp; exact nalg.symm) [.str (PR.rg r), .int n5]
    have q70 := q64.old (W := []) (Old.new0 (o := HO.lst [.str (PR.rg r), .int n5]) nlg) (by simp)
    have e71 : (upd H21 lg (.lst [.str (PR.rg r), .int n5])) d1 = some (.dK (mergeK (mergeK [] [(.inr "load", .ref la), (.inr "less", .ref lb), (.inr "copy", .ref lc)]) (mergeK [] [(.inr "atmost", .ref ld), (.inr "same", .ref le), (.inr "jump", .ref lf)]))) := by rw [upd_ne (ne_of_none e66 nlg)]; exact e66
    have e72 : (upd H21 lg (.lst [.str (PR.rg r), .int n5])) d2 = some (.dK (mergeK [] [(.inr "atmost", .ref ld), (.inr "same", .ref le), (.inr "jump", .ref lf)])) := by rw [upd_ne (ne_of_none e67 nlg)]; exact e67
    have e73 : (upd H21 lg (.lst [.str (PR.rg r), .int n5])) d3 = some (.dK []) := by rw [upd_ne (ne_of_none e68 nlg)]; exact e68
    generalize upd H21 lg (.lst [.str (PR.rg r), .int n5]) = H22 at G69 q70 e71 e72 e73 ⊢
    clear G65 q64 nlg nalg e66 e67 e68
    refine ⟨.str (PR.rg r), rfl, .ref a, rfl, a, _, rfl, q70, by omega, fun H23 n6 n6a n6b o74 q75 => ?_⟩
    have G76 := G69.keep o74
    have e77 := o74 _ _ (by simp; exact nad1.symm) e71
    have e78 := o74 _ _ (by simp; exact nad2.symm) e72
    have e79 := o74 _ _ (by simp; exact nad3.symm) e73
    clear G69 q70 o74 e71 e72 e73
    refine ⟨(by show 2 ≤ sizeLine; decide), fun lh nlh => ?_⟩
    have nalh : a ≠ lh := q75.ne nlh
    have G80 := G76.new nlh (by simp; exact nalh.symm) [.str (PR.rg r), .int n6]
    have q81 := q75.old (W := []) (Old.new0 (o := HO.lst [.str (PR.rg r), .int n6]) nlh) (by simp)
    have e82 : (upd H23 lh (.lst [.str (PR.rg r), .int n6])) d1 = some (.dK (mergeK (mergeK [] [(.inr "load", .ref la), (.inr "less", .ref lb), (.inr "copy", .ref lc)]) (mergeK [] [(.inr "atmost", .ref ld), (.inr "same", .ref le), (.inr "jump", .ref lf)]))) := by rw [upd_ne (ne_of_none e77 nlh)]; exact e77
    have e83 : (upd H23 lh (.lst [.str (PR.rg r), .int n6])) d2 = some (.dK (mergeK [] [(.inr "atmost", .ref ld), (.inr "same", .ref le), (.inr "jump", .ref lf)])) := by rw [upd_ne (ne_of_none e78 nlh)]; exact e78
    have e84 : (upd H23 lh (.lst [.str (PR.rg r), .int n6])) d3 = some (.dK []) := by rw [upd_ne (ne_of_none e79 nlh)]; exact e79
    generalize upd H23 lh (.lst [.str (PR.rg r), .int n6]) = H24 at G80 q81 e82 e83 e84 ⊢
    clear G76 q75 nlh nalh e77 e78 e79
    refine ⟨.str (PR.rg r), rfl, (by show 1 ≤ sizeLine; decide), fun li nli => ?_⟩
    have nali : a ≠ li := q81.ne nli
    have G85 := G80.new nli (by simp; exact nali.symm) [.str (PR.rg r)]
    have q86 := q81.old (W := []) (Old.new0 (o := HO.lst [.str (PR.rg r)]) nli) (by simp)
    have e87 : (upd H24 li (.lst [.str (PR.rg r)])) d1 = some (.dK (mergeK (mergeK [] [(.inr "load", .ref la), (.inr "less", .ref lb), (.inr "copy", .ref lc)]) (mergeK [] [(.inr "atmost", .ref ld), (.inr "same", .ref le), (.inr "jump", .ref lf)]))) := by rw [upd_ne (ne_of_none e82 nli)]; exact e82
    have e88 : (upd H24 li (.lst [.str (PR.rg r)])) d2 = some (.dK (mergeK [] [(.inr "atmost", .ref ld), (.inr "same", .ref le), (.inr "jump", .ref lf)])) := by rw [upd_ne (ne_of_none e83 nli)]; exact e83
    have e89 : (upd H24 li (.lst [.str (PR.rg r)])) d3 = some (.dK []) := by rw [upd_ne (ne_of_none e84 nli)]; exact e84
    generalize upd H24 li (.lst [.str (PR.rg r)]) = H25 at G85 q86 e87 e88 e89 ⊢
    clear G80 q81 nli nali e82 e83 e84
    refine ⟨e89, [(.inr "add", .ref lg), (.inr "set", .ref lh), (.inr "length", .ref li)], rfl, by show 3 ≤ 15; decide, ?_⟩
    have G90 := G85.dict (ks := mergeK [] [(.inr "add", .ref lg), (.inr "set", .ref lh), (.inr "length", .ref li)]) e89 zd3
    have q91 := q86.old (W := [d3]) ((Old.refl _ _).put (p := d3) (o := HO.dK (mergeK [] [(.inr "add", .ref lg), (.inr "set", .ref lh), (.inr "length", .ref li)])) (by simp)) (by simp; exact nad3)
    have e92 : (upd H25 d3 (.dK (mergeK [] [(.inr "add", .ref lg), (.inr "set", .ref lh), (.inr "length", .ref li)]))) d1 = some (.dK (mergeK (mergeK [] [(.inr "load", .ref la), (.inr "less", .ref lb), (.inr "copy", .ref lc)]) (mergeK [] [(.inr "atmost", .ref ld), (.inr "same", .ref le), (.inr "jump", .ref lf)]))) := by rw [upd_ne ne_d1_d3]; exact e87
    have e93 : (upd H25 d3 (.dK (mergeK [] [(.inr "add", .ref lg), (.inr "set", .ref lh), (.inr "length", .ref li)]))) d2 = some (.dK (mergeK [] [(.inr "atmost", .ref ld), (.inr "same", .ref le), (.inr "jump", .ref lf)])) := by rw [upd_ne ne_d2_d3]; exact e88
    have e94 : (upd H25 d3 (.dK (mergeK [] [(.inr "add", .ref lg), (.inr "set", .ref lh), (.inr "length", .ref li)]))) d3 = some (.dK (mergeK [] [(.inr "add", .ref lg), (.inr "set", .ref lh), (.inr "length", .ref li)])) := upd_same
    generalize upd H25 d3 (.dK (mergeK [] [(.inr "add", .ref lg), (.inr "set", .ref lh), (.inr "length", .ref li)])) = H26 at G90 q91 e92 e93 e94 ⊢
    clear G85 q86 e87 e88 e89
    refine ⟨d3, _, _, rfl, ne_d1_d3, e92, e94, (Nat.le_trans (Nat.add_le_add (Nat.le_trans (length_mergeK _ _) (Nat.add_le_add (length_mergeK _ _) (length_mergeK _ _))) (length_mergeK _ _)) (by show 0 + 3 + (0 + 3) + (0 + 3) ≤ sizeLine; decide)), ?_⟩
    have G95 := G90.dict (ks := mergeK (mergeK (mergeK [] [(.inr "load", .ref la), (.inr "less", .ref lb), (.inr "copy", .ref lc)]) (mergeK [] [(.inr "atmost", .ref ld), (.inr "same", .ref le), (.inr "jump", .ref lf)])) (mergeK [] [(.inr "add", .ref lg), (.inr "set", .ref lh), (.inr "length", .ref li)])) e92 zd1
    have q96 := q91.old (W := [d1]) ((Old.refl _ _).put (p := d1) (o := HO.dK (mergeK (mergeK (mergeK [] [(.inr "load", .ref la), (.inr "less", .ref lb), (.inr "copy", .ref lc)]) (mergeK [] [(.inr "atmost", .ref ld), (.inr "same", .ref le), (.inr "jump", .ref lf)])) (mergeK [] [(.inr "add", .ref lg), (.inr "set", .ref lh), (.inr "length", .ref li)]))) (by simp)) (by simp; exact nad1)
    have e97 : (upd H26 d1 (.dK (mergeK (mergeK (mergeK [] [(.inr "load", .ref la), (.inr "less", .ref lb), (.inr "copy", .ref lc)]) (mergeK [] [(.inr "atmost", .ref ld), (.inr "same", .ref le), (.inr "jump", .ref lf)])) (mergeK [] [(.inr "add", .ref lg), (.inr "set", .ref lh), (.inr "length", .ref li)])))) d1 = some (.dK (mergeK (mergeK (mergeK [] [(.inr "load", .ref la), (.inr "less", .ref lb), (.inr "copy", .ref lc)]) (mergeK [] [(.inr "atmost", .ref ld), (.inr "same", .ref le), (.inr "jump", .ref lf)])) (mergeK [] [(.inr "add", .ref lg), (.inr "set", .ref lh), (.inr "length", .ref li)]))) := upd_same
    have e98 : (upd H26 d1 (.dK (mergeK (mergeK (mergeK [] [(.inr "load", .ref la), (.inr "less", .ref lb), (.inr "copy", .ref lc)]) (mergeK [] [(.inr "atmost", .ref ld), (.inr "same", .ref le), (.inr "jump", .ref lf)])) (mergeK [] [(.inr "add", .ref lg), (.inr "set", .ref lh), (.inr "length", .ref li)])))) d2 = some (.dK (mergeK [] [(.inr "atmost", .ref ld), (.inr "same", .ref le), (.inr "jump", .ref lf)])) := by rw [upd_ne ne_d1_d2.symm]; exact e93
    have e99 : (upd H26 d1 (.dK (mergeK (mergeK (mergeK [] [(.inr "load", .ref la), (.inr "less", .ref lb), (.inr "copy", .ref lc)]) (mergeK [] [(.inr "atmost", .ref ld), (.inr "same", .ref le), (.inr "jump", .ref lf)])) (mergeK [] [(.inr "add", .ref lg), (.inr "set", .ref lh), (.inr "length", .ref li)])))) d3 = some (.dK (mergeK [] [(.inr "add", .ref lg), (.inr "set", .ref lh), (.inr "length", .ref li)])) := by rw [upd_ne ne_d1_d3.symm]; exact e94
    generalize upd H26 d1 (.dK (mergeK (mergeK (mergeK [] [(.inr "load", .ref la), (.inr "less", .ref lb), (.inr "copy", .ref lc)]) (mergeK [] [(.inr "atmost", .ref ld), (.inr "same", .ref le), (.inr "jump", .ref lf)])) (mergeK [] [(.inr "add", .ref lg), (.inr "set", .ref lh), (.inr "length", .ref li)]))) = H27 at G95 q96 e97 e98 e99 ⊢
    clear G90 q91 e92 e93 e94
    have hmk : mergeK (mergeK (mergeK [] [(.inr "load", .ref la), (.inr "less", .ref lb), (.inr "copy", .ref lc)]) (mergeK [] [(.inr "atmost", .ref ld), (.inr "same", .ref le), (.inr "jump", .ref lf)])) (mergeK [] [(.inr "add", .ref lg), (.inr "set", .ref lh), (.inr "length", .ref li)]) = mergeK [] [(.inr "load", .ref la), (.inr "less", .ref lb), (.inr "copy", .ref lc), (.inr "atmost", .ref ld), (.inr "same", .ref le), (.inr "jump", .ref lf), (.inr "add", .ref lg), (.inr "set", .ref lh), (.inr "length", .ref li)] := by
      rw [mergeK_new [(.inr "load", .ref la), (.inr "less", .ref lb), (.inr "copy", .ref lc)] [] (by show [(.inr "load" : Key), .inr "less", .inr "copy"].Nodup; decide +kernel), mergeK_new [(.inr "atmost", .ref ld), (.inr "same", .ref le), (.inr "jump", .ref lf)] [] (by show [(.inr "atmost" : Key), .inr "same", .inr "jump"].Nodup; decide +kernel), mergeK_new [(.inr "add", .ref lg), (.inr "set", .ref lh), (.inr "length", .ref li)] [] (by show [(.inr "add" : Key), .inr "set", .inr "length"].Nodup; decide +kernel)]
      have a1 := mergeK_new [(.inr "atmost", .ref ld), (.inr "same", .ref le), (.inr "jump", .ref lf)] [(.inr "load", .ref la), (.inr "less", .ref lb), (.inr "copy", .ref lc)] (by show [(.inr "load" : Key), .inr "less", .inr "copy", .inr "atmost", .inr "same", .inr "jump"].Nodup; decide +kernel)
      have a2 := mergeK_new [(.inr "add", .ref lg), (.inr "set", .ref lh), (.inr "length", .ref li)] ([(.inr "load", .ref la), (.inr "less", .ref lb), (.inr "copy", .ref lc)] ++ [(.inr "atmost", .ref ld), (.inr "same", .ref le), (.inr "jump", .ref lf)]) (by show [(.inr "load" : Key), .inr "less", .inr "copy", .inr "atmost", .inr "same", .inr "jump", .inr "add", .inr "set", .inr "length"].Nodup; decide +kernel)
      have a3 := mergeK_new [(.inr "load", .ref la), (.inr "less", .ref lb), (.inr "copy", .ref lc), (.inr "atmost", .ref ld), (.inr "same", .ref le), (.inr "jump", .ref lf), (.inr "add", .ref lg), (.inr "set", .ref lh), (.inr "length", .ref li)] [] (by show [(.inr "load" : Key), .inr "less", .inr "copy", .inr "atmost", .inr "same", .inr "jump", .inr "add", .inr "set", .inr "length"].Nodup; decide +kernel)
      rw [List.nil_append, List.nil_append, List.nil_append, a1, a2, a3]; rfl
    have hval : ∀ k, valV (mergeK [] [(.inr "load", .ref la), (.inr "less", .ref lb), (.inr "copy", .ref lc), (.inr "atmost", .ref ld), (.inr "same", .ref le), (.inr "jump", .ref lf), (.inr "add", .ref lg), (.inr "set", .ref lh), (.inr "length", .ref li)]) k = [(.inr "load", .ref la), (.inr "less", .ref lb), (.inr "copy", .ref lc), (.inr "atmost", .ref ld), (.inr "same", .ref le), (.inr "jump", .ref lf), (.inr "add", .ref lg), (.inr "set", .ref lh), (.inr "length", .ref li)].foldl (fun acc p => if k = p.1 then some p.2 else acc) none := fun k => valV_merge k _ []
    rw [hmk] at e97
    generalize mergeK [] [(.inr "load", .ref la), (.inr "less", .ref lb), (.inr "copy", .ref lc), (.inr "atmost", .ref ld), (.inr "same", .ref le), (.inr "jump", .ref lf), (.inr "add", .ref lg), (.inr "set", .ref lh), (.inr "length", .ref li)] = kds at hval e97
    clear hmk e98 e99
    have sm : ∀ n : Int, -9999 ≤ n → n ≤ 9999 → PR.Arg.ok number (.n n) := fun n a b => ⟨a, b⟩
    have rm : ∀ k : Nat, k < 3 → PR.Arg.ok number (.r k) := fun k h => (by show k < 6; omega)
    have gm : PR.Arg.ok number (.l g) := ⟨g1, g2⟩
    have z0 := rm r hr3
    have z1 := rm s' hs3
    obtain ⟨xw, lw, xs, i, rfl, hvw, hlw, iok, hiv, hne⟩ : ∃ (xw : Str) (lw : Addr) (xs : List V) (i : PR.Ins), x = .str xw ∧ valV kds (.inr xw) = some (.ref lw) ∧ H27 lw = some (.lst xs) ∧ PR.insOk number i ∧ PR.insV i = .str xw :: xs ∧ xs ≠ [] := by
      simp only [List.mem_cons, List.not_mem_nil, or_false] at hx
      have at_ := G95.at_
      rcases hx with rfl | rfl | rfl | rfl | rfl | rfl | rfl | rfl | rfl | rfl | rfl
      · refine ⟨"load", la, [.str (PR.rg r), .str (PR.rg s'), .int n1], .load r s' n1, rfl, ?_, at_ (la, [.str (PR.rg r), .str (PR.rg s'), .int n1]) (by simp), ?_, rfl, fun z => nomatch z⟩
        · rw [hval]; simp only [List.foldl]; repeat (first | rw [if_pos True.intro] | rw [if_neg (by decide +kernel)])
        · intro b hb; simp only [PR.args, List.mem_cons, List.not_mem_nil, or_false] at hb; rcases hb with rfl | rfl | rfl <;> first | exact z0 | exact z1 | exact sm n1 n1a n1b
      · refine ⟨"load", la, [.str (PR.rg r), .str (PR.rg s'), .int n1], .load r s' n1, rfl, ?_, at_ (la, [.str (PR.rg r), .str (PR.rg s'), .int n1]) (by simp), ?_, rfl, fun z => nomatch z⟩
        · rw [hval]; simp only [List.foldl]; repeat (first | rw [if_pos True.intro] | rw [if_neg (by decide +kernel)])
        · intro b hb; simp only [PR.args, List.mem_cons, List.not_mem_nil, or_false] at hb; rcases hb with rfl | rfl | rfl <;> first | exact z0 | exact z1 | exact sm n1 n1a n1b
      · refine ⟨"load", la, [.str (PR.rg r), .str (PR.rg s'), .int n1], .load r s' n1, rfl, ?_, at_ (la, [.str (PR.rg r), .str (PR.rg s'), .int n1]) (by simp), ?_, rfl, fun z => nomatch z⟩
        · rw [hval]; simp only [List.foldl]; repeat (first | rw [if_pos True.intro] | rw [if_neg (by decide +kernel)])
        · intro b hb; simp only [PR.args, List.mem_cons, List.not_mem_nil, or_false] at hb; rcases hb with rfl | rfl | rfl <;> first | exact z0 | exact z1 | exact sm n1 n1a n1b
      · refine ⟨"less", lb, [.str (PR.rg r), .str (PR.rg s'), .int n2, .int (g : Int)], .less r s' n2 g, rfl, ?_, at_ (lb, [.str (PR.rg r), .str (PR.rg s'), .int n2, .int (g : Int)]) (by simp), ?_, rfl, fun z => nomatch z⟩
        · rw [hval]; simp only [List.foldl]; repeat (first | rw [if_pos True.intro] | rw [if_neg (by decide +kernel)])
        · intro b hb; simp only [PR.args, List.mem_cons, List.not_mem_nil, or_false] at hb; rcases hb with rfl | rfl | rfl | rfl <;> first | exact z0 | exact z1 | exact sm n2 n2a n2b | exact gm
      · refine ⟨"atmost", ld, [.str (PR.rg r), .int n3, .int (g : Int)], .atmost r n3 g, rfl, ?_, at_ (ld, [.str (PR.rg r), .int n3, .int (g : Int)]) (by simp), ?_, rfl, fun z => nomatch z⟩
        · rw [hval]; simp only [List.foldl]; repeat (first | rw [if_pos True.intro] | rw [if_neg (by decide +kernel)])
        · intro b hb; simp only [PR.args, List.mem_cons, List.not_mem_nil, or_false] at hb; rcases hb with rfl | rfl | rfl <;> first | exact z0 | exact sm n3 n3a n3b | exact gm
      · refine ⟨"same", le, [.str (PR.rg r), .int n4, .int (g : Int)], .same r n4 g, rfl, ?_, at_ (le, [.str (PR.rg r), .int n4, .int (g : Int)]) (by simp), ?_, rfl, fun z => nomatch z⟩
        · rw [hval]; simp only [List.foldl]; repeat (first | rw [if_pos True.intro] | rw [if_neg (by decide +kernel)])
        · intro b hb; simp only [PR.args, List.mem_cons, List.not_mem_nil, or_false] at hb; rcases hb with rfl | rfl | rfl <;> first | exact z0 | exact sm n4 n4a n4b | exact gm
      · refine ⟨"copy", lc, [.str (PR.rg r), .str (PR.rg s')], .copy r s', rfl, ?_, at_ (lc, [.str (PR.rg r), .str (PR.rg s')]) (by simp), ?_, rfl, fun z => nomatch z⟩
        · rw [hval]; simp only [List.foldl]; repeat (first | rw [if_pos True.intro] | rw [if_neg (by decide +kernel)])
        · intro b hb; simp only [PR.args, List.mem_cons, List.not_mem_nil, or_false] at hb; rcases hb with rfl | rfl <;> first | exact z0 | exact z1
      · refine ⟨"add", lg, [.str (PR.rg r), .int n5], .add r n5, rfl, ?_, at_ (lg, [.str (PR.rg r), .int n5]) (by simp), ?_, rfl, fun z => nomatch z⟩
        · rw [hval]; simp only [List.foldl]; repeat (first | rw [if_pos True.intro] | rw [if_neg (by decide +kernel)])
        · intro b hb; simp only [PR.args, List.mem_cons, List.not_mem_nil, or_false] at hb; rcases hb with rfl | rfl <;> first | exact z0 | exact sm n5 n5a n5b
      · refine ⟨"set", lh, [.str (PR.rg r), .int n6], .set r n6, rfl, ?_, at_ (lh, [.str (PR.rg r), .int n6]) (by simp), ?_, rfl, fun z => nomatch z⟩
        · rw [hval]; simp only [List.foldl]; repeat (first | rw [if_pos True.intro] | rw [if_neg (by decide +kernel)])
        · intro b hb; simp only [PR.args, List.mem_cons, List.not_mem_nil, or_false] at hb; rcases hb with rfl | rfl <;> first | exact z0 | exact sm n6 n6a n6b
      · refine ⟨"length", li, [.str (PR.rg r)], .length r, rfl, ?_, at_ (li, [.str (PR.rg r)]) (by simp), ?_, rfl, fun z => nomatch z⟩
        · rw [hval]; simp only [List.foldl]; repeat (first | rw [if_pos True.intro] | rw [if_neg (by decide +kernel)])
        · intro b hb; simp only [PR.args, List.mem_cons, List.not_mem_nil, or_false] at hb; rcases hb with rfl <;> first | exact z0
      · refine ⟨"jump", lf, [.int (g : Int)], .jump g, rfl, ?_, at_ (lf, [.int (g : Int)]) (by simp), ?_, rfl, fun z => nomatch z⟩
        · rw [hval]; simp only [List.foldl]; repeat (first | rw [if_pos True.intro] | rw [if_neg (by decide +kernel)])
        · intro b hb; simp only [PR.args, List.mem_cons, List.not_mem_nil, or_false] at hb; rcases hb with rfl <;> first | exact gm
    have o4f := G95.o
    refine ⟨.str xw, rfl, (by show 1 ≤ sizeLine; decide), fun t1 nt1 => ?_⟩
    have b1 : Old [] H27 (upd H27 t1 (.tup [.str xw])) := Old.new0 nt1
    have ht1 : (upd H27 t1 (.tup [.str xw])) t1 = some (.tup [.str xw]) := upd_same
    refine ⟨.ref d1, rfl, .str xw, rfl, d1, .ref lw, rfl, ?_, lw, xs, rfl, .inl ⟨SqL.of (b1 _ _ (by simp) hlw), fun t2 nt2 => ?_⟩⟩
    · have := DGet.k (k := .inr xw) (b1 _ _ (by simp) e97)
      rw [hvw] at this
      exact this
    have b2 := b1.new (o := HO.tup xs) nt2
    have xl : xs.length ≤ 4 := by
      have := PR.args_len i
      have e := congrArg List.length hiv
      simp [PR.insV] at e
      omega
    refine ⟨t1, t2, [.str xw], xs, rfl, rfl, SqT.of (by rw [upd_ne (ne_of_none ht1 nt2)]; exact ht1), SqT.of upd_same, ?_, (fun e => nomatch e), (fun _ e => absurd e hne), fun _ _ t nt => ?_⟩
    · show 1 + xs.length ≤ sizeLine
      exact Nat.le_trans (Nat.add_le_add_left xl 1) (by decide)
    have b3 := b2.new (o := HO.tup ([.str xw] ++ xs)) nt
    refine q _ t i iok (o04.trans (o4f.trans (b3.mono (fun x h => by simp at h)))) ((q96.old b3 (by simp)).mono (by omega)) ?_
    rw [upd_same, hiv]; rfl
end
end L2.T39

namespace L2.T39
open PySem PySem.Spec PyProof.Rows L2.PL
def spProg (K : PySem.W.Frag) : Sp := fun vs H Q _ => ∃ (a : Addr) (B : Nat), vs = [.ref a, .int 8] ∧ Pot H a B ∧ B ≤ 800000 ∧ ∀ H' l is, Lns is → Old [a] H H' → Pot H' a (B + 500) → l ≠ a → LinesAt K H' l is → Q (.ref l) H'
theorem abc_at (i : Nat) (h : i < 3) : atI ("abc" : Str).cps.toList (i : Int) = some (97 + i) := by
  have e : ("abc" : Str).cps.toList = [97, 98, 99] := by decide +kernel
  rw [e]
  rcases (by omega : i = 0 ∨ i = 1 ∨ i = 2) with rfl | rfl | rfl <;> rfl
section
variable {P : Program} {w : World} {K : PySem.W.Frag} {mg : Str → Option Value} {base : Heap}
/-! _law_program: slots pot=0 most=1 size=2 found=3 number=4 few=5; cells [] -/
abbrev s_l_program : Stmt := topS 54
abbrev N_l_program : List Str := ["pot", "most", "size", "found", "number", "few"]
theorem sc_l_program : FnScope N_l_program ["pot", "most"] (defScope s_l_program) := ⟨rfl, rfl, rfl, by decide +kernel, rfl, by decide +kernel, by decide +kernel⟩
theorem ok_prog {f : Addr} {fd : FuncData} (F : Fun K "_law_program" "_law_program" s_l_program f fd) (T : Bt mg) (C_l_of : Cal P w K mg base CX0 "_law_of" ["pot", "some"] 2 (spOf K)) (C_l_take : Cal P w K mg base CX0 "_law_take" ["pot", "upto"] 1 spTake) (C_l_instruction : Cal P w K mg base CX0 "_law_instruction" ["pot", "number", "size"] 4 spInstr) : FnOk P w K mg base CX0 5 f fd ["pot", "most"] (spProg K) := by
  refine F.ok sc_l_program (fun vs H Q E h => ?_) (fun cdv A outer s H vs Q E hr h => ?_)
  · obtain ⟨a, B, rfl, _⟩ := h
    rfl
  · obtain ⟨a, B, rfl, hP, hB, q⟩ := h
    refine ⟨_, (pss_cons (ps_par (i := 2) (j := 3) (by rfl) sc_l_program.nd rfl rfl (by decide) rfl rfl (pa_cons (pe_op op_add pe_int (pe_cal C_l_take hr (by rfl) pass0 (pa_cons (pv 0) (pa_cons (pv 1) pa_nil)))) (pa_cons (pe_lst pa_nil) pa_nil)) (by rfl))
      (pss_cons (ps_for PassesOwn.never rfl (pi_range1 (by rfl) T.z_range (pa_cons (pv 2) pa_nil)) (pg_name (i := 4) sc_l_program.nd rfl (Or.inl rfl))
       (pss_one (ps_if (PW.pt (pw_and (pt_cmpR op_lt (pv 4) pe_int (nomark _)) (pw_and1 (pt_cmpR op_gt (pe_cal C_l_take hr (by rfl) pass0 (pa_cons (pv 0) (pa_cons pe_int pa_nil))) pe_int (nomark _)))))
         (pss_cons (ps_set (i := 5) sc_l_program.nd rfl (.inl rfl) (pe_tup (pa_cons pe_str (pa_cons (pe_ix ix_str pe_str (pv 4) (fun _ _ => rfl)) (pa_cons (pe_callTy call_int1 (by rfl) T.z_int bz_int (pa_cons (pe_cal C_l_take hr (by rfl) pass0 (pa_cons (pv 0) (pa_cons pe_int pa_nil))) pa_nil)) pa_nil)))))
          (pss_one (ps_expr (pe_bm PySem.F.plainAttrs_list PySem.F.slot_list_append PySem.F.type_list_append mt_append (pv 3) (pa_cons (pe_ifExp (pt_cmpR op_eq (pe_cal C_l_take hr (by rfl) pass0 (pa_cons (pv 0) (pa_cons pe_int pa_nil))) pe_int (nomark _)) (pv 5) (pe_tup (pa_cons pe_str (pa_cons (pe_ix ix_str pe_str (pv 4) (fun _ _ => rfl)) pa_nil)))) pa_nil)))))
         (pss_one (ps_if (pt_cmpR op_eq (pe_cal C_l_take hr (by rfl) pass0 (pa_cons (pv 0) (pa_cons pe_int pa_nil))) pe_int (nomark _))
           (pss_one (ps_expr (pe_bm PySem.F.plainAttrs_list PySem.F.slot_list_append PySem.F.type_list_append mt_append (pv 3) (pa_cons (pe_tup (pa_cons (pe_cal C_l_of hr (by rfl) pass0 (pa_cons (pv 0) (pa_cons (pe_lst (pa_cons pe_str (pa_cons pe_str pa_nil))) pa_nil))) pa_nil)) pa_nil))))
           (pss_one (ps_expr (pe_bm PySem.F.plainAttrs_list PySem.F.slot_list_append PySem.F.type_list_append mt_append (pv 3) (pa_cons (pe_cal C_l_instruction hr (by rfl) pass0 (pa_cons (pv 0) (pa_cons (pv 4) (pa_cons (pv 2) pa_nil)))) pa_nil)))))))))
      (pss_one (ps_ret (pe_op op_cat (pv 3) (pe_op op_rep (pe_lst (pa_cons (pe_tup (pa_cons (pe_cal C_l_of hr (by rfl) pass0 (pa_cons (pv 0) (pa_cons (pe_lst (pa_cons pe_str (pa_cons pe_str pa_nil))) pa_nil))) pa_nil)) pa_nil)) (pe_callTy call_int1 (by rfl) T.z_int bz_int (pa_cons (pe_cmpR op_gt (pe_cal C_l_take hr (by rfl) pass0 (pa_cons (pv 0) (pa_cons pe_int pa_nil))) pe_int (nomark _)) pa_nil)))))))), ?_⟩
    refine ⟨.ref a, rfl, .int 8, rfl, a, 8, B, rfl, hP, by decide, by decide, by omega, fun H1 d d0 d1 o1 p1 => ⟨3, d, rfl, rfl, ?_⟩⟩
    obtain ⟨n, hn⟩ : ∃ n : Nat, 3 + d = (n : Int) := ⟨(3 + d).toNat, by omega⟩
    refine ⟨Nat.zero_le _, fun fd nfd => ⟨_, _, rfl, ?_⟩⟩
    dsimp only
    rw [hn]
    have hn1 : 3 ≤ n := by omega
    have hn2 : n ≤ 13 := by omega
    have en : ((n : Int)).toNat = n := by omega
    have naf : a ≠ fd := p1.ne nfd
    have hf0 : H fd = none := o1.free nfd (by simp; exact naf.symm)
    refine ⟨.int (n : Int), rfl, (n : Int), rfl, by omega, by omega, for_range (lo := 0) (n := ((n : Int)).toNat) (fun i σ H' => ∃ (y4 y5 : Option V) (is : List PR.Ins) (rs : List V), σ = [some (.ref a), some (.int 8), some (.int (n : Int)), some (.ref fd), y4, y5] ∧ is.length = i ∧ (∀ (k : Nat) j, is[k]? = some j → PR.insOk k j) ∧ Old [a] H H' ∧ H' fd = some (.lst rs) ∧ DpAll K H' rs (is.map PR.insD) ∧ Pot H' a (B + 1 + 30 * i))
      ⟨none, none, [], [], rfl, rfl, fun k j h => by simp at h, o1.new nfd, upd_same, .nil, p1.old (W := []) (Old.new0 nfd) (by simp)⟩ ?_ ?_⟩
    · rintro i σ H2 hi ⟨y4, y5, is, rs, rfl, hil, hok, o2, hf2, hd2, p2⟩
      rw [en] at hi
      rw [Int.zero_add]
      have hrl : rs.length = i := by rw [PL.DpAll.length hd2, List.length_map, hil]
      have hrs : rs.length < sizeLine := by rw [hrl]; exact Nat.lt_of_lt_of_le (Nat.lt_of_lt_of_le hi hn2) (by decide)
      -- a line more
      have fin : ∀ (G : Hp) (t : Addr) (j : PR.Ins) (y5 : Option V), PR.insOk i j → Old [a] H2 G → Pot G a (B + 1 + 30 * i + 25) → G t = some (.tup (PR.insV j)) →
          ∃ (z4 z5 : Option V) (is : List PR.Ins) (rs' : List V), [some (.ref a), some (.int 8), some (.int (n : Int)), some (.ref fd), some (.int (i : Int)), y5] = [some (.ref a), some (.int 8), some (.int (n : Int)), some (.ref fd), z4, z5] ∧ is.length = i + 1 ∧ (∀ (k : Nat) j, is[k]? = some j → PR.insOk k j) ∧ Old [a] H (upd G fd (.lst (rs ++ [.ref t]))) ∧ (upd G fd (.lst (rs ++ [.ref t]))) fd = some (.lst rs') ∧ DpAll K (upd G fd (.lst (rs ++ [.ref t]))) rs' (is.map PR.insD) ∧ Pot (upd G fd (.lst (rs ++ [.ref t]))) a (B + 1 + 30 * (i + 1)) := by
        intro G t j y5 jok oG pG ht
        have hfG := oG _ _ (by simp; exact naf.symm) hf2
        have tk1 : Tk H2 G := oG.tk p2.notup
        have tk2 : Tk G (upd G fd (.lst (rs ++ [.ref t]))) := Old.tk (W := [fd]) ((Old.refl _ _).put (by simp)) (NoTup.one hfG)
        refine ⟨_, _, is ++ [j], _, rfl, by rw [List.length_append, hil]; rfl, fun k x hx => ?_, (o2.trans oG).put0 hf0, upd_same, ?_, ?_⟩
        · by_cases c : k < is.length
          · rw [List.getElem?_append_left c] at hx
            exact hok k x hx
          · rw [List.getElem?_append_right (by omega)] at hx
            have : k - is.length = 0 := by
              cases e : k - is.length with
              | zero => rfl
              | succ m => rw [e] at hx; simp at hx
            rw [this] at hx
            have hx : j = x := by simpa using hx
            subst hx
            have : k = i := by omega
            rw [this]; exact jok
        · rw [List.map_append]
          exact PL.DpAll.append (PL.Dp.keepAll (tk1.trans tk2) _ _ (linesA_only is) hd2) (.cons (PL.Dp.keep tk2 _ _ (insD_only j) (ins_dp ht)) .nil)
        · exact (pG.old (W := [fd]) ((Old.refl _ _).put (by simp)) (by simp; exact naf)).mono (by omega)
      have fdG : ∀ G, Old [a] H2 G → G fd = some (.lst rs) := fun G oG => oG _ _ (by simp; exact naf.symm) hf2
      have habc : i < 3 → atI ("abc" : Str).cps.toList (i : Int) = some (97 + i) := abc_at i
      have lenabc : ("abc" : Str).length ≤ sizeLine := Nat.le_trans (by decide +kernel : ("abc" : Str).length ≤ 3) (by decide)
      by_cases c3 : i < 3
      · refine ⟨.int (i : Int), rfl, (i : Int), 3, rfl, rfl, true, congrArg V.bl (decide_eq_true (by omega)), iteT ?_⟩
        refine ⟨.ref a, rfl, a, 5, _, rfl, p2, by decide, by decide, by omega, fun H3 e e0 e1 o3 p3 => ?_⟩
        by_cases ce : 0 < e
        · refine ⟨e, 0, rfl, rfl, true, congrArg V.bl (decide_eq_true ce), iteT ?_⟩
          refine ⟨.int (i : Int), rfl, "abc", (i : Int), 97 + i, rfl, rfl, lenabc, habc c3, .ref a, rfl, a, 3, _, rfl, p3, by decide, by decide, by omega, fun H4 v v0 v1 o4 p4 => .inl ⟨v, rfl, (by show 3 ≤ sizeLine; decide), fun t1 nt1 => ?_⟩⟩
          have o24 : Old [a] H2 (upd H4 t1 (.tup [.str "set", .str ⟨#[97 + i]⟩, .int v])) := (o3.trans o4).new nt1
          have p4' := p4.old (W := []) (Old.new0 (o := HO.tup [.str "set", .str ⟨#[97 + i]⟩, .int v]) nt1) (by simp)
          have ht1 : (upd H4 t1 (.tup [.str "set", .str ⟨#[97 + i]⟩, .int v])) t1 = some (.tup (PR.insV (.set i v))) := upd_same
          generalize upd H4 t1 (.tup [.str "set", .str ⟨#[97 + i]⟩, .int v]) = H5 at o24 p4' ht1 ⊢
          refine ⟨.ref fd, rfl, .inl ⟨rfl, _, SqL.of (fdG H5 o24)⟩, .ref a, rfl, a, 2, _, rfl, p4', by decide, by decide, by omega, fun H6 u u0 u1 o6 p6 => ?_⟩
          have o26 := o24.trans o6
          by_cases cu : u = 0
          · refine ⟨rfl, true, congrArg V.bl (decide_eq_true (congrArg V.int cu)), iteT ?_⟩
            refine ⟨.ref t1, rfl, fd, rs, .ref t1, rfl, rfl, fdG H6 o26, hrs, ?_⟩
            refine fin H6 t1 (.set i v) _ ?_ o26 (p6.mono (by omega)) (o6.tk p4'.notup |>.1 _ _ ht1)
            intro b hb
            simp only [PR.args, List.mem_cons, List.not_mem_nil, or_false] at hb
            rcases hb with rfl | rfl
            · show i < 6; omega
            · exact ⟨by omega, by omega⟩
          · refine ⟨rfl, false, congrArg V.bl (decide_eq_false (fun z => cu (V.int.inj z))), iteF ?_⟩
            refine ⟨.int (i : Int), rfl, "abc", (i : Int), 97 + i, rfl, rfl, lenabc, habc c3, (by show 2 ≤ sizeLine; decide), fun t2 nt2 => ?_⟩
            have o27 : Old [a] H2 (upd H6 t2 (.tup [.str "length", .str ⟨#[97 + i]⟩])) := o26.new nt2
            refine ⟨fd, rs, .ref t2, rfl, rfl, fdG _ o27, hrs, ?_⟩
            refine fin _ t2 (.length i) _ ?_ o27 ((p6.old (W := []) (Old.new0 nt2) (by simp)).mono (by omega)) upd_same
            intro b hb
            simp only [PR.args, List.mem_cons, List.not_mem_nil, or_false] at hb
            subst hb
            show i < 6; omega
        · refine ⟨e, 0, rfl, rfl, false, congrArg V.bl (decide_eq_false ce), iteF ?_⟩
          refine ⟨.ref a, rfl, a, 7, _, rfl, p3, by decide, by decide, by omega, fun G3 e' e0' e1' g3 r3 => ?_⟩
          have g23 : Old [a] H2 G3 := (o3).trans g3
          by_cases ce' : e' = 0
          · refine ⟨rfl, true, congrArg V.bl (decide_eq_true (congrArg V.int ce')), iteT ?_⟩
            refine ⟨.ref fd, rfl, .inl ⟨rfl, _, SqL.of (fdG G3 g23)⟩, .ref a, rfl, (by show 2 ≤ sizeLine; decide), fun l nl => ?_⟩
            have nal : a ≠ l := r3.ne nl
            have oL : Old [] G3 (upd G3 l (.lst [.str "pass", .str "drop"])) := Old.new0 nl
            refine ⟨a, l, _, _, rfl, r3.old oL (by simp), SqL.of upd_same, nal.symm, by show 0 < 2; decide, by show 2 < 1000; decide, by omega, fun G4 x hx g4 r4 => ?_⟩
            obtain ⟨j, hj, jok⟩ : ∃ j : PR.Ins, [x] = PR.insV j ∧ PR.insOk i j := by
              simp only [List.mem_cons, List.not_mem_nil, or_false] at hx
              rcases hx with rfl | rfl
              · exact ⟨.pass, rfl, fun b hb => by simp [PR.args] at hb⟩
              · exact ⟨.drop, rfl, fun b hb => by simp [PR.args] at hb⟩
            have g24 : Old [a] H2 G4 := (g23.trans (oL.mono (fun x h => by simp at h))).trans g4
            refine ⟨(by show 1 ≤ sizeLine; decide), fun t nt => ?_⟩
            have g25 : Old [a] H2 (upd G4 t (.tup [x])) := g24.new nt
            refine ⟨fd, rs, .ref t, rfl, rfl, fdG _ g25, hrs, ?_⟩
            exact fin _ t j _ jok g25 ((r4.old (W := []) (Old.new0 nt) (by simp)).mono (by omega)) (by rw [upd_same, hj])
          · refine ⟨rfl, false, congrArg V.bl (decide_eq_false (fun z => ce' (V.int.inj z))), iteF ?_⟩
            refine ⟨.ref fd, rfl, .inl ⟨rfl, _, SqL.of (fdG G3 g23)⟩, .ref a, rfl, .int (i : Int), rfl, .int (n : Int), rfl, a, _, i, n, rfl, r3, by omega, hi, by omega, fun G4 t j jok g4 r4 ht => ?_⟩
            refine ⟨fd, rs, .ref t, rfl, rfl, fdG _ (g23.trans g4), hrs, ?_⟩
            exact fin G4 t j _ jok (g23.trans g4) (r4.mono (by omega)) ht
      · refine ⟨.int (i : Int), rfl, (i : Int), 3, rfl, rfl, false, congrArg V.bl (decide_eq_false (by omega)), iteF (iteF ?_)⟩
        refine ⟨.ref a, rfl, a, 7, _, rfl, p2, by decide, by decide, by omega, fun G3 e' e0' e1' g3 r3 => ?_⟩
        have g23 : Old [a] H2 G3 := ((Old.refl _ _)).trans g3
        by_cases ce' : e' = 0
        · refine ⟨rfl, true, congrArg V.bl (decide_eq_true (congrArg V.int ce')), iteT ?_⟩
          refine ⟨.ref fd, rfl, .inl ⟨rfl, _, SqL.of (fdG G3 g23)⟩, .ref a, rfl, (by show 2 ≤ sizeLine; decide), fun l nl => ?_⟩
          have nal : a ≠ l := r3.ne nl
          have oL : Old [] G3 (upd G3 l (.lst [.str "pass", .str "drop"])) := Old.new0 nl
          refine ⟨a, l, _, _, rfl, r3.old oL (by simp), SqL.of upd_same, nal.symm, by show 0 < 2; decide, by show 2 < 1000; decide, by omega, fun G4 x hx g4 r4 => ?_⟩
          obtain ⟨j, hj, jok⟩ : ∃ j : PR.Ins, [x] = PR.insV j ∧ PR.insOk i j := by
            simp only [List.mem_cons, List.not_mem_nil, or_false] at hx
            rcases hx with rfl | rfl
            · exact ⟨.pass, rfl, fun b hb => by simp [PR.args] at hb⟩
            · exact ⟨.drop, rfl, fun b hb => by simp [PR.args] at hb⟩
          have g24 : Old [a] H2 G4 := (g23.trans (oL.mono (fun x h => by simp at h))).trans g4
          refine ⟨(by show 1 ≤ sizeLine; decide), fun t nt => ?_⟩
          have g25 : Old [a] H2 (upd G4 t (.tup [x])) := g24.new nt
          refine ⟨fd, rs, .ref t, rfl, rfl, fdG _ g25, hrs, ?_⟩
          exact fin _ t j _ jok g25 ((r4.old (W := []) (Old.new0 nt) (by simp)).mono (by omega)) (by rw [upd_same, hj])
        · refine ⟨rfl, false, congrArg V.bl (decide_eq_false (fun z => ce' (V.int.inj z))), iteF ?_⟩
          refine ⟨.ref fd, rfl, .inl ⟨rfl, _, SqL.of (fdG G3 g23)⟩, .ref a, rfl, .int (i : Int), rfl, .int (n : Int), rfl, a, _, i, n, rfl, r3, by omega, hi, by omega, fun G4 t j jok g4 r4 ht => ?_⟩
          refine ⟨fd, rs, .ref t, rfl, rfl, fdG _ (g23.trans g4), hrs, ?_⟩
          exact fin G4 t j _ jok (g23.trans g4) (r4.mono (by omega)) ht
    · rintro σ H2 ⟨y4, y5, is, rs, rfl, hil, hok, o2, hf2, hd2, p2⟩
      rw [en] at hil p2
      have hrl : rs.length = n := by rw [PL.DpAll.length hd2, List.length_map, hil]
      refine ⟨.ref fd, rfl, .ref a, rfl, (by show 2 ≤ sizeLine; decide), fun l nl => ?_⟩
      have nal : a ≠ l := p2.ne nl
      have oL : Old [] H2 (upd H2 l (.lst [.str "pass", .str "drop"])) := Old.new0 nl
      refine ⟨a, l, _, _, rfl, p2.old oL (by simp), SqL.of upd_same, nal.symm, by show 0 < 2; decide, by show 2 < 1000; decide, by omega, fun H3 x hx o3 p3 => ?_⟩
      obtain ⟨j, hj, jok⟩ : ∃ j : PR.Ins, [x] = PR.insV j ∧ ∀ k, PR.insOk k j := by
        simp only [List.mem_cons, List.not_mem_nil, or_false] at hx
        rcases hx with rfl | rfl
        · exact ⟨.pass, rfl, fun k b hb => by simp [PR.args] at hb⟩
        · exact ⟨.drop, rfl, fun k b hb => by simp [PR.args] at hb⟩
      have o23 : Old [a] H2 H3 := (oL.mono (fun x h => by simp at h)).trans o3
      refine ⟨(by show 1 ≤ sizeLine; decide), fun t nt => ⟨(by show 1 ≤ sizeLine; decide), fun l2 nl2 => ?_⟩⟩
      have oT : Old [] H3 (upd H3 t (.tup [x])) := Old.new0 nt
      have oU : Old [] H3 (upd (upd H3 t (.tup [x])) l2 (.lst [.ref t])) := oT.new nl2
      have ht : (upd (upd H3 t (.tup [x])) l2 (.lst [.ref t])) t = some (.tup (PR.insV j)) := by rw [upd_ne (ne_of_none upd_same nl2), upd_same, hj]
      have hl2 : (upd (upd H3 t (.tup [x])) l2 (.lst [.ref t])) l2 = some (.lst [.ref t]) := upd_same
      have p4 := p3.old oU (by simp)
      have nal2 : a ≠ l2 := fun z => by
        have := p3.old oT (by simp)
        exact (this.ne nl2) z
      generalize upd (upd H3 t (.tup [x])) l2 (.lst [.ref t]) = H4 at oU ht hl2 p4 ⊢
      refine ⟨.ref a, rfl, a, 5, _, rfl, p4, by decide, by decide, by omega, fun H5 e e0 e1 o5 p5 => ?_⟩
      have o25 : Old [a] H2 H5 := (o23.trans (oU.mono (fun x h => by simp at h))).trans o5
      have hf5 := o25 _ _ (by simp; exact naf.symm) hf2
      have hl5 := o5 _ _ (by simp; exact nal2.symm) hl2
      have ht5 := (o5.tk p4.notup).1 _ _ ht
      have tk5 := o25.tk p2.notup
      have hd5 := PL.Dp.keepAll tk5 _ _ (linesA_only is) hd2
      by_cases ce : 0 < e
      · refine ⟨e, 0, rfl, rfl, .inr ⟨true, congrArg (fun z => [V.bl z]) (decide_eq_true ce), ?_⟩⟩
        refine ⟨l2, 1, [.ref t], rfl, rfl, hl5, by decide, by decide, by show 1 * 1 ≤ sizeLine; decide, fun r nr => ?_⟩
        have o6 : Old [] H5 (upd H5 r (.lst (List.replicate (1 : Int).toNat [V.ref t]).flatten)) := Old.new0 nr
        have hr6 : (upd H5 r (.lst (List.replicate (1 : Int).toNat [V.ref t]).flatten)) r = some (.lst [.ref t]) := upd_same
        generalize upd H5 r (.lst (List.replicate (1 : Int).toNat [V.ref t]).flatten) = H6 at o6 hr6 ⊢
        refine ⟨fd, r, rs, [.ref t], rfl, rfl, o6 _ _ (by simp) hf5, hr6, ?_, fun m nm => ?_⟩
        · rw [hrl]; exact Nat.le_trans (Nat.succ_le_succ hn2) (by decide)
        have o7 : Old [] H5 (upd H6 m (.lst (rs ++ [.ref t]))) := o6.new nm
        have p7 := p5.old o7 (by simp)
        refine q _ m (is ++ [j]) ⟨by simp, by rw [List.length_append, hil]; show n + 1 ≤ 200; omega, fun k z hz => ?_⟩ ((o2.trans o25).trans (o7.mono (fun x h => by simp at h))) (p7.mono (by omega)) ?_ ⟨_, upd_same, ?_⟩
        · by_cases c : k < is.length
          · rw [List.getElem?_append_left c] at hz
            exact hok k z hz
          · rw [List.getElem?_append_right (by omega)] at hz
            have hz : j = z := by
              cases e' : k - is.length with
              | zero => rw [e'] at hz; simpa using hz
              | succ m => rw [e'] at hz; simp at hz
            subst hz
            exact jok k
        · exact fun z => by
            have := (p5.old o6 (by simp)).ne nm
            exact this z.symm
        · rw [List.map_append]
          have tk7 := o7.tk NoTup.nil
          exact PL.DpAll.append (PL.Dp.keepAll tk7 _ _ (linesA_only is) hd5) (.cons (PL.Dp.keep tk7 _ _ (insD_only j) (ins_dp ht5)) .nil)
      · refine ⟨e, 0, rfl, rfl, .inr ⟨false, congrArg (fun z => [V.bl z]) (decide_eq_false ce), ?_⟩⟩
        refine ⟨l2, 0, [.ref t], rfl, rfl, hl5, by decide, by decide, by show 1 * 0 ≤ sizeLine; decide, fun r nr => ?_⟩
        have o6 : Old [] H5 (upd H5 r (.lst (List.replicate (0 : Int).toNat [V.ref t]).flatten)) := Old.new0 nr
        have hr6 : (upd H5 r (.lst (List.replicate (0 : Int).toNat [V.ref t]).flatten)) r = some (.lst []) := upd_same
        generalize upd H5 r (.lst (List.replicate (0 : Int).toNat [V.ref t]).flatten) = H6 at o6 hr6 ⊢
        refine ⟨fd, r, rs, [], rfl, rfl, o6 _ _ (by simp) hf5, hr6, ?_, fun m nm => ?_⟩
        · rw [hrl]; exact Nat.le_trans hn2 (by decide)
        have o7 : Old [] H5 (upd H6 m (.lst (rs ++ []))) := o6.new nm
        have p7 := p5.old o7 (by simp)
        refine q _ m is ⟨by intro z; rw [z] at hil; simp at hil; omega, by omega, hok⟩ ((o2.trans o25).trans (o7.mono (fun x h => by simp at h))) (p7.mono (by omega)) ?_ ⟨_, upd_same, ?_⟩
        · exact fun z => by
            have := (p5.old o6 (by simp)).ne nm
            exact this z.symm
        · have z := PL.Dp.keepAll (o7.tk NoTup.nil) _ _ (linesA_only is) hd5
          rw [List.append_nil] at z ⊢
          exact z
end
end L2.T39

namespace L2.T39
open PySem PySem.Spec PyProof.Rows L2.PL
open L2.T34 (rowV rowV_get rowV_len rowV_set oV set2 set2_same set2_ne)
/-- a list of bounds -/
structure BdsAt (K : PySem.W.Frag) (H : Hp) (b : Addr) (B : List PD.Bd) : Prop where
  ex : ∃ xs, H b = some (.lst xs) ∧ DpAll K H xs (B.map bdD)
def spSums (K : PySem.W.Frag) : Sp := fun vs H Q _ => ∃ (b : Addr) (n : Nat) (B : List PD.Bd), vs = [.int (n : Int), .ref b] ∧ BdsAt K H b B ∧ (∀ e ∈ B, e.1 < n ∧ e.2.1 < n) ∧ n ≤ 4096 ∧
  (¬ PD.Feas B → ∀ H', Old [] H H' → Q .non H') ∧
  (∀ M H' m rs, PD.Cl n B M → Old [] H H' → MxAt H H' m rs n M → Q (.ref m) H')
/-- the first i bounds told -/
def M0 (B : List PD.Bd) (i : Nat) : PD.Mx := fun x y => PD.omin (if x = y then some 0 else none) (PD.minTo B x y i)
theorem M0_step {B : List PD.Bd} {i x y : Nat} {c : Int} (h : B[i]? = some (x, y, c)) : ∀ a b, M0 B (i + 1) a b = if a = x ∧ b = y then PD.omin (M0 B i x y) (some c) else M0 B i a b := by
  intro a b
  unfold M0
  show PD.omin _ (match B[i]? with | none => PD.minTo B a b i | some e => if e.1 = a ∧ e.2.1 = b then PD.omin (PD.minTo B a b i) (some e.2.2) else PD.minTo B a b i) = _
  rw [h]
  show PD.omin _ (if x = a ∧ y = b then PD.omin (PD.minTo B a b i) (some c) else PD.minTo B a b i) = _
  by_cases e : a = x ∧ b = y
  · obtain ⟨rfl, rfl⟩ := e
    rw [if_pos (show a = a ∧ b = b from ⟨rfl, rfl⟩), if_pos (show a = a ∧ b = b from ⟨rfl, rfl⟩), PD.omin_assoc]
  · rw [if_neg e, if_neg (show ¬ (x = a ∧ y = b) from fun z => e ⟨z.1.symm, z.2.symm⟩)]
theorem oV_none {o : Option Int} (h : oV o = .non) : o = none := by
  cases o with
  | none => rfl
  | some i => cases h
section
variable {P : Program} {w : World} {K : PySem.W.Frag} {mg : Str → Option Value} {base : Heap}
/-! _law_sums: slots many=0 bounds=1 sums=2 x=3 y=4 c=5 middle=6 total=7; cells ['many', 'sums'] -/
abbrev s_l_sums : Stmt := topS 58
abbrev N_l_sums : List Str := ["many", "bounds", "sums", "x", "y", "c", "middle", "total"]
theorem sc_l_sums : FnScope N_l_sums ["many", "bounds"] (defScope s_l_sums) := ⟨rfl, rfl, rfl, by decide +kernel, rfl, by decide +kernel, by decide +kernel⟩
/-- the scope of the outer comprehension as it runs -/
abbrev sc1_l_sums : Scope := relS { kind := .function, names := [(PySem.Str.ofString ".0", .local), (PySem.Str.ofString "x", .cell), (PySem.Str.ofString "range", .globalImplicit), (PySem.Str.ofString "many", .free)], isGenerator := false, isCoroutine := false, more := [] } (defScope s_l_sums)
theorem ok_sums {f : Addr} {fd : FuncData} (F : Fun K "_law_sums" "_law_sums" s_l_sums f fd) (T : Tx mg) : FnOk P w K mg base CX0 1 f fd ["many", "bounds"] (spSums K) := by
  refine F.ok sc_l_sums (fun vs H Q E h => ?_) (fun cdv A outer s H vs Q E hr h => ?_)
  · obtain ⟨b, n, B, rfl, _⟩ := h
    rfl
  · obtain ⟨b, n, B, rfl, hb, oix, hn2, q1', q2'⟩ := h
    have q1 : ∀ S H', PD.Run n B S n → S 0 = PD.start0 B (some 0) → (∃ x, x < n ∧ ¬ PD.Non (S n x x)) → Old [] H H' → Q .non H' := fun S H' R _ k o => q1' (PD.not_feas_of_run R k) H' o
    have q2 : ∀ S H' m rs, PD.Run n B S n → S 0 = PD.start0 B (some 0) → (∀ x, x < n → PD.Non (S n x x)) → Old [] H H' → MxAt H H' m rs n (S n) → Q (.ref m) H' := fun S H' m rs R h0 k o X => q2' _ H' m rs (PD.cl_of_run R h0 k oix) o X
    obtain ⟨xs, hxs, hall⟩ := hb.ex
    have hlen : xs.length = B.length := by rw [PL.DpAll.length hall, List.length_map]
    have hget : ∀ (i : Nat) e, B[i]? = some e → ∃ r, xs[i]? = some (.ref r) ∧ SqT K H r [.int (e.1 : Int), .int (e.2.1 : Int), .int e.2.2] := fun i e ei => by
      obtain ⟨v, g1, g2⟩ := PL.DpAll.get hall (i := i) (d := bdD e) (by rw [List.getElem?_map, ei]; rfl)
      obtain ⟨a, rfl, s⟩ := bd_at g2
      exact ⟨a, g1, s⟩
    refine ⟨_, (pss_cons (ps_set (i := 2) sc_l_sums.nd rfl (.inr rfl) (pe_lc (own := [("x", 3)]) (g := gName 3) (tt := tYes) rfl sc_l_sums.nd (pi_range1 (by rfl) T.z_range (pa_cons (pv 0) pa_nil)) (blkOk_by (N := N_l_sums) (sc := defScope s_l_sums) (by decide +kernel)) (fun _ _ _ _ _ => (pg_name (i := 3) sc_l_sums.nd rfl (Or.inr rfl))) (fun _ _ _ _ _ => pts_nil) (fun _ _ _ _ _ => (pe_lc (own := [("y", 4)]) (g := gName 4) (tt := tYes) rfl sc_l_sums.nd (pi_range1 (by rfl) T.z_range (pa_cons (pv 0) pa_nil)) (blkOk_by (N := N_l_sums) (sc := sc1_l_sums) (by decide +kernel)) (fun _ _ _ _ _ => (pg_name (i := 4) sc_l_sums.nd rfl (Or.inl rfl))) (fun _ _ _ _ _ => pts_nil) (fun _ _ _ _ _ => (pe_ifExp (pt_cmpR op_eq (pv 3) (pv 4) (nomark _)) pe_int pe_non))))))
      (pss_cons (ps_for PassesOwn.never rfl (pi_list (pv 1)) (pg_tup (by rfl) (pgs_cons (pg_name (i := 3) sc_l_sums.nd rfl (Or.inl rfl)) (pgs_cons (pg_name (i := 4) sc_l_sums.nd rfl (Or.inl rfl)) (pgs_cons (pg_name (i := 5) sc_l_sums.nd rfl (Or.inl rfl)) pgs_nil))))
       (pss_one (ps_if (PW.pt (pw_or (pt_cmpR op_isN (pe_ix ix_list (pe_ix ix_list (pv 2) (pv 3) (fun _ _ => rfl)) (pv 4) (fun _ _ => rfl)) pe_non (nomark _)) (pw_or1 (pt_cmpR op_lt (pv 5) (pe_ix ix_list (pe_ix ix_list (pv 2) (pv 3) (fun _ _ => rfl)) (pv 4) (fun _ _ => rfl)) (nomark _)))))
         (pss_one (ps_asg (pv 5) (pg_sub (pe_ix ix_list (pv 2) (pv 3) (fun _ _ => rfl)) (pv 4) set_list)))
         pss_nil)))
      (pss_cons (ps_for PassesOwn.never rfl (pi_range1 (by rfl) T.z_range (pa_cons (pv 0) pa_nil)) (pg_name (i := 6) sc_l_sums.nd rfl (Or.inl rfl))
       (pss_one (ps_for PassesOwn.never rfl (pi_range1 (by rfl) T.z_range (pa_cons (pv 0) pa_nil)) (pg_name (i := 3) sc_l_sums.nd rfl (Or.inl rfl))
         (pss_one (ps_for PassesOwn.never rfl (pi_range1 (by rfl) T.z_range (pa_cons (pv 0) pa_nil)) (pg_name (i := 4) sc_l_sums.nd rfl (Or.inl rfl))
           (pss_one (ps_if (PW.pt (pw_and (pt_cmpR op_notN (pe_ix ix_list (pe_ix ix_list (pv 2) (pv 3) (fun _ _ => rfl)) (pv 6) (fun _ _ => rfl)) pe_non (nomark _)) (pw_and1 (pt_cmpR op_notN (pe_ix ix_list (pe_ix ix_list (pv 2) (pv 6) (fun _ _ => rfl)) (pv 4) (fun _ _ => rfl)) pe_non (nomark _)))))
             (pss_cons (ps_set (i := 7) sc_l_sums.nd rfl (.inl rfl) (pe_op op_add (pe_ix ix_list (pe_ix ix_list (pv 2) (pv 3) (fun _ _ => rfl)) (pv 6) (fun _ _ => rfl)) (pe_ix ix_list (pe_ix ix_list (pv 2) (pv 6) (fun _ _ => rfl)) (pv 4) (fun _ _ => rfl))))
              (pss_one (ps_asg (pe_ifExp (pt_cmpR op_isN (pe_ix ix_list (pe_ix ix_list (pv 2) (pv 3) (fun _ _ => rfl)) (pv 4) (fun _ _ => rfl)) pe_non (nomark _)) (pv 7) (pe_callB (call_min2 rfl) (by rfl) T.z_min bz_min (pa_cons (pv 7) (pa_cons (pe_ix ix_list (pe_ix ix_list (pv 2) (pv 3) (fun _ _ => rfl)) (pv 4) (fun _ _ => rfl)) pa_nil)))) (pg_sub (pe_ix ix_list (pv 2) (pv 3) (fun _ _ => rfl)) (pv 4) set_list))))
             pss_nil)))))))
      (pss_one (ps_ret (pe_ifExp (pt_val (pe_callB (cr_all rfl) (by rfl) T.z_all bz_all (pa_cons (pe_lc (own := [("x", 3)]) (g := gName 3) (tt := tYes) rfl sc_l_sums.nd (pi_range1 (by rfl) T.z_range (pa_cons (pv 0) pa_nil)) (blkOk_by (N := N_l_sums) (sc := defScope s_l_sums) (by decide +kernel)) (fun _ _ _ _ _ => (pg_name (i := 3) sc_l_sums.nd rfl (Or.inl rfl))) (fun _ _ _ _ _ => pts_nil) (fun _ _ _ _ _ => (pe_cmpR op_ge (pe_ix (ix_listK (K := K)) (pe_ix (ix_listK (K := K)) (pv 2) (pv 3) (fun _ _ => rfl)) (pv 3) (fun _ _ => rfl)) pe_int (nomark _)))) pa_nil))) (pv 2) pe_non)))))), ?_⟩
    refine ⟨.int (n : Int), rfl, (n : Int), rfl, by omega, by omega, fun m hm => ?_⟩
    have en : ((n : Int)).toNat = n := by omega
    refine lc_range (lo := 0) (n := ((n : Int)).toNat) (fun i H' => ∃ rs : List Addr, Old [] H H' ∧ rs.length = i ∧ rs.Nodup ∧ (∀ r ∈ rs, H r = none ∧ r ≠ m) ∧ H' m = some (.lst (rs.map V.ref)) ∧ ∀ (j : Nat) r, rs[j]? = some r → H' r = some (.lst (rowV n (M0 B 0) j)))
      ⟨[], Old.new0 hm, rfl, List.nodup_nil, fun r hr => by simp at hr, upd_same, fun j r e => by simp at e⟩ ?_ ?_
    · rintro i H1 hi ⟨rs, o, hl, nd, hr0, htop, hrow⟩
      rw [en] at hi
      -- a row
      refine ⟨rfl, .int (n : Int), rfl, (n : Int), rfl, by omega, by omega, fun r hr => ?_⟩
      have nmr : m ≠ r := ne_of_none htop hr
      refine lc_range (lo := 0) (n := ((n : Int)).toNat) (fun j H' => Old [] H1 H' ∧ H' r = some (.lst ((List.range j).map fun y => oV (M0 B 0 i y)))) ⟨Old.new0 hr, upd_same⟩ ?_ ?_
      · rintro j H2 hj ⟨o2, hr2⟩
        rw [en] at hj
        refine ⟨rfl, .int (0 + (i : Int)), rfl, .int (0 + (j : Int)), rfl, rfl, _, rfl, ite2 (fun c => ?_) (fun c => ?_)⟩
        · have e : i = j := by have := of_decide_eq_true c; injection this; omega
          refine ⟨_, hr2, ?_, o2.put0 hr, ?_⟩
          · rw [List.length_map, List.length_range]; exact Nat.lt_of_lt_of_le (Nat.lt_of_lt_of_le hj hn2) (by decide)
          · rw [upd_same, List.range_succ, List.map_append]
            subst e
            have : M0 B 0 i i = some 0 := by unfold M0; rw [if_pos rfl]; rfl
            show _ = some (HO.lst (_ ++ [oV (M0 B 0 i i)]))
            rw [this]; rfl
        · have e : i ≠ j := fun z => c (by subst z; simp)
          refine ⟨_, hr2, ?_, o2.put0 hr, ?_⟩
          · rw [List.length_map, List.length_range]; exact Nat.lt_of_lt_of_le (Nat.lt_of_lt_of_le hj hn2) (by decide)
          · rw [upd_same, List.range_succ, List.map_append]
            have : M0 B 0 i j = none := by unfold M0; rw [if_neg e]; rfl
            show _ = some (HO.lst (_ ++ [oV (M0 B 0 i j)]))
            rw [this]; rfl
      · rintro H2 ⟨o2, hr2⟩
        rw [en] at hr2
        have hm2 : H2 m = some (.lst (rs.map V.ref)) := o2 _ _ (by simp) htop
        have hr00 : H r = none := o.free hr (by simp)
        have nrs : ∀ (j : Nat) q, rs[j]? = some q → q ≠ r := fun j q e z => by
          have := hrow j q e
          rw [z, hr] at this
          cases this
        refine ⟨_, hm2, ?_, rs ++ [r], ?_, ?_, ?_, ?_, ?_, ?_⟩
        · rw [List.length_map, hl]; exact Nat.lt_of_lt_of_le (Nat.lt_of_lt_of_le hi hn2) (by decide)
        · exact (o.trans o2).put0 hm
        · rw [List.length_append, hl]; rfl
        · rw [List.nodup_append]
          refine ⟨nd, by simp, fun x hx y hy => ?_⟩
          have ey : y = r := by simpa using hy
          subst ey
          obtain ⟨j, hj, e⟩ := List.mem_iff_getElem.mp hx
          exact nrs j x (by rw [List.getElem?_eq_getElem hj, e])
        · intro z hz
          rcases List.mem_append.mp hz with hz | hz
          · exact hr0 z hz
          · have ez : z = r := by simpa using hz
            subst ez
            exact ⟨hr00, nmr.symm⟩
        · rw [upd_same, List.map_append]; rfl
        · intro j z e
          by_cases hj : j < rs.length
          · rw [List.getElem?_append_left hj] at e
            have nz : z ≠ m := (hr0 z (List.mem_of_getElem? e)).2
            rw [upd_ne nz]
            exact o2 _ _ (by simp) (hrow j z e)
          · rw [List.getElem?_append_right (by omega)] at e
            have hj0 : j - rs.length = 0 := by
              have := (List.getElem?_eq_some_iff.mp e).1
              simp at this; omega
            rw [hj0] at e
            have ez : r = z := by simpa using e
            subst ez
            have ej : j = i := by omega
            subst ej
            rw [upd_ne nmr.symm, hr2]; rfl
    · rintro H1 ⟨rs, o1, hl, nd, hr0, htop, hrow⟩
      rw [en] at hl
      have X0 : MxAt H H1 m rs n (M0 B 0) := ⟨hm, hr0, nd, hl, htop, hrow⟩
      -- the bounds
      refine ⟨.ref b, rfl, b, rfl, ⟨_, SqL.of (o1 _ _ (by simp) hxs)⟩, for_list (K := K) (a := b) (xs := xs) (fun i σ H' => ∃ (y3 y4 y5 : Option V), σ = [some (.int (n : Int)), some (.ref b), some (.ref m), y3, y4, y5, none, none] ∧ Old [] H H' ∧ MxAt H H' m rs n (M0 B i))
        ⟨none, none, none, rfl, o1, X0⟩ (fun i σ H' _ ⟨_, _, _, _, o, _⟩ => SqL.of (o _ _ (by simp) hxs)) ?_ ?_⟩
      · rintro i y σ H2 hy ⟨y3, y4, y5, rfl, o2, X2⟩
        have hi : i < B.length := by rw [← hlen]; exact (List.getElem?_eq_some_iff.mp hy).1
        obtain ⟨r, hr1, hr2⟩ := hget i _ (List.getElem?_eq_getElem hi)
        rw [hy] at hr1
        cases hr1
        have hm' : B[i] ∈ B := List.getElem_mem hi
        have hxy := oix _ hm'
        have hBi := List.getElem?_eq_getElem hi
        generalize B[i] = e at hr2 hxy hBi hm'
        obtain ⟨x, y, c⟩ := e
        have hx : x < n := hxy.1
        have hy' : y < n := hxy.2
        obtain ⟨rx, g1, g2, g3⟩ := X2.get hx
        refine ⟨r, _, rfl, (o2.tk NoTup.nil).seq hr2, rfl, _, _, rfl, _, _, rfl, _, _, rfl, rfl, ?_⟩
        have up : ∀ {b' : Bool} {A' B' : Prop}, True := fun {_ _ _} => trivial
        -- the test
        refine ⟨.ref m, rfl, .int (x : Int), rfl, m, _, _, .ref rx, rfl, rfl, SqL.of X2.top, atI_nat g2, .int (y : Int), rfl, rx, _, _, _, rfl, rfl, SqL.of g3, atI_nat (rowV_get hy'), rfl, _, rfl, ?_⟩
        have store : ∀ (Hn : Hp), PD.omin (M0 B i x y) (some c) = some c → MxAt H (upd H2 rx (.lst ((rowV n (M0 B i) x).set y (.int c)))) m rs n (M0 B (i + 1)) := fun _ hc => by
          refine (X2.put (v := some c) g1 hy').congr fun a b' ha hb' => ?_
          rw [M0_step hBi]
          unfold set2
          by_cases e : a = x ∧ b' = y
          · rw [if_pos e, if_pos e, hc]
          · rw [if_neg e, if_neg e]
        have skip : PD.omin (M0 B i x y) (some c) = M0 B i x y → MxAt H H2 m rs n (M0 B (i + 1)) := fun hc => by
          refine X2.congr fun a b' ha hb' => ?_
          rw [M0_step hBi]
          by_cases e : a = x ∧ b' = y
          · rw [if_pos e, hc, e.1, e.2]
          · rw [if_neg e]
        have doput : ∀ (σ' : L2.St), σ' = [some (.int (n : Int)), some (.ref b), some (.ref m), some (.int (x : Int)), some (.int (y : Int)), some (.int c), none, none] → PD.omin (M0 B i x y) (some c) = some c →
            ∃ y3 y4 y5 : Option V, σ' = [some (.int (n : Int)), some (.ref b), some (.ref m), y3, y4, y5, none, none] ∧ Old [] H (upd H2 rx (.lst ((rowV n (M0 B i) x).set y (.int c)))) ∧ MxAt H (upd H2 rx (.lst ((rowV n (M0 B i) x).set y (.int c)))) m rs n (M0 B (i + 1)) :=
          fun σ' e hc => ⟨_, _, _, e, o2.put0 (X2.r0 rx (List.mem_of_getElem? g1)).1, store H2 hc⟩
        have ixy : ixN (rowV n (M0 B i) x).length (y : Int) = some y := by
          unfold ixN; rw [if_pos (by omega), if_pos (by rw [rowV_len]; omega)]; simp
        cases hM : M0 B i x y with
        | none =>
          refine iteT ?_
          refine iteT ?_
          refine ⟨.int c, rfl, .ref m, rfl, .int (x : Int), rfl, m, _, _, .ref rx, rfl, rfl, SqL.of X2.top, atI_nat g2, .int (y : Int), rfl, rx, _, _, y, rfl, rfl, g3, ixy, ?_⟩
          exact doput _ rfl (by rw [hM]; rfl)
        | some d =>
          refine iteF ?_
          refine ⟨.int c, rfl, .ref m, rfl, .int (x : Int), rfl, m, _, _, .ref rx, rfl, rfl, SqL.of X2.top, atI_nat g2, .int (y : Int), rfl, rx, _, _, .int d, rfl, rfl, SqL.of g3, atI_nat (by rw [rowV_get hy', hM]; rfl), _, _, rfl, rfl, _, rfl, ite2 (fun cc => ?_) (fun cc => ?_)⟩
          · have cc : c < d := of_decide_eq_true cc
            refine ⟨.int c, rfl, .ref m, rfl, .int (x : Int), rfl, m, _, _, .ref rx, rfl, rfl, SqL.of X2.top, atI_nat g2, .int (y : Int), rfl, rx, _, _, y, rfl, rfl, g3, ixy, ?_⟩
            exact doput _ rfl (by rw [hM]; show some (if c < d then c else d) = some c; rw [if_pos cc])
          · have cc : ¬ c < d := fun z => cc (decide_eq_true z)
            exact ⟨_, _, _, rfl, o2, skip (by rw [hM]; show some (if c < d then c else d) = some d; rw [if_neg cc])⟩
      · rintro σ H2 ⟨y3, y4, y5, rfl, o2, X2⟩
        have eM : M0 B xs.length = PD.start0 B (some 0) := by rw [hlen]; rfl
        rw [eM] at X2
        refine ⟨.int (n : Int), rfl, (n : Int), rfl, by omega, by omega, for_range (lo := 0) (n := ((n : Int)).toNat) (fun i σ H' => ∃ (y3 y4 y5 y6 y7 : Option V) (S : Nat → PD.Mx), σ = [some (.int (n : Int)), some (.ref b), some (.ref m), y3, y4, y5, y6, y7] ∧ Old [] H H' ∧
            PD.Run n B S i ∧ S 0 = PD.start0 B (some 0) ∧ MxAt H H' m rs n (S i))
          ⟨y3, y4, y5, none, none, fun _ => PD.start0 B (some 0), rfl, o2, PD.Run.zero PD.start0_low (PD.start0_got (.inr rfl)), rfl, X2⟩ ?_ ?_⟩
        · rintro i σ H3 hi ⟨y3, y4, y5, y6, y7, S, rfl, o3, R, hS0, X3⟩
          rw [en] at hi
          rw [Int.zero_add]
          refine ⟨.int (n : Int), rfl, (n : Int), rfl, by omega, by omega, for_range (lo := 0) (n := ((n : Int)).toNat) (fun j σ H' => ∃ (y3 y4 y7 : Option V) (M : PD.Mx), σ = [some (.int (n : Int)), some (.ref b), some (.ref m), y3, y4, y5, some (.int (i : Int)), y7] ∧ Old [] H H' ∧
              PD.MidP n (S i) i (fun a b => a < j) M ∧ MxAt H H' m rs n M)
            ⟨y3, y4, y7, S i, rfl, o3, PD.MidP.zero (fun _ _ h => absurd h (Nat.not_lt_zero _)), X3⟩ ?_ ?_⟩
          · rintro j σ H4 hj ⟨y3, y4, y7, M, rfl, o4, mp, X4⟩
            rw [en] at hj
            rw [Int.zero_add]
            refine ⟨.int (n : Int), rfl, (n : Int), rfl, by omega, by omega, for_range (lo := 0) (n := ((n : Int)).toNat) (fun l σ H' => ∃ (y4 y7 : Option V) (M : PD.Mx), σ = [some (.int (n : Int)), some (.ref b), some (.ref m), some (.int (j : Int)), y4, y5, some (.int (i : Int)), y7] ∧ Old [] H H' ∧
                PD.MidP n (S i) i (fun a b => a < j ∨ (a = j ∧ b < l)) M ∧ MxAt H H' m rs n M)
              ⟨y4, y7, M, rfl, o4, ?_, X4⟩ ?_ ?_⟩
            · have : (fun a b => a < j ∨ (a = j ∧ b < 0)) = (fun a (b : Nat) => a < j) := by funext a b; simp
              rw [this]; exact mp
            · clear mp X4 o4 M y4 y7
              rintro l σ H5 hl ⟨y4, y7, M, rfl, o5, mp, X5⟩
              rw [en] at hl
              rw [Int.zero_add]
              obtain ⟨rj, a1, a2, a3⟩ := X5.get hj
              obtain ⟨ri, b1, b2, b3⟩ := X5.get hi
              have ixy : ixN (rowV n M j).length (l : Int) = some l := by
                unfold ixN; rw [if_pos (by omega), if_pos (by rw [rowV_len]; omega)]; simp
              have Dlt : ∀ a b, (a < j ∨ (a = j ∧ b < l + 1)) ↔ (a < j ∨ (a = j ∧ b < l)) ∨ (a = j ∧ b = l) := fun a b => by omega
              have nD : ¬ (j < j ∨ (j = j ∧ l < l)) := by omega
              have skip : PD.oadd (M j i) (M i l) = none → PD.MidP n (S i) i (fun a b => a < j ∨ (a = j ∧ b < l + 1)) M := fun hc =>
                mp.step (M'' := M) hi hj hl nD Dlt (by rw [hc]; cases M j l <;> rfl) (fun _ _ _ => rfl)
              -- both there?
              refine ⟨.ref m, rfl, .int (j : Int), rfl, m, _, _, .ref rj, rfl, rfl, SqL.of X5.top, atI_nat a2, .int (i : Int), rfl, rj, _, _, _, rfl, rfl, SqL.of a3, atI_nat (rowV_get hi), rfl, _, rfl, ?_⟩
              cases h1 : M j i with
              | none =>
                refine iteF ?_
                refine iteF ?_
                exact ⟨_, _, M, rfl, o5, skip (by rw [h1]; rfl), X5⟩
              | some p =>
                refine iteT ?_
                refine ⟨.ref m, rfl, .int (i : Int), rfl, m, _, _, .ref ri, rfl, rfl, SqL.of X5.top, atI_nat b2, .int (l : Int), rfl, ri, _, _, _, rfl, rfl, SqL.of b3, atI_nat (rowV_get hl), rfl, _, rfl, ?_⟩
                cases h2 : M i l with
                | none =>
                  refine iteF ?_
                  exact ⟨_, _, M, rfl, o5, skip (by rw [h1, h2]; rfl), X5⟩
                | some q =>
                  refine iteT ?_
                  refine ⟨.ref m, rfl, .int (j : Int), rfl, m, _, _, .ref rj, rfl, rfl, SqL.of X5.top, atI_nat a2, .int (i : Int), rfl, rj, _, _, .int p, rfl, rfl, SqL.of a3, atI_nat (by rw [rowV_get hi, h1]; rfl),
                    .ref m, rfl, .int (i : Int), rfl, m, _, _, .ref ri, rfl, rfl, SqL.of X5.top, atI_nat b2, .int (l : Int), rfl, ri, _, _, .int q, rfl, rfl, SqL.of b3, atI_nat (by rw [rowV_get hl, h2]; rfl), p, q, rfl, rfl, ?_⟩
                  have fin : ∀ (t : Int) (σ' : L2.St), (some t = PD.omin (M j l) (some (p + q))) → σ' = [some (.int (n : Int)), some (.ref b), some (.ref m), some (.int (j : Int)), some (.int (l : Int)), y5, some (.int (i : Int)), some (.int (p + q))] →
                      ∃ (y4 y7 : Option V) (M' : PD.Mx), σ' = [some (.int (n : Int)), some (.ref b), some (.ref m), some (.int (j : Int)), y4, y5, some (.int (i : Int)), y7] ∧ Old [] H (upd H5 rj (.lst ((rowV n M j).set l (.int t)))) ∧
                        PD.MidP n (S i) i (fun a b => a < j ∨ (a = j ∧ b < l + 1)) M' ∧ MxAt H (upd H5 rj (.lst ((rowV n M j).set l (.int t)))) m rs n M' := fun t σ' ht e => by
                    refine ⟨_, _, set2 M j l (some t), e, o5.put0 (X5.r0 rj (List.mem_of_getElem? a1)).1, mp.step hi hj hl nD Dlt ?_ (fun a b h => set2_ne h), X5.put (v := some t) a1 hl⟩
                    rw [set2_same, h1, h2]; exact ht
                  refine ⟨.ref m, rfl, .int (j : Int), rfl, m, _, _, .ref rj, rfl, rfl, SqL.of X5.top, atI_nat a2, .int (l : Int), rfl, rj, _, _, _, rfl, rfl, SqL.of a3, atI_nat (rowV_get hl), rfl, _, rfl, ?_⟩
                  cases h3 : M j l with
                  | none =>
                    refine iteT ?_
                    refine ⟨.int (p + q), rfl, .ref m, rfl, .int (j : Int), rfl, m, _, _, .ref rj, rfl, rfl, SqL.of X5.top, atI_nat a2, .int (l : Int), rfl, rj, _, _, l, rfl, rfl, a3, ixy, ?_⟩
                    exact fin (p + q) _ (by rw [h3]; rfl) rfl
                  | some d =>
                    refine iteF ?_
                    refine ⟨.int (p + q), rfl, .ref m, rfl, .int (j : Int), rfl, m, _, _, .ref rj, rfl, rfl, SqL.of X5.top, atI_nat a2, .int (l : Int), rfl, rj, _, _, .int d, rfl, rfl, SqL.of a3, atI_nat (by rw [rowV_get hl, h3]; rfl), _, _, rfl, ?_⟩
                    refine ⟨.ref m, rfl, .int (j : Int), rfl, m, _, _, .ref rj, rfl, rfl, SqL.of X5.top, atI_nat a2, .int (l : Int), rfl, rj, _, _, l, rfl, rfl, a3, ixy, ?_⟩
                    exact fin _ _ (by rw [h3]; show some _ = some (if p + q < d then p + q else d); congr 1; split <;> split <;> omega) rfl
            · rintro σ H5 ⟨y4, y7, M, rfl, o5, mp, X5⟩
              rw [en] at mp
              refine ⟨_, _, _, M, rfl, o5, ⟨mp.mono, fun hn a b ha hb => ?_⟩, X5⟩
              have q := mp.exact hn a b ha hb
              exact ⟨fun d => q.1 (by omega), fun d => q.2 (by omega)⟩
          · rintro σ H4 ⟨y3, y4, y7, M, rfl, o4, mp, X4⟩
            rw [en] at mp
            have md : PD.Mid n (S i) i M := mp.mid fun x y hx hy d => absurd hx d
            refine ⟨_, _, _, _, _, _, rfl, o4, R.more md, ?_, ?_⟩
            · show (if 0 = i + 1 then M else S 0) = _
              rw [if_neg (by omega)]; exact hS0
            · show MxAt H H4 m rs n (if i + 1 = i + 1 then M else S (i + 1))
              rw [if_pos rfl]; exact X4
        · rintro σ H3 ⟨y3, y4, y5, y6, y7, S, rfl, o3, R, hS0, X3⟩
          rw [en] at R X3
          -- the middle line
          have dg : ∀ x, x < n → ∃ d, S n x x = some d := fun x hx => by
            have h0 : PD.ole (S 0 x x) (some 0) := by
              rw [hS0]; unfold PD.start0; rw [if_pos rfl]; exact PD.omin_l _ _
            obtain ⟨d, e, _⟩ := PD.ole_trans (R.mono (Nat.zero_le n) (Nat.le_refl n) x x hx hx) h0 0 rfl
            exact ⟨d, e⟩
          refine ⟨.int (n : Int), rfl, (n : Int), rfl, by omega, by omega, fun D hD => ?_⟩
          refine lc_range (lo := 0) (n := ((n : Int)).toNat) (fun i H' => Old [] H3 H' ∧ H' D = some (.lst (((List.range i).map fun x => decide (0 ≤ (S n x x).getD 0)).map V.bl))) ⟨Old.new0 hD, upd_same⟩ ?_ ?_
          · rintro i H4 hi ⟨o4, hD4⟩
            rw [en] at hi
            rw [Int.zero_add]
            have X4 := X3.same o4.same
            obtain ⟨r, a1, a2, a3⟩ := X4.get hi
            obtain ⟨d, hd⟩ := dg i hi
            refine ⟨rfl, .ref m, rfl, .int (i : Int), rfl, m, _, _, .ref r, rfl, rfl, SqL.of X4.top, atI_nat a2, .int (i : Int), rfl, r, _, _, .int d, rfl, rfl, SqL.of a3, atI_nat (by rw [rowV_get hi, hd]; rfl), d, 0, rfl, rfl, _, hD4, ?_, o4.put0 hD, ?_⟩
            · rw [List.length_map, List.length_map, List.length_range]; exact Nat.lt_of_lt_of_le (Nat.lt_of_lt_of_le hi hn2) (by decide)
            · rw [upd_same, List.range_succ, List.map_append, List.map_append]
              show _ = some (HO.lst (_ ++ [V.bl (decide (0 ≤ (S n i i).getD 0))]))
              rw [hd]; rfl
          · rintro H4 ⟨o4, hD4⟩
            rw [en] at hD4
            refine ⟨D, _, rfl, SqL.of hD4, _, rfl, ?_⟩
            by_cases hall : ∀ x, x < n → PD.Non (S n x x)
            · have e : (((List.range n).map fun x => decide (0 ≤ (S n x x).getD 0)).all id) = true := by
                rw [List.all_eq_true]
                intro b hb
                obtain ⟨x, hx, rfl⟩ := List.mem_map.mp hb
                obtain ⟨d, hd⟩ := dg x (List.mem_range.mp hx)
                have := hall x (List.mem_range.mp hx) d hd
                rw [hd]
                exact decide_eq_true this
              rw [e]
              refine iteT ?_
              exact ⟨.ref m, rfl, q2 S H4 m rs R hS0 hall (o3.trans o4) (X3.same o4.same)⟩
            · have : ∃ x, x < n ∧ ¬ PD.Non (S n x x) := Classical.byContradiction fun hn => hall fun x hx => Classical.byContradiction fun h => hn ⟨x, hx, h⟩
              obtain ⟨x, hx, hnx⟩ := this
              have e : (((List.range n).map fun x => decide (0 ≤ (S n x x).getD 0)).all id) = false := by
                rw [List.all_eq_false]
                obtain ⟨d, hd⟩ := dg x hx
                refine ⟨_, List.mem_map.mpr ⟨x, List.mem_range.mpr hx, rfl⟩, ?_⟩
                intro hc
                have hc : 0 ≤ (S n x x).getD 0 := of_decide_eq_true hc
                rw [hd] at hc
                exact hnx fun d' e' => by
                  rw [hd] at e'
                  cases e'
                  exact hc
              rw [e]
              refine iteF ?_
              exact q1 S H4 R hS0 ⟨x, hx, hnx⟩ (o3.trans o4)
end
end L2.T39

namespace L2.T39
open PySem PySem.Spec PyProof.Rows L2.PL
/-! ### the law's state -/
inductive Wh where
  | no
  | split (n : Nat)
def whD : Wh → PyData
  | .no => .str "none"
  | .split n => .tuple [.str "split", .int (n : Int)]
/-- what the state holds -/
structure Ld where
  B : List PW.Bd
  C : List (PW.Tm × Nat)
  n : Nat
  E : List PR.Told
  M : List (Nat × Nat)
  left : List Nat
  wh : Wh
  known : Option Addr
def ofW (w : PW.Wk) (cs : List Nat) (wh : Wh) (kd : Option Addr) : Ld := ⟨w.bounds, w.cells, w.many, w.ends, w.came, cs, wh, kd⟩
/-- a list of data -/
structure LA {α : Type} (f : α → PyData) (K : PySem.W.Frag) (H : Hp) (a : Addr) (l : List α) : Prop where
  ex : ∃ xs, H a = some (.lst xs) ∧ DpAll K H xs (l.map f)
theorem LA.keep {α : Type} {f : α → PyData} {K : PySem.W.Frag} {H H' : Hp} {a : Addr} {l : List α} (h : LA f K H a l) (hf : ∀ x, tupOnly (f x) = true) (t : Tk H H') (e : ∀ o, H a = some o → H' a = some o) : LA f K H' a l := by
  obtain ⟨xs, h1, h2⟩ := h.ex
  exact ⟨xs, e _ h1, PL.Dp.keepAll t _ _ (only_map f hf l) h2⟩
/-- addresses of the state's lists, and of the state -/
structure Sa where
  s : Addr
  b : Addr
  l : Addr
  e : Addr
  c : Addr
  f : Addr
def Sa.all (a : Sa) : List Addr := [a.s, a.b, a.l, a.e, a.c, a.f]
/-- those that a choice changes -/
def Sa.ch (a : Sa) : List Addr := [a.s, a.b, a.f]
theorem Old.ch {a : Sa} {H H' : Hp} (o : Old a.ch H H') : Old a.all H H' := o.mono fun x hx => by
  simp only [Sa.ch, Sa.all, List.mem_cons, List.not_mem_nil, or_false] at hx ⊢
  rcases hx with h | h | h <;> simp [h]
structure Sn (a : Sa) : Prop where
  sb : a.s ≠ a.b
  sl : a.s ≠ a.l
  se : a.s ≠ a.e
  sc : a.s ≠ a.c
  sf : a.s ≠ a.f
  bl : a.b ≠ a.l
  be : a.b ≠ a.e
  bc : a.b ≠ a.c
  bf : a.b ≠ a.f
  le : a.l ≠ a.e
  lc : a.l ≠ a.c
  lf : a.l ≠ a.f
  ec : a.e ≠ a.c
  ef : a.e ≠ a.f
  cf : a.c ≠ a.f
structure LsK (K : PySem.W.Frag) (H : Hp) (a : Sa) (d : Ld) (kvs : List (Key × V)) (v : V) : Prop where
  nd : Sn a
  hs : H a.s = some (.dK kvs)
  kb : valV kvs (.inr "bounds") = some (.ref a.b)
  kl : valV kvs (.inr "cells") = some (.ref a.l)
  kn : valV kvs (.inr "many") = some (.int (d.n : Int))
  ke : valV kvs (.inr "ends") = some (.ref a.e)
  kc : valV kvs (.inr "came") = some (.ref a.c)
  kw : valV kvs (.inr "what") = some v
  kf : valV kvs (.inr "left") = some (.ref a.f)
  kk : valV kvs (.inr "known") = d.known.map V.ref
  dw : Dp K H v (whD d.wh)
  hb : LA bdD K H a.b d.B
  hl : LA cellD K H a.l d.C
  he : LA toldD K H a.e d.E
  hc : LA pairD K H a.c d.M
  hf : H a.f = some (.lst (d.left.map fun c : Nat => V.int (c : Int)))
  len : kvs.length ≤ 7 ∨ (kvs.length ≤ 8 ∧ (valV kvs (.inr "known")).isSome = true)
def LsA (K : PySem.W.Frag) (H : Hp) (a : Sa) (d : Ld) : Prop := ∃ kvs v, LsK K H a d kvs v
section
variable {K : PySem.W.Frag} {H H' : Hp} {a : Sa} {d : Ld} {kvs : List (Key × V)} {v : V}
theorem whD_only (w : Wh) : tupOnly (whD w) = true := by cases w <;> rfl
theorem bdD_only (b : PW.Bd) : tupOnly (bdD b) = true := rfl
theorem pairD_only (b : Nat × Nat) : tupOnly (pairD b) = true := rfl
theorem len_put {kvs : List (Key × V)} {k : Key} {u y : V} (h : valV kvs k = some u) : (putK kvs k y).length = kvs.length := by
  have : (kvs.any fun kv => decide (kv.1 = k)) = true := by
    unfold valV at h
    cases e : kvs.find? fun kv => decide (kv.1 = k) with
    | none => rw [e] at h; cases h
    | some p =>
      have := List.find?_some e
      exact List.any_eq_true.mpr ⟨p, List.mem_of_find?_eq_some e, this⟩
  unfold putK
  rw [if_pos this, List.length_map]
theorem LsK.gb (h : LsK K H a d kvs v) : DGet H a.s (.str "bounds") (some (.ref a.b)) := by have := DGet.k (k := .inr "bounds") h.hs; rw [h.kb] at this; exact this
theorem LsK.gl (h : LsK K H a d kvs v) : DGet H a.s (.str "cells") (some (.ref a.l)) := by have := DGet.k (k := .inr "cells") h.hs; rw [h.kl] at this; exact this
theorem LsK.gn (h : LsK K H a d kvs v) : DGet H a.s (.str "many") (some (.int (d.n : Int))) := by have := DGet.k (k := .inr "many") h.hs; rw [h.kn] at this; exact this
theorem LsK.ge (h : LsK K H a d kvs v) : DGet H a.s (.str "ends") (some (.ref a.e)) := by have := DGet.k (k := .inr "ends") h.hs; rw [h.ke] at this; exact this
theorem LsK.gc (h : LsK K H a d kvs v) : DGet H a.s (.str "came") (some (.ref a.c)) := by have := DGet.k (k := .inr "came") h.hs; rw [h.kc] at this; exact this
theorem LsK.gw (h : LsK K H a d kvs v) : DGet H a.s (.str "what") (some v) := by have := DGet.k (k := .inr "what") h.hs; rw [h.kw] at this; exact this
theorem LsK.gf (h : LsK K H a d kvs v) : DGet H a.s (.str "left") (some (.ref a.f)) := by have := DGet.k (k := .inr "left") h.hs; rw [h.kf] at this; exact this
theorem LsK.l8 (h : LsK K H a d kvs v) : kvs.length ≤ 8 := by rcases h.len with z | z <;> omega
theorem LsK.notup (h : LsK K H a d kvs v) : NoTup a.all H := by
  obtain ⟨xb, b1, _⟩ := h.hb.ex
  obtain ⟨xl, l1, _⟩ := h.hl.ex
  obtain ⟨xe, e1, _⟩ := h.he.ex
  obtain ⟨xc, c1, _⟩ := h.hc.ex
  have hs := h.hs
  have hf := h.hf
  intro x hx
  simp only [Sa.all, List.mem_cons, List.not_mem_nil, or_false] at hx
  rcases hx with rfl | rfl | rfl | rfl | rfl | rfl
  · rw [hs]; exact ⟨fun xs z => (nomatch z), fun p u z => (nomatch z)⟩
  · rw [b1]; exact ⟨fun xs z => (nomatch z), fun p u z => (nomatch z)⟩
  · rw [l1]; exact ⟨fun xs z => (nomatch z), fun p u z => (nomatch z)⟩
  · rw [e1]; exact ⟨fun xs z => (nomatch z), fun p u z => (nomatch z)⟩
  · rw [c1]; exact ⟨fun xs z => (nomatch z), fun p u z => (nomatch z)⟩
  · rw [hf]; exact ⟨fun xs z => (nomatch z), fun p u z => (nomatch z)⟩
/-- what lies elsewhere changes nothing -/
theorem LsK.keepT (h : LsK K H a d kvs v) (t : Tk H H') (k : ∀ x ∈ a.all, ∀ o, H x = some o → H' x = some o) : LsK K H' a d kvs v := by
  have m : ∀ {x}, x ∈ a.all → ∀ o, H x = some o → H' x = some o := fun hx => k _ hx
  exact ⟨h.nd, m (by simp [Sa.all]) _ h.hs, h.kb, h.kl, h.kn, h.ke, h.kc, h.kw, h.kf, h.kk, PL.Dp.keep t _ _ (whD_only _) h.dw, h.hb.keep bdD_only t (m (by simp [Sa.all])), h.hl.keep (fun _ => rfl) t (m (by simp [Sa.all])), h.he.keep toldD_only t (m (by simp [Sa.all])), h.hc.keep pairD_only t (m (by simp [Sa.all])), m (by simp [Sa.all]) _ h.hf, h.len⟩
theorem LsK.keep (h : LsK K H a d kvs v) (o : Old [] H H') : LsK K H' a d kvs v := h.keepT (o.tk NoTup.nil) fun x _ u e => o x u (by simp) e
/-- Tk behind a change of one of the state's -/
theorem LsK.tk1 (h : LsK K H a d kvs v) {x : Addr} (hx : x ∈ a.all) (o : HO) : Tk H (upd H x o) := Old.tk (W := a.all) ((Old.refl _ _).put hx) h.notup
theorem LsK.setS (h : LsK K H a d kvs v) {d' : Ld} {v' : V} {k : Str} {y : V} (hk : (valV kvs (.inr k)).isSome = true ∨ (k = "known" ∧ kvs.length ≤ 7))
    (kb : k ≠ "bounds") (kl : k ≠ "cells") (ke : k ≠ "ends") (kc : k ≠ "came") (kf : k ≠ "left")
    (kn : (if ("many" : Str) = k then some y else some (.int (d.n : Int))) = some (.int (d'.n : Int))) (kw : (if ("what" : Str) = k then some y else some v) = some v')
    (kk : (if ("known" : Str) = k then some y else d.known.map V.ref) = d'.known.map V.ref) (dw : Dp K H v' (whD d'.wh)) (eB : d'.B = d.B) (eC : d'.C = d.C) (eE : d'.E = d.E) (eM : d'.M = d.M) (ef : d'.left = d.left) : LsK K (upd H a.s (.dK (putK kvs (.inr k) y))) a d' (putK kvs (.inr k) y) v' := by
  have t := h.tk1 (x := a.s) (by simp [Sa.all]) (.dK (putK kvs (.inr k) y))
  have at_ : ∀ j : Str, valV (putK kvs (.inr k) y) (.inr j) = if j = k then some y else valV kvs (.inr j) := fun j => by
    rw [valV_put]
    by_cases z : j = k
    · rw [if_pos z, if_pos (congrArg Sum.inr z)]
    · rw [if_neg z, if_neg (fun w => z (Sum.inr.inj w))]
  have n := h.nd
  refine ⟨n, upd_same, ?_, ?_, ?_, ?_, ?_, ?_, ?_, ?_, PL.Dp.keep t _ _ (whD_only _) dw, ?_, ?_, ?_, ?_, ?_, ?_⟩
  · rw [at_, if_neg (Ne.symm kb)]; exact h.kb
  · rw [at_, if_neg (Ne.symm kl)]; exact h.kl
  · rw [at_, h.kn]; exact kn
  · rw [at_, if_neg (Ne.symm ke)]; exact h.ke
  · rw [at_, if_neg (Ne.symm kc)]; exact h.kc
  · rw [at_, h.kw]; exact kw
  · rw [at_, if_neg (Ne.symm kf)]; exact h.kf
  · rw [at_, h.kk]; exact kk
  · rw [eB]; exact h.hb.keep bdD_only t fun o e => by rw [upd_ne n.sb.symm]; exact e
  · rw [eC]; exact h.hl.keep (fun _ => rfl) t fun o e => by rw [upd_ne n.sl.symm]; exact e
  · rw [eE]; exact h.he.keep toldD_only t fun o e => by rw [upd_ne n.se.symm]; exact e
  · rw [eM]; exact h.hc.keep pairD_only t fun o e => by rw [upd_ne n.sc.symm]; exact e
  · rw [ef, upd_ne n.sf.symm]; exact h.hf
  · rw [at_]
    rcases hk with z | ⟨z, l⟩
    · obtain ⟨u, e⟩ := Option.isSome_iff_exists.mp z
      rw [len_put e]
      rcases h.len with w | ⟨w1, w2⟩
      · exact .inl w
      · refine .inr ⟨w1, ?_⟩
        split
        · rfl
        · exact w2
    · subst z
      refine .inr ⟨Nat.le_trans (length_putK _ _ _) (by omega), ?_⟩
      rw [if_pos rfl]; rfl
theorem LsK.many (h : LsK K H a d kvs v) (n : Nat) : LsK K (upd H a.s (.dK (putK kvs (.inr "many") (.int (n : Int))))) a { d with n := n } (putK kvs (.inr "many") (.int (n : Int))) v :=
  h.setS (.inl (by rw [h.kn]; rfl)) (by decide +kernel) (by decide +kernel) (by decide +kernel) (by decide +kernel) (by decide +kernel) (by rw [if_pos rfl]) (by rw [if_neg (by decide +kernel)]) (by rw [if_neg (by decide +kernel)]) h.dw rfl rfl rfl rfl rfl
theorem LsK.what (h : LsK K H a d kvs v) (wh : Wh) {y : V} (dy : Dp K H y (whD wh)) : LsK K (upd H a.s (.dK (putK kvs (.inr "what") y))) a { d with wh := wh } (putK kvs (.inr "what") y) y :=
  h.setS (.inl (by rw [h.kw]; rfl)) (by decide +kernel) (by decide +kernel) (by decide +kernel) (by decide +kernel) (by decide +kernel) (by rw [if_neg (by decide +kernel)]) (by rw [if_pos rfl]) (by rw [if_neg (by decide +kernel)]) dy rfl rfl rfl rfl rfl
theorem LsK.gk (h : LsK K H a d kvs v) {kd : Addr} (e : d.known = some kd) : DGet H a.s (.str "known") (some (.ref kd)) := by have := DGet.k (k := .inr "known") h.hs; rw [h.kk, e] at this; exact this
theorem LsK.setKnown (h : LsK K H a d kvs v) (y : Addr) : LsK K (upd H a.s (.dK (putK kvs (.inr "known") (.ref y)))) a { d with known := some y } (putK kvs (.inr "known") (.ref y)) v :=
  h.setS (by rcases h.len with z | ⟨_, z⟩; exact .inr ⟨rfl, z⟩; exact .inl z) (by decide +kernel) (by decide +kernel) (by decide +kernel) (by decide +kernel) (by decide +kernel) (by rw [if_neg (by decide +kernel)]) (by rw [if_neg (by decide +kernel)]) (by rw [if_pos rfl]; rfl) h.dw rfl rfl rfl rfl rfl
theorem LsK.pop (h : LsK K H a d kvs v) (r : List Nat) : LsK K (upd H a.f (.lst (r.map fun c : Nat => V.int (c : Int)))) a { d with left := r } kvs v := by
  have t := h.tk1 (x := a.f) (by simp [Sa.all]) (.lst (r.map fun c : Nat => V.int (c : Int)))
  have n := h.nd
  exact ⟨n, by rw [upd_ne n.sf]; exact h.hs, h.kb, h.kl, h.kn, h.ke, h.kc, h.kw, h.kf, h.kk, PL.Dp.keep t _ _ (whD_only _) h.dw, h.hb.keep bdD_only t fun o e => by rw [upd_ne n.bf]; exact e, h.hl.keep (fun _ => rfl) t fun o e => by rw [upd_ne n.lf]; exact e,
    h.he.keep toldD_only t fun o e => by rw [upd_ne n.ef]; exact e, h.hc.keep pairD_only t fun o e => by rw [upd_ne n.cf]; exact e, upd_same, h.len⟩
theorem LA.app {α : Type} {f : α → PyData} {x : Addr} {l m : List α} {xs ys : List V} (hf : ∀ x, tupOnly (f x) = true) (t : Tk H (upd H x (.lst (xs ++ ys)))) (h : DpAll K H xs (l.map f)) (k : DpAll K H ys (m.map f)) : LA f K (upd H x (.lst (xs ++ ys))) x (l ++ m) :=
  ⟨xs ++ ys, upd_same, by rw [List.map_append]; exact PL.DpAll.append (PL.Dp.keepAll t _ _ (only_map f hf l) h) (PL.Dp.keepAll t _ _ (only_map f hf m) k)⟩
theorem LsK.addB (h : LsK K H a d kvs v) {bs : List PW.Bd} {xs ys : List V} (hx : H a.b = some (.lst xs)) (hd : DpAll K H xs (d.B.map bdD)) (hy : DpAll K H ys (bs.map bdD)) : LsK K (upd H a.b (.lst (xs ++ ys))) a { d with B := d.B ++ bs } kvs v := by
  have t := h.tk1 (x := a.b) (by simp [Sa.all]) (.lst (xs ++ ys))
  have n := h.nd
  exact ⟨n, by rw [upd_ne n.sb]; exact h.hs, h.kb, h.kl, h.kn, h.ke, h.kc, h.kw, h.kf, h.kk, PL.Dp.keep t _ _ (whD_only _) h.dw, LA.app bdD_only t hd hy, h.hl.keep (fun _ => rfl) t fun o e => by rw [upd_ne n.bl.symm]; exact e,
    h.he.keep toldD_only t fun o e => by rw [upd_ne n.be.symm]; exact e, h.hc.keep pairD_only t fun o e => by rw [upd_ne n.bc.symm]; exact e, by rw [upd_ne n.bf.symm]; exact h.hf, h.len⟩
theorem LsK.addC (h : LsK K H a d kvs v) {bs : List (PW.Tm × Nat)} {xs ys : List V} (hx : H a.l = some (.lst xs)) (hd : DpAll K H xs (d.C.map cellD)) (hy : DpAll K H ys (bs.map cellD)) : LsK K (upd H a.l (.lst (xs ++ ys))) a { d with C := d.C ++ bs } kvs v := by
  have t := h.tk1 (x := a.l) (by simp [Sa.all]) (.lst (xs ++ ys))
  have n := h.nd
  exact ⟨n, by rw [upd_ne n.sl]; exact h.hs, h.kb, h.kl, h.kn, h.ke, h.kc, h.kw, h.kf, h.kk, PL.Dp.keep t _ _ (whD_only _) h.dw, h.hb.keep bdD_only t fun o e => by rw [upd_ne n.bl]; exact e, LA.app (fun _ => rfl) t hd hy,
    h.he.keep toldD_only t fun o e => by rw [upd_ne n.le.symm]; exact e, h.hc.keep pairD_only t fun o e => by rw [upd_ne n.lc.symm]; exact e, by rw [upd_ne n.lf.symm]; exact h.hf, h.len⟩
theorem LsK.addE (h : LsK K H a d kvs v) {bs : List PR.Told} {xs ys : List V} (hx : H a.e = some (.lst xs)) (hd : DpAll K H xs (d.E.map toldD)) (hy : DpAll K H ys (bs.map toldD)) : LsK K (upd H a.e (.lst (xs ++ ys))) a { d with E := d.E ++ bs } kvs v := by
  have t := h.tk1 (x := a.e) (by simp [Sa.all]) (.lst (xs ++ ys))
  have n := h.nd
  exact ⟨n, by rw [upd_ne n.se]; exact h.hs, h.kb, h.kl, h.kn, h.ke, h.kc, h.kw, h.kf, h.kk, PL.Dp.keep t _ _ (whD_only _) h.dw, h.hb.keep bdD_only t fun o e => by rw [upd_ne n.be]; exact e, h.hl.keep (fun _ => rfl) t fun o e => by rw [upd_ne n.le]; exact e,
    LA.app toldD_only t hd hy, h.hc.keep pairD_only t fun o e => by rw [upd_ne n.ec.symm]; exact e, by rw [upd_ne n.ef.symm]; exact h.hf, h.len⟩
theorem LsK.addM (h : LsK K H a d kvs v) {bs : List (Nat × Nat)} {xs ys : List V} (hx : H a.c = some (.lst xs)) (hd : DpAll K H xs (d.M.map pairD)) (hy : DpAll K H ys (bs.map pairD)) : LsK K (upd H a.c (.lst (xs ++ ys))) a { d with M := d.M ++ bs } kvs v := by
  have t := h.tk1 (x := a.c) (by simp [Sa.all]) (.lst (xs ++ ys))
  have n := h.nd
  exact ⟨n, by rw [upd_ne n.sc]; exact h.hs, h.kb, h.kl, h.kn, h.ke, h.kc, h.kw, h.kf, h.kk, PL.Dp.keep t _ _ (whD_only _) h.dw, h.hb.keep bdD_only t fun o e => by rw [upd_ne n.bc]; exact e, h.hl.keep (fun _ => rfl) t fun o e => by rw [upd_ne n.lc]; exact e,
    h.he.keep toldD_only t fun o e => by rw [upd_ne n.ec]; exact e, LA.app pairD_only t hd hy, by rw [upd_ne n.cf.symm]; exact h.hf, h.len⟩
end
end L2.T39

namespace L2.T39
open PySem PySem.Spec PyProof.Rows L2.PL
/-- a split's alternatives as lists, none of them the state's own -/
structure OptsL (K : PySem.W.Frag) (H : Hp) (W : List Addr) (o : Addr) (os : List (List PW.Bd)) : Prop where
  out : o ∉ W
  ex : ∃ xs, H o = some (.lst xs) ∧ xs.length = os.length ∧ ∀ (c : Nat) bs, os[c]? = some bs → ∃ r zs, xs[c]? = some (.ref r) ∧ r ∉ W ∧ H r = some (.lst zs) ∧ DpAll K H zs (bs.map bdD)
def spChosen (K : PySem.W.Frag) : Sp := fun vs H Q _ => ∃ (a : Sa) (d : Ld) (o : Addr) (os : List (List PW.Bd)), vs = [.ref a.s, .ref o] ∧ LsA K H a d ∧ OptsL K H a.all o os ∧ os.length ≤ 10 ∧ d.B.length ≤ 15000000 ∧ (∀ bs ∈ os, bs.length ≤ 2) ∧
  (d.left = [] → ∀ H', Old a.ch H H' → LsA K H' a { d with wh := .split os.length } → Q (.int (-1)) H') ∧
  (∀ c r, d.left = c :: r → c < os.length ∧ ∀ H', Old a.ch H H' → LsA K H' a { d with left := r, B := d.B ++ (os[c]?).getD [] } → Q (.int (c : Int)) H')
section
variable {P : Program} {w : World} {K : PySem.W.Frag} {mg : Str → Option Value} {base : Heap}
/-! _law_is_int: slots value=0 low=1 high=2; cells [] -/
abbrev s_l_is_int : Stmt := topS 51
abbrev N_l_is_int : List Str := ["value", "low", "high"]
theorem sc_l_is_int : FnScope N_l_is_int ["value", "low", "high"] (defScope s_l_is_int) := ⟨rfl, rfl, rfl, by decide +kernel, rfl, by decide +kernel, by decide +kernel⟩
theorem ok_l_is_int {f : Addr} {fd : FuncData} (F : Fun K "_law_is_int" "_law_is_int" s_l_is_int f fd) (T : Bt mg) : FnOk P w K mg base CX0 1 f fd ["value", "low", "high"] spIsInt := by
  refine F.ok sc_l_is_int (fun vs H Q E h => ?_) (fun cdv A outer s H vs Q E hr h => ?_)
  · obtain ⟨i, lo, hi, rfl, _⟩ := h
    rfl
  · obtain ⟨i, lo, hi, rfl, q⟩ := h
    refine ⟨_, (pss_one (ps_ret (pe_and (pe_callB call_isi (by rfl) T.z_isinstance bz_isinstance (pa_cons (pv 0) (pa_cons (pe_bltn (v := .ty "int") (by rfl) T.z_int bz_int rfl) pa_nil))) (pe_and (pe_not (pe_callB call_isi (by rfl) T.z_isinstance bz_isinstance (pa_cons (pv 0) (pa_cons (pe_bltn (v := .ty "bool") (by rfl) T.z_bool bz_bool rfl) pa_nil)))) (pe_one (pe_chain op_le op_le (pv 1) (pv 0) (pv 2))))))), ?_⟩
    refine ⟨.int i, rfl, .int i, .ty "int", _, _, true, rfl, .ty _, tyx_int i, kit_int_int, true, rfl, iteT ?_⟩
    refine ⟨.int i, rfl, .int i, .ty "bool", _, _, false, rfl, .ty _, tyx_int i, kit_int_bool, false, rfl, true, rfl, iteT ?_⟩
    refine ⟨.int lo, rfl, .int i, rfl, lo, i, rfl, rfl, _, rfl, ite2 (fun c => ?_) (fun c => ?_)⟩
    · refine ⟨.int hi, rfl, i, hi, rfl, rfl, ?_⟩
      rw [c] at q
      exact q
    · rw [Bool.not_eq_true] at c
      rw [c] at q
      exact q
/-! _law_at_most: slots one=0 other=1 number=2; cells [] -/
abbrev s_l_at_most : Stmt := topS 59
abbrev N_l_at_most : List Str := ["one", "other", "number"]
theorem sc_l_at_most : FnScope N_l_at_most ["one", "other", "number"] (defScope s_l_at_most) := ⟨rfl, rfl, rfl, by decide +kernel, rfl, by decide +kernel, by decide +kernel⟩
theorem ok_l_at_most {f : Addr} {fd : FuncData} (F : Fun K "_law_at_most" "_law_at_most" s_l_at_most f fd) : FnOk P w K mg base CX0 1 f fd ["one", "other", "number"] (spAtMost K) := by
  refine F.ok sc_l_at_most (fun vs H Q E h => ?_) (fun cdv A outer s H vs Q E hr h => ?_)
  · obtain ⟨v, u, a, b, n, rfl, _⟩ := h
    rfl
  · obtain ⟨v, u, a, b, n, rfl, ha, hb, q⟩ := h
    obtain ⟨ta, rfl, sa⟩ := tm_at ha
    obtain ⟨tb, rfl, sb⟩ := tm_at hb
    refine ⟨_, (pss_one (ps_ret (pe_tup (pa_cons (pe_ix ix_tup (pv 0) pe_int (fun _ _ => rfl)) (pa_cons (pe_ix ix_tup (pv 1) pe_int (fun _ _ => rfl)) (pa_cons (pe_op op_add (pe_op op_sub (pv 2) (pe_ix ix_tup (pv 0) pe_int (fun _ _ => rfl))) (pe_ix ix_tup (pv 1) pe_int (fun _ _ => rfl))) pa_nil)))))), ?_⟩
    refine ⟨.ref ta, rfl, ta, _, 0, _, rfl, rfl, sa, rfl, .ref tb, rfl, tb, _, 0, _, rfl, rfl, sb, rfl, .int n, rfl, .ref ta, rfl, ta, _, 1, _, rfl, rfl, sa, rfl, n, a.2, rfl, rfl, .ref tb, rfl, tb, _, 1, _, rfl, rfl, sb, rfl, _, b.2, rfl, rfl, by show 3 ≤ sizeLine; decide, fun t nt => ?_⟩
    exact q _ t (Old.new0 nt) (.tup (SqT.of upd_same) (.cons (.int _) (.cons (.int _) (.cons (.int _) .nil))))
/-! _law_chosen: slots state=0 options=1 number=2; cells [] -/
abbrev s_l_chosen : Stmt := topS 60
abbrev N_l_chosen : List Str := ["state", "options", "number"]
theorem sc_l_chosen : FnScope N_l_chosen ["state", "options"] (defScope s_l_chosen) := ⟨rfl, rfl, rfl, by decide +kernel, rfl, by decide +kernel, by decide +kernel⟩
theorem ok_l_chosen {f : Addr} {fd : FuncData} (F : Fun K "_law_chosen" "_law_chosen" s_l_chosen f fd) (T : Bt mg) (C_l_is_int : Cal P w K mg base CX0 "_law_is_int" ["value", "low", "high"] 1 spIsInt) : FnOk P w K mg base CX0 2 f fd ["state", "options"] (spChosen K) := by
  refine F.ok sc_l_chosen (fun vs H Q E h => ?_) (fun cdv A outer s H vs Q E hr h => ?_)
  · obtain ⟨a, d, o, os, rfl, _⟩ := h
    rfl
  · obtain ⟨a, d, o, os, rfl, ⟨kvs, v, X⟩, op, hol, hbl, hos2, q1, q2⟩ := h
    have hu := hu_of hr
    obtain ⟨xs, ho, hxl, hxg⟩ := op.ex
    refine ⟨_, (pss_cons (ps_if (pt_cmpR (op_eqD hr.units) (pe_dget hu (pv 0) pe_str (fun _ _ => rfl)) (pe_lst pa_nil) (nomark _))
       (pss_cons (ps_asg (pe_tup (pa_cons pe_str (pa_cons (pe_callB call_len_seq (by rfl) T.z_len bz_len (pa_cons (pv 1) pa_nil)) pa_nil))) (pg_sub (pv 0) pe_str (set_dict hu)))
        (pss_one (ps_ret (pe_un un_neg pe_int))))
       pss_nil)
      (pss_cons (ps_set (i := 2) sc_l_chosen.nd rfl (.inl rfl) (pe_bm PySem.F.plainAttrs_list PySem.F.slot_list_pop PySem.F.type_list_pop mt_popAt (pe_dget hu (pv 0) pe_str (fun _ _ => rfl)) (pa_cons pe_int pa_nil)))
      (pss_cons (ps_if (pt_not (pt_val (pe_cal C_l_is_int hr (by rfl) pass0 (pa_cons (pv 2) (pa_cons pe_int (pa_cons (pe_op op_sub (pe_callB call_len_seq (by rfl) T.z_len bz_len (pa_cons (pv 1) pa_nil)) pe_int) pa_nil))))))
       (pss_cons (ps_asg pe_non (pg_sub (pv 0) pe_str (set_dict hu)))
        (pss_one (ps_ret (pe_un un_neg pe_int))))
       pss_nil)
      (pss_cons (ps_expr (pe_bm PySem.F.plainAttrs_list PySem.F.slot_list_extend PySem.F.type_list_extend mt_extend (pe_dget hu (pv 0) pe_str (fun _ _ => rfl)) (pa_cons (pe_ix ix_list (pv 1) (pv 2) (fun _ _ => rfl)) pa_nil)))
      (pss_one (ps_ret (pv 2))))))), ?_⟩
    refine ⟨.ref a.s, rfl, a.s, _, rfl, X.gf, Nat.zero_le _, fun e ne => ?_⟩
    have o1 : Old [] H (upd H e (.lst [])) := Old.new0 ne
    have he1 : (upd H e (.lst [])) e = some (.lst []) := upd_same
    have X1 := X.keep o1
    have ho1 := o1 _ _ (by simp) ho
    generalize upd H e (.lst []) = H1 at o1 he1 X1 ho1 ⊢
    have hmap : (d.left.map fun c : Nat => V.int (c : Int)) = (d.left.map fun c : Nat => (c : Int)).map V.int := by rw [List.map_map]; rfl
    have hfe : H1 a.f = some (.lst ((d.left.map fun c : Nat => (c : Int)).map V.int)) := by rw [X1.hf, hmap]
    refine ⟨.list ((d.left.map fun c : Nat => (c : Int)).map PyData.int), .list [], .lst (SqL.of hfe) (PL.Dp.ofInts _), .lst (SqL.of he1) .nil, shaped_ints _, shaped_nil, ?_⟩
    rw [eqv_nil]
    cases hle : d.left with
    | nil =>
      refine ⟨true, rfl, iteT ?_⟩
      refine ⟨.ref o, rfl, o, xs, rfl, .inl (SqL.of ho1), by show 2 ≤ sizeLine; decide, fun t nt => ?_⟩
      have o2 : Old [] H1 (upd H1 t (.tup [.str "split", .int (xs.length : Int)])) := Old.new0 nt
      have d2 : Dp K (upd H1 t (.tup [.str "split", .int (xs.length : Int)])) (.ref t) (whD (.split os.length)) := by rw [← hxl]; exact dp2 upd_same (.str _) (.int _)
      have X2 := X1.keep o2
      generalize upd H1 t (.tup [.str "split", .int (xs.length : Int)]) = H2 at o2 d2 X2 ⊢
      refine ⟨.ref a.s, rfl, a.s, _, rfl, DPut.k (k := .inr "what") X2.hs (Nat.lt_of_le_of_lt X2.l8 (by decide)), ?_⟩
      have X3 := X2.what (.split os.length) d2
      refine ⟨1, rfl, q1 hle _ ((Old.w (o1.trans o2)).trans ((Old.refl _ _).put (by simp [Sa.ch]))) ⟨_, _, X3⟩⟩
    | cons c r =>
      refine ⟨false, rfl, iteF ?_⟩
      obtain ⟨hc, q2⟩ := q2 c r hle
      have hf1 := X1.hf
      rw [hle] at hf1
      refine ⟨.ref a.s, rfl, a.s, _, rfl, X1.gf, .inl ⟨rfl, _, SqL.of hf1⟩, a.f, _, 0, 0, .int (c : Int), rfl, rfl, hf1, by decide, by decide, ?_, rfl, ?_⟩
      · unfold seqIndex?
        simp
      have X2 := X1.pop r
      have ho2 : (upd H1 a.f (.lst (r.map fun c : Nat => V.int (c : Int)))) o = some (.lst xs) := by rw [upd_ne (fun z => op.out (by rw [z]; simp [Sa.all]))]; exact ho1
      obtain ⟨ro, zs, g1, g2, g3, g4⟩ := hxg c os[c] (List.getElem?_eq_getElem hc)
      have g3' : (upd H1 a.f (.lst (r.map fun c : Nat => V.int (c : Int)))) ro = some (.lst zs) := by rw [upd_ne (fun z => g2 (by rw [z]; simp [Sa.all]))]; exact o1 _ _ (by simp) g3
      have g4' := PL.Dp.keepAll ((o1.tk NoTup.nil).trans (X1.tk1 (x := a.f) (by simp [Sa.all]) (.lst (r.map fun c : Nat => V.int (c : Int))))) _ _ (only_map bdD bdD_only _) g4
      have o2 : Old a.ch H (upd H1 a.f (.lst (r.map fun c : Nat => V.int (c : Int)))) := (Old.w o1).put (by simp [Sa.ch])
      have eer : List.eraseIdx (List.map (fun c : Nat => V.int (c : Int)) (c :: r)) 0 = r.map fun c : Nat => V.int (c : Int) := rfl
      rw [eer]
      generalize upd H1 a.f (.lst (r.map fun c : Nat => V.int (c : Int))) = H2 at X2 ho2 g3' g4' o2 ⊢
      refine ⟨.int (c : Int), rfl, .ref o, rfl, o, xs, rfl, .inl (SqL.of ho2), _, 1, rfl, rfl, c, 0, _, rfl, ?_⟩
      have eb : (decide ((0 : Int) ≤ (c : Int)) && decide ((c : Int) ≤ (xs.length : Int) - 1)) = true := by
        rw [hxl]; simp; omega
      rw [eb]
      refine ⟨true, rfl, iteF ?_⟩
      obtain ⟨bx, hb1, hb2⟩ := X2.hb.ex
      have hbl2 : bx.length = d.B.length := by rw [PL.DpAll.length hb2, List.length_map]
      have hzl : zs.length ≤ 2 := by rw [PL.DpAll.length g4, List.length_map]; exact hos2 _ (List.getElem_mem hc)
      refine ⟨.ref a.s, rfl, a.s, _, rfl, X2.gb, .inl ⟨rfl, _, SqL.of hb1⟩, .ref o, rfl, .int (c : Int), rfl, o, xs, _, .ref ro, rfl, rfl, SqL.of ho2, atI_nat g1, a.b, ro, bx, zs, rfl, rfl, hb1, g3', by show _ ≤ 2 ^ 24; omega, ?_⟩
      have X3 := X2.addB hb1 hb2 g4'
      have eo : (os[c]?).getD [] = os[c] := by rw [List.getElem?_eq_getElem hc]; rfl
      rw [eo] at q2
      exact ⟨.int (c : Int), rfl, q2 _ (o2.put (by simp [Sa.ch])) ⟨_, _, X3⟩⟩
end
end L2.T39

namespace L2.T39
open PySem PySem.Spec PyProof.Rows L2.PL
def RightFrom (ps : List (List PR.Ins)) (w : PW.Wk) (cs : List Nat) : Prop := ∃ wf, PW.Reach ps w cs wf [] ∧ PW.cstep ps wf [] = none
section
variable {ps : List (List PR.Ins)} {w w1 : PW.Wk} {cs cs1 r : List Nat} {os : List (List PW.Bd)} {c : Nat} {i : PR.Ins}
theorem RightFrom.on (h : RightFrom ps w cs) (r : PW.Reach ps w cs w1 cs1) : RightFrom ps w1 cs1 := let ⟨wf, a, b⟩ := h; ⟨wf, a.to_halt b r, b⟩
theorem RightFrom.lt (h : RightFrom ps w (c :: r)) (o : w.options = some os) : c < os.length := by
  obtain ⟨wf, a, b⟩ := h
  refine Classical.byContradiction fun hc => ?_
  cases a with
  | head e _ =>
    unfold PW.cstep at e
    rw [o] at e
    simp only [if_neg hc] at e
    cases e
theorem takeF_place (hp : w.pending = none) (e : PW.insAt ps w = i) (ld : PW.isLoad i = true) : PW.Wk.takeF ps w os c = if c = 2 then { w with bounds := w.bounds ++ (os[c]?).getD [], options := none, pending := some (PW.placeOf w.terms i, 0) } else ({ w with bounds := w.bounds ++ (os[c]?).getD [], options := none } : PW.Wk).finish (.beyond w.at_) := by
  unfold PW.Wk.takeF
  rw [hp, e]
  simp only
  rw [if_neg (by rw [ld]; exact fun z => nomatch z)]
theorem takeF_test (hp : w.pending = none) (e : PW.insAt ps w = i) (nl : PW.isLoad i = false) : PW.Wk.takeF ps w os c = { w with bounds := w.bounds ++ (os[c]?).getD [], options := none, at_ := if c = 0 then PR.goal i else w.at_ + 1 } := by
  unfold PW.Wk.takeF
  rw [hp, e]
  simp only
  rw [if_pos nl]
theorem takeF_cell {p q : PW.Tm} {n v : Nat} (hp : w.pending = some (p, n)) (e : PW.insAt ps w = i) (ec : w.cells[n]? = some (q, v)) : PW.Wk.takeF ps w os c = if c = 0 then ({ w with bounds := w.bounds ++ (os[c]?).getD [], options := none } : PW.Wk).load i v else { w with bounds := w.bounds ++ (os[c]?).getD [], options := none, pending := some (p, n + 1) } := by
  unfold PW.Wk.takeF
  rw [hp, e]
  simp only [ec, Option.getD_some]
end
/-- the registers' dict of the law -/
structure Kn (K : PySem.W.Frag) (H : Hp) (a : Sa) (kd : Addr) (m : PW.Mt) (n : Nat) : Prop where
  out : kd ∉ a.all
  ex : ∃ kvs, H kd = some (.dK kvs) ∧ MemT K H kvs m ∧ kvs.length ≤ n
section
variable {K : PySem.W.Frag} {H H' : Hp} {a : Sa} {kd : Addr} {m : PW.Mt} {n : Nat} {d : Ld} {kvs : List (Key × V)} {v : V}
theorem LsK.out (h : LsK K H a d kvs v) {p : Addr} (np : H p = none) : p ∉ a.all := fun hp => by
  obtain ⟨xb, b1, _⟩ := h.hb.ex
  obtain ⟨xl, l1, _⟩ := h.hl.ex
  obtain ⟨xe, e1, _⟩ := h.he.ex
  obtain ⟨xc, c1, _⟩ := h.hc.ex
  have hs := h.hs
  have hf := h.hf
  simp only [Sa.all, List.mem_cons, List.not_mem_nil, or_false] at hp
  rcases hp with z | z | z | z | z | z <;> rw [z] at np
  · rw [hs] at np; cases np
  · rw [b1] at np; cases np
  · rw [l1] at np; cases np
  · rw [e1] at np; cases np
  · rw [c1] at np; cases np
  · rw [hf] at np; cases np
theorem Kn.keep (h : Kn K H a kd m n) (t : Tk H H') (e : ∀ o, H kd = some o → H' kd = some o) : Kn K H' a kd m n := by
  obtain ⟨kvs, h1, h2, h3⟩ := h.ex
  exact ⟨h.out, kvs, e _ h1, h2.keep t, h3⟩
theorem Kn.keepO (h : Kn K H a kd m n) (X : LsK K H a d kvs v) (o : Old a.all H H') : Kn K H' a kd m n := h.keep (o.tk X.notup) fun u e => o _ u h.out e
theorem Kn.keep0 (h : Kn K H a kd m n) (o : Old [] H H') : Kn K H' a kd m n := h.keep (o.tk NoTup.nil) fun u e => o _ u (by simp) e
theorem Kn.tk (h : Kn K H a kd m n) (o : HO) : Tk H (upd H kd o) := by
  obtain ⟨kvs, h1, _, _⟩ := h.ex
  refine Old.tk (W := [kd]) ((Old.refl _ _).put (by simp)) fun x hx => ?_
  rw [List.mem_singleton.mp hx, h1]
  exact ⟨fun xs z => (nomatch z), fun p u z => (nomatch z)⟩
theorem Kn.get (h : Kn K H a kd m n) {r : Nat} {t : PW.Tm} (e : m r = some t) : ∃ ta, DGet H kd (.str (PR.rg r)) (some (.ref ta)) ∧ SqT K H ta [.int (t.1 : Int), .int t.2] ∧ Dp K H (.ref ta) (tmD t) := by
  obtain ⟨kvs, h1, h2, _⟩ := h.ex
  obtain ⟨v, g1, g2⟩ := h2.yes r t e
  obtain ⟨ta, rfl, sa⟩ := tm_at g2
  have := DGet.k (k := .inr (PR.rg r)) h1
  rw [g1] at this
  exact ⟨ta, this, sa, g2⟩
/-- a register set -/
theorem Kn.put (h : Kn K H a kd m n) (X : LsK K H a d kvs v) (hn : n ≤ 1000) (r : Nat) {y : V} {t : PW.Tm} (dy : Dp K H y (tmD t)) : ∃ H', DPut H kd (.str (PR.rg r)) y H' ∧ Old [kd] H H' ∧ Tk H H' ∧ LsK K H' a d kvs v ∧ Kn K H' a kd (PW.putT m r t) (n + 1) := by
  obtain ⟨kvs2, h1, h2, h3⟩ := h.ex
  have tk := h.tk (.dK (putK kvs2 (.inr (PR.rg r)) y))
  refine ⟨_, DPut.k (k := .inr (PR.rg r)) h1 (Nat.lt_of_le_of_lt (Nat.le_trans h3 hn) (by decide)), (Old.refl _ _).put (by simp), tk, X.keepT tk fun x hx o e => ?_, h.out, _, upd_same, (h2.keep tk).put r (PL.Dp.keep tk _ _ rfl dy), Nat.le_trans (length_putK _ _ _) (Nat.succ_le_succ h3)⟩
  rw [upd_ne (fun z => h.out (by rw [← z]; exact hx))]
  exact e
end
def spLoaded (K : PySem.W.Frag) : Sp := fun vs H Q _ => ∃ (a : Sa) (t kd : Addr) (i : PR.Ins) (ps : List (List PR.Ins)) (w : PW.Wk) (cs : List Nat) (wh : Wh), vs = [.ref a.s, .ref t, .int (w.at_ : Int)] ∧ LsA K H a (ofW w cs wh (some kd)) ∧ Kn K H a kd w.terms w.at_ ∧ SqT K H t (PR.insV i) ∧
  (PW.linesAt ps w)[w.at_]? = some i ∧ PW.isLoad i = true ∧ PW.unsetT i w.terms = false ∧ Gd ps w ∧ w.options = some (PW.placeOpts (PW.placeOf w.terms i)) ∧ w.pending = none ∧ RightFrom ps w cs ∧
  (∀ H' w' os, Old (kd :: a.all) H H' → PW.Reach ps w cs w' [] → w'.options = some os → w'.ends = w.ends → LsA K H' a (ofW w' [] (.split os.length) (some kd)) → Q (.str "stop") H') ∧
  (∀ H' w' cs' t', Old (kd :: a.all) H H' → PW.Reach ps w cs w' cs' → w'.ends = w.ends ++ [.beyond w.at_] → w'.options = none → w'.pending = none → LsA K H' a { ofW w' cs' wh (some kd) with E := w.ends } → Dp K H' (.ref t') (toldD (.beyond w.at_)) → Q (.ref t') H') ∧
  (∀ H' w' cs', Old (kd :: a.all) H H' → PW.Reach ps w cs w' cs' → w'.at_ = w.at_ + 1 → w'.ends = w.ends → w'.options = none → w'.pending = none → LsA K H' a (ofW w' cs' wh (some kd)) → Kn K H' a kd w'.terms w'.at_ → Q .non H')
section
variable {P : Program} {w : World} {K : PySem.W.Frag} {mg : Str → Option Value} {base : Heap}
/-! _law_loaded: slots state=0 line=1 at=2 known=3 nought=4 length=5 place=6 within=7 number=8 other=9 variable=10 alike=11; cells [] -/
abbrev s_l_loaded : Stmt := topS 61
abbrev N_l_loaded : List Str := ["state", "line", "at", "known", "nought", "length", "place", "within", "number", "other", "variable", "alike"]
theorem sc_l_loaded : FnScope N_l_loaded ["state", "line", "at"] (defScope s_l_loaded) := ⟨rfl, rfl, rfl, by decide +kernel, rfl, by decide +kernel, by decide +kernel⟩
theorem ok_l_loaded {f : Addr} {fd : FuncData} (F : Fun K "_law_loaded" "_law_loaded" s_l_loaded f fd) (T : Bt mg) (C_l_at_most : Cal P w K mg base CX0 "_law_at_most" ["one", "other", "number"] 1 (spAtMost K)) (C_l_chosen : Cal P w K mg base CX0 "_law_chosen" ["state", "options"] 2 (spChosen K)) :
    FnOk P w K mg base CX0 3 f fd ["state", "line", "at"] (spLoaded K) := by
  refine F.ok sc_l_loaded (fun vs H Q E h => ?_) (fun cdv A outer s H vs Q E hr h => ?_)
  · obtain ⟨a, t, kd, i, ps, w, cs, wh, rfl, _⟩ := h
    rfl
  · obtain ⟨a, t, kd, i, ps, w, cs, wh, rfl, ⟨kvs, v, X⟩, kn, ht, ei, ld, un, gd, ho, hp, rt, q1, q2, q3⟩ := h
    have hu := hu_of hr
    obtain ⟨r, s', n, rfl⟩ : ∃ r s n, i = .load r s n := by cases i <;> first | (cases ld; done) | exact ⟨_, _, _, rfl⟩
    have eins : PW.insAt ps w = .load r s' n := PW.insAt_of ei
    have hms : w.terms s' = some (PW.tm w.terms s') := set_of un (2, s') (.head _)
    refine ⟨_, (pss_cons (ps_par3 (i := 3) (j := 4) (l := 5) (by rfl) sc_l_loaded.nd rfl rfl rfl (by decide) (by decide) (by decide) rfl rfl rfl (pa_cons (pe_dget hu (pv 0) pe_str (fun _ _ => rfl)) (pa_cons (pe_tup (pa_cons pe_int (pa_cons pe_int pa_nil))) (pa_cons (pe_tup (pa_cons pe_int (pa_cons pe_int pa_nil))) pa_nil))) (by rfl))
      (pss_cons (ps_set (i := 6) sc_l_loaded.nd rfl (.inl rfl) (pe_tup (pa_cons (pe_ix ix_tup (pe_dget hu (pv 3) (pe_ix ix_tup (pv 1) pe_int (fun _ _ => rfl)) (fun _ _ => rfl)) pe_int (fun _ _ => rfl)) (pa_cons (pe_op op_add (pe_ix ix_tup (pe_dget hu (pv 3) (pe_ix ix_tup (pv 1) pe_int (fun _ _ => rfl)) (fun _ _ => rfl)) pe_int (fun _ _ => rfl)) (pe_ix ix_tup (pv 1) pe_int (fun _ _ => rfl))) pa_nil))))
      (pss_cons (ps_set (i := 7) sc_l_loaded.nd rfl (.inl rfl) (pe_lst (pa_cons (pe_cal C_l_at_most hr (by rfl) pass0 (pa_cons (pv 4) (pa_cons (pv 6) (pa_cons pe_int pa_nil)))) (pa_cons (pe_cal C_l_at_most hr (by rfl) pass0 (pa_cons (pv 6) (pa_cons (pv 5) (pa_cons (pe_un un_neg pe_int) pa_nil)))) pa_nil))))
      (pss_cons (ps_set (i := 8) sc_l_loaded.nd rfl (.inl rfl) (pe_cal C_l_chosen hr (by rfl) pass0 (pa_cons (pv 0) (pa_cons (pe_lst (pa_cons (pe_lst (pa_cons (pe_cal C_l_at_most hr (by rfl) pass0 (pa_cons (pv 6) (pa_cons (pv 4) (pa_cons (pe_un un_neg pe_int) pa_nil)))) pa_nil)) (pa_cons (pe_lst (pa_cons (pe_cal C_l_at_most hr (by rfl) pass0 (pa_cons (pv 5) (pa_cons (pv 6) (pa_cons pe_int pa_nil)))) pa_nil)) (pa_cons (pv 7) pa_nil)))) pa_nil))))
      (pss_cons (ps_if (pt_cmpR op_lt (pv 8) pe_int (nomark _))
       (pss_one (ps_ret (pe_ifExp (pt_cmpR op_lt (pv 8) pe_int (nomark _)) pe_str (pe_tup (pa_cons pe_str (pa_cons (pv 2) (pa_cons pe_str pa_nil)))))))
       pss_nil)
      (pss_cons (ps_for PassesOwn.never rfl (pi_list (pe_dget hu (pv 0) pe_str (fun _ _ => rfl))) (pg_tup (by rfl) (pgs_cons (pg_name (i := 9) sc_l_loaded.nd rfl (Or.inl rfl)) (pgs_cons (pg_name (i := 10) sc_l_loaded.nd rfl (Or.inl rfl)) pgs_nil)))
       (pss_cons (ps_set (i := 8) sc_l_loaded.nd rfl (.inl rfl) (pe_ifExp (pt_cmpR (op_eqD hr.units) (pv 9) (pv 6) (nomark _)) pe_int pe_int))
        (pss_cons (ps_if (pt_cmpR op_ne (pe_ix ix_tup (pv 9) pe_int (fun _ _ => rfl)) (pe_ix ix_tup (pv 6) pe_int (fun _ _ => rfl)) (nomark _))
         (pss_cons (ps_set (i := 11) sc_l_loaded.nd rfl (.inl rfl) (pe_lst (pa_cons (pe_cal C_l_at_most hr (by rfl) pass0 (pa_cons (pv 6) (pa_cons (pv 9) (pa_cons pe_int pa_nil)))) (pa_cons (pe_cal C_l_at_most hr (by rfl) pass0 (pa_cons (pv 9) (pa_cons (pv 6) (pa_cons pe_int pa_nil)))) pa_nil))))
          (pss_one (ps_set (i := 8) sc_l_loaded.nd rfl (.inl rfl) (pe_cal C_l_chosen hr (by rfl) pass0 (pa_cons (pv 0) (pa_cons (pe_lst (pa_cons (pv 11) (pa_cons (pe_lst (pa_cons (pe_cal C_l_at_most hr (by rfl) pass0 (pa_cons (pv 6) (pa_cons (pv 9) (pa_cons (pe_un un_neg pe_int) pa_nil)))) pa_nil)) (pa_cons (pe_lst (pa_cons (pe_cal C_l_at_most hr (by rfl) pass0 (pa_cons (pv 9) (pa_cons (pv 6) (pa_cons (pe_un un_neg pe_int) pa_nil)))) pa_nil)) pa_nil)))) pa_nil))))))
         pss_nil)
        (pss_cons (ps_if (pt_cmpR op_lt (pv 8) pe_int (nomark _))
         (pss_one (ps_ret pe_str))
         pss_nil)
        (pss_one (ps_if (pt_cmpR op_eq (pv 8) pe_int (nomark _))
         (pss_cons (ps_asg (pe_tup (pa_cons (pv 10) (pa_cons pe_int pa_nil))) (pg_sub (pv 3) (pe_ix ix_tup (pv 1) pe_int (fun _ _ => rfl)) (set_dict hu)))
          (pss_one (ps_ret pe_non)))
         pss_nil))))))
      (pss_cons (ps_set (i := 10) sc_l_loaded.nd rfl (.inl rfl) (pe_dget hu (pv 0) pe_str (fun _ _ => rfl)))
      (pss_cons (ps_asg (pe_op op_add (pv 10) pe_int) (pg_sub (pv 0) pe_str (set_dict hu)))
      (pss_cons (ps_expr (pe_bm PySem.F.plainAttrs_list PySem.F.slot_list_extend PySem.F.type_list_extend mt_extend (pe_dget hu (pv 0) pe_str (fun _ _ => rfl)) (pa_cons (pe_lst (pa_cons (pe_tup (pa_cons (pv 10) (pa_cons pe_int (pa_cons pe_int pa_nil)))) (pa_cons (pe_tup (pa_cons pe_int (pa_cons (pv 10) (pa_cons pe_int pa_nil)))) pa_nil))) pa_nil)))
      (pss_cons (ps_expr (pe_bm PySem.F.plainAttrs_list PySem.F.slot_list_append PySem.F.type_list_append mt_append (pe_dget hu (pv 0) pe_str (fun _ _ => rfl)) (pa_cons (pe_tup (pa_cons (pv 6) (pa_cons (pv 10) pa_nil))) pa_nil)))
      (pss_cons (ps_asg (pe_tup (pa_cons (pv 10) (pa_cons pe_int pa_nil))) (pg_sub (pv 3) (pe_ix ix_tup (pv 1) pe_int (fun _ _ => rfl)) (set_dict hu)))
      (pss_one (ps_ret pe_non))))))))))))), ?_⟩
    refine ⟨.ref a.s, rfl, a.s, _, rfl, X.gk rfl, by show 2 ≤ sizeLine; decide, fun p0 n0 => ⟨by show 2 ≤ sizeLine; decide, fun p1 n1 => ⟨_, _, _, rfl, ?_⟩⟩⟩
    have o1 : Old [] H (upd (upd H p0 (.tup [.int 0, .int 0])) p1 (.tup [.int 1, .int 0])) := (Old.new0 n0).new n1
    have dN : Dp K (upd (upd H p0 (.tup [.int 0, .int 0])) p1 (.tup [.int 1, .int 0])) (.ref p0) (tmD PW.nought) := keepD (Old.new0 n1) rfl (dp2 upd_same (.int _) (.int _))
    have dL : Dp K (upd (upd H p0 (.tup [.int 0, .int 0])) p1 (.tup [.int 1, .int 0])) (.ref p1) (tmD PW.length_) := dp2 upd_same (.int _) (.int _)
    generalize upd (upd H p0 (.tup [.int 0, .int 0])) p1 (.tup [.int 1, .int 0]) = H1 at o1 dN dL ⊢
    have kn1 := kn.keep0 o1
    have ht1 := (o1.tk NoTup.nil).seq ht
    obtain ⟨ta, g, sa, da⟩ := kn1.get hms
    refine ⟨.ref kd, rfl, .ref t, rfl, t, _, 2, .str (PR.rg s'), rfl, rfl, ht1, atI_nat (j := 2) rfl, kd, _, rfl, g, ta, _, 0, _, rfl, rfl, sa, rfl, .ref kd, rfl, .ref t, rfl, t, _, 2, .str (PR.rg s'), rfl, rfl, ht1, atI_nat (j := 2) rfl, kd, _, rfl, g, ta, _, 1, _, rfl, rfl, sa, rfl, .ref t, rfl, t, _, 3, .int n, rfl, rfl, ht1, atI_nat (j := 3) rfl, _, n, rfl, rfl, by show 2 ≤ sizeLine; decide, fun pl npl => ?_⟩
    have eP : PW.placeOf w.terms (.load r s' n) = ((PW.tm w.terms s').1, (PW.tm w.terms s').2 + n) := rfl
    generalize hP : PW.placeOf w.terms (.load r s' n) = pp at *
    have o2 : Old [] H (upd H1 pl (.tup [.int ((PW.tm w.terms s').1 : Int), .int ((PW.tm w.terms s').2 + n)])) := o1.new npl
    have dP : Dp K (upd H1 pl (.tup [.int ((PW.tm w.terms s').1 : Int), .int ((PW.tm w.terms s').2 + n)])) (.ref pl) (tmD pp) := by rw [eP]; exact dp2 upd_same (.int _) (.int _)
    have dN2 := keepD (Old.new0 (o := HO.tup [.int ((PW.tm w.terms s').1 : Int), .int ((PW.tm w.terms s').2 + n)]) npl) rfl dN
    have dL2 := keepD (Old.new0 (o := HO.tup [.int ((PW.tm w.terms s').1 : Int), .int ((PW.tm w.terms s').2 + n)]) npl) rfl dL
    generalize upd H1 pl (.tup [.int ((PW.tm w.terms s').1 : Int), .int ((PW.tm w.terms s').2 + n)]) = H2 at o2 dP dN2 dL2 ⊢
    clear dN dL g sa da ht1 kn1 o1 npl n0 n1
    -- within
    refine ⟨.ref p0, rfl, .ref pl, rfl, .ref p0, .ref pl, PW.nought, pp, 0, rfl, dN2, dP, fun H3 b1 o3 d3 => ?_⟩
    refine ⟨.ref pl, rfl, .ref p1, rfl, 1, rfl, .ref pl, .ref p1, pp, PW.length_, -1, rfl, keepD o3 rfl dP, keepD o3 rfl dL2, fun H4 b2 o4 d4 => ⟨by show 2 ≤ sizeLine; decide, fun wi nwi => ?_⟩⟩
    have o24 := (o3.trans o4).new (o := HO.lst [.ref b1, .ref b2]) nwi
    have hwi : (upd H4 wi (.lst [.ref b1, .ref b2])) wi = some (.lst [.ref b1, .ref b2]) := upd_same
    have d3 := keepD (o4.new (o := HO.lst [.ref b1, .ref b2]) nwi) rfl d3
    have d4 := keepD (Old.new0 (o := HO.lst [.ref b1, .ref b2]) nwi) rfl d4
    generalize upd H4 wi (.lst [.ref b1, .ref b2]) = H5 at o24 hwi d3 d4 ⊢
    have hwi0 : H wi = none := (o2.trans (o3.trans o4)).free nwi (by simp)
    clear nwi
    have dN5 := keepD o24 rfl dN2
    have dL5 := keepD o24 rfl dL2
    have dP5 := keepD o24 rfl dP
    have o5 := o2.trans o24
    -- chosen(state, [..])
    refine ⟨.ref a.s, rfl, .ref pl, rfl, .ref p0, rfl, 1, rfl, .ref pl, .ref p0, pp, PW.nought, -1, rfl, dP5, dN5, fun H6 b3 o6 d6 => ⟨by show 1 ≤ sizeLine; decide, fun l1 nl1 => ?_⟩⟩
    have oa := o6.new (o := HO.lst [.ref b3]) nl1
    have hl1 : (upd H6 l1 (.lst [.ref b3])) l1 = some (.lst [.ref b3]) := upd_same
    have d6 := keepD (Old.new0 (o := HO.lst [.ref b3]) nl1) rfl d6
    have hl10 : H l1 = none := (o5.trans o6).free nl1 (by simp)
    generalize upd H6 l1 (.lst [.ref b3]) = H7 at oa hl1 d6 ⊢
    clear nl1
    refine ⟨.ref p1, rfl, .ref pl, rfl, .ref p1, .ref pl, PW.length_, pp, 0, rfl, keepD oa rfl dL5, keepD oa rfl dP5, fun H8 b4 o8 d8 => ⟨by show 1 ≤ sizeLine; decide, fun l2 nl2 => ?_⟩⟩
    have ob := o8.new (o := HO.lst [.ref b4]) nl2
    have hl2 : (upd H8 l2 (.lst [.ref b4])) l2 = some (.lst [.ref b4]) := upd_same
    have d8 := keepD (Old.new0 (o := HO.lst [.ref b4]) nl2) rfl d8
    have hl20 : H l2 = none := ((o5.trans oa).trans o8).free nl2 (by simp)
    generalize upd H8 l2 (.lst [.ref b4]) = H9 at ob hl2 d8 ⊢
    clear nl2
    refine ⟨.ref wi, rfl, by show 3 ≤ sizeLine; decide, fun op nop => ?_⟩
    have oc : Old [] H9 (upd H9 op (.lst [.ref l1, .ref l2, .ref wi])) := Old.new0 nop
    have hop : (upd H9 op (.lst [.ref l1, .ref l2, .ref wi])) op = some (.lst [.ref l1, .ref l2, .ref wi]) := upd_same
    have hop0 : H op = none := ((o5.trans oa).trans ob).free nop (by simp)
    have h5t := (oa.trans ob).trans oc
    have e6 := keepD (ob.trans oc) rfl d6
    have e8 := keepD oc rfl d8
    have e3 := keepD h5t rfl d3
    have e4 := keepD h5t rfl d4
    have hwi' := h5t _ _ (by simp) hwi
    have hl1' := (ob.trans oc) _ _ (by simp) hl1
    have hl2' := oc _ _ (by simp) hl2
    generalize upd H9 op (.lst [.ref l1, .ref l2, .ref wi]) = H10 at oc hop h5t e6 e8 e3 e4 hwi' hl1' hl2' ⊢
    clear nop d6 d8 d3 d4 hwi hl1 hl2
    have o10 := o5.trans h5t
    have X10 := X.keep o10
    have kn10 := kn.keep0 o10
    have OL : OptsL K H10 a.all op (PW.placeOpts pp) := ⟨X.out hop0, _, hop, rfl, fun c bs e => by
      match c, e with
      | 0, e => cases e; exact ⟨l1, _, rfl, X.out hl10, hl1', .cons e6 .nil⟩
      | 1, e => cases e; exact ⟨l2, _, rfl, X.out hl20, hl2', .cons e8 .nil⟩
      | 2, e => cases e; exact ⟨wi, _, rfl, X.out hwi0, hwi', .cons e3 (.cons e4 .nil)⟩⟩
    have dP10 := keepD h5t rfl dP5
    have ht10 := (o10.tk NoTup.nil).seq ht
    clear e6 e8 e3 e4 hl1' hl2' hwi' hop dN5 dL5 dP5 oa ob oc h5t dN2 dL2 dP
    refine ⟨a, ofW w cs wh (some kd), op, PW.placeOpts pp, rfl, ⟨_, _, X10⟩, OL, by show 3 ≤ 10; decide, by have := gd.sz; show w.bounds.length ≤ _; omega, fun bs hb => ?_, fun hcs H11 o11c L11 => ?_, fun c rs hcs => ?_⟩
    · simp only [PW.placeOpts, List.mem_cons, List.not_mem_nil, or_false] at hb
      rcases hb with rfl | rfl | rfl <;> simp
    · have hcs : cs = [] := hcs
      subst hcs
      have o11 := Old.ch o11c
      refine ⟨.int (-1), rfl, -1, 2, rfl, rfl, true, rfl, iteT ?_⟩
      refine ⟨.int (-1), rfl, -1, 0, rfl, rfl, true, rfl, iteT ?_⟩
      exact q1 H11 w (PW.placeOpts pp) (((Old.w o10).trans o11).mono fun x hx => List.mem_cons_of_mem _ hx) (.refl _ _) ho rfl L11
    have hcs : cs = c :: rs := hcs
    subst hcs
    have hc3 : c < (PW.placeOpts pp).length := rt.lt ho
    refine ⟨hc3, fun H11 o11c L11 => ?_⟩
    have hc : c < 3 := hc3
    have o11 := Old.ch o11c
    have o011 : Old a.all H H11 := (Old.w o10).trans o11
    have tkA : Tk H10 H11 := o11.tk X10.notup
    have kn11 := kn10.keepO X10 o11
    have dP11 := PL.Dp.keep tkA _ _ rfl dP10
    have ht11 := tkA.seq ht10
    have stp := PW.cstep_take (ps := ps) (cs := rs) ho hc3
    rw [takeF_place hp eins rfl, hP] at stp
    by_cases c2 : c = 2
    · subst c2
      rw [if_pos rfl] at stp
      refine ⟨.int 2, rfl, 2, 2, rfl, rfl, false, rfl, iteF ?_⟩
      -- the cells
      have L1 : LsA K H11 a (ofW { w with bounds := w.bounds ++ ((PW.placeOpts pp)[2]?).getD [], options := none, pending := some (pp, 0) } rs wh (some kd)) := L11
      have gd1 : Gd ps { w with bounds := w.bounds ++ ((PW.placeOpts pp)[2]?).getD [], options := none, pending := some (pp, 0) } := gd.reach (.one stp)
      have rt1 := rt.on (.one stp)
      have r1 : PW.Reach ps w (2 :: rs) { w with bounds := w.bounds ++ ((PW.placeOpts pp)[2]?).getD [], options := none, pending := some (pp, 0) } rs := .one stp
      have a1 : ({ w with bounds := w.bounds ++ ((PW.placeOpts pp)[2]?).getD [], options := none, pending := some (pp, 0) } : PW.Wk).at_ = w.at_ := rfl
      have a2 : ({ w with bounds := w.bounds ++ ((PW.placeOpts pp)[2]?).getD [], options := none, pending := some (pp, 0) } : PW.Wk).ends = w.ends := rfl
      have a3 : ({ w with bounds := w.bounds ++ ((PW.placeOpts pp)[2]?).getD [], options := none, pending := some (pp, 0) } : PW.Wk).terms = w.terms := rfl
      have a4 : ({ w with bounds := w.bounds ++ ((PW.placeOpts pp)[2]?).getD [], options := none, pending := some (pp, 0) } : PW.Wk).cells = w.cells := rfl
      have a5 : ({ w with bounds := w.bounds ++ ((PW.placeOpts pp)[2]?).getD [], options := none, pending := some (pp, 0) } : PW.Wk).options = none := rfl
      have a6 : ({ w with bounds := w.bounds ++ ((PW.placeOpts pp)[2]?).getD [], options := none, pending := some (pp, 0) } : PW.Wk).pending = some (pp, 0) := rfl
      generalize ({ w with bounds := w.bounds ++ ((PW.placeOpts pp)[2]?).getD [], options := none, pending := some (pp, 0) } : PW.Wk) = w1 at L1 gd1 rt1 r1 a1 a2 a3 a4 a5 a6
      clear stp L11
      obtain ⟨kv1, v1, X1⟩ := L1
      obtain ⟨lx, hlx, dlx⟩ := X1.hl.ex
      have hlc : lx.length = w.cells.length := by rw [PL.DpAll.length dlx, List.length_map]; show w1.cells.length = _; rw [a4]
      have he : w.ends.length ≠ ps.length := fun z => by rw [(gd.ok.idle z).1] at ho; cases ho
      have hat : w.at_ < 200 := Nat.lt_of_lt_of_le (List.getElem?_eq_some_iff.mp ei).1 (PW.lines_ok gd.ls).len
      have mono : ∀ {H H' : Hp}, Old a.all H H' → Old (kd :: a.all) H H' := fun o => o.mono fun x hx => List.mem_cons_of_mem _ hx
      have fin : ∀ (G : Hp) (wl : PW.Wk) (csl : List Nat) (vv : Nat) (kvl : List (Key × V)) (vl : V), Old a.all H11 G → LsK K G a (ofW wl csl wh (some kd)) kvl vl → PW.Reach ps w (2 :: rs) (wl.load (.load r s' n) vv) csl → wl.ends = w.ends → wl.at_ = w.at_ → wl.terms = w.terms → wl.options = none → ∀ u, G u = none →
          ∃ H', DPut (upd G u (.tup [.int (vv : Int), .int 0])) kd (.str (PR.rg r)) (.ref u) H' ∧ Q .non H' := by
        intro G wl csl vv kvl vl oG XG re c1 c2 c3 c4 u nu
        have oU := Old.new0 (W := []) (o := HO.tup [.int (vv : Int), .int 0]) nu
        have dU : Dp K (upd G u (.tup [.int (vv : Int), .int 0])) (.ref u) (tmD (vv, 0)) := dp2 upd_same (.int _) (.int _)
        have knU := (kn11.keepO X1 oG).keep0 oU
        obtain ⟨H', p1, p2, p3, p4, p5⟩ := knU.put (XG.keep oU) (by omega) r dU
        refine ⟨H', p1, q3 H' _ csl ?_ re (by show wl.at_ + 1 = _; rw [c2]) c1 c4 rfl ⟨_, _, p4⟩ ?_⟩
        · exact (mono (o011.trans (oG.trans (Old.w oU)))).trans (p2.mono fun x hx => by rw [List.mem_singleton.mp hx]; exact List.mem_cons_self)
        · show Kn K H' a kd (PW.putT wl.terms r (vv, 0)) (wl.at_ + 1)
          rw [c3, c2]; exact p5
      refine ⟨.ref a.s, rfl, a.s, _, rfl, X1.gl, a.l, rfl, ⟨_, SqL.of hlx⟩, for_list (K := K) (a := a.l) (xs := lx) (fun j σ H' => ∃ (y8 y9 y10 y11 : Option V) (wj : PW.Wk) (csj : List Nat), σ = [some (.ref a.s), some (.ref t), some (.int (w.at_ : Int)), some (.ref kd), some (.ref p0), some (.ref p1), some (.ref pl), some (.ref wi), y8, y9, y10, y11] ∧ Old a.all H11 H' ∧
          LsA K H' a (ofW wj csj wh (some kd)) ∧ H' a.l = some (.lst lx) ∧ PW.Reach ps w (2 :: rs) wj csj ∧ wj.options = none ∧ wj.pending = some (pp, j) ∧ wj.ends = w.ends ∧ wj.at_ = w.at_ ∧ wj.terms = w.terms ∧ wj.cells = w.cells ∧ j ≤ w.cells.length)
        ⟨_, _, _, _, w1, rs, rfl, Old.refl _ _, ⟨_, _, X1⟩, hlx, r1, a5, a6, a2, a1, a3, a4, Nat.zero_le _⟩ (fun j σ H' _ ⟨_, _, _, _, _, _, _, _, _, h, _⟩ => SqL.of h) ?_ ?_⟩
      · rintro j y σ H12 hy ⟨y8, y9, y10, y11, wj, csj, rfl, o12, ⟨kvj, vj, Xj⟩, hlj, rj, b1, b2, b3, b4, b5, b6, hj⟩
        have hjc : j < w.cells.length := by rw [← hlc]; exact (List.getElem?_eq_some_iff.mp hy).1
        obtain ⟨lx', hlx', dlx'⟩ := Xj.hl.ex
        rw [hlj] at hlx'
        cases hlx'
        have ec : wj.cells[j]? = some (w.cells[j].1, w.cells[j].2) := by rw [b6]; exact List.getElem?_eq_getElem hjc
        obtain ⟨cv, g1, g2⟩ := PL.DpAll.get dlx' (i := j) (d := cellD (w.cells[j].1, w.cells[j].2)) (by rw [List.getElem?_map, show (ofW wj csj wh (some kd)).C = wj.cells from rfl, ec]; rfl)
        rw [hy] at g1
        cases g1
        obtain ⟨ca, cu, rfl, sc, dcu⟩ := pair_at g2
        generalize w.cells[j] = cell at ec sc dcu
        obtain ⟨qq, cvn⟩ := cell
        have knj := kn11.keepO X1 o12
        have tkj : Tk H11 H12 := o12.tk X1.notup
        have dPj : Dp K H12 (.ref pl) (tmD pp) := PL.Dp.keep tkj _ _ rfl dP11
        have htj := tkj.seq ht11
        obtain ⟨cu', ecu, scu⟩ := tm_at dcu
        cases ecu
        obtain ⟨pl', epl, spl⟩ := tm_at dPj
        cases epl
        have hej : wj.ends.length ≠ ps.length := by rw [b3]; exact he
        have lk := PW.cstep_look (cs := csj) b1 hej b2
        have ins : PW.insAt ps wj = .load r s' n := by unfold PW.insAt PW.linesAt; rw [b3, b4]; exact eins
        have hlkC : wj.lookC ps pp j = if qq = pp then wj.load (.load r s' n) cvn else if qq.1 = pp.1 then { wj with pending := some (pp, j + 1) } else { wj with options := some (PW.cellOpts pp qq), pending := some (pp, j) } := by
          unfold PW.Wk.lookC
          rw [ec, ins]
        rw [hlkC] at lk
        refine ⟨ca, _, rfl, sc, rfl, _, _, rfl, _, _, rfl, rfl, ?_⟩
        refine ⟨.ref cu, rfl, .ref pl, rfl, _, _, dcu, dPj, rfl, rfl, ?_⟩
        rw [eqv_tm]
        by_cases e1 : qq = pp
        · rw [decide_eq_true e1]
          rw [if_pos e1] at lk
          refine ⟨true, rfl, iteT ?_⟩
          refine ⟨.ref cu, rfl, cu, _, 0, _, rfl, rfl, scu, rfl, .ref pl, rfl, pl, _, 0, _, rfl, rfl, spl, rfl, rfl, false, congrArg V.bl (by rw [e1]; simp), iteF ?_⟩
          refine ⟨.int 0, rfl, 0, 0, rfl, rfl, false, rfl, iteF ?_⟩
          refine ⟨.int 0, rfl, rfl, true, rfl, iteT ?_⟩
          refine ⟨.int (cvn : Int), rfl, by show 2 ≤ sizeLine; decide, fun u nu => ?_⟩
          obtain ⟨H', z1, z2⟩ := fin H12 wj csj cvn kvj vj o12 Xj (rj.snoc lk) b3 b4 b5 b1 u nu
          exact ⟨.ref kd, rfl, .ref t, rfl, t, _, 1, .str (PR.rg r), rfl, rfl, ((Old.new0 nu).tk NoTup.nil).seq htj, atI_nat (j := 1) rfl, kd, H', rfl, z1, z2⟩
        · rw [decide_eq_false e1]
          rw [if_neg e1] at lk
          refine ⟨false, rfl, iteF ?_⟩
          by_cases e2 : qq.1 = pp.1
          · rw [if_pos e2] at lk
            refine ⟨.ref cu, rfl, cu, _, 0, _, rfl, rfl, scu, rfl, .ref pl, rfl, pl, _, 0, _, rfl, rfl, spl, rfl, rfl, false, congrArg V.bl (by rw [e2]; simp), iteF ?_⟩
            refine ⟨.int 1, rfl, 1, 0, rfl, rfl, false, rfl, iteF ?_⟩
            refine ⟨.int 1, rfl, rfl, false, rfl, iteF ?_⟩
            exact ⟨_, _, _, _, { wj with pending := some (pp, j + 1) }, csj, rfl, o12, ⟨_, _, Xj⟩, hlj, rj.snoc lk, b1, rfl, b3, b4, b5, b6, hjc⟩
          · rw [if_neg e2] at lk
            have ne2 : V.bl (!decide (V.int (qq.1 : Int) = V.int (pp.1 : Int))) = .bl true := congrArg V.bl (by rw [Bool.not_eq_true']; exact decide_eq_false fun z => e2 (by have : (qq.1 : Int) = (pp.1 : Int) := V.int.inj z; omega))
            refine ⟨.ref cu, rfl, cu, _, 0, _, rfl, rfl, scu, rfl, .ref pl, rfl, pl, _, 0, _, rfl, rfl, spl, rfl, rfl, true, ne2, iteT ?_⟩
            refine ⟨.ref pl, rfl, .ref cu, rfl, .ref pl, .ref cu, pp, qq, 0, rfl, dPj, dcu, fun H13 b1' o13 d13 => ?_⟩
            refine ⟨.ref cu, rfl, .ref pl, rfl, .ref cu, .ref pl, qq, pp, 0, rfl, keepD o13 rfl dcu, keepD o13 rfl dPj, fun H14 b2' o14 d14 => ⟨by show 2 ≤ sizeLine; decide, fun wi' nwi => ?_⟩⟩
            have o2' := (o13.trans o14).new (o := HO.lst [.ref b1', .ref b2']) nwi
            have hwi : (upd H14 wi' (.lst [.ref b1', .ref b2'])) wi' = some (.lst [.ref b1', .ref b2']) := upd_same
            have d13 := keepD (o14.new (o := HO.lst [.ref b1', .ref b2']) nwi) rfl d13
            have d14 := keepD (Old.new0 (o := HO.lst [.ref b1', .ref b2']) nwi) rfl d14
            have hwi0 : H12 wi' = none := (o13.trans o14).free nwi (by simp)
            generalize upd H14 wi' (.lst [.ref b1', .ref b2']) = H15 at o2' hwi d13 d14 ⊢
            clear nwi
            have dP5 := keepD o2' rfl dPj
            have dQ5 := keepD o2' rfl dcu
            refine ⟨.ref a.s, rfl, .ref wi', rfl, .ref pl, rfl, .ref cu, rfl, 1, rfl, .ref pl, .ref cu, pp, qq, -1, rfl, dP5, dQ5, fun H16 b7 o6 d6 => ⟨by show 1 ≤ sizeLine; decide, fun l1 nl1 => ?_⟩⟩
            have oa := o6.new (o := HO.lst [.ref b7]) nl1
            have hl1 : (upd H16 l1 (.lst [.ref b7])) l1 = some (.lst [.ref b7]) := upd_same
            have d6 := keepD (Old.new0 (o := HO.lst [.ref b7]) nl1) rfl d6
            have hl10 : H12 l1 = none := (o2'.trans o6).free nl1 (by simp)
            generalize upd H16 l1 (.lst [.ref b7]) = H17 at oa hl1 d6 ⊢
            clear nl1
            refine ⟨.ref cu, rfl, .ref pl, rfl, 1, rfl, .ref cu, .ref pl, qq, pp, -1, rfl, keepD oa rfl dQ5, keepD oa rfl dP5, fun H18 b8 o8 d8 => ⟨by show 1 ≤ sizeLine; decide, fun l2 nl2 => ?_⟩⟩
            have ob := o8.new (o := HO.lst [.ref b8]) nl2
            have hl2 : (upd H18 l2 (.lst [.ref b8])) l2 = some (.lst [.ref b8]) := upd_same
            have d8 := keepD (Old.new0 (o := HO.lst [.ref b8]) nl2) rfl d8
            have hl20 : H12 l2 = none := ((o2'.trans oa).trans o8).free nl2 (by simp)
            generalize upd H18 l2 (.lst [.ref b8]) = H19 at ob hl2 d8 ⊢
            clear nl2
            refine ⟨by show 3 ≤ sizeLine; decide, fun op nop => ?_⟩
            have oc : Old [] H19 (upd H19 op (.lst [.ref wi', .ref l1, .ref l2])) := Old.new0 nop
            have hop : (upd H19 op (.lst [.ref wi', .ref l1, .ref l2])) op = some (.lst [.ref wi', .ref l1, .ref l2]) := upd_same
            have hop0 : H12 op = none := ((o2'.trans oa).trans ob).free nop (by simp)
            have h5t := (oa.trans ob).trans oc
            have e6 := keepD (ob.trans oc) rfl d6
            have e8 := keepD oc rfl d8
            have e3 := keepD h5t rfl d13
            have e4 := keepD h5t rfl d14
            have hwi' := h5t _ _ (by simp) hwi
            have hl1' := (ob.trans oc) _ _ (by simp) hl1
            have hl2' := oc _ _ (by simp) hl2
            generalize upd H19 op (.lst [.ref wi', .ref l1, .ref l2]) = H20 at oc hop h5t e6 e8 e3 e4 hwi' hl1' hl2' ⊢
            clear nop d6 d8 d13 d14 hwi hl1 hl2
            have o20 := o2'.trans h5t
            have X20 := Xj.keep o20
            have OL : OptsL K H20 a.all op (PW.cellOpts pp qq) := ⟨Xj.out hop0, _, hop, rfl, fun c bs e => by
              match c, e with
              | 0, e => cases e; exact ⟨wi', _, rfl, Xj.out hwi0, hwi', .cons e3 (.cons e4 .nil)⟩
              | 1, e => cases e; exact ⟨l1, _, rfl, Xj.out hl10, hl1', .cons e6 .nil⟩
              | 2, e => cases e; exact ⟨l2, _, rfl, Xj.out hl20, hl2', .cons e8 .nil⟩⟩
            have rj' := rj.snoc lk
            have gdj := gd.reach rj'
            have rtj := rt.on rj'
            have hoj : ({ wj with options := some (PW.cellOpts pp qq), pending := some (pp, j) } : PW.Wk).options = some (PW.cellOpts pp qq) := rfl
            refine ⟨a, ofW wj csj wh (some kd), op, PW.cellOpts pp qq, rfl, ⟨_, _, X20⟩, OL, by show 3 ≤ 10; decide, by have z : wj.came.length + wj.bounds.length + 4 * PW.mu ps { wj with options := some (PW.cellOpts pp qq), pending := some (pp, j) } ≤ 15000000 := gdj.sz; show wj.bounds.length ≤ _; omega, fun bs hb => ?_, fun hcs H21 o21c L21 => ?_, fun c rs' hcs => ?_⟩
            · simp only [PW.cellOpts, List.mem_cons, List.not_mem_nil, or_false] at hb
              rcases hb with rfl | rfl | rfl <;> simp
            · have hcs : csj = [] := hcs
              subst hcs
              have o21 := Old.ch o21c
              refine ⟨.int (-1), rfl, -1, 0, rfl, rfl, true, rfl, iteT ?_⟩
              exact q1 H21 _ (PW.cellOpts pp qq) (mono (o011.trans (o12.trans ((Old.w o20).trans o21)))) rj' rfl b3 L21
            have hcs : csj = c :: rs' := hcs
            subst hcs
            have hc3 : c < (PW.cellOpts pp qq).length := rtj.lt hoj
            refine ⟨hc3, fun H21 o21c L21 => ?_⟩
            have o21 := Old.ch o21c
            have hc : c < 3 := hc3
            have o1121 : Old a.all H11 H21 := o12.trans ((Old.w o20).trans o21)
            have stp := PW.cstep_take (ps := ps) (cs := rs') hoj hc3
            rw [takeF_cell (w := { wj with options := some (PW.cellOpts pp qq), pending := some (pp, j) }) (i := .load r s' n) rfl ins ec] at stp
            refine ⟨.int (c : Int), rfl, c, 0, rfl, rfl, false, congrArg V.bl (decide_eq_false (by omega)), iteF ?_⟩
            obtain ⟨kv21, v21, X21⟩ := L21
            by_cases c0 : c = 0
            · subst c0
              rw [if_pos rfl] at stp
              refine ⟨.int 0, rfl, rfl, true, rfl, iteT ?_⟩
              refine ⟨.int (cvn : Int), rfl, by show 2 ≤ sizeLine; decide, fun u nu => ?_⟩
              obtain ⟨H', z1, z2⟩ := fin H21 { wj with bounds := wj.bounds ++ ((PW.cellOpts pp qq)[0]?).getD [], options := none, pending := some (pp, j) } rs' cvn kv21 v21 o1121 X21 (rj'.snoc stp) b3 b4 b5 rfl u nu
              exact ⟨.ref kd, rfl, .ref t, rfl, t, _, 1, .str (PR.rg r), rfl, rfl, (((Old.w o20).trans o21).tk Xj.notup).seq htj |> ((Old.new0 nu).tk NoTup.nil).seq, atI_nat (j := 1) rfl, kd, H', rfl, z1, z2⟩
            · rw [if_neg c0] at stp
              refine ⟨.int (c : Int), rfl, rfl, false, congrArg V.bl (decide_eq_false fun z => c0 (by have : (c : Int) = 0 := V.int.inj z; omega)), iteF ?_⟩
              have hl21 : H21 a.l = some (.lst lx) := o21c _ _ (by have n := Xj.nd; simp only [Sa.ch, List.mem_cons, List.not_mem_nil, or_false, not_or]; exact ⟨n.sl.symm, n.bl.symm, n.lf⟩) (o20 _ _ (by simp) hlj)
              exact ⟨_, _, _, _, { wj with bounds := wj.bounds ++ ((PW.cellOpts pp qq)[c]?).getD [], options := none, pending := some (pp, j + 1) }, rs', rfl, o1121, ⟨_, _, X21⟩, hl21, rj'.snoc stp, rfl, rfl, b3, b4, b5, b6, hjc⟩
      · rintro σ H12 ⟨y8, y9, y10, y11, wj, csj, rfl, o12, ⟨kvj, vj, Xj⟩, hlj, rj, b1, b2, b3, b4, b5, b6, _⟩
        rw [hlc] at b2
        have tkj : Tk H11 H12 := o12.tk X1.notup
        have dPj : Dp K H12 (.ref pl) (tmD pp) := PL.Dp.keep tkj _ _ rfl dP11
        have htj := tkj.seq ht11
        have hej : wj.ends.length ≠ ps.length := by rw [b3]; exact he
        have lk := PW.cstep_look (cs := csj) b1 hej b2
        have ins : PW.insAt ps wj = .load r s' n := by unfold PW.insAt PW.linesAt; rw [b3, b4]; exact eins
        have hlkC : wj.lookC ps pp w.cells.length = wj.fresh (.load r s' n) pp := by
          unfold PW.Wk.lookC
          rw [b6, List.getElem?_eq_none (Nat.le_refl _), ins]
        rw [hlkC] at lk
        have gdj := gd.reach rj
        have hcl := gdj.cells
        have hbl := gdj.sz
        obtain ⟨lx', hlx', dlx'⟩ := Xj.hl.ex
        rw [hlj] at hlx'
        cases hlx'
        refine ⟨.ref a.s, rfl, a.s, _, rfl, Xj.gn, ?_⟩
        refine ⟨.int (wj.many : Int), rfl, _, 1, rfl, rfl, .ref a.s, rfl, a.s, _, rfl, DPut.k (k := .inr "many") (v := V.int ((wj.many + 1 : Nat) : Int)) Xj.hs (Nat.lt_of_le_of_lt Xj.l8 (by decide)), ?_⟩
        have Y1 := Xj.many (wj.many + 1)
        have f1 : Old a.all H12 (upd H12 a.s (.dK (putK kvj (.inr "many") (.int ((wj.many + 1 : Nat) : Int))))) := (Old.refl _ _).put (by simp [Sa.all])
        generalize upd H12 a.s (.dK (putK kvj (.inr "many") (.int ((wj.many + 1 : Nat) : Int)))) = H13 at Y1 f1 ⊢
        generalize putK kvj (.inr "many") (.int ((wj.many + 1 : Nat) : Int)) = kv13 at Y1
        obtain ⟨bx, hb1, hb2⟩ := Y1.hb.ex
        have hbl2 : bx.length = wj.bounds.length := by rw [PL.DpAll.length hb2, List.length_map]; rfl
        refine ⟨.ref a.s, rfl, a.s, _, rfl, Y1.gb, .inl ⟨rfl, _, SqL.of hb1⟩, .int (wj.many : Int), rfl, by show 3 ≤ sizeLine; decide, fun u1 n1 => ⟨.int (wj.many : Int), rfl, by show 3 ≤ sizeLine; decide, fun u2 n2 => ⟨by show 2 ≤ sizeLine; decide, fun u3 n3 => ?_⟩⟩⟩
        have o14 : Old [] H13 (upd (upd (upd H13 u1 (.tup [.int (wj.many : Int), .int 0, .int 255])) u2 (.tup [.int 0, .int (wj.many : Int), .int 0])) u3 (.lst [.ref u1, .ref u2])) := ((Old.new0 n1).new n2).new n3
        have e1 : Dp K (upd (upd (upd H13 u1 (.tup [.int (wj.many : Int), .int 0, .int 255])) u2 (.tup [.int 0, .int (wj.many : Int), .int 0])) u3 (.lst [.ref u1, .ref u2])) (.ref u1) (bdD (wj.many, 0, 255)) := keepD (Old.new0 n3) rfl (keepD (Old.new0 n2) rfl (dp3 upd_same (.int _) (.int _) (.int _)))
        have e2 : Dp K (upd (upd (upd H13 u1 (.tup [.int (wj.many : Int), .int 0, .int 255])) u2 (.tup [.int 0, .int (wj.many : Int), .int 0])) u3 (.lst [.ref u1, .ref u2])) (.ref u2) (bdD (0, wj.many, 0)) := keepD (Old.new0 n3) rfl (dp3 upd_same (.int _) (.int _) (.int _))
        have hu3 : (upd (upd (upd H13 u1 (.tup [.int (wj.many : Int), .int 0, .int 255])) u2 (.tup [.int 0, .int (wj.many : Int), .int 0])) u3 (.lst [.ref u1, .ref u2])) u3 = some (.lst [.ref u1, .ref u2]) := upd_same
        generalize upd (upd (upd H13 u1 (.tup [.int (wj.many : Int), .int 0, .int 255])) u2 (.tup [.int 0, .int (wj.many : Int), .int 0])) u3 (.lst [.ref u1, .ref u2]) = H14 at o14 e1 e2 hu3 ⊢
        have Y2 := Y1.keep o14
        have hb14 := o14 _ _ (by simp) hb1
        have hb2' := PL.Dp.keepAll (o14.tk NoTup.nil) _ _ (only_map bdD bdD_only _) hb2
        refine ⟨a.b, u3, bx, _, rfl, rfl, hb14, hu3, by show bx.length + 2 ≤ 2 ^ 24; omega, ?_⟩
        have Y3 := Y2.addB (bs := [(wj.many, 0, 255), (0, wj.many, 0)]) hb14 hb2' (.cons e1 (.cons e2 .nil))
        have f3 : Old a.all H12 (upd H14 a.b (.lst (bx ++ [.ref u1, .ref u2]))) := (f1.trans (Old.w o14)).put (by simp [Sa.all])
        generalize upd H14 a.b (.lst (bx ++ [.ref u1, .ref u2])) = H15 at Y3 f3 ⊢
        have tk15 : Tk H12 H15 := f3.tk Xj.notup
        have dP15 := PL.Dp.keep tk15 _ _ rfl dPj
        have ht15 := tk15.seq htj
        obtain ⟨lx3, hl3, dl3⟩ := Y3.hl.ex
        have hll3 : lx3.length = w.cells.length := by rw [PL.DpAll.length dl3, List.length_map]; show wj.cells.length = _; rw [b6]
        refine ⟨.ref a.s, rfl, a.s, _, rfl, Y3.gl, .inl ⟨rfl, _, SqL.of hl3⟩, .ref pl, rfl, .int (wj.many : Int), rfl, by show 2 ≤ sizeLine; decide, fun u nu => ?_⟩
        have o16 : Old [] H15 (upd H15 u (.tup [.ref pl, .int (wj.many : Int)])) := Old.new0 nu
        have d16 : Dp K (upd H15 u (.tup [.ref pl, .int (wj.many : Int)])) (.ref u) (cellD (pp, wj.many)) := dp2 upd_same (keepD o16 rfl dP15) (.int _)
        generalize upd H15 u (.tup [.ref pl, .int (wj.many : Int)]) = H16 at o16 d16 ⊢
        have Y4 := Y3.keep o16
        have hl16 := o16 _ _ (by simp) hl3
        refine ⟨a.l, lx3, .ref u, rfl, rfl, hl16, by show lx3.length < 2 ^ 24; rw [hll3, ← b6]; omega, ?_⟩
        have Y5 := Y4.addC (bs := [(pp, wj.many)]) hl16 (PL.Dp.keepAll (o16.tk NoTup.nil) _ _ (only_map cellD (fun _ => rfl) _) dl3) (.cons d16 .nil)
        have f5 : Old a.all H12 (upd H16 a.l (.lst (lx3 ++ [.ref u]))) := (f3.trans (Old.w o16)).put (by simp [Sa.all])
        generalize upd H16 a.l (.lst (lx3 ++ [.ref u])) = H17 at Y5 f5 ⊢
        refine ⟨.int (wj.many : Int), rfl, by show 2 ≤ sizeLine; decide, fun u7 n7 => ?_⟩
        obtain ⟨H', z1, z2⟩ := fin H17 { wj with many := wj.many + 1, bounds := wj.bounds ++ [(wj.many, 0, 255), (0, wj.many, 0)], cells := wj.cells ++ [(pp, wj.many)] } csj wj.many kv13 vj (o12.trans f5) Y5 (rj.snoc lk) b3 b4 b5 b1 u7 n7
        have tk17 : Tk H12 H17 := f5.tk Xj.notup
        exact ⟨.ref kd, rfl, .ref t, rfl, t, _, 1, .str (PR.rg r), rfl, rfl, ((Old.new0 n7).tk NoTup.nil).seq (tk17.seq htj), atI_nat (j := 1) rfl, kd, H', rfl, z1, z2⟩
    · rw [if_neg c2] at stp
      refine ⟨.int (c : Int), rfl, c, 2, rfl, rfl, true, congrArg V.bl (decide_eq_true (by omega)), iteT ?_⟩
      refine ⟨.int (c : Int), rfl, c, 0, rfl, rfl, false, congrArg V.bl (decide_eq_false (by omega)), iteF ?_⟩
      refine ⟨.int (w.at_ : Int), rfl, by show 3 ≤ sizeLine; decide, fun u nu => ?_⟩
      have o12 := Old.new0 (W := []) (o := HO.tup [.str "wrong", .int (w.at_ : Int), .str "beyond"]) nu
      obtain ⟨kvs', v', X11⟩ := L11
      exact q2 _ _ rs u ((o011.trans (Old.w o12)).mono fun x hx => List.mem_cons_of_mem _ hx) (.one stp) rfl rfl hp ⟨_, _, X11.keep o12⟩ (dp3 upd_same (.str _) (.int _) (.str _))
end
end L2.T39

namespace L2.T39
open PySem PySem.Spec PyProof.Rows L2.PL
def spTested (K : PySem.W.Frag) : Sp := fun vs H Q _ => ∃ (a : Sa) (t kd : Addr) (i : PR.Ins) (ps : List (List PR.Ins)) (w : PW.Wk) (cs : List Nat) (wh : Wh), vs = [.ref a.s, .ref t, .int (w.at_ : Int)] ∧ LsA K H a (ofW w cs wh (some kd)) ∧ Kn K H a kd w.terms w.at_ ∧ SqT K H t (PR.insV i) ∧
  (PW.linesAt ps w)[w.at_]? = some i ∧ PW.isTest i = true ∧ PW.unsetT i w.terms = false ∧ Gd ps w ∧ w.options = some (PW.testOpts w.terms i) ∧ w.pending = none ∧ RightFrom ps w cs ∧
  (cs = [] → ∀ H', Old a.all H H' → LsA K H' a (ofW w [] (.split (PW.testOpts w.terms i).length) (some kd)) → Q (.int (-1)) H') ∧
  (∀ H' w' cs', Old a.all H H' → PW.Reach ps w cs w' cs' → w.at_ < w'.at_ → w'.at_ ≤ 200 → w'.ends = w.ends → w'.terms = w.terms → w'.options = none → w'.pending = none → LsA K H' a (ofW w' cs' wh (some kd)) → Q (.int (w'.at_ : Int)) H')
section
variable {P : Program} {w : World} {K : PySem.W.Frag} {mg : Str → Option Value} {base : Heap}
/-! _law_tested: slots state=0 line=1 at=2 one=3 other=4 number=5 so=6 above=7 options=8 chosen=9; cells [] -/
abbrev s_l_tested : Stmt := topS 62
abbrev N_l_tested : List Str := ["state", "line", "at", "one", "other", "number", "so", "above", "options", "chosen"]
theorem sc_l_tested : FnScope N_l_tested ["state", "line", "at"] (defScope s_l_tested) := ⟨rfl, rfl, rfl, by decide +kernel, rfl, by decide +kernel, by decide +kernel⟩
theorem ok_l_tested {f : Addr} {fd : FuncData} (F : Fun K "_law_tested" "_law_tested" s_l_tested f fd) (T : Bt mg) (C_l_at_most : Cal P w K mg base CX0 "_law_at_most" ["one", "other", "number"] 1 (spAtMost K)) (C_l_chosen : Cal P w K mg base CX0 "_law_chosen" ["state", "options"] 2 (spChosen K)) :
    FnOk P w K mg base CX0 3 f fd ["state", "line", "at"] (spTested K) := by
  refine F.ok sc_l_tested (fun vs H Q E h => ?_) (fun cdv A outer s H vs Q E hr h => ?_)
  · obtain ⟨a, t, kd, i, ps, w, cs, wh, rfl, _⟩ := h
    rfl
  · obtain ⟨a, t, kd, i, ps, w, cs, wh, rfl, ⟨kvs, v, X⟩, kn, ht, ei, ist, un, gd, ho, hp, rt, q1, q2⟩ := h
    have hu := hu_of hr
    have eins : PW.insAt ps w = i := PW.insAt_of ei
    have nl : PW.isLoad i = false := by cases i <;> first | rfl | cases ist
    refine ⟨_, (pss_cons (ps_set (i := 3) sc_l_tested.nd rfl (.inl rfl) (pe_dget hu (pe_dget hu (pv 0) pe_str (fun _ _ => rfl)) (pe_ix ix_tup (pv 1) pe_int (fun _ _ => rfl)) (fun _ _ => rfl)))
      (pss_cutP (ps_asg (pe_ifExp (pt_cmpR op_eq (pe_ix ix_tup (pv 1) pe_int (fun _ _ => rfl)) pe_str (nomark _)) (pe_tup (pa_cons (pe_dget hu (pe_dget hu (pv 0) pe_str (fun _ _ => rfl)) (pe_ix ix_tup (pv 1) pe_int (fun _ _ => rfl)) (fun _ _ => rfl)) (pa_cons (pe_ix ix_tup (pv 1) pe_int (fun _ _ => rfl)) pa_nil))) (pe_tup (pa_cons (pe_tup (pa_cons pe_int (pa_cons pe_int pa_nil))) (pa_cons (pe_ix ix_tup (pv 1) pe_int (fun _ _ => rfl)) pa_nil)))) (pg_tup (by rfl) (pgs_cons (pg_name (i := 4) sc_l_tested.nd rfl (Or.inl rfl)) (pgs_cons (pg_name (i := 5) sc_l_tested.nd rfl (Or.inl rfl)) pgs_nil))))
      (pss_cons (ps_par (i := 6) (j := 7) (by rfl) sc_l_tested.nd rfl rfl (by decide) rfl rfl (pa_cons (pe_lst (pa_cons (pe_cal C_l_at_most hr (by rfl) pass0 (pa_cons (pv 3) (pa_cons (pv 4) (pa_cons (pv 5) pa_nil)))) pa_nil)) (pa_cons (pe_lst (pa_cons (pe_cal C_l_at_most hr (by rfl) pass0 (pa_cons (pv 4) (pa_cons (pv 3) (pa_cons (pe_op op_sub (pe_un un_neg (pv 5)) pe_int) pa_nil)))) pa_nil)) pa_nil)) (by rfl))
      (pss_cons (ps_set (i := 8) sc_l_tested.nd rfl (.inl rfl) (pe_lst (pa_cons (pv 6) (pa_cons (pv 7) pa_nil))))
      (pss_cutP (ps_if (pt_cmpR op_eq (pe_ix ix_tup (pv 1) pe_int (fun _ _ => rfl)) pe_str (nomark _))
       (pss_one (ps_set (i := 8) sc_l_tested.nd rfl (.inl rfl) (pe_lst (pa_cons (pe_op op_cat (pv 6) (pe_lst (pa_cons (pe_cal C_l_at_most hr (by rfl) pass0 (pa_cons (pv 4) (pa_cons (pv 3) (pa_cons (pe_un un_neg (pv 5)) pa_nil)))) pa_nil))) (pa_cons (pe_lst (pa_cons (pe_cal C_l_at_most hr (by rfl) pass0 (pa_cons (pv 3) (pa_cons (pv 4) (pa_cons (pe_op op_sub (pv 5) pe_int) pa_nil)))) pa_nil)) (pa_cons (pv 7) pa_nil))))))
       pss_nil)
      (pss_cons (ps_set (i := 9) sc_l_tested.nd rfl (.inl rfl) (pe_cal C_l_chosen hr (by rfl) pass0 (pa_cons (pv 0) (pa_cons (pv 8) pa_nil))))
      (pss_one (ps_ret (pe_ifExp (pt_cmpR op_lt (pv 9) pe_int (nomark _)) (pe_un un_neg pe_int) (pe_ifExp (pt_cmpR op_eq (pv 9) pe_int (nomark _)) (pe_ix ix_tup (pv 1) (pe_un un_neg pe_int) (fun _ _ => rfl)) (pe_op op_add (pv 2) pe_int))))))))))), ?_⟩
    have get : ∀ p ∈ PR.needs i, ∃ ta, DGet H kd (.str (PR.rg p.2)) (some (.ref ta)) ∧ Dp K H (.ref ta) (tmD (PW.tm w.terms p.2)) := fun p hp => by
      obtain ⟨ta, g, _, d⟩ := kn.get (set_of un p hp)
      exact ⟨ta, g, d⟩
    obtain ⟨r, hr1, hx1, e1⟩ : ∃ r, (1, r) ∈ PR.needs i ∧ (PR.insV i)[1]? = some (.str (PR.rg r)) ∧ (PW.testOf w.terms i).1 = PW.tm w.terms r := by
      cases i <;> first | (cases ist; done) | exact ⟨_, .head _, rfl, rfl⟩
    obtain ⟨v1, g1, d1⟩ := get (1, r) hr1
    rw [show PW.tm w.terms (1, r).2 = (PW.testOf w.terms i).1 from e1.symm] at d1
    refine ⟨.ref a.s, rfl, a.s, _, rfl, X.gk rfl, .ref t, rfl, t, _, 1, .str (PR.rg r), rfl, rfl, ht, atI_nat (j := 1) hx1, kd, _, rfl, g1, ?_⟩
    refine ⟨fun σ H1 => Old [] H H1 ∧ ∃ o, σ = [some (.ref a.s), some (.ref t), some (.int (w.at_ : Int)), some (.ref v1), some o, some (.int (PW.testOf w.terms i).2.2), none, none, none, none] ∧ Dp K H1 o (tmD (PW.testOf w.terms i).2.1), ?_, ?_⟩
    · cases i with
      | less r1 s1 n l =>
        obtain ⟨v2, g2, d2⟩ := get (2, s1) (.tail _ (.head _))
        refine ⟨.ref t, rfl, t, _, 0, .str "less", rfl, rfl, ht, atI_nat (j := 0) rfl, rfl, true, sT rfl, iteT ?_⟩
        refine ⟨.ref a.s, rfl, a.s, _, rfl, X.gk rfl, .ref t, rfl, t, _, 2, .str (PR.rg s1), rfl, rfl, ht, atI_nat (j := 2) rfl, kd, _, rfl, g2, .ref t, rfl, t, _, 3, .int n, rfl, rfl, ht, atI_nat (j := 3) rfl, by show 2 ≤ sizeLine; decide, fun p np => ?_⟩
        exact ⟨p, _, rfl, SqT.of upd_same, rfl, _, _, rfl, _, _, rfl, rfl, Old.new0 np, .ref v2, rfl, keepD (Old.new0 np) rfl d2⟩
      | atmost r1 n l =>
        refine ⟨.ref t, rfl, t, _, 0, .str "atmost", rfl, rfl, ht, atI_nat (j := 0) rfl, rfl, false, sF (by decide +kernel), iteF ?_⟩
        refine ⟨by show 2 ≤ sizeLine; decide, fun z nz => ?_⟩
        have oz : Old [] H (upd H z (.tup [.int 0, .int 0])) := Old.new0 nz
        have dz : Dp K (upd H z (.tup [.int 0, .int 0])) (.ref z) (tmD PW.nought) := dp2 upd_same (.int _) (.int _)
        generalize upd H z (.tup [.int 0, .int 0]) = Hz at oz dz ⊢
        refine ⟨.ref t, rfl, t, _, 2, .int n, rfl, rfl, (oz.tk NoTup.nil).seq ht, atI_nat (j := 2) rfl, by show 2 ≤ sizeLine; decide, fun p np => ?_⟩
        exact ⟨p, _, rfl, SqT.of upd_same, rfl, _, _, rfl, _, _, rfl, rfl, oz.trans (Old.new0 np), .ref z, rfl, keepD (Old.new0 np) rfl dz⟩
      | same r1 n l =>
        refine ⟨.ref t, rfl, t, _, 0, .str "same", rfl, rfl, ht, atI_nat (j := 0) rfl, rfl, false, sF (by decide +kernel), iteF ?_⟩
        refine ⟨by show 2 ≤ sizeLine; decide, fun z nz => ?_⟩
        have oz : Old [] H (upd H z (.tup [.int 0, .int 0])) := Old.new0 nz
        have dz : Dp K (upd H z (.tup [.int 0, .int 0])) (.ref z) (tmD PW.nought) := dp2 upd_same (.int _) (.int _)
        generalize upd H z (.tup [.int 0, .int 0]) = Hz at oz dz ⊢
        refine ⟨.ref t, rfl, t, _, 2, .int n, rfl, rfl, (oz.tk NoTup.nil).seq ht, atI_nat (j := 2) rfl, by show 2 ≤ sizeLine; decide, fun p np => ?_⟩
        exact ⟨p, _, rfl, SqT.of upd_same, rfl, _, _, rfl, _, _, rfl, rfl, oz.trans (Old.new0 np), .ref z, rfl, keepD (Old.new0 np) rfl dz⟩
      | _ => cases ist
    · rintro σ H1 ⟨o1, o, rfl, d2⟩
      have d1 := keepD o1 rfl d1
      have es : PW.testOpts w.terms i = if PW.isSame i = true then [[PW.atMost (PW.testOf w.terms i).1 (PW.testOf w.terms i).2.1 (PW.testOf w.terms i).2.2, PW.atMost (PW.testOf w.terms i).2.1 (PW.testOf w.terms i).1 (-(PW.testOf w.terms i).2.2)], [PW.atMost (PW.testOf w.terms i).1 (PW.testOf w.terms i).2.1 ((PW.testOf w.terms i).2.2 - 1)], [PW.atMost (PW.testOf w.terms i).2.1 (PW.testOf w.terms i).1 (-(PW.testOf w.terms i).2.2 - 1)]] else [[PW.atMost (PW.testOf w.terms i).1 (PW.testOf w.terms i).2.1 (PW.testOf w.terms i).2.2], [PW.atMost (PW.testOf w.terms i).2.1 (PW.testOf w.terms i).1 (-(PW.testOf w.terms i).2.2 - 1)]] := rfl
      have hT : ∀ bs ∈ PW.testOpts w.terms i, bs.length ≤ 2 := PW.opt_len gd.ok ho
      generalize hTO : PW.testOpts w.terms i = TO at *
      generalize (PW.testOf w.terms i).1 = x at *
      generalize (PW.testOf w.terms i).2.1 = y at *
      generalize (PW.testOf w.terms i).2.2 = n at *
      refine ⟨.ref v1, rfl, o, rfl, .int n, rfl, .ref v1, o, x, y, n, rfl, d1, d2, fun H2 b1 o2 f1 => ⟨by show 1 ≤ sizeLine; decide, fun so nso => ?_⟩⟩
      have oa := o2.new (o := HO.lst [.ref b1]) nso
      have hso : (upd H2 so (.lst [.ref b1])) so = some (.lst [.ref b1]) := upd_same
      have f1 := keepD (Old.new0 (o := HO.lst [.ref b1]) nso) rfl f1
      have hso0 : H so = none := (o1.trans o2).free nso (by simp)
      generalize upd H2 so (.lst [.ref b1]) = H3 at oa hso f1 ⊢
      clear nso
      refine ⟨o, rfl, .ref v1, rfl, .int n, rfl, n, rfl, _, 1, rfl, rfl, o, .ref v1, y, x, -n - 1, rfl, keepD oa rfl d2, keepD oa rfl d1, fun H4 b2 o4 f2 => ⟨by show 1 ≤ sizeLine; decide, fun ab nab => ⟨_, _, rfl, ?_⟩⟩⟩
      have ob := o4.new (o := HO.lst [.ref b2]) nab
      have hab : (upd H4 ab (.lst [.ref b2])) ab = some (.lst [.ref b2]) := upd_same
      have f2 := keepD (Old.new0 (o := HO.lst [.ref b2]) nab) rfl f2
      have hab0 : H ab = none := ((o1.trans oa).trans o4).free nab (by simp)
      have f1 := keepD ob rfl f1
      have hso := ob _ _ (by simp) hso
      generalize upd H4 ab (.lst [.ref b2]) = H5 at ob hab f2 f1 hso ⊢
      clear nab
      refine ⟨.ref so, rfl, .ref ab, rfl, by show 2 ≤ sizeLine; decide, fun op nop => ?_⟩
      have oc : Old [] H5 (upd H5 op (.lst [.ref so, .ref ab])) := Old.new0 nop
      have hop : (upd H5 op (.lst [.ref so, .ref ab])) op = some (.lst [.ref so, .ref ab]) := upd_same
      have hop0 : H op = none := ((o1.trans oa).trans ob).free nop (by simp)
      have f1 := keepD oc rfl f1
      have f2 := keepD oc rfl f2
      have hso := oc _ _ (by simp) hso
      have hab := oc _ _ (by simp) hab
      generalize upd H5 op (.lst [.ref so, .ref ab]) = H6 at oc hop f1 f2 hso hab ⊢
      clear nop
      have o16 := (oa.trans ob).trans oc
      have o06 := o1.trans o16
      refine ⟨fun σ H7 => ∃ op', σ = [some (.ref a.s), some (.ref t), some (.int (w.at_ : Int)), some (.ref v1), some o, some (.int n), some (.ref so), some (.ref ab), some (.ref op'), none] ∧ Old [] H H7 ∧ OptsL K H7 a.all op' TO, ?_, ?_⟩
      · have d1' := keepD o16 rfl d1
        have d2' := keepD o16 rfl d2
        have ht6 := (o06.tk NoTup.nil).seq ht
        by_cases sm : PW.isSame i = true
        · have ew : PR.word i = "same" := by cases i <;> first | (cases sm; done) | rfl
          rw [if_pos sm] at es
          refine ⟨.ref t, rfl, t, _, 0, .str (PR.word i), rfl, rfl, ht6, atI_nat (j := 0) rfl, rfl, true, strEq ew, iteT ?_⟩
          refine ⟨.ref so, rfl, o, rfl, .ref v1, rfl, .int n, rfl, n, rfl, o, .ref v1, y, x, -n, rfl, d2', d1', fun H8 b3 o8 f3 => ⟨by show 1 ≤ sizeLine; decide, fun l nl' => ?_⟩⟩
          have od := o8.new (o := HO.lst [.ref b3]) nl'
          have hl : (upd H8 l (.lst [.ref b3])) l = some (.lst [.ref b3]) := upd_same
          have f3 := keepD (Old.new0 (o := HO.lst [.ref b3]) nl') rfl f3
          generalize upd H8 l (.lst [.ref b3]) = H9 at od hl f3 ⊢
          clear nl'
          have hso9 := od _ _ (by simp) hso
          refine ⟨so, l, _, _, rfl, rfl, hso9, hl, by show 2 ≤ sizeLine; decide, fun p np => ?_⟩
          have oe := od.new (o := HO.lst [.ref b1, .ref b3]) np
          have hp' : (upd H9 p (.lst [.ref b1, .ref b3])) p = some (.lst [.ref b1, .ref b3]) := upd_same
          have hp0 : H p = none := (o06.trans od).free np (by simp)
          have f3 := keepD (Old.new0 (o := HO.lst [.ref b1, .ref b3]) np) rfl f3
          have ecat : ([.ref b1] ++ [.ref b3] : List V) = [.ref b1, .ref b3] := rfl
          rw [ecat]
          generalize upd H9 p (.lst [.ref b1, .ref b3]) = H10 at oe hp' f3 ⊢
          clear np
          refine ⟨.ref v1, rfl, o, rfl, .int n, rfl, _, 1, rfl, rfl, .ref v1, o, x, y, n - 1, rfl, keepD oe rfl d1', keepD oe rfl d2', fun H11 b4 o11 f4 => ⟨by show 1 ≤ sizeLine; decide, fun l2 nl2 => ?_⟩⟩
          have of' := o11.new (o := HO.lst [.ref b4]) nl2
          have hl2 : (upd H11 l2 (.lst [.ref b4])) l2 = some (.lst [.ref b4]) := upd_same
          have hl20 : H l2 = none := ((o06.trans oe).trans o11).free nl2 (by simp)
          have f4 := keepD (Old.new0 (o := HO.lst [.ref b4]) nl2) rfl f4
          generalize upd H11 l2 (.lst [.ref b4]) = H12 at of' hl2 f4 ⊢
          clear nl2
          refine ⟨.ref ab, rfl, by show 3 ≤ sizeLine; decide, fun op' nop' => ?_⟩
          have og : Old [] H12 (upd H12 op' (.lst [.ref p, .ref l2, .ref ab])) := Old.new0 nop'
          have hop' : (upd H12 op' (.lst [.ref p, .ref l2, .ref ab])) op' = some (.lst [.ref p, .ref l2, .ref ab]) := upd_same
          have hop'0 : H op' = none := ((o06.trans oe).trans of').free nop' (by simp)
          have all := (oe.trans of').trans og
          refine ⟨op', rfl, o06.trans all, X.out hop'0, _, hop', by rw [es]; rfl, fun c bs e => ?_⟩
          rw [es] at e
          match c, e with
          | 0, e => cases e; exact ⟨p, _, rfl, X.out hp0, (of'.trans og) _ _ (by simp) hp', .cons (keepD all rfl f1) (.cons (keepD (of'.trans og) rfl f3) .nil)⟩
          | 1, e => cases e; exact ⟨l2, _, rfl, X.out hl20, og _ _ (by simp) hl2, .cons (keepD og rfl f4) .nil⟩
          | 2, e => cases e; exact ⟨ab, _, rfl, X.out hab0, all _ _ (by simp) hab, .cons (keepD all rfl f2) .nil⟩
        · have ew : PR.word i ≠ "same" := by cases i <;> first | (cases ist; done) | exact absurd rfl sm | (simp only [PR.word]; decide +kernel)
          rw [if_neg sm] at es
          refine ⟨.ref t, rfl, t, _, 0, .str (PR.word i), rfl, rfl, ht6, atI_nat (j := 0) rfl, rfl, false, strNe ew, iteF ?_⟩
          refine ⟨op, rfl, o06, X.out hop0, _, hop, by rw [es]; rfl, fun c bs e => ?_⟩
          rw [es] at e
          match c, e with
          | 0, e => cases e; exact ⟨so, _, rfl, X.out hso0, hso, .cons f1 .nil⟩
          | 1, e => cases e; exact ⟨ab, _, rfl, X.out hab0, hab, .cons f2 .nil⟩
      · rintro σ H7 ⟨op', rfl, o07, OL⟩
        have X7 := X.keep o07
        have ht7 := (o07.tk NoTup.nil).seq ht
        refine ⟨.ref a.s, rfl, .ref op', rfl, a, ofW w cs wh (some kd), op', TO, rfl, ⟨_, _, X7⟩, OL, by rw [es]; split <;> simp, by have := gd.sz; show w.bounds.length ≤ _; omega, hT, fun hcs H8 o8 L8 => ?_, fun c rs hcs => ?_⟩
        · have hcs : cs = [] := hcs
          subst hcs
          refine ⟨.int (-1), rfl, -1, 0, rfl, rfl, true, rfl, iteT ⟨1, rfl, ?_⟩⟩
          exact q1 rfl H8 ((Old.w o07).trans (Old.ch o8)) L8
        · have hcs : cs = c :: rs := hcs
          subst hcs
          have hc := rt.lt ho
          refine ⟨hc, fun H8 o8 L8 => ?_⟩
          have o08 : Old a.all H H8 := (Old.w o07).trans (Old.ch o8)
          have stp := PW.cstep_take (ps := ps) (cs := rs) ho hc
          rw [takeF_test hp eins nl] at stp
          have iok := (PW.lines_ok gd.ls).ok _ i ei
          have g := PW.goal_le (.inr ist) iok
          have hat : w.at_ < 200 := Nat.lt_of_lt_of_le (List.getElem?_eq_some_iff.mp ei).1 (PW.lines_ok gd.ls).len
          have ht8 := ((Old.ch o8).tk X7.notup).seq ht7
          have hgl : atI (PR.insV i) (-1) = some (.int (PR.goal i : Int)) := by cases i <;> first | (cases ist; done) | rfl
          refine ⟨.int (c : Int), rfl, c, 0, rfl, rfl, false, congrArg V.bl (decide_eq_false (by omega)), iteF ?_⟩
          refine ⟨.int (c : Int), rfl, rfl, ?_⟩
          by_cases c0 : c = 0
          · rw [if_pos c0] at stp
            refine ⟨true, congrArg V.bl (by rw [c0]; simp), iteT ?_⟩
            exact ⟨.ref t, rfl, 1, rfl, t, _, -1, .int (PR.goal i : Int), rfl, rfl, ht8, hgl, q2 H8 _ rs o08 (.one stp) g.1 g.2 rfl rfl rfl hp L8⟩
          · rw [if_neg c0] at stp
            refine ⟨false, congrArg V.bl (decide_eq_false fun z => c0 (by have : (c : Int) = 0 := V.int.inj z; omega)), iteF ?_⟩
            exact ⟨.int (w.at_ : Int), rfl, _, 1, rfl, rfl, q2 H8 _ rs o08 (.one stp) (Nat.lt_succ_self _) (by show w.at_ + 1 ≤ 200; omega) rfl rfl rfl hp L8⟩
end
end L2.T39

namespace L2.T39
open PySem PySem.Spec PyProof.Rows L2.PL
def spLGone (K : PySem.W.Frag) : Sp := fun vs H Q _ => ∃ (a : Sa) (ln : Addr) (ps : List (List PR.Ins)) (w : PW.Wk) (is : List PR.Ins) (cs : List Nat) (wh : Wh) (k0 : Option Addr), vs = [.ref a.s, .ref ln] ∧ LsA K H a (ofW w cs wh k0) ∧ LinesAt K H ln is ∧ ln ∉ a.all ∧
  w.at_ = 0 ∧ w.terms = (fun _ => none) ∧ w.options = none ∧ w.pending = none ∧ w.ends.length < ps.length ∧ PW.linesAt ps w = is ∧ Gd ps w ∧ RightFrom ps w cs ∧
  (∀ H' w' os kd, Old a.all H H' → PW.Reach ps w cs w' [] → w'.options = some os → w'.ends = w.ends → LsA K H' a (ofW w' [] (.split os.length) (some kd)) → Q (.str "stop") H') ∧
  (∀ H' w' cs' t td kd, Old a.all H H' → PW.Reach ps w cs w' cs' → w'.ends = w.ends ++ [td] → w'.options = none → w'.pending = none → LsA K H' a { ofW w' cs' wh (some kd) with E := w.ends } → Dp K H' (.ref t) (toldD td) → Q (.ref t) H')
theorem end_no {i : PR.Ins} (h : PR.isEnd i = false) : PR.word i ≠ "pass" ∧ PR.word i ≠ "drop" := by cases i <;> first | (cases h; done) | (simp only [PR.word]; decide +kernel)
section
variable {P : Program} {w : World} {K : PySem.W.Frag} {mg : Str → Option Value} {base : Heap}
/-! _law_gone: slots state=0 lines=1 at=2 known=3 line=4 word=5 told=6; cells [] -/
abbrev s_l_gone : Stmt := topS 63
abbrev N_l_gone : List Str := ["state", "lines", "at", "known", "line", "word", "told"]
theorem sc_l_gone : FnScope N_l_gone ["state", "lines"] (defScope s_l_gone) := ⟨rfl, rfl, rfl, by decide +kernel, rfl, by decide +kernel, by decide +kernel⟩
theorem ok_l_gone {f : Addr} {fd : FuncData} (F : Fun K "_law_gone" "_law_gone" s_l_gone f fd) (T : Bt mg) (C_l_lacks : Cal P w K mg base CX0 "_law_lacks" ["line", "known"] 1 (spIsUnset K)) (C_l_tested : Cal P w K mg base CX0 "_law_tested" ["state", "line", "at"] 3 (spTested K)) (C_l_loaded : Cal P w K mg base CX0 "_law_loaded" ["state", "line", "at"] 3 (spLoaded K)) :
    FnOk P w K mg base CX0 4 f fd ["state", "lines"] (spLGone K) := by
  refine F.ok sc_l_gone (fun vs H Q E h => ?_) (fun cdv A outer s H vs Q E hr h => ?_)
  · obtain ⟨a, ln, ps, w, is, cs, wh, k0, rfl, _⟩ := h
    rfl
  · obtain ⟨a, ln, ps, w, is, cs, wh, k0, rfl, ⟨kvs, v, X⟩, hln, lnout, hat0, htm0, ho0, hp0, hne, his, gd, rt, q1, q2⟩ := h
    have hu := hu_of hr
    obtain ⟨lrs, hlrs, dlrs⟩ := hln.ex
    have hlen : lrs.length = is.length := by rw [PL.DpAll.length dlrs, List.length_map]
    have LK : PW.LOk is := by rw [← his]; exact PW.lines_ok gd.ls
    have tkH : ∀ {H'}, Old a.all H H' → Tk H H' := fun o => o.tk X.notup
    have lnk : ∀ {H'}, Old a.all H H' → H' ln = some (.lst lrs) := fun o => o _ _ lnout hlrs
    refine ⟨_, (pss_cons (ps_par (i := 2) (j := 3) (by rfl) sc_l_gone.nd rfl rfl (by decide) rfl rfl (pa_cons pe_int (pa_cons pe_dnewK pa_nil)) (by rfl))
      (pss_cons (ps_asg (pv 3) (pg_sub (pv 0) pe_str (set_dict hu)))
      (pss_cons (ps_while PassesOwn.never (pt_cmpR op_lt (pv 2) (pe_callB call_len_seq (by rfl) T.z_len bz_len (pa_cons (pv 1) pa_nil)) (nomark _))
       (pss_cons (ps_expr (pe_bm PySem.F.plainAttrs_list PySem.F.slot_list_append PySem.F.type_list_append mt_append (pe_dget hu (pv 0) pe_str (fun _ _ => rfl)) (pa_cons (pe_tup (pa_cons (pe_callB call_len_seq (by rfl) T.z_len bz_len (pa_cons (pe_dget hu (pv 0) pe_str (fun _ _ => rfl)) pa_nil)) (pa_cons (pv 2) pa_nil))) pa_nil)))
        (pss_cons (ps_set (i := 4) sc_l_gone.nd rfl (.inl rfl) (pe_ix ix_list (pv 1) (pv 2) (fun _ _ => rfl)))
        (pss_cons (ps_set (i := 5) sc_l_gone.nd rfl (.inl rfl) (pe_ix ix_tup (pv 4) pe_int (fun _ _ => rfl)))
        (pss_cons (ps_if (PW.pt (pw_or (pt_cmpR op_eq (pv 5) pe_str (nomark _)) (pw_or1 (pt_cmpR op_eq (pv 5) pe_str (nomark _)))))
         (pss_one (ps_ret (pe_tup (pa_cons (pv 5) (pa_cons (pv 2) pa_nil)))))
         pss_nil)
        (pss_cons (ps_if (pt_val (pe_cal C_l_lacks hr (by rfl) pass0 (pa_cons (pv 4) (pa_cons (pv 3) pa_nil))))
         (pss_one (ps_ret (pe_tup (pa_cons pe_str (pa_cons (pv 2) (pa_cons pe_str pa_nil))))))
         pss_nil)
        (pss_cons (ps_if (pt_cmpR op_in_seq (pv 5) (pe_tup (pa_cons pe_str (pa_cons pe_str (pa_cons pe_str pa_nil)))) (by rfl))
         (pss_cons (ps_set (i := 2) sc_l_gone.nd rfl (.inl rfl) (pe_cal C_l_tested hr (by rfl) pass0 (pa_cons (pv 0) (pa_cons (pv 4) (pa_cons (pv 2) pa_nil)))))
          (pss_cons (ps_if (pt_cmpR op_lt (pv 2) pe_int (nomark _))
           (pss_one (ps_ret pe_str))
           pss_nil)
          (pss_one ps_continue)))
         pss_nil)
        (pss_cons (ps_if (pt_cmpR op_eq (pv 5) pe_str (nomark _))
         (pss_cons (ps_set (i := 6) sc_l_gone.nd rfl (.inl rfl) (pe_cal C_l_loaded hr (by rfl) pass0 (pa_cons (pv 0) (pa_cons (pv 4) (pa_cons (pv 2) pa_nil)))))
          (pss_one (ps_if (pt_cmpR op_notN (pv 6) pe_non (nomark _))
           (pss_one (ps_ret (pv 6)))
           pss_nil)))
         pss_nil)
        (pss_cons (ps_if (pt_cmpR op_eq (pv 5) pe_str (nomark _))
         (pss_one (ps_asg (pe_tup (pa_cons pe_int (pa_cons (pe_ix ix_tup (pv 4) pe_int (fun _ _ => rfl)) pa_nil))) (pg_sub (pv 3) (pe_ix ix_tup (pv 4) pe_int (fun _ _ => rfl)) (set_dict hu))))
         pss_nil)
        (pss_cons (ps_if (pt_cmpR op_eq (pv 5) pe_str (nomark _))
         (pss_one (ps_asg (pe_dget hu (pv 3) (pe_ix ix_tup (pv 4) pe_int (fun _ _ => rfl)) (fun _ _ => rfl)) (pg_sub (pv 3) (pe_ix ix_tup (pv 4) pe_int (fun _ _ => rfl)) (set_dict hu))))
         pss_nil)
        (pss_cons (ps_if (pt_cmpR op_eq (pv 5) pe_str (nomark _))
         (pss_one (ps_asg (pe_tup (pa_cons (pe_ix ix_tup (pe_dget hu (pv 3) (pe_ix ix_tup (pv 4) pe_int (fun _ _ => rfl)) (fun _ _ => rfl)) pe_int (fun _ _ => rfl)) (pa_cons (pe_op op_add (pe_ix ix_tup (pe_dget hu (pv 3) (pe_ix ix_tup (pv 4) pe_int (fun _ _ => rfl)) (fun _ _ => rfl)) pe_int (fun _ _ => rfl)) (pe_ix ix_tup (pv 4) pe_int (fun _ _ => rfl))) pa_nil))) (pg_sub (pv 3) (pe_ix ix_tup (pv 4) pe_int (fun _ _ => rfl)) (set_dict hu))))
         pss_nil)
        (pss_cons (ps_if (pt_cmpR op_eq (pv 5) pe_str (nomark _))
         (pss_one (ps_asg (pe_tup (pa_cons pe_int (pa_cons pe_int pa_nil))) (pg_sub (pv 3) (pe_ix ix_tup (pv 4) pe_int (fun _ _ => rfl)) (set_dict hu))))
         pss_nil)
        (pss_one (ps_set (i := 2) sc_l_gone.nd rfl (.inl rfl) (pe_ifExp (pt_cmpR op_eq (pv 5) pe_str (nomark _)) (pe_ix ix_tup (pv 4) pe_int (fun _ _ => rfl)) (pe_op op_add (pv 2) pe_int))))))))))))))))
      (pss_one (ps_ret (pe_tup (pa_cons pe_str (pa_cons (pe_callB call_len_seq (by rfl) T.z_len bz_len (pa_cons (pv 1) pa_nil)) (pa_cons pe_str pa_nil))))))))), ?_⟩
    refine fun kd nkd => ⟨_, _, rfl, ?_⟩
    have oA : Old [] H (upd H kd (.dK [])) := Old.new0 nkd
    have hkA : (upd H kd (.dK [])) kd = some (.dK []) := upd_same
    have XA := X.keep oA
    generalize upd H kd (.dK []) = HA at oA hkA XA ⊢
    refine ⟨.ref kd, rfl, .ref a.s, rfl, a.s, _, rfl, DPut.k (k := .inr "known") XA.hs (Nat.lt_of_le_of_lt XA.l8 (by decide)), ?_⟩
    have XB := XA.setKnown kd
    have kout : kd ∉ a.all := X.out nkd
    have hkB : (upd HA a.s (.dK (putK kvs (.inr "known") (.ref kd)))) kd = some (.dK []) := by rw [upd_ne (fun z => kout (by rw [z]; simp [Sa.all]))]; exact hkA
    have oB : Old a.all H (upd HA a.s (.dK (putK kvs (.inr "known") (.ref kd)))) := (Old.w oA).put (by simp [Sa.all])
    generalize upd HA a.s (.dK (putK kvs (.inr "known") (.ref kd))) = HB at XB hkB oB ⊢
    have knB : Kn K HB a kd w.terms w.at_ := by rw [htm0]; exact ⟨kout, [], hkB, ⟨fun r _ => rfl, fun r t e => (nomatch e)⟩, Nat.zero_le _⟩
    have old_kd : ∀ {H1 H2 : Hp}, Old a.all H H1 → Old (kd :: a.all) H1 H2 → Old a.all H H2 := fun o1 o2 b u nb e => o2 b u (fun m => by
      rcases List.mem_cons.mp m with z | z
      · rw [z, nkd] at e; cases e
      · exact nb z) (o1 b u nb e)
    have rw0 : V.int 0 = .int (w.at_ : Int) := by rw [hat0]; rfl
    refine ⟨fun m σ H' => ∃ (w1 : PW.Wk) (cs1 : List Nat) (y4 y5 y6 : Option V), σ = [some (.ref a.s), some (.ref ln), some (.int (w1.at_ : Int)), some (.ref kd), y4, y5, y6] ∧ Old a.all H H' ∧ LsA K H' a (ofW w1 cs1 wh (some kd)) ∧ Kn K H' a kd w1.terms w1.at_ ∧ PW.Reach ps w cs w1 cs1 ∧
        w1.options = none ∧ w1.pending = none ∧ w1.ends = w.ends ∧ m = PW.mu ps w1,
      ⟨_, w, cs, none, none, none, by rw [← rw0]; rfl, oB, ⟨_, _, XB⟩, knB, .refl _ _, ho0, hp0, rfl, rfl⟩, ?_⟩
    clear knB hkB XB oB XA hkA oA
    rintro m σ H1 ⟨w1, cs1, y4, y5, y6, rfl, o1, ⟨kv1, v1, X1⟩, kn1, r1, b1, b2, b3, rfl⟩
    have gd1 := gd.reach r1
    have rt1 := rt.on r1
    have he1 : w1.ends.length ≠ ps.length := by rw [b3]; omega
    have his1 : PW.linesAt ps w1 = is := by unfold PW.linesAt; rw [b3]; exact his
    have ln1 := lnk o1
    have stp := PW.cstep_step (cs := cs1) b1 he1 b2
    refine ⟨.int (w1.at_ : Int), rfl, .ref ln, rfl, ln, lrs, rfl, .inl (SqL.of ln1), _, _, rfl, rfl, ?_⟩
    cases ei : is[w1.at_]? with
    | none =>
      have hge := List.getElem?_eq_none_iff.mp ei
      refine ⟨false, congrArg V.bl (decide_eq_false (by rw [hlen]; omega)), iteF ?_⟩
      refine ⟨.ref ln, rfl, ln, lrs, rfl, .inl (SqL.of ln1), by show 3 ≤ sizeLine; decide, fun u nu => ?_⟩
      have o2 := Old.new0 (W := []) (o := HO.tup [.str "wrong", .int (lrs.length : Int), .str "end"]) nu
      have es : w1.step ps = w1.finish (.end_ is.length) := by unfold PW.Wk.step; rw [his1, ei]
      rw [es] at stp
      refine q2 _ _ cs1 u (.end_ is.length) kd (o1.trans (Old.w o2)) (r1.snoc stp) (by show w1.ends ++ _ = _; rw [b3]) b1 b2 ?_ ?_
      · have : ({ ofW (w1.finish (.end_ is.length)) cs1 wh (some kd) with E := w.ends } : Ld) = ofW w1 cs1 wh (some kd) := by rw [← b3]; rfl
        rw [this]
        exact ⟨_, _, X1.keep o2⟩
      · rw [← hlen]; exact dp3 upd_same (.str _) (.int _) (.str _)
    | some i =>
      have hlt : w1.at_ < is.length := (List.getElem?_eq_some_iff.mp ei).1
      have hat : w1.at_ < 200 := Nat.lt_of_lt_of_le hlt LK.len
      have iok := LK.ok _ i ei
      refine ⟨true, congrArg V.bl (decide_eq_true (by rw [hlen]; omega)), iteT ?_⟩
      refine ⟨fun σ H' => ∃ (w2 : PW.Wk) (cs2 : List Nat) (y4 y5 y6 : Option V), σ = [some (.ref a.s), some (.ref ln), some (.int (w2.at_ : Int)), some (.ref kd), y4, y5, y6] ∧ Old a.all H H' ∧ LsA K H' a (ofW w2 cs2 wh (some kd)) ∧ Kn K H' a kd w2.terms w2.at_ ∧ PW.Reach ps w cs w2 cs2 ∧
          w2.options = none ∧ w2.pending = none ∧ w2.ends = w.ends ∧ PW.mu ps w2 < PW.mu ps w1, ?_, ?_⟩
      · rintro σ' H' ⟨w2, cs2, y4, y5, y6, h1, h2, h3, h4, h5, h6, h7, h8, h9⟩
        exact ⟨_, h9, w2, cs2, y4, y5, y6, h1, h2, h3, h4, h5, h6, h7, h8, rfl⟩
      obtain ⟨tv, gt, dtv⟩ := PL.DpAll.get dlrs (i := w1.at_) (d := PR.insD i) (by rw [List.getElem?_map, ei]; rfl)
      obtain ⟨t, rfl, st⟩ := ins_at dtv
      -- came
      obtain ⟨xc, hc1, hc2⟩ := X1.hc.ex
      obtain ⟨xe, he2, he3⟩ := X1.he.ex
      have hel : xe.length = w1.ends.length := by rw [PL.DpAll.length he3, List.length_map]; rfl
      have hcl : xc.length = w1.came.length := by rw [PL.DpAll.length hc2, List.length_map]; rfl
      refine ⟨.ref a.s, rfl, a.s, _, rfl, X1.gc, .inl ⟨rfl, _, SqL.of hc1⟩, .ref a.s, rfl, a.s, _, rfl, X1.ge, a.e, xe, rfl, .inl (SqL.of he2), .int (w1.at_ : Int), rfl, by show 2 ≤ sizeLine; decide, fun u nu => ?_⟩
      have o2 : Old [] H1 (upd H1 u (.tup [.int (xe.length : Int), .int (w1.at_ : Int)])) := Old.new0 nu
      have d2 : Dp K (upd H1 u (.tup [.int (xe.length : Int), .int (w1.at_ : Int)])) (.ref u) (pairD (w1.ends.length, w1.at_)) := by rw [← hel]; exact dp2 upd_same (.int _) (.int _)
      generalize upd H1 u (.tup [.int (xe.length : Int), .int (w1.at_ : Int)]) = H2 at o2 d2 ⊢
      have X2 := X1.keep o2
      have kn2 := kn1.keep0 o2
      have hc1' := o2 _ _ (by simp) hc1
      refine ⟨a.c, xc, .ref u, rfl, rfl, hc1', by have z : w1.came.length + w1.bounds.length + 4 * PW.mu ps w1 ≤ 15000000 := gd1.sz; show xc.length < 2 ^ 24; omega, ?_⟩
      have X3 := X2.addM (bs := [(w1.ends.length, w1.at_)]) hc1' (PL.Dp.keepAll (o2.tk NoTup.nil) _ _ (only_map pairD pairD_only _) hc2) (.cons d2 .nil)
      have o3 : Old a.all H2 (upd H2 a.c (.lst (xc ++ [.ref u]))) := (Old.refl _ _).put (by simp [Sa.all])
      have kn3 := kn2.keepO X2 o3
      have o03 := (o1.trans (Old.w o2)).trans o3
      generalize upd H2 a.c (.lst (xc ++ [.ref u])) = H3 at X3 o3 kn3 o03 ⊢
      have L3 : LsK K H3 a (ofW { w1 with came := w1.came ++ [(w1.ends.length, w1.at_)] } cs1 wh (some kd)) kv1 v1 := X3
      have ln3 := lnk o03
      have st3 := (tkH o03).seq st
      have es : w1.step ps = PW.Wk.does { w1 with came := w1.came ++ [(w1.ends.length, w1.at_)] } i := by unfold PW.Wk.step; rw [his1, ei]
      rw [es] at stp
      refine ⟨.ref ln, rfl, .int (w1.at_ : Int), rfl, ln, lrs, _, .ref t, rfl, rfl, SqL.of ln3, atI_nat gt, ?_⟩
      refine ⟨.ref t, rfl, t, _, 0, .str (PR.word i), rfl, rfl, st3, atI_nat (j := 0) rfl, ?_⟩
      have ea : ({ w1 with came := w1.came ++ [(w1.ends.length, w1.at_)] } : PW.Wk).at_ = w1.at_ := rfl
      have ee : ({ w1 with came := w1.came ++ [(w1.ends.length, w1.at_)] } : PW.Wk).ends = w1.ends := rfl
      have et : ({ w1 with came := w1.came ++ [(w1.ends.length, w1.at_)] } : PW.Wk).terms = w1.terms := rfl
      have eo : ({ w1 with came := w1.came ++ [(w1.ends.length, w1.at_)] } : PW.Wk).options = none := b1
      have ep : ({ w1 with came := w1.came ++ [(w1.ends.length, w1.at_)] } : PW.Wk).pending = none := b2
      have el : PW.linesAt ps { w1 with came := w1.came ++ [(w1.ends.length, w1.at_)] } = is := his1
      have mlt := (gd1.ok.step gd1.ls b1 he1 b2).2
      rw [es] at mlt
      have gdn := gd1.reach (.one stp)
      have rtn := rt1.on (.one stp)
      generalize ({ w1 with came := w1.came ++ [(w1.ends.length, w1.at_)] } : PW.Wk) = u1 at L3 stp ea ee et eo ep el mlt gdn rtn
      clear X3 X2 kn2 hc1' d2 o2 nu kn1 es
      rw [← et, ← ea] at kn3
      rw [← ea] at ei hat iok ⊢
      rw [← ee] at b3
      clear X1 gt dtv st hc1 hc2 he2 he3 hel hcl ln1 b1 b2 he1 his1
      -- the end of a line's work
      have told : ∀ (G : Hp) (td : PR.Told) (tv : Addr), Old [] H3 G → u1.does i = u1.finish td → Dp K G (.ref tv) (toldD td) → Q (.ref tv) G := by
        intro G td tv oG ed dt
        rw [ed] at stp
        refine q2 G _ cs1 tv td kd (o03.trans (Old.w oG)) (r1.snoc stp) (by show u1.ends ++ [td] = _; rw [b3]) eo ep ?_ dt
        have : ({ ofW (u1.finish td) cs1 wh (some kd) with E := w.ends } : Ld) = ofW u1 cs1 wh (some kd) := by rw [← b3]; rfl
        rw [this]
        exact ⟨_, _, L3.keep oG⟩
      cases hend : PR.isEnd i with
      | true =>
        cases i with
        | pass =>
          refine ⟨.str "pass", rfl, rfl, true, sT rfl, iteT (iteT ?_)⟩
          exact ⟨.str "pass", rfl, .int (u1.at_ : Int), rfl, by show 2 ≤ sizeLine; decide, fun v nv => told _ (.passed u1.at_) v (Old.new0 nv) rfl (dp2 upd_same (.str _) (.int _))⟩
        | drop =>
          refine ⟨.str "drop", rfl, rfl, false, sF (by decide +kernel), iteF ⟨.str "drop", rfl, rfl, true, sT rfl, iteT ?_⟩⟩
          exact ⟨.str "drop", rfl, .int (u1.at_ : Int), rfl, by show 2 ≤ sizeLine; decide, fun v nv => told _ (.dropped u1.at_) v (Old.new0 nv) rfl (dp2 upd_same (.str _) (.int _))⟩
        | _ => cases hend
      | false =>
        have hno := end_no hend
        refine ⟨.str (PR.word i), rfl, rfl, false, strNe hno.1, iteF ⟨.str (PR.word i), rfl, rfl, false, strNe hno.2, iteF ?_⟩⟩
        obtain ⟨kv3, hk3, mem3, kl3⟩ := kn3.ex
        refine ⟨.ref t, rfl, .ref kd, rfl, t, kd, i, kv3, fun r => (u1.terms r).isSome, rfl, st3, hk3, mem3.is, fun H4 o4 => ?_⟩
        rw [unset_any]
        have L4 := L3.keep o4
        have kn4 := kn3.keep0 o4
        have st4 := (o4.tk NoTup.nil).seq st3
        have o04 := o03.trans (Old.w o4)
        refine ⟨PW.unsetT i u1.terms, rfl, ?_⟩
        have hdoes : ∀ b, PW.unsetT i u1.terms = b → u1.does i = if b = true then u1.finish (.unset u1.at_) else if PW.isHop i = true then { u1 with at_ := PR.goal i } else if PW.isTest i = true then { u1 with options := some (PW.testOpts u1.terms i) }
            else if PW.isLoad i = true then { u1 with options := some (PW.placeOpts (PW.placeOf u1.terms i)) } else { u1 with terms := PW.putT u1.terms (PW.regOf i) (PW.termOf u1.terms i), at_ := u1.at_ + 1 } := fun b hb => by
          unfold PW.Wk.does
          rw [if_neg (by rw [hend]; decide), hb]
        cases hun : PW.unsetT i u1.terms with
        | true =>
          refine iteT ?_
          exact ⟨.int (u1.at_ : Int), rfl, by show 3 ≤ sizeLine; decide, fun v nv => told _ (.unset u1.at_) v (o4.new nv) ((hdoes true hun).trans (if_pos rfl)) (dp3 upd_same (.str _) (.int _) (.str _))⟩
        | false =>
          refine iteF ?_
          have hdoes := (hdoes false hun).trans (if_neg (by decide))
          clear told
          refine ⟨.str (PR.word i), rfl, by show 3 ≤ sizeLine; decide, fun q2' nq2 => ⟨q2', _, rfl, .inr (SqT.of upd_same), rfl, rfl, ?_⟩⟩
          have o5 : Old [] H4 (upd H4 q2' (.tup [.str "less", .str "atmost", .str "same"])) := Old.new0 nq2
          generalize upd H4 q2' (.tup [.str "less", .str "atmost", .str "same"]) = H5 at o5 ⊢
          have L5 := L4.keep o5
          have kn5 := kn4.keep0 o5
          have st5 := (o5.tk NoTup.nil).seq st4
          have o05 := o04.trans (Old.w o5)
          clear L4 kn4 st4 o04 L3 kn3 st3 hk3 mem3 kl3
          have eil : (PW.linesAt ps u1)[u1.at_]? = some i := by rw [el]; exact ei
          refine ⟨PW.isTest i, (by show V.bl (inV _ _) = _; rw [in_test]), ?_⟩
          cases ht : PW.isTest i with
          | true =>
            refine iteT ?_
            have hh : PW.isHop i = false := by cases i <;> first | rfl | cases ht
            have ed : u1.does i = { u1 with options := some (PW.testOpts u1.terms i) } := by rw [hdoes, if_neg (by rw [hh]; decide), if_pos ht]
            rw [ed] at stp mlt
            have gd2 := gd1.reach (.one stp)
            have rt2 := rt1.on (.one stp)
            refine ⟨.ref a.s, rfl, .ref t, rfl, .int (u1.at_ : Int), rfl, a, t, kd, i, ps, { u1 with options := some (PW.testOpts u1.terms i) }, cs1, wh, rfl, ⟨_, _, L5⟩, kn5, st5, eil, ht, hun, gd2, rfl, ep, rt2, fun hcs H6 o6 L6 => ?_, fun H6 w' cs' o6 re c1 c2 c3 c4 c5 c6 L6 => ?_⟩
            · refine ⟨.int (-1), rfl, -1, 0, rfl, rfl, true, rfl, iteT ?_⟩
              subst hcs
              exact q1 H6 _ (PW.testOpts u1.terms i) kd (o05.trans o6) (r1.snoc stp) rfl b3 L6
            · refine ⟨.int (w'.at_ : Int), rfl, (w'.at_ : Int), 0, rfl, rfl, false, congrArg V.bl (decide_eq_false (by omega)), iteF ?_⟩
              have kn6 : Kn K H6 a kd w'.terms w'.at_ := by
                have := kn5.keepO L5 o6
                rw [c4]
                obtain ⟨kv, z1, z2, z3⟩ := this.ex
                exact ⟨kout, kv, z1, z2, Nat.le_trans z3 (Nat.le_of_lt c1)⟩
              exact ⟨w', cs', _, _, _, rfl, o05.trans o6, L6, kn6, (r1.snoc stp).trans re, c5, c6, c3.trans b3, Nat.lt_of_le_of_lt (PW.reach_mu gd2.ls gd2.ok re).1 mlt⟩
          | false =>
            refine iteF ?_
            cases hl : PW.isLoad i with
            | true =>
              have hh : PW.isHop i = false := by cases i <;> first | rfl | cases hl
              have ed : u1.does i = { u1 with options := some (PW.placeOpts (PW.placeOf u1.terms i)) } := by rw [hdoes, if_neg (by rw [hh]; decide), if_neg (by rw [ht]; decide), if_pos hl]
              rw [ed] at stp mlt
              have gd2 := gd1.reach (.one stp)
              have rt2 := rt1.on (.one stp)
              refine ⟨.str (PR.word i), rfl, rfl, true, strEq (load_yes hl), iteT ?_⟩
              refine ⟨.ref a.s, rfl, .ref t, rfl, .int (u1.at_ : Int), rfl, a, t, kd, i, ps, { u1 with options := some (PW.placeOpts (PW.placeOf u1.terms i)) }, cs1, wh, rfl, ⟨_, _, L5⟩, kn5, st5, eil, hl, hun, gd2, rfl, ep, rt2,
                fun H6 w' os o6 re c1 c2 L6 => ?_, fun H6 w' cs' t' o6 re c1 c2 c3 L6 d6 => ?_, fun H6 w' cs' o6 re c1 c2 c3 c4 L6 kn6 => ?_⟩
              · refine ⟨.str "stop", rfl, rfl, true, rfl, iteT ⟨.str "stop", rfl, ?_⟩⟩
                exact q1 H6 w' os kd (old_kd o05 o6) ((r1.snoc stp).trans re) c1 (c2.trans b3) L6
              · refine ⟨.ref t', rfl, rfl, true, rfl, iteT ⟨.ref t', rfl, ?_⟩⟩
                have c1 : w'.ends = u1.ends ++ [.beyond u1.at_] := c1
                have L6 : LsA K H6 a { ofW w' cs' wh (some kd) with E := u1.ends } := L6
                rw [b3] at c1 L6
                exact q2 H6 w' cs' t' _ kd (old_kd o05 o6) ((r1.snoc stp).trans re) c1 c2 c3 L6 d6
              · refine ⟨.non, rfl, rfl, false, rfl, iteF ?_⟩
                obtain ⟨r, s', n, rfl⟩ : ∃ r s n, i = .load r s n := by cases i <;> first | (cases hl; done) | exact ⟨_, _, _, rfl⟩
                refine ⟨.str "load", rfl, rfl, false, sF (by decide +kernel), iteF ?_⟩
                refine ⟨.str "load", rfl, rfl, false, sF (by decide +kernel), iteF ?_⟩
                refine ⟨.str "load", rfl, rfl, false, sF (by decide +kernel), iteF ?_⟩
                refine ⟨.str "load", rfl, rfl, false, sF (by decide +kernel), iteF ?_⟩
                refine ⟨.str "load", rfl, rfl, false, sF (by decide +kernel), iteF ?_⟩
                refine ⟨.int (u1.at_ : Int), rfl, _, 1, rfl, rfl, ?_⟩
                have c1 : w'.at_ = u1.at_ + 1 := c1
                have ecast : V.int ((u1.at_ : Int) + 1) = .int (w'.at_ : Int) := by rw [c1]; rfl
                exact ⟨w', cs', _, _, _, by rw [← ecast]; rfl, old_kd o05 o6, L6, kn6, (r1.snoc stp).trans re, c3, c4, c2.trans b3, Nat.lt_of_le_of_lt (PW.reach_mu gd2.ls gd2.ok re).1 mlt⟩
            | false =>
              have hload := load_no hl
              refine ⟨.str (PR.word i), rfl, rfl, false, strNe hload, iteF ?_⟩
              -- a register is set
              have setr : PW.isHop i = false → ∀ (G : Hp) (y : V), Old [] H5 G → Dp K G y (tmD (PW.termOf u1.terms i)) → ∃ H', DPut G kd (.str (PR.rg (PW.regOf i))) y H' ∧
                  ∀ (z5 z6 : Option V), ∃ (w2 : PW.Wk) (cs2 : List Nat) (y4 y5 y6 : Option V), [some (.ref a.s), some (.ref ln), some (.int ((u1.at_ : Int) + 1)), some (.ref kd), some (.ref t), z5, z6] = [some (.ref a.s), some (.ref ln), some (.int (w2.at_ : Int)), some (.ref kd), y4, y5, y6] ∧ Old a.all H H' ∧ LsA K H' a (ofW w2 cs2 wh (some kd)) ∧ Kn K H' a kd w2.terms w2.at_ ∧
                    PW.Reach ps w cs w2 cs2 ∧ w2.options = none ∧ w2.pending = none ∧ w2.ends = w.ends ∧ PW.mu ps w2 < PW.mu ps w1 := by
                intro hh G y oG dy
                have ed : u1.does i = { u1 with terms := PW.putT u1.terms (PW.regOf i) (PW.termOf u1.terms i), at_ := u1.at_ + 1 } := by rw [hdoes, if_neg (by rw [hh]; decide), if_neg (by rw [ht]; decide), if_neg (by rw [hl]; decide)]
                rw [ed] at stp mlt
                obtain ⟨H', p1, p2, p3, p4, p5⟩ := (kn5.keep0 oG).put (L5.keep oG) (by omega) (PW.regOf i) dy
                refine ⟨H', p1, fun z5 z6 => ⟨{ u1 with terms := PW.putT u1.terms (PW.regOf i) (PW.termOf u1.terms i), at_ := u1.at_ + 1 }, cs1, _, _, _, rfl, ?_, ⟨_, _, p4⟩, p5, r1.snoc stp, eo, ep, b3, mlt⟩⟩
                exact old_kd (o05.trans (Old.w oG)) (p2.mono fun x hx => by rw [List.mem_singleton.mp hx]; exact List.mem_cons_self)
              cases i with
              | jump l =>
                refine ⟨.str "jump", rfl, rfl, false, sF (by decide +kernel), iteF ?_⟩
                refine ⟨.str "jump", rfl, rfl, false, sF (by decide +kernel), iteF ?_⟩
                refine ⟨.str "jump", rfl, rfl, false, sF (by decide +kernel), iteF ?_⟩
                refine ⟨.str "jump", rfl, rfl, false, sF (by decide +kernel), iteF ?_⟩
                refine ⟨.str "jump", rfl, rfl, true, sT rfl, iteT ?_⟩
                have ed : u1.does (.jump l) = { u1 with at_ := l } := by rw [hdoes]; rfl
                rw [ed] at stp mlt
                have g : u1.at_ < l ∧ l ≤ 200 := iok (.l l) (.head _)
                refine ⟨.ref t, rfl, t, _, 1, .int (l : Int), rfl, rfl, st5, atI_nat (j := 1) rfl, { u1 with at_ := l }, cs1, _, _, _, rfl, o05, ⟨_, _, L5⟩, ?_, r1.snoc stp, eo, ep, b3, mlt⟩
                obtain ⟨kv, z1, z2, z3⟩ := kn5.ex
                exact ⟨kout, kv, z1, z2, Nat.le_trans z3 (Nat.le_of_lt g.1)⟩
              | set r n =>
                refine ⟨.str "set", rfl, rfl, true, sT rfl, iteT ?_⟩
                refine ⟨.ref t, rfl, t, _, 2, .int n, rfl, rfl, st5, atI_nat (j := 2) rfl, by show 2 ≤ sizeLine; decide, fun v nv => ?_⟩
                have o6 := Old.new0 (W := []) (o := HO.tup [.int 0, .int n]) nv
                obtain ⟨H', z1, z2⟩ := setr rfl _ (.ref v) o6 (dp2 upd_same (.int _) (.int _))
                refine ⟨.ref kd, rfl, .ref t, rfl, t, _, 1, .str (PR.rg r), rfl, rfl, (o6.tk NoTup.nil).seq st5, atI_nat (j := 1) rfl, kd, H', rfl, z1, ?_⟩
                refine ⟨.str "set", rfl, rfl, false, sF (by decide +kernel), iteF ?_⟩
                refine ⟨.str "set", rfl, rfl, false, sF (by decide +kernel), iteF ?_⟩
                refine ⟨.str "set", rfl, rfl, false, sF (by decide +kernel), iteF ?_⟩
                refine ⟨.str "set", rfl, rfl, false, sF (by decide +kernel), iteF ?_⟩
                exact ⟨.int (u1.at_ : Int), rfl, _, 1, rfl, rfl, z2 _ _⟩
              | copy r s' =>
                refine ⟨.str "copy", rfl, rfl, false, sF (by decide +kernel), iteF ?_⟩
                refine ⟨.str "copy", rfl, rfl, true, sT rfl, iteT ?_⟩
                obtain ⟨ta, g, sa, da⟩ := kn5.get (set_of hun (2, s') (.head _))
                obtain ⟨H', z1, z2⟩ := setr rfl _ (.ref ta) (Old.refl _ _) da
                refine ⟨.ref kd, rfl, .ref t, rfl, t, _, 2, .str (PR.rg s'), rfl, rfl, st5, atI_nat (j := 2) rfl, kd, _, rfl, g, .ref kd, rfl, .ref t, rfl, t, _, 1, .str (PR.rg r), rfl, rfl, st5, atI_nat (j := 1) rfl, kd, H', rfl, z1, ?_⟩
                refine ⟨.str "copy", rfl, rfl, false, sF (by decide +kernel), iteF ?_⟩
                refine ⟨.str "copy", rfl, rfl, false, sF (by decide +kernel), iteF ?_⟩
                refine ⟨.str "copy", rfl, rfl, false, sF (by decide +kernel), iteF ?_⟩
                exact ⟨.int (u1.at_ : Int), rfl, _, 1, rfl, rfl, z2 _ _⟩
              | add r n =>
                refine ⟨.str "add", rfl, rfl, false, sF (by decide +kernel), iteF ?_⟩
                refine ⟨.str "add", rfl, rfl, false, sF (by decide +kernel), iteF ?_⟩
                refine ⟨.str "add", rfl, rfl, true, sT rfl, iteT ?_⟩
                obtain ⟨ta, g, sa, da⟩ := kn5.get (set_of hun (1, r) (.head _))
                refine ⟨.ref kd, rfl, .ref t, rfl, t, _, 1, .str (PR.rg r), rfl, rfl, st5, atI_nat (j := 1) rfl, kd, _, rfl, g, ta, _, 0, _, rfl, rfl, sa, rfl, .ref kd, rfl, .ref t, rfl, t, _, 1, .str (PR.rg r), rfl, rfl, st5, atI_nat (j := 1) rfl, kd, _, rfl, g, ta, _, 1, _, rfl, rfl, sa, rfl, .ref t, rfl, t, _, 2, .int n, rfl, rfl, st5, atI_nat (j := 2) rfl, _, n, rfl, rfl,
                  by show 2 ≤ sizeLine; decide, fun v nv => ?_⟩
                have o6 := Old.new0 (W := []) (o := HO.tup [.int ((PW.tm u1.terms (1, r).2).1 : Int), .int ((PW.tm u1.terms (1, r).2).2 + n)]) nv
                obtain ⟨H', z1, z2⟩ := setr rfl _ (.ref v) o6 (dp2 upd_same (.int _) (.int _))
                refine ⟨.ref kd, rfl, .ref t, rfl, t, _, 1, .str (PR.rg r), rfl, rfl, (o6.tk NoTup.nil).seq st5, atI_nat (j := 1) rfl, kd, H', rfl, z1, ?_⟩
                refine ⟨.str "add", rfl, rfl, false, sF (by decide +kernel), iteF ?_⟩
                refine ⟨.str "add", rfl, rfl, false, sF (by decide +kernel), iteF ?_⟩
                exact ⟨.int (u1.at_ : Int), rfl, _, 1, rfl, rfl, z2 _ _⟩
              | length r =>
                refine ⟨.str "length", rfl, rfl, false, sF (by decide +kernel), iteF ?_⟩
                refine ⟨.str "length", rfl, rfl, false, sF (by decide +kernel), iteF ?_⟩
                refine ⟨.str "length", rfl, rfl, false, sF (by decide +kernel), iteF ?_⟩
                refine ⟨.str "length", rfl, rfl, true, sT rfl, iteT ?_⟩
                refine ⟨by show 2 ≤ sizeLine; decide, fun v nv => ?_⟩
                have o6 := Old.new0 (W := []) (o := HO.tup [.int 1, .int 0]) nv
                obtain ⟨H', z1, z2⟩ := setr rfl _ (.ref v) o6 (dp2 upd_same (.int _) (.int _))
                refine ⟨.ref kd, rfl, .ref t, rfl, t, _, 1, .str (PR.rg r), rfl, rfl, (o6.tk NoTup.nil).seq st5, atI_nat (j := 1) rfl, kd, H', rfl, z1, ?_⟩
                refine ⟨.str "length", rfl, rfl, false, sF (by decide +kernel), iteF ?_⟩
                exact ⟨.int (u1.at_ : Int), rfl, _, 1, rfl, rfl, z2 _ _⟩
              | less r s' n l => cases ht
              | atmost r n l => cases ht
              | same r n l => cases ht
              | load r s' n => cases hl
              | pass => cases hend
              | drop => cases hend
end
end L2.T39

namespace L2.T39
open PySem PySem.Spec PyProof.Rows L2.PL
def whIs (w : PW.Wk) (wh : Wh) : Prop := match w.options with
  | none => wh = .no
  | some os => wh = .split os.length
def spWalked (K : PySem.W.Frag) : Sp := fun vs H Q _ => ∃ (pl ln : Addr) (v : V) (is : List PR.Ins) (cs : List Nat) (w : PW.Wk), vs = [.ref pl, v] ∧ H pl = some (.lst [.ref ln]) ∧ LinesAt K H ln is ∧ Lns is ∧ Dp K H v (chD cs) ∧ Right [is] cs w ∧
  ∀ H' a wh kd, Old [] H H' → (∀ x ∈ a.all, H x = none) → LsA K H' a (ofW w [] wh kd) → whIs w wh → Q (.ref a.s) H'
theorem ints_of {K : PySem.W.Frag} {H : Hp} {xs : List V} {cs : List Nat} (h : DpAll K H xs (cs.map nD)) : xs = cs.map fun c : Nat => V.int (c : Int) := by
  induction cs generalizing xs with
  | nil => cases h; rfl
  | cons c cs ih =>
    cases h with
    | cons p q => cases p; rw [ih q]; rfl
theorem told_ne (t : PR.Told) : PyData.eqv (toldD t) (.str "stop") = false ∧ SeqAt.shaped (toldD t) = true := by
  have s1 : PyData.canLay0 (.str "pass") = true := by decide +kernel
  have s2 : PyData.canLay0 (.str "drop") = true := by decide +kernel
  have s3 : PyData.canLay0 (.str "wrong") = true := by decide +kernel
  have s4 : PyData.canLay0 (.str "unset") = true := by decide +kernel
  have s5 : PyData.canLay0 (.str "beyond") = true := by decide +kernel
  have s6 : PyData.canLay0 (.str "end") = true := by decide +kernel
  cases t <;> refine ⟨rfl, ?_⟩ <;> unfold SeqAt.shaped <;> simp only [toldD, PR.toldL, PyData.canLay0, PyData.canLayAll0, PyData.depth, PyData.depthAll] at * <;> simp [*]
theorem wh_shaped (w : Wh) : SeqAt.shaped (whD w) = true := by
  have s1 : PyData.canLay0 (.str "split") = true := by decide +kernel
  have s2 : PyData.canLay0 (.str "none") = true := by decide +kernel
  cases w <;> unfold SeqAt.shaped <;> simp only [whD, PyData.canLay0, PyData.canLayAll0, PyData.depth, PyData.depthAll] at * <;> simp [*]
theorem none_shaped : SeqAt.shaped (.str "none") = true := by decide +kernel
theorem stop_shaped : SeqAt.shaped (.str "stop") = true := by decide +kernel
theorem wh_no (w : Wh) : PyData.eqv (whD w) (.str "none") = match w with | .no => true | .split _ => false := by
  cases w with
  | no => show PyData.eqv (.str "none") (.str "none") = true; decide +kernel
  | split n => rfl
section
variable {P : Program} {w : World} {K : PySem.W.Frag} {mg : Str → Option Value} {base : Heap}
/-! _law_walked: slots programs=0 choices=1 state=2 lines=3 told=4; cells [] -/
abbrev s_l_walked : Stmt := topS 64
abbrev N_l_walked : List Str := ["programs", "choices", "state", "lines", "told"]
theorem sc_l_walked : FnScope N_l_walked ["programs", "choices"] (defScope s_l_walked) := ⟨rfl, rfl, rfl, by decide +kernel, rfl, by decide +kernel, by decide +kernel⟩
theorem ok_l_walked {f : Addr} {fd : FuncData} (F : Fun K "_law_walked" "_law_walked" s_l_walked f fd) (T : Bt mg) (C_l_gone : Cal P w K mg base CX0 "_law_gone" ["state", "lines"] 4 (spLGone K)) :
    FnOk P w K mg base CX0 5 f fd ["programs", "choices"] (spWalked K) := by
  refine F.ok sc_l_walked (fun vs H Q E h => ?_) (fun cdv A outer s H vs Q E hr h => ?_)
  · obtain ⟨pl, ln, v, is, cs, w, rfl, _⟩ := h
    rfl
  · obtain ⟨pl, ln, v, is, cs, w, rfl, hpl, hln, L, dv, rt, q⟩ := h
    have hu := hu_of hr
    have lps : ∀ is' ∈ [is], PW.LOk is' := fun is' h => by rw [List.mem_singleton.mp h]; exact lok_of L
    have gd : Gd [is] PW.start := Gd.start lps (by show 1 ≤ 4; decide)
    obtain ⟨vb, vxs, evb, svb, avb⟩ := dp_tup dv
    subst evb
    have evx := ints_of avb
    subst evx
    refine ⟨_, (pss_cons (ps_set (i := 2) sc_l_walked.nd rfl (.inl rfl) (pe_disp (pps_cons pe_str (pe_lst (pa_cons (pe_tup (pa_cons pe_int (pa_cons pe_int (pa_cons pe_int pa_nil)))) (pa_cons (pe_tup (pa_cons pe_int (pa_cons pe_int (pa_cons (pe_un un_neg pe_int) pa_nil)))) pa_nil))) (pps_cons pe_str (pe_lst pa_nil) (pps_cons pe_str pe_int (pps_cons pe_str (pe_lst pa_nil) (pps_cons pe_str (pe_lst pa_nil) (pps_cons pe_str pe_str pps_nil)))))) (by rfl) (by rfl) (fun z => nomatch z) (by decide)))
      (pss_cons (ps_asg (pe_callTy call_list_of (by rfl) T.z_list bz_list (pa_cons (pv 1) pa_nil)) (pg_sub (pv 2) pe_str (set_dict hu)))
      (pss_cons (ps_for PassesOwn.never rfl (pi_list (pv 0)) (pg_name (i := 3) sc_l_walked.nd rfl (Or.inl rfl))
       (pss_cons (ps_set (i := 4) sc_l_walked.nd rfl (.inl rfl) (pe_cal C_l_gone hr (by rfl) pass0 (pa_cons (pv 2) (pa_cons (pv 3) pa_nil))))
        (pss_cons (ps_if (pt_cmpR (op_eqD hr.units) (pv 4) pe_str (nomark _))
         (pss_one (ps_ret (pe_ifExp (pt_cmpR op_notN (pe_dget hu (pv 2) pe_str (fun _ _ => rfl)) pe_non (nomark _)) (pv 2) pe_non)))
         pss_nil)
        (pss_one (ps_expr (pe_bm PySem.F.plainAttrs_list PySem.F.slot_list_append PySem.F.type_list_append mt_append (pe_dget hu (pv 2) pe_str (fun _ _ => rfl)) (pa_cons (pv 4) pa_nil)))))))
      (pss_one (ps_ret (pe_ifExp (pt_cmpR (op_eqD hr.units) (pe_dget hu (pv 2) pe_str (fun _ _ => rfl)) (pe_lst pa_nil) (nomark _)) (pv 2) pe_non)))))), ?_⟩
    refine fun d nd => ⟨by show 3 ≤ sizeLine; decide, fun u1 n1 => ⟨1, rfl, by show 3 ≤ sizeLine; decide, fun u2 n2 => ⟨by show 2 ≤ sizeLine; decide, fun lb nlb => ?_⟩⟩⟩
    have o1 : Old [] (upd H d (.dK [])) (upd (upd (upd (upd H d (.dK [])) u1 (.tup [.int 1, .int 0, .int 24])) u2 (.tup [.int 0, .int 1, .int (-1)])) lb (.lst [.ref u1, .ref u2])) := ((Old.new0 n1).new n2).new nlb
    have eb1 : Dp K (upd (upd (upd (upd H d (.dK [])) u1 (.tup [.int 1, .int 0, .int 24])) u2 (.tup [.int 0, .int 1, .int (-1)])) lb (.lst [.ref u1, .ref u2])) (.ref u1) (bdD (1, 0, 24)) := keepD (Old.new0 nlb) rfl (keepD (Old.new0 n2) rfl (dp3 upd_same (.int _) (.int _) (.int _)))
    have eb2 : Dp K (upd (upd (upd (upd H d (.dK [])) u1 (.tup [.int 1, .int 0, .int 24])) u2 (.tup [.int 0, .int 1, .int (-1)])) lb (.lst [.ref u1, .ref u2])) (.ref u2) (bdD (0, 1, -1)) := keepD (Old.new0 nlb) rfl (dp3 upd_same (.int _) (.int _) (.int _))
    have hlb : (upd (upd (upd (upd H d (.dK [])) u1 (.tup [.int 1, .int 0, .int 24])) u2 (.tup [.int 0, .int 1, .int (-1)])) lb (.lst [.ref u1, .ref u2])) lb = some (.lst [.ref u1, .ref u2]) := upd_same
    have oD : Old [] H (upd H d (.dK [])) := Old.new0 nd
    have hd0 : (upd H d (.dK [])) d = some (.dK []) := upd_same
    have lb0 : H lb = none := (oD.trans ((Old.new0 n1).new n2)).free nlb (by simp)
    have dlb : d ≠ lb := ne_of_none (((Old.new0 (W := []) n1).new n2) _ _ (by simp) hd0) nlb
    have hd1 := o1 _ _ (by simp) hd0
    have o1 := oD.trans o1
    generalize upd (upd (upd (upd H d (.dK [])) u1 (.tup [.int 1, .int 0, .int 24])) u2 (.tup [.int 0, .int 1, .int (-1)])) lb (.lst [.ref u1, .ref u2]) = H1 at o1 eb1 eb2 hlb hd1 ⊢
    clear hd0 oD n1 n2 nlb
    refine ⟨Nat.zero_le _, fun ll nll => ⟨Nat.zero_le _, fun le nle => ⟨Nat.zero_le _, fun lc nlc => ?_⟩⟩⟩
    have o2 : Old [] H1 (upd (upd (upd H1 ll (.lst [])) le (.lst [])) lc (.lst [])) := ((Old.new0 nll).new nle).new nlc
    have hll1 : (upd H1 ll (.lst [])) ll = some (.lst []) := upd_same
    have hll2 : (upd (upd H1 ll (.lst [])) le (.lst [])) ll = some (.lst []) := by rw [upd_ne (ne_of_none hll1 nle)]; exact hll1
    have hle2 : (upd (upd H1 ll (.lst [])) le (.lst [])) le = some (.lst []) := upd_same
    have nll_le : ll ≠ le := ne_of_none hll1 nle
    have nll_lc : ll ≠ lc := ne_of_none hll2 nlc
    have nle_lc : le ≠ lc := ne_of_none hle2 nlc
    have hll3 : (upd (upd (upd H1 ll (.lst [])) le (.lst [])) lc (.lst [])) ll = some (.lst []) := by rw [upd_ne nll_lc]; exact hll2
    have hle3 : (upd (upd (upd H1 ll (.lst [])) le (.lst [])) lc (.lst [])) le = some (.lst []) := by rw [upd_ne nle_lc]; exact hle2
    have hlc3 : (upd (upd (upd H1 ll (.lst [])) le (.lst [])) lc (.lst [])) lc = some (.lst []) := upd_same
    have d_ll : d ≠ ll := ne_of_none hd1 nll
    have d_le : d ≠ le := ne_of_none ((Old.new0 (W := []) nll) _ _ (by simp) hd1) nle
    have d_lc : d ≠ lc := ne_of_none (((Old.new0 (W := []) nll).new nle) _ _ (by simp) hd1) nlc
    have b_ll : lb ≠ ll := ne_of_none hlb nll
    have b_le : lb ≠ le := ne_of_none ((Old.new0 (W := []) nll) _ _ (by simp) hlb) nle
    have b_lc : lb ≠ lc := ne_of_none (((Old.new0 (W := []) nll).new nle) _ _ (by simp) hlb) nlc
    have ll0 : H ll = none := o1.free nll (by simp)
    have le0 : H le = none := (o1.trans (Old.new0 nll)).free nle (by simp)
    have lc0 : H lc = none := (o1.trans ((Old.new0 nll).new nle)).free nlc (by simp)
    have hd2 := o2 _ _ (by simp) hd1
    have hlb2 := o2 _ _ (by simp) hlb
    have eb1 := keepD o2 rfl eb1
    have eb2 := keepD o2 rfl eb2
    have o2 := o1.trans o2
    generalize upd (upd (upd H1 ll (.lst [])) le (.lst [])) lc (.lst []) = H2 at o2 eb1 eb2 hll3 hle3 hlc3 hd2 hlb2 ⊢
    clear hll1 hll2 hle2 nll nle nlc o1 hd1 hlb
    refine ⟨hd2, [(.inr "bounds", .ref lb), (.inr "cells", .ref ll), (.inr "many", .int 2), (.inr "ends", .ref le), (.inr "came", .ref lc), (.inr "what", .str "none")], rfl, by show 6 ≤ 15; decide, ?_⟩
    have hml : (mergeK [] [(.inr "bounds", .ref lb), (.inr "cells", .ref ll), (.inr "many", .int 2), (.inr "ends", .ref le), (.inr "came", .ref lc), (.inr "what", .str "none")]).length ≤ 6 := length_mergeK _ []
    have hval : ∀ k, valV (mergeK [] [(.inr "bounds", .ref lb), (.inr "cells", .ref ll), (.inr "many", .int 2), (.inr "ends", .ref le), (.inr "came", .ref lc), (.inr "what", .str "none")]) k = [(.inr "bounds", .ref lb), (.inr "cells", .ref ll), (.inr "many", .int 2), (.inr "ends", .ref le), (.inr "came", .ref lc), (.inr "what", .str "none")].foldl (fun acc p => if k = p.1 then some p.2 else acc) none := fun k => valV_merge k _ []
    generalize mergeK [] [(.inr "bounds", .ref lb), (.inr "cells", .ref ll), (.inr "many", .int 2), (.inr "ends", .ref le), (.inr "came", .ref lc), (.inr "what", .str "none")] = kvs at hml hval ⊢
    have o3 : Old [] H (upd H2 d (.dK kvs)) := o2.put0 nd
    have tkd : Tk H2 (upd H2 d (.dK kvs)) := Old.tk (W := [d]) ((Old.refl _ _).put (by simp)) fun x hx => by
      rw [List.mem_singleton.mp hx, hd2]; exact ⟨fun xs z => (nomatch z), fun p u z => (nomatch z)⟩
    have hd3 : (upd H2 d (.dK kvs)) d = some (.dK kvs) := upd_same
    have hlb4 : (upd H2 d (.dK kvs)) lb = some (.lst [.ref u1, .ref u2]) := by rw [upd_ne dlb.symm]; exact hlb2
    have hll4 : (upd H2 d (.dK kvs)) ll = some (.lst []) := by rw [upd_ne d_ll.symm]; exact hll3
    have hle4 : (upd H2 d (.dK kvs)) le = some (.lst []) := by rw [upd_ne d_le.symm]; exact hle3
    have hlc4 : (upd H2 d (.dK kvs)) lc = some (.lst []) := by rw [upd_ne d_lc.symm]; exact hlc3
    have eb1 := PL.Dp.keep tkd _ _ rfl eb1
    have eb2 := PL.Dp.keep tkd _ _ rfl eb2
    generalize upd H2 d (.dK kvs) = H3 at o3 hd3 hlb4 hll4 hle4 hlc4 eb1 eb2 ⊢
    clear tkd hd2 hlb2 hll3 hle3 hlc3 o2
    refine ⟨.ref vb, rfl, vb, _, rfl, .inr ((o3.tk NoTup.nil).seq svb), fun lf nlf => ?_⟩
    have o4 : Old [] H3 (upd H3 lf (.lst (cs.map fun c : Nat => V.int (c : Int)))) := Old.new0 nlf
    have hlf4 : (upd H3 lf (.lst (cs.map fun c : Nat => V.int (c : Int)))) lf = some (.lst (cs.map fun c : Nat => V.int (c : Int))) := upd_same
    have f_d : d ≠ lf := ne_of_none hd3 nlf
    have f_b : lb ≠ lf := ne_of_none hlb4 nlf
    have f_l : ll ≠ lf := ne_of_none hll4 nlf
    have f_e : le ≠ lf := ne_of_none hle4 nlf
    have f_c : lc ≠ lf := ne_of_none hlc4 nlf
    have lf0 : H lf = none := o3.free nlf (by simp)
    generalize upd H3 lf (.lst (cs.map fun c : Nat => V.int (c : Int))) = H4 at o4 hlf4 ⊢
    have hd5 := o4 _ _ (by simp) hd3
    have hb5 := o4 _ _ (by simp) hlb4
    have hl5 := o4 _ _ (by simp) hll4
    have he5 := o4 _ _ (by simp) hle4
    have hc5 := o4 _ _ (by simp) hlc4
    have eb1 := keepD o4 rfl eb1
    have eb2 := keepD o4 rfl eb2
    have o5 := o3.trans o4
    refine ⟨.ref d, rfl, d, _, rfl, DPut.k (k := .inr "left") hd5 (Nat.lt_of_le_of_lt hml (by decide)), ?_⟩
    have at_ : ∀ j : Str, valV (putK kvs (.inr "left") (.ref lf)) (.inr j) = if j = "left" then some (.ref lf) else valV kvs (.inr j) := fun j => by
      rw [valV_put]
      by_cases z : j = "left"
      · rw [if_pos z, if_pos (congrArg Sum.inr z)]
      · rw [if_neg z, if_neg (fun w => z (Sum.inr.inj w))]
    have tkd : Tk H4 (upd H4 d (.dK (putK kvs (.inr "left") (.ref lf)))) := Old.tk (W := [d]) ((Old.refl _ _).put (by simp)) fun x hx => by
      rw [List.mem_singleton.mp hx, hd5]; exact ⟨fun xs z => (nomatch z), fun p u z => (nomatch z)⟩
    have X : LsK K (upd H4 d (.dK (putK kvs (.inr "left") (.ref lf)))) ⟨d, lb, ll, le, lc, lf⟩ (ofW PW.start cs .no none) (putK kvs (.inr "left") (.ref lf)) (.str "none") := by
      refine ⟨⟨dlb, d_ll, d_le, d_lc, f_d, b_ll, b_le, b_lc, f_b, nll_le, nll_lc, f_l, nle_lc, f_e, f_c⟩, upd_same, ?_, ?_, ?_, ?_, ?_, ?_, ?_, ?_, .str _, ⟨_, by rw [upd_ne dlb.symm]; exact hb5, .cons (PL.Dp.keep tkd _ _ rfl eb1) (.cons (PL.Dp.keep tkd _ _ rfl eb2) .nil)⟩,
        ⟨_, by rw [upd_ne d_ll.symm]; exact hl5, .nil⟩, ⟨_, by rw [upd_ne d_le.symm]; exact he5, .nil⟩, ⟨_, by rw [upd_ne d_lc.symm]; exact hc5, .nil⟩, by rw [upd_ne f_d.symm]; exact hlf4, .inl (Nat.le_trans (length_putK _ _ _) (by omega))⟩
      · rw [at_, if_neg (by decide +kernel), hval]; simp only [List.foldl]; repeat (first | rw [if_pos trivial] | rw [if_pos rfl] | rw [if_neg (by decide +kernel)])
      · rw [at_, if_neg (by decide +kernel), hval]; simp only [List.foldl]; repeat (first | rw [if_pos trivial] | rw [if_pos rfl] | rw [if_neg (by decide +kernel)])
      · rw [at_, if_neg (by decide +kernel), hval]; simp only [List.foldl]; (repeat (first | rw [if_pos trivial] | rw [if_pos rfl] | rw [if_neg (by decide +kernel)])); rfl
      · rw [at_, if_neg (by decide +kernel), hval]; simp only [List.foldl]; repeat (first | rw [if_pos trivial] | rw [if_pos rfl] | rw [if_neg (by decide +kernel)])
      · rw [at_, if_neg (by decide +kernel), hval]; simp only [List.foldl]; repeat (first | rw [if_pos trivial] | rw [if_pos rfl] | rw [if_neg (by decide +kernel)])
      · rw [at_, if_neg (by decide +kernel), hval]; simp only [List.foldl]; repeat (first | rw [if_pos trivial] | rw [if_pos rfl] | rw [if_neg (by decide +kernel)])
      · rw [at_, if_pos rfl]
      · rw [at_, if_neg (by decide +kernel), hval]; simp only [List.foldl]; (repeat (first | rw [if_pos trivial] | rw [if_pos rfl] | rw [if_neg (by decide +kernel)])); rfl
    have o6 : Old [] H (upd H4 d (.dK (putK kvs (.inr "left") (.ref lf)))) := o5.put0 nd
    generalize upd H4 d (.dK (putK kvs (.inr "left") (.ref lf))) = H6 at X o6 ⊢
    generalize putK kvs (.inr "left") (.ref lf) = kvs6 at X
    have hall : ∀ x ∈ (⟨d, lb, ll, le, lc, lf⟩ : Sa).all, H x = none := fun x hx => by
      simp only [Sa.all, List.mem_cons, List.not_mem_nil, or_false] at hx
      rcases hx with rfl | rfl | rfl | rfl | rfl | rfl <;> assumption
    have ed : d = (⟨d, lb, ll, le, lc, lf⟩ : Sa).s := rfl
    clear hval hml at_ tkd hd5 hb5 hl5 he5 hc5 eb1 eb2 o5 hlf4 o4 nlf hd3 hlb4 hll4 hle4 hlc4 o3
    rw [ed]
    generalize (⟨d, lb, ll, le, lc, lf⟩ : Sa) = a at X hall ⊢
    have hpl6 := o6 _ _ (by simp) hpl
    have lnout : ln ∉ a.all := fun z => by
      obtain ⟨lrs, h1, _⟩ := hln.ex
      rw [hall ln z] at h1; cases h1
    have plout : pl ∉ a.all := fun z => by rw [hall pl z] at hpl; cases hpl
    have newer : ∀ {H'}, Old a.all H6 H' → Old [] H H' := fun o b u _ e => o b u (fun m => by rw [hall b m] at e; cases e) (o6 b u (by simp) e)
    refine ⟨.ref pl, rfl, pl, rfl, ⟨_, SqL.of hpl6⟩, for_list (K := K) (a := pl) (xs := [.ref ln]) (fun i σ H' => ∃ (y3 y4 : Option V), σ = [some (.ref pl), some (.ref vb), some (.ref a.s), y3, y4] ∧ Old a.all H6 H' ∧
        ((i = 0 ∧ LsA K H' a (ofW PW.start cs .no none)) ∨ (i = 1 ∧ w.options = none ∧ ∃ kd, LsA K H' a (ofW w [] .no kd))))
      ⟨none, none, rfl, Old.refl _ _, .inl ⟨rfl, _, _, X⟩⟩ (fun i σ H' _ ⟨_, _, _, o, _⟩ => SqL.of (o _ _ plout hpl6)) ?_ ?_⟩
    · rintro i y σ H7 hy ⟨y3, y4, rfl, o7, hL⟩
      have hi : i = 0 := by have := (List.getElem?_eq_some_iff.mp hy).1; have h1 : i < 1 := this; omega
      subst hi
      have ey : y = .ref ln := by simpa using hy.symm
      subst ey
      have X7 : LsA K H7 a (ofW PW.start cs .no none) := by
        rcases hL with ⟨_, x⟩ | ⟨z, _⟩
        · exact x
        · cases z
      have hln7 : LinesAt K H7 ln is := by
        obtain ⟨lrs, h1, h2⟩ := hln.ex
        exact ⟨lrs, o7 _ _ lnout (o6 _ _ (by simp) h1), PL.Dp.keepAll (((o6.tk NoTup.nil)).trans (o7.tk X.notup)) _ _ (linesA_only is) h2⟩
      have rtf : RightFrom [is] PW.start cs := ⟨w, rt.1, rt.2⟩
      obtain ⟨kv7, v7, X7⟩ := X7
      refine ⟨.ref a.s, rfl, .ref ln, rfl, a, ln, [is], PW.start, is, cs, .no, none, rfl, ⟨_, _, X7⟩, hln7, lnout, rfl, rfl, rfl, rfl, by show 0 < 1; decide, rfl, gd, rtf, fun H8 w' os kd o8 re c1 c2 L8 => ?_, fun H8 w' cs' t td kd o8 re c1 c2 c3 L8 dt => ?_⟩
      · have hw : w = w' := (rt.1.fin rt.2 re (PW.halt_split c1)).1
        subst hw
        have eqs : PyData.eqv (.str "stop") (.str "stop") = true := by decide +kernel
        refine ⟨.str "stop", rfl, .str "stop", .str "stop", .str _, .str _, stop_shaped, stop_shaped, true, by rw [eqs], iteT ?_⟩
        obtain ⟨kv8, v8, X8⟩ := L8
        obtain ⟨vt, _, ev, _, _⟩ := dp_tup (X8.dw : Dp K H8 v8 (.tuple _))
        subst ev
        refine ⟨.ref a.s, rfl, a.s, _, rfl, X8.gw, rfl, true, rfl, iteT ⟨.ref a.s, rfl, ?_⟩⟩
        exact q H8 a (.split os.length) (some kd) (newer (o7.trans o8)) hall ⟨_, _, X8⟩ (by unfold whIs; rw [c1])
      · have he : w'.ends.length = [is].length := by rw [c1]; rfl
        obtain ⟨hw, hcs⟩ := rt.1.fin rt.2 re (PW.halt_end c2 he)
        subst hw
        subst hcs
        have tn := told_ne td
        refine ⟨.ref t, rfl, _, .str "stop", dt, .str _, tn.2, stop_shaped, false, by rw [tn.1], iteF ?_⟩
        obtain ⟨kv8, v8, X8⟩ := L8
        obtain ⟨xe, he1, he2⟩ := X8.he.ex
        refine ⟨.ref a.s, rfl, a.s, _, rfl, X8.ge, .inl ⟨rfl, _, SqL.of he1⟩, .ref t, rfl, a.e, xe, .ref t, rfl, rfl, he1, ?_, ?_⟩
        · have : xe.length = 0 := by rw [PL.DpAll.length he2, List.length_map]; rfl
          rw [this]; decide
        have X9 := X8.addE (bs := [td]) he1 he2 (.cons dt .nil)
        have e9 : ({ ({ ofW w [] .no (some kd) with E := PW.start.ends } : Ld) with E := PW.start.ends ++ [td] } : Ld) = ofW w [] .no (some kd) := by rw [← c1]; rfl
        have X9 : LsK K (upd H8 a.e (.lst (xe ++ [.ref t]))) a ({ ({ ofW w [] .no (some kd) with E := PW.start.ends } : Ld) with E := PW.start.ends ++ [td] } : Ld) kv8 v8 := X9
        rw [e9] at X9
        exact ⟨_, _, rfl, (o7.trans o8).put (by simp [Sa.all]), .inr ⟨rfl, c2, some kd, _, _, X9⟩⟩
    · rintro σ H7 ⟨y3, y4, rfl, o7, hL⟩
      rcases hL with ⟨z, _⟩ | ⟨_, c2, kd, kv7, v7, X7⟩
      · cases z
      have hf7 : H7 a.f = some (.lst []) := X7.hf
      refine ⟨.ref a.s, rfl, a.s, _, rfl, X7.gf, Nat.zero_le _, fun e ne => ?_⟩
      have o8 := Old.new0 (W := []) (o := HO.lst []) ne
      refine ⟨.list [], .list [], .lst (SqL.of (o8 _ _ (by simp) hf7)) .nil, .lst (SqL.of upd_same) .nil, shaped_nil, shaped_nil, true, rfl, iteT ⟨.ref a.s, rfl, ?_⟩⟩
      exact q _ a .no kd (newer (o7.trans (Old.w o8))) hall ⟨_, _, X7.keep o8⟩ (by unfold whIs; rw [c2])
end
end L2.T39

namespace L2.T39
open PySem PySem.Spec PyProof.Rows L2.PL
def spLLeast (K : PySem.W.Frag) : Sp := fun vs H Q _ => ∃ (a : Sa) (ps : List (List PR.Ins)) (w : PW.Wk) (cs : List Nat) (wh : Wh) (kd : Option Addr), vs = [.ref a.s] ∧ LsA K H a (ofW w cs wh kd) ∧ Gd ps w ∧
  (¬ PD.Feas w.bounds → ∀ H', Old [] H H' → Q .non H') ∧
  (∀ M, PD.Cl w.many w.bounds M → ∀ H' t, Old [] H H' → Dp K H' (.ref t) (pkD (PW.leastF (PW.lows w.many M) w.cells)) → Q (.ref t) H')
def spLNumbers (K : PySem.W.Frag) : Sp := fun vs H Q _ => ∃ (a : Sa) (ps : List (List PR.Ins)) (w : PW.Wk) (cs : List Nat) (wh : Wh) (kd : Option Addr) (v : V) (pk : List Int), vs = [.ref a.s, v] ∧ LsA K H a (ofW w cs wh kd) ∧ Gd ps w ∧ Dp K H v (pkD pk) ∧ pk.length ≤ 1000 ∧ PD.Vals w.bounds (PW.vf pk w.cells) ∧
  ∀ H' l, Old [] H H' → H l = none → H' l = some (.lst ((PW.nums pk w.cells).map V.int)) → Q (.ref l) H'
theorem cells_of {K : PySem.W.Frag} {H : Hp} {xs : List V} {cs : List (PW.Tm × Nat)} (h : DpAll K H xs (cs.map cellD)) : xs.length = cs.length ∧ ∀ (j : Nat) (t : PW.Tm) (n : Nat), cs[j]? = some (t, n) → ∃ (a u : Addr), xs[j]? = some (.ref a) ∧ SqT K H a [.ref u, .int (n : Int)] ∧ Dp K H (.ref u) (tmD t) := by
  refine ⟨by rw [PL.DpAll.length h, List.length_map], fun j t n ej => ?_⟩
  obtain ⟨v, g1, g2⟩ := PL.DpAll.get h (i := j) (d := cellD (t, n)) (by rw [List.getElem?_map, ej]; rfl)
  obtain ⟨a, u, rfl, s, d⟩ := pair_at g2
  exact ⟨a, u, g1, s, d⟩
section
variable {P : Program} {w : World} {K : PySem.W.Frag} {mg : Str → Option Value} {base : Heap}
/-! _law_least: slots state=0 sums=1 numbers=2 cells=3 variable=4 more=5 cell=6 number=7; cells [] -/
abbrev s_l_least : Stmt := topS 65
abbrev N_l_least : List Str := ["state", "sums", "numbers", "cells", "variable", "more", "cell", "number"]
theorem sc_l_least : FnScope N_l_least ["state"] (defScope s_l_least) := ⟨rfl, rfl, rfl, by decide +kernel, rfl, by decide +kernel, by decide +kernel⟩
theorem ok_l_least {f : Addr} {fd : FuncData} (F : Fun K "_law_least" "_law_least" s_l_least f fd) (T : Bt mg) (C_l_sums : Cal P w K mg base CX0 "_law_sums" ["many", "bounds"] 1 (spSums K)) : FnOk P w K mg base CX0 2 f fd ["state"] (spLLeast K) := by
  refine F.ok sc_l_least (fun vs H Q E h => ?_) (fun cdv A outer s H vs Q E hr h => ?_)
  · obtain ⟨a, ps, w, cs, wh, kd, rfl, _⟩ := h
    rfl
  · obtain ⟨a, ps, w, cs, wh, kd, rfl, ⟨kvs, v, Y⟩, gd, q1, q⟩ := h
    have hu := hu_of hr
    have core := gd.ok.core
    have hm := core.many
    have h2 := core.two
    have hcl := gd.cells
    refine ⟨_, (pss_cons (ps_set (i := 1) sc_l_least.nd rfl (.inl rfl) (pe_cal C_l_sums hr (by rfl) pass0 (pa_cons (pe_dget hu (pv 0) pe_str (fun _ _ => rfl)) (pa_cons (pe_dget hu (pv 0) pe_str (fun _ _ => rfl)) pa_nil))))
      (pss_cons (ps_if (pt_cmpR op_isN (pv 1) pe_non (nomark _))
       (pss_one (ps_ret pe_non))
       pss_nil)
      (pss_cons (ps_setLc (i := 2) (own := [("number", 7)]) (g := gName 7) (tt := tYes) rfl sc_l_least.nd rfl rfl (sw_true rfl rfl rfl (by decide +kernel)) (pi_list (pe_ix ix_list (pv 1) pe_int (fun _ _ => rfl))) (blkOk_by (N := N_l_least) (sc := defScope s_l_least) (by decide +kernel)) (fun _ _ _ _ _ => (pg_name (i := 7) sc_l_least.nd rfl (Or.inl rfl))) (fun _ _ _ _ _ => pts_nil) (fun _ _ _ _ _ => (pe_un un_neg (pv 7))))
      (pss_cons (ps_set (i := 3) sc_l_least.nd rfl (.inl rfl) (pe_op op_rep (pe_lst (pa_cons pe_int pa_nil)) (pe_ix ix_list (pv 2) pe_int (fun _ _ => rfl))))
      (pss_cons (ps_for PassesOwn.never rfl (pi_list (pe_dget hu (pv 0) pe_str (fun _ _ => rfl))) (pg_tup (by rfl) (pgs_cons (pg_tup (by rfl) (pgs_cons (pg_name (i := 4) sc_l_least.nd rfl (Or.inl rfl)) (pgs_cons (pg_name (i := 5) sc_l_least.nd rfl (Or.inl rfl)) pgs_nil))) (pgs_cons (pg_name (i := 6) sc_l_least.nd rfl (Or.inl rfl)) pgs_nil)))
       (pss_one (ps_asg (pe_ix ix_list (pv 2) (pv 6) (fun _ _ => rfl)) (pg_sub (pv 3) (pe_op op_add (pe_ix ix_list (pv 2) (pv 4) (fun _ _ => rfl)) (pv 5)) set_list))))
      (pss_one (ps_ret (pe_callTy call_tuple_of (by rfl) T.z_tuple bz_tuple (pa_cons (pv 3) pa_nil))))))))), ?_⟩
    refine ⟨.ref a.s, rfl, a.s, _, rfl, Y.gn, .ref a.s, rfl, a.s, _, rfl, Y.gb, a.b, w.many, w.bounds, rfl, ⟨Y.hb.ex⟩, core.var, by omega, fun nf H1 o1 => ?_, fun M H1 m rs cl o1 X => ?_⟩
    · exact ⟨.non, rfl, rfl, true, rfl, iteT (q1 nf H1 o1)⟩
    refine ⟨.ref m, rfl, rfl, false, rfl, iteF ?_⟩
    have q := q M cl
    have Y1 := Y.keep o1
    have hlow : ∀ v, v < w.many → M 0 v = some (-((PW.lows w.many M).getD v 0)) := fun v hv => PW.lows_is core cl hv
    obtain ⟨lx, hlx, dlx⟩ := Y1.hl.ex
    obtain ⟨hll, hlg⟩ := cells_of (cs := w.cells) dlx
    obtain ⟨r0, a1, a2, a3⟩ := X.get (i := 0) (by omega)
    refine ⟨.ref m, rfl, m, _, 0, .ref r0, rfl, rfl, SqL.of X.top, atI_nat (j := 0) a2, r0, rfl, ⟨_, SqL.of a3⟩, fun D hD => ?_⟩
    have nDr : r0 ≠ D := ne_of_none a3 hD
    refine lc_list (K := K) (a := r0) (xs := L2.T34.rowV w.many M 0) (fun i H' => Old [] H1 H' ∧ H' D = some (.lst (((PW.lows w.many M).take i).map V.int))) ⟨Old.new0 hD, upd_same⟩ (fun i H' _ h => SqL.of (h.1 _ _ (by simp) a3)) ?_ ?_
    · rintro i y H2 hy ⟨o2, g2⟩
      have hi : i < w.many := by have := (List.getElem?_eq_some_iff.mp hy).1; rwa [L2.T34.rowV_len] at this
      rw [L2.T34.rowV_get hi, hlow i hi] at hy
      cases hy
      have hlen : (PW.lows w.many M).length = w.many := by unfold PW.lows; rw [List.length_map, List.length_range]
      have hil : i < (PW.lows w.many M).length := by rw [hlen]; exact hi
      refine ⟨rfl, .int (-(PW.lows w.many M).getD i 0), rfl, _, rfl, _, g2, ?_, o2.put0 hD, ?_⟩
      · rw [List.length_map, List.length_take, hlen]; show _ < 2 ^ 24; omega
      · rw [upd_same, List.take_succ_eq_append_getElem hil, List.map_append, List.getD_eq_getElem?_getD, List.getElem?_eq_getElem hil]
        show some (HO.lst (_ ++ [V.int (- -(PW.lows w.many M)[i])])) = _
        rw [Int.neg_neg]; rfl
    rintro H2 ⟨o2, g2⟩
    have hlen : (PW.lows w.many M).length = w.many := by unfold PW.lows; rw [List.length_map, List.length_range]
    have l1 := PW.lows_1 core cl
    have lin : ∀ {p : PW.Tm} {u : Nat}, (p, u) ∈ w.cells → 0 ≤ (PW.lows w.many M).getD p.1 0 + p.2 ∧ (PW.lows w.many M).getD p.1 0 + p.2 < (PW.lows w.many M).getD 1 0 := fun h => PW.lows_in core cl h
    have g2 : H2 D = some (.lst ((PW.lows w.many M).map V.int)) := by
      have e : (PW.lows w.many M).take (L2.T34.rowV w.many M 0).length = PW.lows w.many M := by rw [L2.T34.rowV_len]; exact List.take_of_length_le (Nat.le_of_eq hlen)
      rw [e] at g2; exact g2
    have el' : PW.leastF (PW.lows w.many M) w.cells = PW.setAll (List.replicate ((PW.lows w.many M).getD 1 0).toNat 0) (w.cells.map (PW.spot (PW.lows w.many M))) := rfl
    rw [el'] at q
    clear el'
    generalize PW.lows w.many M = vs at hlen l1 lin g2 q
    have g : ∀ v, v < w.many → (vs.map V.int)[v]? = some (.int (vs.getD v 0)) := fun v hv => by
      have hv' : v < vs.length := by rw [hlen]; exact hv
      rw [List.getElem?_map, List.getElem?_eq_getElem hv', List.getD_eq_getElem?_getD, List.getElem?_eq_getElem hv']; rfl
    have g1 := g 1 (by omega)
    refine ⟨by show 1 ≤ sizeLine; decide, fun u nu => ?_⟩
    have nDu : D ≠ u := ne_of_none g2 nu
    have hD2 : (upd H2 u (.lst [.int 0])) D = some (.lst (vs.map V.int)) := by rw [upd_ne nDu]; exact g2
    refine ⟨.ref D, rfl, D, _, 1, .int (vs.getD 1 0), rfl, rfl, SqL.of hD2, atI_nat (j := 1) g1, u, vs.getD 1 0, _, rfl, rfl, upd_same, by omega, by omega, by show 1 * _ ≤ 2 ^ 24; omega, fun p np => ?_⟩
    have o3 : Old [] H1 (upd (upd H2 u (.lst [.int 0])) p (.lst (List.replicate (vs.getD 1 0).toNat [V.int 0]).flatten)) := (o2.new nu).new np
    have hp2 : (upd (upd H2 u (.lst [.int 0])) p (.lst (List.replicate (vs.getD 1 0).toNat [V.int 0]).flatten)) p = some (.lst ((PW.setAll (List.replicate (vs.getD 1 0).toNat 0) []).map V.int)) := by
      have e : (List.replicate (vs.getD 1 0).toNat [V.int 0]).flatten = (PW.setAll (List.replicate (vs.getD 1 0).toNat 0) []).map V.int := by
        show _ = (List.replicate (vs.getD 1 0).toNat (0 : Int)).map V.int
        rw [List.map_replicate, List.flatten_replicate_singleton]
      rw [upd_same, e]
    have nDp : D ≠ p := ne_of_none hD2 np
    have hD3 : (upd (upd H2 u (.lst [.int 0])) p (.lst (List.replicate (vs.getD 1 0).toNat [V.int 0]).flatten)) D = some (.lst (vs.map V.int)) := by rw [upd_ne nDp]; exact hD2
    have hp0 : H1 p = none := (o2.new nu).free np (by simp)
    generalize upd (upd H2 u (.lst [.int 0])) p (.lst (List.replicate (vs.getD 1 0).toNat [V.int 0]).flatten) = H3 at o3 hp2 hD3 ⊢
    clear nu np hD2 g2 o2
    have Y3 := Y1.keep o3
    refine ⟨.ref a.s, rfl, a.s, _, rfl, Y3.gl, a.l, rfl, ⟨_, SqL.of (o3 _ _ (by simp) hlx)⟩, for_list (K := K) (a := a.l) (xs := lx) (fun i σ H' => ∃ (y4 y5 y6 : Option V), σ = [some (.ref a.s), some (.ref m), some (.ref D), some (.ref p), y4, y5, y6, none] ∧ Old [] H1 H' ∧ H' D = some (.lst (vs.map V.int)) ∧
        H' p = some (.lst ((PW.setAll (List.replicate (vs.getD 1 0).toNat 0) ((w.cells.take i).map (PW.spot vs))).map V.int)))
      ⟨none, none, none, rfl, o3, hD3, hp2⟩ (fun i σ H' _ ⟨_, _, _, _, o, _⟩ => SqL.of (o _ _ (by simp) hlx)) ?_ ?_⟩
    · rintro i y σ H4 hy ⟨y4, y5, y6, rfl, o4, hD4, hp4⟩
      have hi : i < w.cells.length := by rw [← hll]; exact (List.getElem?_eq_some_iff.mp hy).1
      have ec : w.cells[i]? = some (w.cells[i].1, w.cells[i].2) := List.getElem?_eq_getElem hi
      obtain ⟨ca, cu, g2, g3, g4⟩ := hlg i _ _ ec
      rw [hy] at g2
      cases g2
      have tk := o4.tk NoTup.nil
      obtain ⟨cu', ecu, scu⟩ := tm_at (PL.Dp.keep tk _ _ rfl g4)
      cases ecu
      have htk : w.cells.take (i + 1) = w.cells.take i ++ [w.cells[i]] := List.take_succ_eq_append_getElem hi
      have hc := core.cell i _ _ ec
      have rg := lin (p := w.cells[i].1) (u := w.cells[i].2) (List.getElem_mem hi)
      refine ⟨ca, _, rfl, tk.seq g3, rfl, _, _, rfl, cu, _, rfl, scu, rfl, _, _, rfl, _, _, rfl, rfl, _, _, rfl, rfl, ?_⟩
      generalize w.cells[i] = c at htk hc rg
      obtain ⟨⟨pv, pn⟩, cv⟩ := c
      have hcv : cv = 2 + i := hc.1
      have hpv : pv < 2 + i := hc.2
      have gc := g cv (by omega)
      have gp := g pv (by omega)
      have r1 : 0 ≤ vs.getD pv 0 + pn := rg.1
      have r2 : vs.getD pv 0 + pn < vs.getD 1 0 := rg.2
      have hpl : ((PW.setAll (List.replicate (vs.getD 1 0).toNat 0) ((w.cells.take i).map (PW.spot vs))).map V.int).length = (vs.getD 1 0).toNat := by rw [List.length_map, PW.setAll_len, List.length_replicate]
      have ixk : ixN ((PW.setAll (List.replicate (vs.getD 1 0).toNat 0) ((w.cells.take i).map (PW.spot vs))).map V.int).length (vs.getD pv 0 + pn) = some (vs.getD pv 0 + pn).toNat := by
        unfold ixN; rw [if_pos (by omega), if_pos (by rw [hpl]; omega)]
      refine ⟨.ref D, rfl, .int (cv : Int), rfl, D, _, _, _, rfl, rfl, SqL.of hD4, atI_nat gc, .ref p, rfl, .ref D, rfl, .int (pv : Int), rfl, D, _, _, _, rfl, rfl, SqL.of hD4, atI_nat gp, .int pn, rfl, _, _, rfl, rfl, p, _, _, _, rfl, rfl, hp4, ixk, ?_⟩
      refine ⟨_, _, _, rfl, o4.put0 hp0, by rw [upd_ne nDp]; exact hD4, ?_⟩
      rw [upd_same, htk, List.map_append]
      unfold PW.setAll
      rw [List.foldl_append, ← List.map_set]
      rfl
    · rintro σ H4 ⟨y4, y5, y6, rfl, o4, hD4, hp4⟩
      rw [hll, List.take_length] at hp4
      refine ⟨.ref p, rfl, p, _, rfl, .inl ⟨SqL.of hp4, fun t nt => ?_⟩⟩
      refine q _ t ((o1.trans o4).new nt) (.tup (SqT.of upd_same) ?_)
      exact PL.Dp.ofInts _
/-! _law_numbers: slots state=0 packet=1 found=2 variable=3 more=4 cell=5; cells [] -/
abbrev s_l_numbers : Stmt := topS 66
abbrev N_l_numbers : List Str := ["state", "packet", "found", "variable", "more", "cell"]
theorem sc_l_numbers : FnScope N_l_numbers ["state", "packet"] (defScope s_l_numbers) := ⟨rfl, rfl, rfl, by decide +kernel, rfl, by decide +kernel, by decide +kernel⟩
theorem ok_l_numbers {f : Addr} {fd : FuncData} (F : Fun K "_law_numbers" "_law_numbers" s_l_numbers f fd) (T : Bt mg) : FnOk P w K mg base CX0 1 f fd ["state", "packet"] (spLNumbers K) := by
  refine F.ok sc_l_numbers (fun vs H Q E h => ?_) (fun cdv A outer s H vs Q E hr h => ?_)
  · obtain ⟨a, ps, w, cs, wh, kd, v, pk, rfl, _⟩ := h
    rfl
  · obtain ⟨a, ps, w, cs, wh, kd, v, pk, rfl, ⟨kvs, vv, Y⟩, gd, dv, pkl, fit, q⟩ := h
    have hu := hu_of hr
    obtain ⟨b, rfl, sb⟩ := pk_get dv
    obtain ⟨lx, hlx, dlx⟩ := Y.hl.ex
    obtain ⟨hll, hlg⟩ := cells_of (cs := w.cells) dlx
    have hcl := gd.cells
    have core := gd.ok.core
    refine ⟨_, (pss_cons (ps_set (i := 2) sc_l_numbers.nd rfl (.inl rfl) (pe_lst (pa_cons pe_int (pa_cons (pe_callB call_len_seq (by rfl) T.z_len bz_len (pa_cons (pv 1) pa_nil)) pa_nil))))
      (pss_cons (ps_for PassesOwn.never rfl (pi_list (pe_dget hu (pv 0) pe_str (fun _ _ => rfl))) (pg_tup (by rfl) (pgs_cons (pg_tup (by rfl) (pgs_cons (pg_name (i := 3) sc_l_numbers.nd rfl (Or.inl rfl)) (pgs_cons (pg_name (i := 4) sc_l_numbers.nd rfl (Or.inl rfl)) pgs_nil))) (pgs_cons (pg_name (i := 5) sc_l_numbers.nd rfl (Or.inl rfl)) pgs_nil)))
       (pss_one (ps_expr (pe_bm PySem.F.plainAttrs_list PySem.F.slot_list_append PySem.F.type_list_append mt_append (pv 2) (pa_cons (pe_ix ix_tup (pv 1) (pe_op op_add (pe_ix ix_list (pv 2) (pv 3) (fun _ _ => rfl)) (pv 4)) (fun _ _ => rfl)) pa_nil)))))
      (pss_one (ps_ret (pv 2))))), ?_⟩
    refine ⟨.ref b, rfl, b, _, rfl, .inr sb, by show 2 ≤ sizeLine; decide, fun vl nvl => ?_⟩
    have o1 : Old [] H (upd H vl (.lst [.int 0, .int ((pk.map V.int).length : Int)])) := Old.new0 nvl
    have h1 : (upd H vl (.lst [.int 0, .int ((pk.map V.int).length : Int)])) vl = some (.lst ((PW.nums pk []).map V.int)) := by rw [upd_same, List.length_map]; rfl
    generalize upd H vl (.lst [.int 0, .int ((pk.map V.int).length : Int)]) = H1 at o1 h1 ⊢
    have Y1 := Y.keep o1
    refine ⟨.ref a.s, rfl, a.s, _, rfl, Y1.gl, a.l, rfl, ⟨_, SqL.of (o1 _ _ (by simp) hlx)⟩, for_list (K := K) (a := a.l) (xs := lx) (fun i σ H' => ∃ (y3 y4 y5 : Option V), σ = [some (.ref a.s), some (.ref b), some (.ref vl), y3, y4, y5] ∧ Old [] H H' ∧ H' vl = some (.lst ((PW.nums pk (w.cells.take i)).map V.int)))
      ⟨none, none, none, rfl, o1, h1⟩ (fun i σ H' _ ⟨_, _, _, _, o, _⟩ => SqL.of (o _ _ (by simp) hlx)) ?_ ?_⟩
    · rintro i y σ H2 hy ⟨y3, y4, y5, rfl, o2, h2⟩
      have hi : i < w.cells.length := by rw [← hll]; exact (List.getElem?_eq_some_iff.mp hy).1
      have ec : w.cells[i]? = some (w.cells[i].1, w.cells[i].2) := List.getElem?_eq_getElem hi
      obtain ⟨ca, cu, g1, g2, g3⟩ := hlg i _ _ ec
      rw [hy] at g1
      cases g1
      have tk := o2.tk NoTup.nil
      obtain ⟨cu', ecu, scu⟩ := tm_at (PL.Dp.keep tk _ _ rfl g3)
      cases ecu
      have htk : w.cells.take (i + 1) = w.cells.take i ++ [w.cells[i]] := List.take_succ_eq_append_getElem hi
      have hin := core.within _ (List.getElem_mem hi)
      have rg := PW.Fit.range gd.ok fit hin
      have hc := core.cell i _ _ ec
      have evf := PW.vf_take (pk := pk) w.cells (Nat.le_of_lt hi) hc.2
      refine ⟨ca, _, rfl, tk.seq g2, rfl, _, _, rfl, cu, _, rfl, scu, rfl, _, _, rfl, _, _, rfl, rfl, _, _, rfl, rfl, ?_⟩
      have sb2 := tk.seq sb
      have hlen : (PW.nums pk (w.cells.take i)).length = 2 + i := by rw [PW.nums_len, List.length_take]; omega
      generalize w.cells[i] = c at htk hin rg hc evf
      obtain ⟨⟨pv, pn⟩, u⟩ := c
      have hpv : pv < 2 + i := hc.2
      have gnum : ((PW.nums pk (w.cells.take i)).map V.int)[pv]? = some (.int (PW.vf pk w.cells pv)) := by
        have h3 : pv < (PW.nums pk (w.cells.take i)).length := by omega
        rw [List.getElem?_map, List.getElem?_eq_getElem h3]
        have e2 : PW.vf pk w.cells pv = (PW.nums pk (w.cells.take i)).getD pv 0 := evf
        rw [e2, List.getD_eq_getElem?_getD, List.getElem?_eq_getElem h3]; rfl
      have rg1 : 0 ≤ PW.vf pk w.cells pv + pn := rg.1
      have rg2 : PW.vf pk w.cells pv + pn < (pk.length : Int) := rg.2
      have hidx : (PW.vf pk w.cells pv + pn).toNat < pk.length := by omega
      have gpk : atI (pk.map V.int) (PW.vf pk w.cells pv + pn) = some (.int (pk.getD (PW.vf pk w.cells pv + pn).toNat 0)) := by
        have e3 : PW.vf pk w.cells pv + pn = (((PW.vf pk w.cells pv + pn).toNat : Nat) : Int) := by omega
        rw [e3]
        refine atI_nat ?_
        rw [List.getElem?_map, Int.toNat_natCast, List.getElem?_eq_getElem hidx, List.getD_eq_getElem?_getD, List.getElem?_eq_getElem hidx]; rfl
      refine ⟨.ref vl, rfl, .inl ⟨rfl, _, SqL.of h2⟩, .ref b, rfl, .ref vl, rfl, .int (pv : Int), rfl, vl, _, _, _, rfl, rfl, SqL.of h2, atI_nat gnum, .int pn, rfl, _, _, rfl, rfl, b, _, _, _, rfl, rfl, sb2, gpk, ?_⟩
      refine ⟨vl, _, _, rfl, rfl, h2, ?_, _, _, _, rfl, o2.put0 nvl, ?_⟩
      · rw [List.length_map, hlen]; show 2 + i < 2 ^ 24; omega
      · rw [upd_same, htk, PW.nums_snoc, List.map_append]
        have e4 : (PW.nums pk (w.cells.take i)).getD pv 0 = PW.vf pk w.cells pv := evf.symm
        show some (HO.lst (_ ++ [V.int (pk.getD (PW.vf pk w.cells pv + pn).toNat 0)])) = some (HO.lst (_ ++ [V.int (pk.getD ((PW.nums pk (w.cells.take i)).getD pv 0 + pn).toNat 0)]))
        rw [e4]
    · rintro σ H2 ⟨y3, y4, y5, rfl, o2, h2⟩
      rw [hll, List.take_length] at h2
      exact ⟨.ref vl, rfl, q H2 vl o2 nvl h2⟩
end
end L2.T39

namespace L2.PL
open PySem PySem.Spec PyProof.Rows
/-! ### list(zip(xs, ys)) -/
theorem zip_no_len : typeLookup (.type "zip") "__len__" = pure none := by rw [typeLookup_type, builtinLookup_eq_fast]; kernel_rfl
theorem zip_no_hint : typeLookup (.type "zip") "__length_hint__" = pure none := by rw [typeLookup_type, builtinLookup_eq_fast]; kernel_rfl
/-- where a zip stands at its i-th turn, its last tuple kept or not -/
structure ZI (z TI TO i1 i2 a b : Addr) (i : Nat) (h : Heap) : Prop where
  ti : IsPair h TI (.ref i1) (.ref i2)
  h1 : h.IsListIter i1 a i
  h2 : h.IsListIter i2 b i
  to : TO < h.objs.size
  zz : (IsZip h z TI TO .none ∧ ∃ x y, IsPair h TO x y) ∨ ∃ T f oT, IsZipHeld h z TI TO T f ∧ h.get? T = some oT ∧ T ≠ z ∧ T ≠ i1 ∧ T ≠ i2
section
variable {X : Cx} {pins : List (Addr × Obj)} {σ : St} {H1 : Hp} {q z TI TO i1 i2 a b : Addr} {xs ys : List V}
/-- the list at the i-th turn -/
structure ZP (K : PySem.W.Frag) (H1 : Hp) (q a b : Addr) (xs ys : List V) (i : Nat) (acc : List V) (H : Hp) : Prop where
  hq : H q = some (.lst acc)
  len : acc.length = i
  it : ∀ (j : Nat) x y, j < i → xs[j]? = some x → ys[j]? = some y → ∃ t, acc[j]? = some (.ref t) ∧ H t = some (.tup [x, y])
  old : Old [] H1 H
  qa : q ≠ a
  qb : q ≠ b
  xa : SqL K H a xs
  xb : SqL K H b ys
theorem zip_next {A1 : Around} (hh : A1.handled = none) (D : ZipApart z TI TO i1 i2 a b) {i : Nat} {H : Hp} {s : Shared} {E : Value → Shared → Prop} {Q : Option Value → Shared → Prop} (I : Inv X pins σ H s) (hf : ∀ c ∈ [z, TI, TO, i1, i2], FpOk X pins H c) (st : ZI z TI TO i1 i2 a b i s.heap)
    (xa : SqL X.K H a xs) (xb : SqL X.K H b ys)
    (hitem : ∀ x y, xs[i]? = some x → ys[i]? = some y → ∀ s' T, H T = none → Inv X pins σ (upd H T (.tup [x, y])) s' → (∀ c ∈ [z, TI, TO, i1, i2], FpOk X pins (upd H T (.tup [x, y])) c) → ZI z TI TO i1 i2 a b (i + 1) s'.heap → Q (some (.ref T)) s')
    (hdone : (xs.length ≤ i ∨ ys.length ≤ i) → ∀ s', Inv X pins σ H s' → Q none s') : wpAny (model X.prog X.w) A1 (pyNext (.ref z)) Q E s := by
  obtain ⟨its, rv, p, _⟩ := I.list xa
  obtain ⟨its2, rv2, p2, _⟩ := I.list xb
  have l1 := rv.length
  have l2 := rv2.length
  by_cases hx : i < xs.length ∧ i < ys.length
  · obtain ⟨u, hu, ru⟩ := rv.get (List.getElem?_eq_getElem hx.1)
    obtain ⟨u2, hu2, ru2⟩ := rv2.get (List.getElem?_eq_getElem hx.2)
    have n1 : s.heap.objs.size ≠ i1 := let ⟨_, e, _⟩ := st.h1; Nat.ne_of_gt (Heap.lt_size e)
    have n2 : s.heap.objs.size ≠ i2 := let ⟨_, e, _⟩ := st.h2; Nat.ne_of_gt (Heap.lt_size e)
    have hN : H s.heap.objs.size = none := I.hok.fresh (Nat.le_refl _)
    have key : ∀ h', (∀ c o, c ∉ [z, TI, TO, i1, i2] → s.heap.get? c = some o → h'.get? c = some o) → IsPair h' s.heap.objs.size u u2 → ZI z TI TO i1 i2 a b (i + 1) h' → Q (some (.ref s.heap.objs.size)) { s with heap := h' } := by
      intro h' hk hT hz
      have new : ObjOk X.prog X.w (upd H s.heap.objs.size (.tup [xs[i], ys[i]])) h' s.heap.objs.size (.tup [xs[i], ys[i]]) :=
        ⟨by show 2 ≤ sizeLine; decide, [u, u2], .cons ru (.cons ru2 .nil), ⟨_, hT, rfl, _, rfl⟩⟩
      refine hitem _ _ (List.getElem?_eq_getElem hx.1) (List.getElem?_eq_getElem hx.2) _ _ hN (I.turnedNew (t' := s.toks) (ch := [z, TI, TO, i1, i2]) hk hf (Nat.le_refl _) new) (fun c hc => ?_) hz
      have hlt : c ≠ s.heap.objs.size := by
        intro e
        have e' : c = z ∨ c = TI ∨ c = TO ∨ c = i1 ∨ c = i2 := by simpa using hc
        have hzl : z < s.heap.objs.size := by
          rcases st.zz with ⟨hz, _⟩ | ⟨T, f, oT, hz, _⟩ <;> exact Heap.lt_size hz
        rcases e' with w | w | w | w | w
        · exact absurd hzl (by rw [← w, e]; exact Nat.lt_irrefl _)
        · exact absurd (Heap.lt_size st.ti) (by rw [← w, e]; exact Nat.lt_irrefl _)
        · exact absurd st.to (by rw [← w, e]; exact Nat.lt_irrefl _)
        · exact n1 (e.symm.trans w)
        · exact n2 (e.symm.trans w)
      exact ⟨by rw [upd_ne hlt]; exact (hf c hc).1, (hf c hc).2⟩
    rcases st.zz with ⟨hz, x0, y0, hTO⟩ | ⟨T, f, oT, hz, hT, r1, r2, r3⟩
    · refine wpAny_pyNext_zip_item D hz st.ti hTO st.h1 st.h2 p.isList p2.isList (x := u) (y := u2) (by simpa using hu) (by simpa using hu2) fun h' a1 a2 a3 a4 a5 a6 hk => ?_
      refine key h' (fun c o hc e => hk c o (fun w => hc (by simp [w])) (fun w => hc (by simp [w])) (fun w => hc (by simp [w])) (fun w => hc (by simp [w])) e) a5 ⟨hk _ _ D.TIz D.TITO D.TIi1 D.TIi2 st.ti, a3, a4, by rw [a6]; exact Nat.lt_succ_of_lt st.to, .inr ⟨s.heap.objs.size, false, _, a1, a5, Nat.ne_of_gt (Heap.lt_size hz), n1, n2⟩⟩
    · refine wpAny_pyNext_zip_item_held D hz hT st.ti st.h1 st.h2 p.isList p2.isList (x := u) (y := u2) (by simpa using hu) (by simpa using hu2) fun h' a1 a3 a4 a5 a6 hk => ?_
      refine key h' (fun c o hc e => hk c o (fun w => hc (by simp [w])) (fun w => hc (by simp [w])) (fun w => hc (by simp [w])) e) a5 ⟨hk _ _ D.TIz D.TIi1 D.TIi2 st.ti, a3, a4, by rw [a6]; exact Nat.lt_succ_of_lt st.to, .inr ⟨T, true, oT, a1, hk _ _ r1 r2 r3 hT, r1, r2, r3⟩⟩
  · have hend : its.toArray[i]? = none ∨ its2.toArray[i]? = none := by
      by_cases h : i < xs.length
      · exact .inr (by simp; omega)
      · exact .inl (by simp; omega)
    have hd := hdone (by omega)
    rcases st.zz with ⟨hz, x0, y0, hTO⟩ | ⟨T, f, oT, hz, hT, r1, r2, r3⟩
    · exact wpAny_pyNext_zip_end hh D hz st.ti hTO st.h1 st.h2 p.isList p2.isList hend fun h' hk => hd _ (I.turnedL (t' := s.toks) (ch := [z, TI, TO, i1, i2]) (fun c o hc e => hk c o (fun w => hc (by simp [w])) (fun w => hc (by simp [w])) (fun w => hc (by simp [w])) (fun w => hc (by simp [w])) e) hf)
    · exact wpAny_pyNext_zip_end_held hh D hz hT st.ti st.h1 st.h2 p.isList p2.isList hend fun h' hk => hd _ (I.turnedL (t' := s.toks) (ch := [z, TI, TO, i1, i2]) (fun c o hc e => hk c o (fun w => hc (by simp [w])) (fun w => hc (by simp [w])) (fun w => hc (by simp [w])) e) hf)
theorem Old.w' {W : List Addr} {H H' : Hp} (o : Old [] H H') : Old W H H' := o.mono (fun x hx => by cases hx)
theorem ZI.upd {i : Nat} {h : Heap} (st : ZI z TI TO i1 i2 a b i h) {q : Addr} {f : Obj → Obj} (hq : q ∉ [z, TI, TO, i1, i2]) (hf : ∀ o, h.get? q = some o → (f o).isFreed = false) : ZI z TI TO i1 i2 a b i (h.update q f) := by
  have n : ∀ c, c ∈ [z, TI, TO, i1, i2] → q ≠ c := fun c hc e => hq (by rw [e]; exact hc)
  have k : ∀ c o, q ≠ c → h.get? c = some o → (h.update q f).get? c = some o := fun c o hc e => (Heap.get?_update_other _ _ hc).trans e
  refine ⟨k _ _ (n TI (by simp)) st.ti, st.h1.at fun o e => k _ o (n i1 (by simp)) e, st.h2.at fun o e => k _ o (n i2 (by simp)) e, ?_, ?_⟩
  · have := st.to
    rw [Heap.size_after_update]; exact this
  · rcases st.zz with ⟨hz, x, y, hTO⟩ | ⟨T, g, oT, hz, hT, r1, r2, r3⟩
    · exact .inl ⟨k _ _ (n z (by simp)) hz, x, y, k _ _ (n TO (by simp)) hTO⟩
    · by_cases e : q = T
      · subst e
        exact .inr ⟨q, g, f oT, k _ _ (n z (by simp)) hz, Heap.get?_update_self f hT (hf _ hT), r1, r2, r3⟩
      · exact .inr ⟨T, g, oT, k _ _ (n z (by simp)) hz, k _ _ e hT, r1, r2, r3⟩
theorem zip_loop {A1 : Around} {Rs : Result → Shared → Prop} (hh : A1.in1.handled = none) (D : ZipApart z TI TO i1 i2 a b) (hn : min xs.length ys.length ≤ 100000) (hq0 : H1 q = none)
    (hdone : ∀ acc H s, Inv X pins σ H s → ZP X.K H1 q a b xs ys (min xs.length ys.length) acc H → Rs (.ok (.ret .none)) s) :
    ∀ (m i : Nat) (acc : List V) (H : Hp) (s : Shared), min xs.length ys.length - i = m → Inv X pins σ H s → (∀ c ∈ [z, TI, TO, i1, i2], FpOk X pins H c) → ZI z TI TO i1 i2 a b i s.heap → i ≤ min xs.length ys.length → ZP X.K H1 q a b xs ys i acc H →
      codeAny (model X.prog X.w) A1 (.builtin "list.extend.loop" ⟨[.ref q, .ref z, .none], []⟩) Rs s := by
  intro m
  induction m using Nat.strongRecOn with
  | _ m ih =>
    intro i acc H s hm I hf st hi P
    refine codeAny_builtin PySem.F.entry_extend_loop ?_
    rw [Around.under_plainId PySem.F.plain_extend_loop _]
    show wpAny _ A1.in1 (pyNext (.ref z) >>= _) _ _ s
    refine wpAny_bind (zip_next hh D I hf st P.xa P.xb (fun x y hx hy s' T hT I' hf' st' => ?_) fun hend s' I' => ?_)
    · show wpAny _ A1.in1 (updateSeq q (·.push (.ref T)) >>= _) _ _ _
      have nqT : q ≠ T := ne_of_none P.hq hT
      have hq' : (upd H T (.tup [x, y])) q = some (.lst acc) := by rw [upd_ne nqT]; exact P.hq
      obtain ⟨z', its, k, r2, hl, e⟩ := I'.lstM hq'
      have hlt : i < min xs.length ys.length := by
        have h1 := (List.getElem?_eq_some_iff.mp hx).1
        have h2 := (List.getElem?_eq_some_iff.mp hy).1
        omega
      have hacc : acc.length < sizeLine := by
        rw [P.len]
        have : (100000 : Nat) < sizeLine := by decide
        omega
      refine wpAny_bind (wpAny_updateSeq e rfl (wpAny_pure ⟨plainId_quiet PySem.F.plain_extend_loop _, ?_⟩) (by rw [List.size_toArray]; omega) (by show (its.toArray.push (Value.ref T)).size ≤ sizeLine + 1; rw [Array.size_push, List.size_toArray]; omega))
      have qout : q ∉ [z, TI, TO, i1, i2] := fun hm => by rw [(hf' q hm).1] at hq'; cases hq'
      refine ih (min xs.length ys.length - (i + 1)) (by omega) (i + 1) (acc ++ [.ref T]) _ _ rfl (I'.lset (its' := its ++ [Value.ref T]) (t' := s'.toks) hq' e (by simp) (r2.append (.cons (show RelV (V.ref T) (Value.ref T) from rfl) .nil)) (by rw [List.length_append, List.length_singleton]; omega)) (fun c hc => ?_) (st'.upd qout fun o ho => ?_) hlt ?_
      · have := hf' c hc
        exact ⟨by rw [upd_ne (fun w => qout (by rw [← w]; exact hc))]; exact this.1, this.2⟩
      · rw [e] at ho; cases ho; rfl
      · have oT : Old [] H (upd H T (.tup [x, y])) := Old.new0 hT
        refine ⟨upd_same, by rw [List.length_append, P.len]; rfl, fun j x' y' hj hx' hy' => ?_, (P.old.trans oT).put0 hq0, P.qa, P.qb, ?_, ?_⟩
        · by_cases ej : j < i
          · obtain ⟨t, g1, g2⟩ := P.it j x' y' ej hx' hy'
            refine ⟨t, by rw [List.getElem?_append_left (by rw [P.len]; exact ej)]; exact g1, ?_⟩
            rw [upd_ne (fun w => by rw [w, P.hq] at g2; cases g2)]
            exact oT _ _ (by simp) g2
          · have : j = i := by omega
            subst this
            rw [hx] at hx'; rw [hy] at hy'
            cases hx'; cases hy'
            refine ⟨T, by rw [List.getElem?_append_right (by rw [P.len]; exact Nat.le_refl _), P.len, Nat.sub_self]; rfl, ?_⟩
            rw [upd_ne nqT.symm, upd_same]
        · exact Old.seqL (W := [q]) ((Old.w' oT).put (by simp)) P.xa (by simpa using P.qa.symm)
        · exact Old.seqL (W := [q]) ((Old.w' oT).put (by simp)) P.xb (by simpa using P.qb.symm)
    · have : i = min xs.length ys.length := by omega
      subst this
      exact wpAny_pure (hdone acc H s' I' P)
theorem zip_hint {M : Model} {A : Around} {E : Value → Shared → Prop} {Q : Bool → Shared → Prop} {s : Shared} (hT : s.TypeIs (.ref z) "zip") (h : Q true s) : wpAny M A (Builtin.List.listLengthHint (.ref z)) Q E s := by
  unfold Builtin.List.listLengthHint
  refine wpAny_bind (wpAny_specialOf hT zip_no_len ?_)
  show wpAny _ A (specialOf (Value.ref z) (Str.ofString "__length_hint__") >>= _) _ _ _
  refine wpAny_bind (wpAny_specialOf hT zip_no_hint ?_)
  exact wpAny_pure h
theorem zip_extend {A1 : Around} {Rs : Result → Shared → Prop} {H : Hp} {s : Shared} (hh : A1.in1.handled = none) (D : ZipApart z TI TO i1 i2 a b) (hn : min xs.length ys.length ≤ 100000) (hq0 : H1 q = none)
    (hdone : ∀ acc H s, Inv X pins σ H s → ZP X.K H1 q a b xs ys (min xs.length ys.length) acc H → Rs (.ok (.ret .none)) s)
    (I : Inv X pins σ H s) (hf : ∀ c ∈ [z, TI, TO, i1, i2], FpOk X pins H c) (st : ZI z TI TO i1 i2 a b 0 s.heap) (hz0 : IsZip s.heap z TI TO .none) (P : ZP X.K H1 q a b xs ys 0 [] H) :
    wpAny (model X.prog X.w) A1.in1 (Builtin.List.listExtendWith (.ref q) (.ref z) .none)
      (fun fin s' => match fin with | .done f => Rs (.ok f) s' | .again c' => c'.quiet = true ∧ codeAny (model X.prog X.w) A1 c' Rs s') (fun e s' => Rs (.error e) s') s := by
  have hne : q ≠ z := fun w => by have := (hf z (by simp)).1; rw [← w, P.hq] at this; cases this
  have hT : s.TypeIs (.ref z) "zip" := by
    rcases st.zz with ⟨hz, _⟩ | ⟨T, f, oT, hz, _⟩
    · exact ⟨_, hz, rfl⟩
    · exact ⟨_, hz, rfl⟩
  unfold Builtin.List.listExtendWith
  refine wpAny_bind (wpAny_typeOf hT ?_)
  have h1 : Builtin.List.listSameRef (.ref q) (.ref z) = false := by simp [Builtin.List.listSameRef, hne]
  have h2 : (Value.type "zip" == Value.type "list") = false := by decide
  have h3 : (Value.type "zip" == Value.type "tuple") = false := by decide
  simp only [h1, h2, h3, Bool.or_false, Bool.false_eq_true, if_false]
  have iter : ∀ {Q : Value → Shared → Prop} {E : Value → Shared → Prop}, Q (.ref z) s → wpAny (model X.prog X.w) A1.in1 (pyIter (.ref z)) Q E s := fun h => by
    exact wpAny_pyIter_zip hz0 h
  refine wpAny_bind (iter ?_)
  refine wpAny_bind (wpAny_holding (zip_hint hT ?_))
  obtain ⟨z', its, k, r3, hl3, e3⟩ := I.lstM P.hq
  cases r3
  refine wpAny_ite_split (fun _ => ?_) (fun _ => wpAny_pure ⟨plainId_quiet PySem.F.plain_extend_loop _, zip_loop hh D hn hq0 hdone _ 0 [] H s rfl I hf st (Nat.zero_le _) P⟩)
  refine wpAny_bind (wpAny_rule ?_)
  refine wpAny_bind ?_
  show wpAny _ _ (updateSeq q (·.push .none) >>= fun _ => updateSeq q (·.pop)) _ _ _
  refine wpAny_bind (wpAny_updateSeq e3 rfl ?_)
  have I2 := I.lset (f := (·.push Value.none)) (its' := [Value.none]) (ys := [.non]) (t' := s.toks) P.hq e3 (by simp) (.cons rfl .nil) (by rw [List.length_singleton, sizeLine_eq]; decide)
  obtain ⟨z4, its4, k4, r4, hl4, e4⟩ := I2.lstM upd_same
  obtain ⟨u4, rfl, ru4⟩ := r4.one
  refine wpAny_updateSeq e4 rfl ?_ (by show 1 ≤ sizeLine; rw [sizeLine_eq]; decide) (by show 0 ≤ sizeLine + 1; exact Nat.zero_le _)
  have I3 := I2.lset (f := (·.pop)) (its := [u4]) (its' := []) (ys := []) (t' := s.toks) upd_same e4 (by rfl) .nil (Nat.zero_le _)
  rw [upd_upd] at I3
  have hH : upd H q (.lst []) = H := by
    funext c
    by_cases hb : c = q
    · rw [hb, upd_same, P.hq]
    · rw [upd_ne hb]
  rw [hH] at I3
  have qout : q ∉ [z, TI, TO, i1, i2] := fun hm => by have := (hf q hm).1; rw [P.hq] at this; cases this
  exact wpAny_pure ⟨plainId_quiet PySem.F.plain_extend_loop _, zip_loop hh D hn hq0 hdone _ 0 [] H _ rfl I3 hf ((st.upd qout fun o ho => by rw [e3] at ho; cases ho; rfl).upd qout fun o ho => by rw [e4] at ho; cases ho; rfl) (Nat.zero_le _) P⟩
end
/-- zip(e, e2) as a value -/
def PZip (X : Cx) (e : Expr) (ta : TA) : Prop :=
  ∀ (pins : List (Addr × Obj)) (s : Shared) (σ : St) (H : Hp) (Q : Addr → Addr → List V → List V → Hp → Prop), Inv X pins σ H s → (ta σ H fun vs H1 => ∃ a b xs ys, vs = [.ref a, .ref b] ∧ SqL X.K H1 a xs ∧ SqL X.K H1 b ys ∧ Q a b xs ys H1) →
    wpAny (model X.prog X.w) X.A (eval e X.env) (fun v s1 => ∃ z TI TO i1 i2 a b xs ys H1, v = .ref z ∧ ZipApart z TI TO i1 i2 a b ∧ ZI z TI TO i1 i2 a b 0 s1.heap ∧ IsZip s1.heap z TI TO .none ∧ Inv X pins σ H1 s1 ∧ (∀ c ∈ [z, TI, TO, i1, i2], FpOk X pins H1 c ∧ c < s1.heap.objs.size) ∧ SqL X.K H1 a xs ∧ SqL X.K H1 b ys ∧ Q a b xs ys H1) X.xe s
theorem pzip {X : Cx} {e e2 : Expr} {ta : TA} {p pos : Pos} (hg : Gl X "zip") (hm : X.mg "zip" = none) (ha : PA X [e, e2] ta)
    (hs : starEach [e, e2] X.env = (false, eval e X.env) :: starEach [e2] X.env := by rfl) (hpl : (backTo pos (starEach [e2] X.env)).any (·.1) = false := by rfl) : PZip X (.Call (.Name "zip" p) [e, e2] [] pos) ta := by
  intro pins s σ H Q I h
  refine Call_ (ld_blt I hg hm PyProof.Rows.boot_zip (PyProof.Rows.callWith_type1 (thn (ha.run pos pins s σ H _ I h) fun us s1 ⟨vs, H1, I1, r1, q1⟩ => ?_) hs hpl))
  obtain ⟨a, b, xs, ys, ex, hqx, hqy, q⟩ := q1
  subst ex
  cases r1 with
  | cons r rr =>
    cases rr with
    | cons r' rr =>
      cases rr
      cases r
      cases r'
      obtain ⟨its, rv, p1, _⟩ := I1.list hqx
      obtain ⟨its2, rv2, p2, _⟩ := I1.list hqy
      have la : a < s1.heap.objs.size := p1.lt
      have lb : b < s1.heap.objs.size := p2.lt
      refine call_zip_2 p1.isList p2.isList fun h' hz hTI hTO h1 h2 hsz hk => ?_
      have I2 : Inv X pins σ H1 { s1 with heap := h' } := I1.kept (t' := s1.toks) hk
      refine ⟨s1.heap.objs.size + 4, s1.heap.objs.size + 2, s1.heap.objs.size + 3, s1.heap.objs.size, s1.heap.objs.size + 1, a, b, xs, ys, H1, rfl, PySem.W.ktu_apart s1.heap.objs.size a b la lb, ⟨hTI, h1, h2, by show s1.heap.objs.size + 3 < h'.objs.size; rw [hsz]; exact Nat.add_lt_add_left (by decide) _, .inl ⟨hz, _, _, hTO⟩⟩, hz, I2, fun c hcm => ?_, hqx, hqy, q⟩
      have e' : c = s1.heap.objs.size + 4 ∨ c = s1.heap.objs.size + 2 ∨ c = s1.heap.objs.size + 3 ∨ c = s1.heap.objs.size ∨ c = s1.heap.objs.size + 1 := by simpa using hcm
      have hle : s1.heap.objs.size ≤ c ∧ c < s1.heap.objs.size + 5 := by
        have : ∀ n c : Nat, (c = n + 4 ∨ c = n + 2 ∨ c = n + 3 ∨ c = n ∨ c = n + 1) → n ≤ c ∧ c < n + 5 := fun n c h => by omega
        exact this _ _ e'
      refine ⟨I1.fpOk hle.1 (I1.hok.fresh hle.1), ?_⟩
      show c < h'.objs.size
      rw [hsz]; exact hle.2
def tLstZip (K : PySem.W.Frag) (ta : TA) : TE := fun σ H Q => ta σ H fun vs H1 => ∃ a b xs ys, vs = [.ref a, .ref b] ∧ SqL K H1 a xs ∧ SqL K H1 b ys ∧ min xs.length ys.length ≤ 100000 ∧
  ∀ H' l acc, Old [] H1 H' → H1 l = none → H' l = some (.lst acc) → acc.length = min xs.length ys.length → (∀ (j : Nat) x y, j < min xs.length ys.length → xs[j]? = some x → ys[j]? = some y → ∃ t, acc[j]? = some (.ref t) ∧ H' t = some (.tup [x, y])) → Q (.ref l) H'
theorem pe_listZip {X : Cx} {e : Expr} {ta : TA} {p pos : Pos} (hc : X.calm = true) (hg : Gl X "list") (hm : X.mg "list" = none) (he : PZip X e ta) (na : starEach [e] X.env = (false, eval e X.env) :: starEach [] X.env := by rfl) : PE X (.Call (.Name "list" p) [e] [] pos) (tLstZip X.K ta) := by
  refine ⟨fun pins s σ H Q I h => ?_⟩
  have h' : ta σ H fun vs H1 => ∃ a b xs ys, vs = [.ref a, .ref b] ∧ SqL X.K H1 a xs ∧ SqL X.K H1 b ys ∧ (fun a b xs ys H1 => min xs.length ys.length ≤ 100000 ∧
      ∀ H' l acc, Old [] H1 H' → H1 l = none → H' l = some (.lst acc) → acc.length = min xs.length ys.length → (∀ (j : Nat) x y, j < min xs.length ys.length → xs[j]? = some x → ys[j]? = some y → ∃ t, acc[j]? = some (.ref t) ∧ H' t = some (.tup [x, y])) → Q (.ref l) H') a b xs ys H1 := h
  refine Call_ (ld_blt I hg hm boot_list (PyProof.Rows.callWith_type1 (args_cons (thn (he pins s σ H _ I h') fun x s1 ⟨z, TI, TO, i1, i2, a, b, xs, ys, H1, ex, D, st, hz, I1, hf, xa, xb, hn, q⟩ => args_nil ?_) na) na))
  subst ex
  refine callType_codes (Q₁ := fun obj s₁ => obj = .ref s1.heap.objs.size ∧ s₁ = { s1 with heap := s1.heap.push { cls := .type "list", data := .seq #[] } }) PySem.F.called_list (PySem.F.typeCall_list_1 _) PySem.F.entry_list_init
    (code_list_new _ ⟨rfl, rfl⟩) fun obj s₁ h₁ => ?_
  obtain ⟨rfl, rfl⟩ := h₁
  have hS : (s1.heap.push { cls := .type "list", data := .seq #[] }).get? s1.heap.objs.size = some { cls := .type "list", data := .seq #[] } := Heap.get?_push_size _ rfl
  refine ⟨⟨_, hS, rfl⟩, PySem.F.args_list_init_2 _ _, ?_⟩
  have fr : H1 s1.heap.objs.size = none := I1.hok.fresh (Nat.le_refl _)
  have I2 : Inv X pins σ (upd H1 s1.heap.objs.size (.lst [])) { s1 with heap := s1.heap.push { cls := .type "list", data := .seq #[] } } := I1.lnew (its := []) (t' := s1.toks) .nil (Nat.zero_le _)
  show wpAny _ _ (do let old ← Builtin.List.listItems (.ref s1.heap.objs.size); Builtin.List.listUpdate (.ref s1.heap.objs.size) (fun _ => #[]); letGo old.toList.reverse; Builtin.List.listExtendWith (.ref s1.heap.objs.size) (.ref z) .none) _ _ _
  refine wpAny_bind ?_
  unfold Builtin.List.listItems
  refine wpAny_bind (wpAny_seqItems hS rfl (wpAny_pure ?_))
  show wpAny _ _ (updateSeq s1.heap.objs.size (fun _ => #[]) >>= fun _ => letGo (#[] : Array Value).toList.reverse >>= fun _ => Builtin.List.listExtendWith (.ref s1.heap.objs.size) (.ref z) .none) _ _ _
  refine wpAny_bind (wpAny_updateSeq hS rfl ?_)
  have I3 := I2.lset (f := fun _ => #[]) (its := []) (its' := []) (ys := []) (t' := s1.toks) upd_same hS rfl .nil (Nat.zero_le _)
  rw [upd_upd] at I3
  refine wpAny_bind (wpAny_letGo ?_)
  have qout : s1.heap.objs.size ∉ [z, TI, TO, i1, i2] := fun hm => absurd (hf _ hm).2 (Nat.lt_irrefl _)
  have k : ∀ c o, s1.heap.get? c = some o → (s1.heap.push { cls := .type "list", data := .seq #[] }).get? c = some o := fun c o e => Heap.get?_push_of_some _ e
  have st2 : ZI z TI TO i1 i2 a b 0 (s1.heap.push { cls := .type "list", data := .seq #[] }) := by
    refine ⟨k _ _ st.ti, st.h1.at fun o e => k _ o e, st.h2.at fun o e => k _ o e, ?_, ?_⟩
    · rw [Heap.size_push]; exact Nat.lt_succ_of_lt st.to
    · rcases st.zz with ⟨hz, x, y, hTO⟩ | ⟨T, g, oT, hz, hT, r1, r2, r3⟩
      · exact .inl ⟨k _ _ hz, x, y, k _ _ hTO⟩
      · exact .inr ⟨T, g, oT, k _ _ hz, k _ _ hT, r1, r2, r3⟩
  have o1 : Old [] H1 (upd H1 s1.heap.objs.size (.lst [])) := Old.new0 fr
  have nla : s1.heap.objs.size ≠ a := fun w => by
    obtain ⟨its, rv, p1, _⟩ := I1.list xa
    exact absurd p1.lt (by rw [← w]; exact Nat.lt_irrefl _)
  have nlb : s1.heap.objs.size ≠ b := fun w => by
    obtain ⟨its, rv, p1, _⟩ := I1.list xb
    exact absurd p1.lt (by rw [← w]; exact Nat.lt_irrefl _)
  refine zip_extend (A1 := X.A.in1) (Rs := wants (fun r s₂ => r = .none ∧ EP X pins σ Q (.ref s1.heap.objs.size) s₂) X.xe) (I1.ok.hd hc) D hn fr
    (fun acc H' s' I' P => ⟨rfl, .ref s1.heap.objs.size, H', I', rfl, q H' _ acc P.old fr P.hq P.len P.it⟩) I3 (fun c hc => ⟨by rw [upd_ne (fun w => qout (by rw [← w]; exact hc))]; exact (hf c hc).1.1, (hf c hc).1.2⟩)
    (st2.upd qout fun o ho => by rw [hS] at ho; cases ho; rfl) ((Heap.get?_update_other _ _ (fun w => qout (by rw [w]; simp))).trans (k _ _ hz)) ⟨upd_same, rfl, fun j x y hj => absurd hj (Nat.not_lt_zero _), o1, nla, nlb, Old.seqL o1 xa (by simp), Old.seqL o1 xb (by simp)⟩
end L2.PL

namespace L2.T39
open PySem PySem.Spec PyProof.Rows L2.PL
/-- data that may be shown -/
structure ShowD (L k : Nat) (d : PyData) : Prop where
  sh : d.showable = true
  nd : d.hasDict = false
  dp : d.depth ≤ k
  ln : d.shown.length ≤ L
theorem ShowD.int {i : Int} (h : -10000000 ≤ i) (h2 : i ≤ 10000000) : ShowD 1921 0 (.int i) := by
  have hl : i.natAbs.log2 < 1920 := by
    by_cases e : i.natAbs = 0
    · rw [e]; decide
    · have : i.natAbs.log2 < 24 := (Nat.log2_lt e).mpr (by omega)
      omega
  exact ⟨decide_eq_true hl, rfl, Nat.le_refl _, int_text_len_1921 hl⟩
theorem ShowD.tup {L k : Nat} {ds : List PyData} (h : ∀ d ∈ ds, ShowD L k d) : ShowD (ds.length * (L + 2) + 3) (k + 1) (.tuple ds) := by
  have all : PyData.showableAll ds = true ∧ PyData.hasDictAll ds = false ∧ PyData.depthAll ds ≤ k ∧ ((PyData.shownAll ds).map (·.length)).sum ≤ ds.length * L ∧ (PyData.shownAll ds).length = ds.length := by
    induction ds with
    | nil => exact ⟨rfl, rfl, Nat.zero_le _, Nat.zero_le _, rfl⟩
    | cons d ds ih =>
      obtain ⟨a1, a2, a3, a4, a5⟩ := ih fun e he => h e (.tail _ he)
      have hd := h d (.head _)
      refine ⟨?_, ?_, ?_, ?_, ?_⟩
      · show (d.showable && PyData.showableAll ds) = true
        rw [hd.sh, a1]; rfl
      · show (d.hasDict || PyData.hasDictAll ds) = false
        rw [hd.nd, a2]; rfl
      · show max d.depth (PyData.depthAll ds) ≤ k
        exact Nat.max_le.mpr ⟨hd.dp, a3⟩
      · show d.shown.length + ((PyData.shownAll ds).map (·.length)).sum ≤ (ds.length + 1) * L
        have := hd.ln
        rw [Nat.succ_mul]
        omega
      · show (PyData.shownAll ds).length + 1 = ds.length + 1
        rw [a5]
  obtain ⟨a1, a2, a3, a4, a5⟩ := all
  refine ⟨a1, a2, Nat.succ_le_succ a3, ?_⟩
  have := tupleText_len_le (PyData.shownAll ds)
  show (tupleText (PyData.shownAll ds)).length ≤ _
  rw [a5] at this
  rw [Nat.mul_add]
  omega
theorem setAll_mem {x : Int} : ∀ (ps : List (Nat × Int)) (l : List Int), x ∈ PW.setAll l ps → x ∈ l ∨ ∃ p ∈ ps, x = p.2
  | [], l, h => .inl h
  | p :: ps, l, h => by
    rcases setAll_mem ps (l.set p.1 p.2) h with h | ⟨q, hq, e⟩
    · rcases List.mem_or_eq_of_mem_set h with h | h
      · exact .inl h
      · exact .inr ⟨p, List.mem_cons_self, h⟩
    · exact .inr ⟨q, List.mem_cons_of_mem _ hq, e⟩
theorem least_small {B : List PW.Bd} {cs : List (PW.Tm × Nat)} {n : Nat} {m : PW.Mt} {M : PD.Mx} (h : PW.Core B cs n m) (c : PD.Cl n B M) : (PW.leastF (PW.lows n M) cs).length ≤ 24 ∧ ∀ x ∈ PW.leastF (PW.lows n M) cs, 0 ≤ x ∧ x ≤ 255 := by
  have l1 := PW.lows_1 h c
  have ll := PW.least_len h c
  refine ⟨by omega, fun x hx => ?_⟩
  rcases setAll_mem _ _ hx with hx | ⟨p, hp, e⟩
  · rw [(List.mem_replicate.mp hx).2]; omega
  · obtain ⟨⟨q, u⟩, hq, rfl⟩ := List.mem_map.mp hp
    obtain ⟨j, hj, ej⟩ := List.mem_iff_getElem.mp hq
    have hc := h.cell j q u (by rw [List.getElem?_eq_getElem hj, ej])
    have hm := h.many
    rw [e]
    exact PW.lows_c h c (v := u) (by omega) (by omega)
theorem show_least {pk : List Int} (h1 : pk.length ≤ 24) (h2 : ∀ x ∈ pk, 0 ≤ x ∧ x ≤ 255) : ShowD 60000 1 (pkD pk) := by
  have := ShowD.tup (L := 1921) (k := 0) (ds := pk.map PyData.int) fun d hd => by
    obtain ⟨x, hx, rfl⟩ := List.mem_map.mp hd
    have := h2 x hx
    exact ShowD.int (by omega) (by omega)
  refine ⟨this.sh, this.nd, this.dp, Nat.le_trans this.ln ?_⟩
  rw [List.length_map]
  have : pk.length * (1921 + 2) ≤ 24 * (1921 + 2) := Nat.mul_le_mul_right _ h1
  omega
theorem show_none : ShowD 1921 0 .none := ⟨rfl, rfl, Nat.le_refl _, by decide +kernel⟩
/-! ### choices that lead on -/
theorem go_ex {ps : List (List PR.Ins)} (hps : ∀ is ∈ ps, PW.LOk is) : ∀ (m : Nat) (w : PW.Wk), PW.mu ps w = m → PW.Wok ps w → ∃ w', (∀ cs, PW.Reach ps w cs w' cs) ∧ (w'.options.isSome = true ∨ w'.ends.length = ps.length) := by
  intro m
  induction m using Nat.strongRecOn with
  | _ m ih =>
    intro w hm ok
    cases ho : w.options with
    | some os => exact ⟨w, fun cs => .refl _ _, .inl (by rw [ho]; rfl)⟩
    | none =>
      by_cases he : w.ends.length = ps.length
      · exact ⟨w, fun cs => .refl _ _, .inr he⟩
      · obtain ⟨w1, h1⟩ : ∃ w1, ∀ cs, PW.cstep ps w cs = some (w1, cs) := by
          cases hp : w.pending with
          | none => exact ⟨_, fun cs => PW.cstep_step ho he hp⟩
          | some pn =>
            obtain ⟨p, n⟩ := pn
            exact ⟨_, fun cs => PW.cstep_look ho he hp⟩
        have s := ok.cstep hps (h1 [])
        obtain ⟨w', r, e⟩ := ih (PW.mu ps w1) (by omega) w1 rfl s.1
        exact ⟨w', fun cs => .head (h1 cs) (r cs), e⟩
theorem halt_of {ps : List (List PR.Ins)} {w : PW.Wk} (h : w.options.isSome = true ∨ w.ends.length = ps.length) : PW.cstep ps w [] = none := by
  cases ho : w.options with
  | none =>
    refine PW.halt_end ho ?_
    rcases h with z | z
    · rw [ho] at z; cases z
    · exact z
  | some os => exact PW.halt_split ho
theorem right_nil {ps : List (List PR.Ins)} (hps : ∀ is ∈ ps, PW.LOk is) : ∃ w, Right ps [] w := by
  obtain ⟨w, r, e⟩ := go_ex hps _ PW.start rfl PW.Wok.start
  exact ⟨w, r [], halt_of e⟩
theorem right_more {ps : List (List PR.Ins)} (hps : ∀ is ∈ ps, PW.LOk is) {cs : List Nat} {w : PW.Wk} (h : Right ps cs w) {os : List (List PW.Bd)} (o : w.options = some os) {d : Nat} (hd : d < os.length) : ∃ w', Right ps (cs ++ [d]) w' := by
  have ok := PW.Wok.start.reach hps h.1
  have r1 : PW.Reach ps PW.start (cs ++ [d]) w ([] ++ [d]) := h.1.more [d]
  have st : PW.Reach ps w [d] (PW.Wk.takeF ps w os d) [] := .one (PW.cstep_take o hd)
  obtain ⟨w', r, e⟩ := go_ex hps _ _ rfl (ok.reach hps st)
  exact ⟨w', (r1.trans st).trans (r []), halt_of e⟩
theorem opts_few {ps : List (List PR.Ins)} {w : PW.Wk} (h : PW.Wok ps w) {os : List (List PW.Bd)} (o : w.options = some os) : 1 ≤ os.length ∧ os.length ≤ 3 := by
  have O := h.opts os o
  unfold PW.Opts at O
  split at O
  · obtain ⟨_, _, _, _, rfl⟩ := O; exact ⟨by show 1 ≤ 3; decide, Nat.le_refl 3⟩
  · obtain ⟨i, _, _, ⟨_, rfl⟩ | ⟨_, rfl⟩⟩ := O
    · unfold PW.testOpts
      simp only
      split
      · exact ⟨by show 1 ≤ 3; decide, Nat.le_refl 3⟩
      · exact ⟨by show 1 ≤ 2; decide, by show 2 ≤ 3; decide⟩
    · exact ⟨by show 1 ≤ 3; decide, Nat.le_refl 3⟩
def spDrawn (K : PySem.W.Frag) : Sp := fun vs H Q _ => ∃ (a l : Addr) (B : Nat) (is : List PR.Ins), vs = [.ref a, .ref l] ∧ Pot H a B ∧ B ≤ 900000 ∧ LinesAt K H l is ∧ Lns is ∧ l ≠ a ∧
  ∀ H' t cs w, Old [a] H H' → Pot H' a (B + 20) → Dp K H' (.ref t) (chD cs) → Right [is] cs w → Q (.ref t) H'
section
variable {P : Program} {w : World} {K : PySem.W.Frag} {mg : Str → Option Value} {base : Heap}
/-! _law_drawn_choices: slots pot=0 lines=1 choices=2 lap=3 state=4; cells [] -/
abbrev s_l_drawn_choices : Stmt := topS 67
abbrev N_l_drawn_choices : List Str := ["pot", "lines", "choices", "lap", "state"]
theorem sc_l_drawn_choices : FnScope N_l_drawn_choices ["pot", "lines"] (defScope s_l_drawn_choices) := ⟨rfl, rfl, rfl, by decide +kernel, rfl, by decide +kernel, by decide +kernel⟩
theorem ok_drawn {f : Addr} {fd : FuncData} (F : Fun K "_law_drawn_choices" "_law_drawn_choices" s_l_drawn_choices f fd) (T : Bt mg) (C_l_take : Cal P w K mg base CX0 "_law_take" ["pot", "upto"] 1 spTake) (C_l_walked : Cal P w K mg base CX0 "_law_walked" ["programs", "choices"] 5 (spWalked K)) :
    FnOk P w K mg base CX0 6 f fd ["pot", "lines"] (spDrawn K) := by
  refine F.ok sc_l_drawn_choices (fun vs H Q E h => ?_) (fun cdv A outer s H vs Q E hr h => ?_)
  · obtain ⟨a, l, B, is, rfl, _⟩ := h
    rfl
  · obtain ⟨a, l, B, is, rfl, hP, hB, hln, L, nla, q⟩ := h
    have hu := hu_of hr
    have lps : ∀ is' ∈ [is], PW.LOk is' := fun is' h => by rw [List.mem_singleton.mp h]; exact lok_of L
    obtain ⟨lrs, hl1, hl2⟩ := hln.ex
    obtain ⟨w0, r0⟩ := right_nil lps
    refine ⟨_, (pss_cons (ps_set (i := 2) sc_l_drawn_choices.nd rfl (.inl rfl) (pe_tup pa_nil))
      (pss_cons (ps_for PassesOwn.never rfl (pi_range1 (by rfl) T.z_range (pa_cons (pe_cal C_l_take hr (by rfl) pass0 (pa_cons (pv 0) (pa_cons pe_int pa_nil))) pa_nil)) (pg_name (i := 3) sc_l_drawn_choices.nd rfl (Or.inl rfl))
       (pss_cons (ps_set (i := 4) sc_l_drawn_choices.nd rfl (.inl rfl) (pe_cal C_l_walked hr (by rfl) pass0 (pa_cons (pe_lst (pa_cons (pv 1) pa_nil)) (pa_cons (pv 2) pa_nil))))
        (pss_cons (ps_if (pt_cmpR (op_eqD hr.units) (pe_dget hu (pv 4) pe_str (fun _ _ => rfl)) pe_str (nomark _))
         (pss_one (ps_ret (pv 2)))
         pss_nil)
        (pss_one (ps_set (i := 2) sc_l_drawn_choices.nd rfl (.inl rfl) (pe_op op_catA (pv 2) (pe_tup (pa_cons (pe_callTy call_int1 (by rfl) T.z_int bz_int (pa_cons (pe_cal C_l_take hr (by rfl) pass0 (pa_cons (pv 0) (pa_cons (pe_ix ix_tup (pe_dget hu (pv 4) pe_str (fun _ _ => rfl)) pe_int (fun _ _ => rfl)) pa_nil))) pa_nil)) pa_nil))))))))
      (pss_one (ps_ret (pv 2))))), ?_⟩
    refine ⟨Nat.zero_le _, fun ch0 nch => ?_⟩
    have o0 : Old [] H (upd H ch0 (.tup [])) := Old.new0 nch
    have d0 : Dp K (upd H ch0 (.tup [])) (.ref ch0) (chD []) := .tup (SqT.of upd_same) .nil
    have p0 := hP.old o0 (by simp)
    generalize upd H ch0 (.tup []) = H0 at o0 d0 p0 ⊢
    refine ⟨.ref a, rfl, a, 9, B, rfl, p0, by decide, by decide, by omega, fun H1 d e0 e1 o1 p1 => ⟨d, rfl, by omega, by omega, for_range (lo := 0) (n := d.toNat) (fun i σ H' => ∃ (y3 y4 : Option V) (ch : Addr) (cs : List Nat) (w : PW.Wk), σ = [some (.ref a), some (.ref l), some (.ref ch), y3, y4] ∧ Old [a] H H' ∧ Pot H' a (B + 1 + i) ∧ Dp K H' (.ref ch) (chD cs) ∧ Right [is] cs w ∧ cs.length ≤ i)
      ⟨none, none, ch0, [], w0, rfl, (Old.w o0).trans o1, p1, PL.Dp.keep (o1.tk p0.notup) _ _ (chD_only []) d0, r0, Nat.le_refl _⟩ ?_ ?_⟩⟩
    · rintro i σ H2 hi ⟨y3, y4, ch, cs, w, rfl, o2, p2, dch, rt, hcl⟩
      have hi9 : i < 9 := by omega
      have hln2 : LinesAt K H2 l is := ⟨lrs, o2 _ _ (by simpa using nla) hl1, PL.Dp.keepAll (o2.tk hP.notup) _ _ (linesA_only is) hl2⟩
      refine ⟨.ref l, rfl, by show 1 ≤ sizeLine; decide, fun pl npl => ?_⟩
      have o3 : Old [] H2 (upd H2 pl (.lst [.ref l])) := Old.new0 npl
      have hpl : (upd H2 pl (.lst [.ref l])) pl = some (.lst [.ref l]) := upd_same
      generalize upd H2 pl (.lst [.ref l]) = H3 at o3 hpl ⊢
      have hln3 : LinesAt K H3 l is := by
        obtain ⟨r, h1, h2⟩ := hln2.ex
        exact ⟨r, o3 _ _ (by simp) h1, PL.Dp.keepAll (o3.tk NoTup.nil) _ _ (linesA_only is) h2⟩
      have dch3 := PL.Dp.keep (o3.tk NoTup.nil) _ _ (chD_only cs) dch
      refine ⟨.ref ch, rfl, pl, l, .ref ch, is, cs, w, rfl, hpl, hln3, L, dch3, rt, fun H4 sa wh kd o4 hall LS whs => ?_⟩
      obtain ⟨kvs, v, X⟩ := LS
      have p4 := (p2.old o3 (by simp)).old o4 (by simp)
      have dch4 := PL.Dp.keep (o4.tk NoTup.nil) _ _ (chD_only cs) dch3
      have o24 := o2.trans (Old.w (o3.trans o4))
      refine ⟨.ref sa.s, rfl, sa.s, _, rfl, X.gw, whD wh, .str "none", X.dw, .str _, wh_shaped _, none_shaped, ?_⟩
      rw [wh_no]
      cases wh with
      | no =>
        refine ⟨true, rfl, iteT ⟨.ref ch, rfl, ?_⟩⟩
        exact q H4 ch cs w o24 (p4.mono (by omega)) dch4 rt
      | split n =>
        refine ⟨false, rfl, iteF ?_⟩
        obtain ⟨os, ho, hn⟩ : ∃ os, w.options = some os ∧ n = os.length := by
          unfold whIs at whs
          cases ho : w.options with
          | none => rw [ho] at whs; cases whs
          | some os => rw [ho] at whs; cases whs; exact ⟨os, rfl, rfl⟩
        have few := opts_few (PW.Wok.start.reach lps rt.1) ho
        obtain ⟨t, xs, ev, st, sa2⟩ := dp_tup (X.dw : Dp K H4 v (.tuple [.str "split", .int (n : Int)]))
        subst ev
        have ex : xs = [.str "split", .int (n : Int)] := by
          cases sa2 with
          | cons p q => cases q with
            | cons r s => cases s; cases p; cases r; rfl
        subst ex
        refine ⟨.ref ch, rfl, .ref a, rfl, .ref sa.s, rfl, sa.s, _, rfl, X.gw, t, _, 1, .int (n : Int), rfl, rfl, st, rfl, a, (n : Int), B + 1 + i, rfl, p4, by omega, by omega, by omega, fun H5 d5 e5 e6 o5 p5 => ?_⟩
        obtain ⟨dn, rfl⟩ : ∃ dn : Nat, d5 = (dn : Int) := ⟨d5.toNat, by omega⟩
        refine .inl ⟨(dn : Int), rfl, by show 1 ≤ sizeLine; decide, fun u nu => ?_⟩
        have o6 : Old [] H5 (upd H5 u (.tup [.int (dn : Int)])) := Old.new0 nu
        have d6 : Dp K (upd H5 u (.tup [.int (dn : Int)])) (.ref u) (chD [dn]) := dp1 upd_same (.int _)
        have p6 := p5.old o6 (by simp)
        generalize upd H5 u (.tup [.int (dn : Int)]) = H6 at o6 d6 p6 ⊢
        have dch6 := PL.Dp.keep ((o5.tk p4.notup).trans (o6.tk NoTup.nil)) _ _ (chD_only cs) dch4
        refine cat_dp dch6 d6 (chD_only cs) (chD_only [dn]) (by rw [List.length_map]; show _ + 1 ≤ 2 ^ 24; omega) fun H7 v7 o7 d7 => ?_
        rw [← List.map_append] at d7
        obtain ⟨ch', _, rfl, _, _⟩ := dp_tup d7
        obtain ⟨w', r'⟩ := right_more lps rt ho (d := dn) (by omega)
        exact ⟨_, _, ch', cs ++ [dn], w', rfl, (o24.trans o5).trans (Old.w (o6.trans o7)), (p6.old o7 (by simp)).mono (by omega), d7, r', by rw [List.length_append]; exact Nat.succ_le_succ hcl⟩
    · rintro σ H2 ⟨y3, y4, ch, cs, w, rfl, o2, p2, dch, rt, _⟩
      exact ⟨.ref ch, rfl, q H2 ch cs w o2 (p2.mono (by omega)) dch rt⟩
end
end L2.T39

namespace L2.PL
open PySem PySem.Spec PyProof.Rows
section
variable {X : Cx}
/-! ### repr of data or of None -/
theorem call_repr_none : CallR X (.builtin "repr") (fun xs H Q => xs = [.non] ∧ Q (.str "None") H) := by
  intro pins s σ H xs us Q I r h
  obtain ⟨rfl, q⟩ := h
  cases r with
  | cons r1 r2 =>
    cases r2
    cases r1
    exact PySem.P.repr_of_none ⟨.str _, H, I.tok _, ⟨_, rfl⟩, q⟩
theorem call_reprN (hG : X.A.guards = some []) (hu : X.A.units + 64 < cLine) : CallR X (.builtin "repr") (fun xs H Q => rRepr X.K xs H Q ∨ (xs = [.non] ∧ Q (.str "None") H)) := CallR.or (call_reprD hG hu) call_repr_none
end
end L2.PL

namespace L2.T39
open PySem PySem.Spec PyProof.Rows L2.PL
def spRight : Sp := fun vs H Q _ => ∃ (a : Addr), vs = [.ref a] ∧ Pot H a 0 ∧ ∀ H', Old [a] H H' → Q (.bl true) H'
def spLaw (K : PySem.W.Frag) : Sp := fun vs H Q _ => ∃ (a : Addr) (ns : List Int), vs = [.ref a] ∧ SqL K H a (ns.map V.int) ∧ ns.length ≤ 63 ∧ ∀ H', Q (.bl true) H'
theorem slt_old {H H' : Hp} {p C dx a : Addr} {vs : List (Option V)} (h : SlX.Slt H p C dx vs) (o : Old [a] H H') (h1 : p ≠ a) (h2 : dx ≠ a) : SlX.Slt H' p C dx vs := by
  rcases h with ⟨e, z⟩ | ⟨e1, e2⟩
  · exact .inl ⟨o _ _ (by simp; exact h1) e, z⟩
  · exact .inr ⟨o _ _ (by simp; exact h1) e1, o _ _ (by simp; exact h2) e2⟩
theorem lows_alike {B : List PW.Bd} {cs : List (PW.Tm × Nat)} {n : Nat} {m : PW.Mt} {M M' : PD.Mx} (h : PW.Core B cs n m) (c : PD.Cl n B M) (c' : PD.Cl n B M') : PW.lows n M' = PW.lows n M := by
  unfold PW.lows
  apply List.map_congr_left
  intro v hv
  rw [c'.alike c h.var 0 v (by have := h.two; omega) (List.mem_range.mp hv)]
theorem nums_at (pk : List Int) (cs : List (PW.Tm × Nat)) {i : Nat} (h : i < 2 + cs.length) : ((PW.nums pk cs).map V.int)[i]? = some (V.int (PW.vf pk cs i)) := by
  have hl : i < (PW.nums pk cs).length := by rw [PW.nums_len]; exact h
  unfold PW.vf
  rw [List.getElem?_map, List.getElem?_eq_getElem hl, List.getD_eq_getElem?_getD, List.getElem?_eq_getElem hl]
  rfl
theorem least_vals {B : List PW.Bd} {cs : List (PW.Tm × Nat)} {n : Nat} {m : PW.Mt} {M : PD.Mx} (h : PW.Core B cs n m) (c : PD.Cl n B M) : PD.Vals B (PW.vf (PW.leastF (PW.lows n M) cs) cs) := fun b hb => by
  have v := h.var b hb
  rw [PW.least_vf h c _ v.1, PW.least_vf h c _ v.2]
  exact PW.lows_vals h c b hb
section
variable {P : Program} {w : World} {K : PySem.W.Frag} {mg : Str → Option Value} {base : Heap}
/-! _law_right: slots pot=0 lap=1 lines=2 program=3 turn=4 choices=5 packet=6 state=7 least=8 pairs=9 one=10 other=11; cells [] -/
abbrev s_l_right : Stmt := topS 68
abbrev N_l_right : List Str := ["pot", "lap", "lines", "program", "turn", "choices", "packet", "state", "least", "pairs", "one", "other"]
theorem sc_l_right : FnScope N_l_right ["pot"] (defScope s_l_right) := ⟨rfl, rfl, rfl, by decide +kernel, rfl, by decide +kernel, by decide +kernel⟩
theorem ok_right {f C : Addr} {fd : FuncData} (F : Fun K "_law_right" "_law_right" s_l_right f fd) (T : Bt mg) (M_Program : MkC P w K mg base CX0 "Program" C ["self", "text"] 6 (spPrInit K C)) (C_along : Cal P w K mg base CX0 "along" ["program", "packet"] 5 (spAlong K C)) (C_packet_along : Cal P w K mg base CX0 "packet_along" ["program", "choices"] 6 (spPkAlong K C))
    (C_l_program : Cal P w K mg base CX0 "_law_program" ["pot", "most"] 5 (spProg K)) (C_l_text : Cal P w K mg base CX0 "_law_text" ["lines"] 1 (spText K)) (C_l_packet : Cal P w K mg base CX0 "_law_packet" ["pot", "most"] 3 (spPacket K)) (C_l_of : Cal P w K mg base CX0 "_law_of" ["pot", "some"] 2 (spOf K))
    (C_l_drawn_choices : Cal P w K mg base CX0 "_law_drawn_choices" ["pot", "lines"] 6 (spDrawn K)) (C_l_walked : Cal P w K mg base CX0 "_law_walked" ["programs", "choices"] 5 (spWalked K)) (C_l_least : Cal P w K mg base CX0 "_law_least" ["state"] 2 (spLLeast K)) (C_l_numbers : Cal P w K mg base CX0 "_law_numbers" ["state", "packet"] 1 (spLNumbers K)) :
    FnOkG P w K mg base CX0 8 f fd ["pot"] spRight := by
  refine F.okG sc_l_right (fun vs H Q E h => ?_) (fun cdv A outer s H vs Q E hr hG h => ?_)
  · obtain ⟨a, rfl, _⟩ := h
    rfl
  · obtain ⟨a, rfl, hP, q⟩ := h
    refine ⟨_, (pss_cons (ps_for PassesOwn.never rfl (pi_range1 (by rfl) T.z_range (pa_cons pe_int pa_nil)) (pg_name (i := 1) sc_l_right.nd rfl (Or.inl rfl))
       (pss_cons (ps_set (i := 2) sc_l_right.nd rfl (.inl rfl) (pe_cal C_l_program hr (by rfl) pass0 (pa_cons (pv 0) (pa_cons pe_int pa_nil))))
        (pss_cons (ps_set (i := 3) sc_l_right.nd rfl (.inl rfl) (pe_makC M_Program hr (by rfl) pass0 (pa_cons (pe_cal C_l_text hr (by rfl) pass0 (pa_cons (pv 2) pa_nil)) pa_nil)))
        (pss_cons (ps_for PassesOwn.never rfl (pi_range1 (by rfl) T.z_range (pa_cons pe_int pa_nil)) (pg_name (i := 4) sc_l_right.nd rfl (Or.inl rfl))
         (pss_cons (ps_set (i := 5) sc_l_right.nd rfl (.inl rfl) (pe_cal C_l_drawn_choices hr (by rfl) pass0 (pa_cons (pv 0) (pa_cons (pv 2) pa_nil))))
          (pss_one (ps_if (pt_cmpR op_ne (pe_callB (call_reprN hG hr.units) (by rfl) T.z_repr bz_repr (pa_cons (pe_cal C_packet_along hr (by rfl) pass0 (pa_cons (pv 3) (pa_cons (pv 5) pa_nil))) pa_nil)) (pe_callB (call_reprN hG hr.units) (by rfl) T.z_repr bz_repr (pa_cons (pe_cal C_l_least hr (by rfl) pass0 (pa_cons (pe_cal C_l_walked hr (by rfl) pass0 (pa_cons (pe_lst (pa_cons (pv 2) pa_nil)) (pa_cons (pv 5) pa_nil))) pa_nil)) pa_nil)) (nomark _))
           (pss_one (ps_ret pe_bl))
           pss_nil))))
        (pss_one (ps_for PassesOwn.never rfl (pi_range1 (by rfl) T.z_range (pa_cons pe_int pa_nil)) (pg_name (i := 4) sc_l_right.nd rfl (Or.inl rfl))
         (pss_cons (ps_set (i := 6) sc_l_right.nd rfl (.inl rfl) (pe_cal C_l_packet hr (by rfl) pass0 (pa_cons (pv 0) (pa_cons (pe_cal C_l_of hr (by rfl) pass0 (pa_cons (pv 0) (pa_cons (pe_lst (pa_cons pe_int (pa_cons pe_int (pa_cons pe_int pa_nil)))) pa_nil))) pa_nil))))
          (pss_cons (ps_set (i := 5) sc_l_right.nd rfl (.inl rfl) (pe_cal C_along hr (by rfl) pass0 (pa_cons (pv 3) (pa_cons (pv 6) pa_nil))))
          (pss_cons (ps_par (i := 7) (j := 8) (by rfl) sc_l_right.nd rfl rfl (by decide) rfl rfl (pa_cons (pe_cal C_l_walked hr (by rfl) pass0 (pa_cons (pe_lst (pa_cons (pv 2) pa_nil)) (pa_cons (pv 5) pa_nil))) (pa_cons (pe_cal C_packet_along hr (by rfl) pass0 (pa_cons (pv 3) (pa_cons (pv 5) pa_nil))) pa_nil)) (by rfl))
          (pss_cons (ps_if (pt_cmpR op_ne (pe_callB (call_reprN hG hr.units) (by rfl) T.z_repr bz_repr (pa_cons (pv 8) pa_nil)) (pe_callB (call_reprN hG hr.units) (by rfl) T.z_repr bz_repr (pa_cons (pe_cal C_l_least hr (by rfl) pass0 (pa_cons (pv 7) pa_nil)) pa_nil)) (nomark _))
           (pss_one (ps_ret pe_bl))
           pss_nil)
          (pss_cons (ps_set (i := 9) sc_l_right.nd rfl (.inl rfl) (pe_listZip rfl (by rfl) T.z_list (pzip (by rfl) T.z_zip (pa_cons (pe_cal C_l_numbers hr (by rfl) pass0 (pa_cons (pv 7) (pa_cons (pv 8) pa_nil))) (pa_cons (pe_cal C_l_numbers hr (by rfl) pass0 (pa_cons (pv 7) (pa_cons (pv 6) pa_nil))) pa_nil)))))
          (pss_one (ps_if (pt_not (pt_val (pe_callB (cr_all rfl) (by rfl) T.z_all bz_all (pa_cons (pe_lc (own := [("one", 10), ("other", 11)]) (g := gTup K 2 (gCons (gName 10) (gCons (gName 11) gNil))) (tt := tYes) rfl sc_l_right.nd (pi_list (pv 9)) (blkOk_by (N := N_l_right) (sc := defScope s_l_right) (by decide +kernel)) (fun _ _ _ _ _ => (pg_tup (by rfl) (pgs_cons (pg_name (i := 10) sc_l_right.nd rfl (Or.inl rfl)) (pgs_cons (pg_name (i := 11) sc_l_right.nd rfl (Or.inl rfl)) pgs_nil)))) (fun _ _ _ _ _ => pts_nil) (fun _ _ _ _ _ => (pe_cmpR op_le (pv 10) (pv 11) (nomark _)))) pa_nil))))
           (pss_one (ps_ret pe_bl))
           pss_nil)))))))))))))
      (pss_one (ps_ret pe_bl))), ?_⟩
    refine ⟨5, rfl, by decide, by decide, for_range (lo := 0) (n := (5 : Int).toNat) (fun i σ H' => ∃ (y1 y2 y3 y4 y5 y6 y7 y8 y9 : Option V), σ = [some (.ref a), y1, y2, y3, y4, y5, y6, y7, y8, y9, none, none] ∧ Old [a] H H' ∧ Pot H' a (2000 * i))
      ⟨none, none, none, none, none, none, none, none, none, rfl, Old.refl _ _, hP.mono (by omega)⟩ ?_ ?_⟩
    · rintro i σ H1 hi ⟨y1, y2, y3, y4, y5, y6, y7, y8, y9, rfl, o1, p1⟩
      have hi : i < 5 := hi
      refine ⟨.ref a, rfl, a, _, rfl, p1, by omega, fun H2 l is L o2 p2 nla ⟨rs, hl, hrs⟩ => ?_⟩
      refine ⟨.ref l, rfl, l, is, rfl, ⟨rs, hl, hrs⟩, L, fun H3 o3 => ?_⟩
      have hl3 := o3 _ _ (by simp) hl
      have p3 := p2.old o3 (by simp)
      have hrs3 := PL.Dp.keepAll (o3.tk NoTup.nil) _ _ (linesA_only is) hrs
      refine fun p dx np ndx nn => ?_
      have nap : a ≠ p := p3.ne np
      have nadx : a ≠ dx := p3.ne ndx
      have o34 : Old [] H3 (upd (upd H3 dx (.own p)) p (.ins C dx [])) := (Old.new0 ndx).put0 np
      refine ⟨H3, p, dx, is, rfl, L, o34, np, ndx, nn, upd_same, by rw [upd_ne nn, upd_same], fun H4 t o4 sl dp => ⟨rfl, ?_⟩⟩
      have hl4 := o4 _ _ (by simp) hl3
      have p4 := p3.old o4 (by simp)
      have hrs4 := PL.Dp.keepAll (o4.tk NoTup.nil) _ _ (linesA_only is) hrs3
      have o04 : Old [a] H H4 := ((o1.trans o2).trans (Old.w o3)).trans (Old.w o4)
      clear hrs3 hl3 p3 hrs hl p2 o34 o3 o2 o1 p1 np ndx
      have lps : ∀ is' ∈ [is], PW.LOk is' := fun is' h => by rw [List.mem_singleton.mp h]; exact lok_of L
      have gd0 : Gd [is] PW.start := Gd.start lps (by show 1 ≤ 4; decide)
      have prog : ∀ G, Old [a] H4 G → ProgAt K C G p is := fun G oG => ⟨dx, t, slt_old sl oG nap.symm nadx.symm, PL.Dp.keep (oG.tk p4.notup) _ _ (linesD_only is) dp⟩
      have lin : ∀ G, Old [a] H4 G → LinesAt K G l is := fun G oG => ⟨rs, oG _ _ (by simp; exact nla) hl4, PL.Dp.keepAll (oG.tk p4.notup) _ _ (linesA_only is) hrs4⟩
      refine ⟨6, rfl, by decide, by decide, for_range (lo := 0) (n := (6 : Int).toNat) (fun j σ H' => ∃ (y4 y5 : Option V), σ = [some (.ref a), some (.int (0 + (i : Int))), some (.ref l), some (.ref p), y4, y5, y6, y7, y8, y9, none, none] ∧ Old [a] H4 H' ∧ Pot H' a (2000 * i + 500 + 30 * j))
        ⟨y4, y5, rfl, Old.refl _ _, p4⟩ ?_ ?_⟩
      · rintro j σ H5 hj ⟨y4, y5, rfl, o5, p5⟩
        have hj : j < 6 := hj
        refine ⟨.ref a, rfl, .ref l, rfl, a, l, _, is, rfl, p5, by omega, lin _ o5, L, nla, fun H6 ch cs w o6 p6 dch rt => ?_⟩
        have o46 := o5.trans o6
        have gd : Gd [is] w := gd0.reach rt.1
        have core := gd.ok.core
        refine ⟨.ref p, rfl, .ref ch, rfl, p, .ref ch, is, cs, w, rfl, prog _ o46, L, dch, rt, fun nf H7 o7 => ?_, fun M cl H7 tq o7 dq => ?_⟩
        · refine .inr ⟨rfl, ?_⟩
          refine ⟨.ref l, rfl, by show 1 ≤ sizeLine; decide, fun pl npl => ⟨.ref ch, rfl, ?_⟩⟩
          have oP : Old [] H7 (upd H7 pl (.lst [.ref l])) := Old.new0 npl
          have o4P := o46.trans (Old.w (o7.trans oP))
          refine ⟨pl, l, .ref ch, is, cs, w, rfl, upd_same, lin _ o4P, L, PL.Dp.keep ((o7.trans oP).tk NoTup.nil) _ _ (chD_only cs) dch, rt, fun H8 sa wh kd o8 _ LS _ => ?_⟩
          refine ⟨sa, [is], w, [], wh, kd, rfl, LS, gd, fun nf H9 o9 => ?_, fun M cl _ _ _ _ => absurd (PD.feas_of_told cl.told core.var) nf⟩
          refine .inr ⟨rfl, rfl, false, by simp, iteF ?_⟩
          exact ⟨some _, some _, rfl, o4P.trans (Old.w (o8.trans o9)), (p6.old (o7.trans (oP.trans (o8.trans o9))) (by simp)).mono (by omega)⟩
        · refine .inl ⟨tq, _, rfl, dq, (show_least (least_small core cl).1 (least_small core cl).2).sh, (show_least (least_small core cl).1 (least_small core cl).2).nd, Nat.le_trans (show_least (least_small core cl).1 (least_small core cl).2).dp (by decide), Nat.le_trans (show_least (least_small core cl).1 (least_small core cl).2).ln (by decide), ?_⟩
          refine ⟨.ref l, rfl, by show 1 ≤ sizeLine; decide, fun pl npl => ⟨.ref ch, rfl, ?_⟩⟩
          have oP : Old [] H7 (upd H7 pl (.lst [.ref l])) := Old.new0 npl
          have o4P := o46.trans (Old.w (o7.trans oP))
          refine ⟨pl, l, .ref ch, is, cs, w, rfl, upd_same, lin _ o4P, L, PL.Dp.keep ((o7.trans oP).tk NoTup.nil) _ _ (chD_only cs) dch, rt, fun H8 sa wh kd o8 _ LS _ => ?_⟩
          refine ⟨sa, [is], w, [], wh, kd, rfl, LS, gd, fun nf => absurd (PD.feas_of_told cl.told core.var) nf, fun M' cl' H9 tq' o9 dq' => ?_⟩
          rw [lows_alike core cl cl'] at dq'
          refine .inl ⟨tq', _, rfl, dq', (show_least (least_small core cl).1 (least_small core cl).2).sh, (show_least (least_small core cl).1 (least_small core cl).2).nd, Nat.le_trans (show_least (least_small core cl).1 (least_small core cl).2).dp (by decide), Nat.le_trans (show_least (least_small core cl).1 (least_small core cl).2).ln (by decide), rfl, false, by simp, iteF ?_⟩
          exact ⟨some _, some _, rfl, o4P.trans (Old.w (o8.trans o9)), (p6.old (o7.trans (oP.trans (o8.trans o9))) (by simp)).mono (by omega)⟩
      · rintro σ H5 ⟨y4, y5, rfl, o5, p5⟩
        refine ⟨6, rfl, by decide, by decide, for_range (lo := 0) (n := (6 : Int).toNat) (fun j σ H' => ∃ (z4 z5 z6 z7 z8 z9 : Option V), σ = [some (.ref a), some (.int (0 + (i : Int))), some (.ref l), some (.ref p), z4, z5, z6, z7, z8, z9, none, none] ∧ Old [a] H4 H' ∧ Pot H' a (2000 * i + 700 + 70 * j))
          ⟨y4, y5, y6, y7, y8, y9, rfl, o5, p5.mono (by show 2000 * i + 500 + 30 * 6 ≤ _; omega)⟩ ?_ ?_⟩
        · clear p5 o5
          rintro j σ H5 hj ⟨z4, z5, z6, z7, z8, z9, rfl, o5, p5⟩
          have hj : j < 6 := hj
          refine ⟨.ref a, rfl, .ref a, rfl, (by show 3 ≤ sizeLine; decide), fun l2 nl2 => ?_⟩
          have nal2 : a ≠ l2 := p5.ne nl2
          have oL : Old [] H5 (upd H5 l2 (.lst [.int 2, .int 4, .int 24])) := Old.new0 nl2
          refine ⟨a, l2, _, _, rfl, p5.old oL (by simp), SqL.of upd_same, nal2.symm, by show 0 < 3; decide, by show 3 < 1000; decide, by omega, fun H6 x hx o6 p6 => ?_⟩
          obtain ⟨m, rfl, m1, m2⟩ : ∃ m : Int, x = .int m ∧ 1 ≤ m ∧ m ≤ 24 := by
            simp only [List.mem_cons, List.not_mem_nil, or_false] at hx
            rcases hx with rfl | rfl | rfl <;> exact ⟨_, rfl, by decide, by decide⟩
          refine ⟨a, _, m, rfl, p6, by omega, m1, m2, fun H7 tp pk pok o7 p7 hpk => ?_⟩
          have o47 : Old [a] H4 H7 := o5.trans (((Old.w oL).trans o6).trans o7)
          clear p6 p5 o5 oL o6 o7
          refine ⟨.ref p, rfl, .ref tp, rfl, p, .ref tp, is, pk, rfl, prog _ o47, L, hpk, pok, fun H8 ch cs w o8 dch clen rt fit => ?_⟩
          have o48 := o47.trans (Old.w o8)
          have gd : Gd [is] w := gd0.reach rt.1
          have core := gd.ok.core
          have fe : PD.Feas w.bounds := ⟨_, fit⟩
          have p8 := p7.old o8 (by simp)
          have hpk8 := PL.Dp.keep (o8.tk NoTup.nil) _ _ (pkD_only pk) hpk
          refine ⟨.ref l, rfl, by show 1 ≤ sizeLine; decide, fun pl npl => ⟨.ref ch, rfl, ?_⟩⟩
          have oP : Old [] H8 (upd H8 pl (.lst [.ref l])) := Old.new0 npl
          refine ⟨pl, l, .ref ch, is, cs, w, rfl, upd_same, lin _ (o48.trans (Old.w oP)), L, PL.Dp.keep (oP.tk NoTup.nil) _ _ (chD_only cs) dch, rt, fun H9 sa wh kd o9 _ LS _ => ?_⟩
          have o89 := oP.trans o9
          have o49 := o48.trans (Old.w o89)
          refine ⟨.ref p, rfl, .ref ch, rfl, p, .ref ch, is, cs, w, rfl, prog _ o49, L, PL.Dp.keep (o89.tk NoTup.nil) _ _ (chD_only cs) dch, rt, fun nf => absurd fe nf, fun M cl H10 tq o10 dq => ?_⟩
          have sl := least_small core cl
          have o8T := o89.trans o10
          refine ⟨_, _, rfl, ?_⟩
          refine ⟨.ref tq, rfl, ?_⟩
          refine .inl ⟨tq, _, rfl, dq, (show_least sl.1 sl.2).sh, (show_least sl.1 sl.2).nd, Nat.le_trans (show_least sl.1 sl.2).dp (by decide), Nat.le_trans (show_least sl.1 sl.2).ln (by decide), ?_⟩
          have LS10 : LsA K H10 sa (ofW w [] wh kd) := let ⟨kvs, v, h⟩ := LS; ⟨kvs, v, h.keep o10⟩
          refine ⟨.ref sa.s, rfl, sa, [is], w, [], wh, kd, rfl, LS10, gd, fun nf => absurd fe nf, fun M' cl' H11 tq' o11 dq' => ?_⟩
          rw [lows_alike core cl cl'] at dq'
          refine .inl ⟨tq', _, rfl, dq', (show_least sl.1 sl.2).sh, (show_least sl.1 sl.2).nd, Nat.le_trans (show_least sl.1 sl.2).dp (by decide), Nat.le_trans (show_least sl.1 sl.2).ln (by decide), rfl, false, by simp, iteF ?_⟩
          -- the numbers
          have LS11 : LsA K H11 sa (ofW w [] wh kd) := let ⟨kvs, v, h⟩ := LS10; ⟨kvs, v, h.keep o11⟩
          have dq11 := PL.Dp.keep (o11.tk NoTup.nil) _ _ (pkD_only _) dq
          refine ⟨.ref sa.s, rfl, .ref tq, rfl, sa, [is], w, [], wh, kd, .ref tq, _, rfl, LS11, gd, dq11, Nat.le_trans sl.1 (by decide), least_vals core cl, fun H12 n1 o12 nn1 hn1 => ?_⟩
          have LS12 : LsA K H12 sa (ofW w [] wh kd) := let ⟨kvs, v, h⟩ := LS11; ⟨kvs, v, h.keep o12⟩
          have hpk12 := PL.Dp.keep (((o8T.trans o11).trans o12).tk NoTup.nil) _ _ (pkD_only pk) hpk8
          refine ⟨.ref sa.s, rfl, .ref tp, rfl, sa, [is], w, [], wh, kd, .ref tp, pk, rfl, LS12, gd, hpk12, Nat.le_trans pok.l2 (by decide), fit, fun H13 n2 o13 nn2 hn2 => ?_⟩
          refine ⟨n1, n2, _, _, rfl, SqL.of (o13 _ _ (by simp) hn1), SqL.of hn2, ?_, fun H14 lp acc o14 nlp hlp hlen hit => ?_⟩
          · rw [List.length_map, List.length_map, PW.nums_len, PW.nums_len, Nat.min_self]
            have := gd.cells
            omega
          refine ⟨.ref lp, rfl, lp, rfl, ⟨_, SqL.of hlp⟩, fun D nD => ?_⟩
          have nlD : lp ≠ D := ne_of_none hlp nD
          have len : acc.length = 2 + w.cells.length := by rw [hlen, List.length_map, List.length_map, PW.nums_len, PW.nums_len, Nat.min_self]
          have c3 : w.cells.length ≤ 3000 := gd.cells
          have o4E : ∀ G, Old [] H14 G → Old [a] H4 G := fun G oG => o48.trans (Old.w (((((o8T.trans o11).trans o12).trans o13).trans o14).trans oG))
          have p14 : Pot H14 a (2000 * i + 700 + 70 * (j + 1)) := (p8.old (((((o8T.trans o11).trans o12).trans o13).trans o14)) (by simp)).mono (by omega)
          refine lc_list (K := K) (a := lp) (xs := acc) (fun i H' => Old [] H14 H' ∧ H' D = some (.lst ((List.replicate i true).map V.bl))) ⟨Old.new0 nD, upd_same⟩ (fun i H' _ h => SqL.of (h.1 _ _ (by simp) hlp)) ?_ ?_
          · rintro n y G hy ⟨oG, hD⟩
            have hn : n < 2 + w.cells.length := by have := (List.getElem?_eq_some_iff.mp hy).1; omega
            obtain ⟨t2, ht2, hp2⟩ := hit n _ _ (by rw [← hlen, len]; exact hn) (nums_at _ _ hn) (nums_at _ _ hn)
            rw [hy] at ht2
            obtain rfl := Option.some.inj ht2
            refine ⟨t2, _, rfl, SqT.of (oG _ _ (by simp) hp2), rfl, _, _, rfl, _, _, rfl, rfl, ?_⟩
            refine ⟨rfl, ?_⟩
            refine ⟨_, rfl, _, rfl, _, _, rfl, rfl, _, hD, ?_, oG.put0 nD, ?_⟩
            · rw [List.length_map, List.length_replicate]
              exact Nat.lt_of_lt_of_le hn (Nat.le_trans (Nat.add_le_add_left c3 2) (by decide))
            · rw [upd_same, List.replicate_succ', List.map_append]
              have le : PW.vf (PW.leastF (PW.lows w.many M) w.cells) w.cells n ≤ PW.vf pk w.cells n := by
                have hm : n < w.many := by rw [core.many]; exact hn
                rw [PW.least_vf core cl n hm]
                exact PW.least_le core cl fit n hm
              exact congrArg (fun b => some (HO.lst (List.map V.bl (List.replicate n true) ++ [V.bl b]))) (decide_eq_true le)
          · rintro G ⟨oG, hD⟩
            refine ⟨D, _, rfl, SqL.of hD, ?_⟩
            have e : (List.replicate acc.length true).all id = true := by
              rw [List.all_eq_true]
              intro b hb
              rw [(List.mem_replicate.mp hb).2]; rfl
            rw [e]
            refine ⟨true, rfl, iteF ?_⟩
            exact ⟨some _, some _, some _, some _, some _, some _, rfl, o4E _ oG, p14.old oG (by simp)⟩
        · rintro σ G ⟨z4, z5, z6, z7, z8, z9, rfl, o5, p5⟩
          exact ⟨some _, some _, some _, z4, z5, z6, z7, z8, z9, rfl, o04.trans o5, p5.mono (by show 2000 * i + 700 + 70 * 6 ≤ _; omega)⟩
    · rintro σ H1 ⟨y1, y2, y3, y4, y5, y6, y7, y8, y9, rfl, o1, p1⟩
      exact q H1 o1
/-! law: slots script=0 at=1; cells ['script'] -/
abbrev s_law : Stmt := topS 69
abbrev N_law : List Str := ["script", "at"]
theorem sc_law : FnScope N_law ["script"] (defScope s_law) := ⟨rfl, rfl, rfl, by decide +kernel, rfl, by decide +kernel, by decide +kernel⟩
theorem ok_law {f : Addr} {fd : FuncData} (F : Fun K "law" "law" s_law f fd) (T : Bt mg) (C_l_right : CalG P w K mg base CX0 "_law_right" ["pot"] 8 spRight) (C_l_pot : Cal P w K mg base CX0 "_law_pot" ["script", "place"] 1 (spPot K)) (C_l_cells : Cal P w K mg base CX0 "_law_cells" ["script", "most"] 1 (spCells K)) : FnOkG P w K mg base CX0 9 f fd ["script"] (spLaw K) := by
  refine F.okG sc_law (fun vs H Q E h => ?_) (fun cdv A outer s H vs Q E hr hG h => ?_)
  · obtain ⟨a, ns, rfl, _⟩ := h
    rfl
  · obtain ⟨a, ns, rfl, hs, hl, q⟩ := h
    refine ⟨_, (pss_one (ps_ret (pe_callB (cr_all rfl) (by rfl) T.z_all bz_all (pa_cons (pe_lc (own := [("at", 1)]) (g := gName 1) (tt := tYes) rfl sc_law.nd (pi_list (pe_cal C_l_cells hr (by rfl) pass0 (pa_cons (pv 0) (pa_cons pe_int pa_nil)))) (blkOk_by (N := N_law) (sc := defScope s_law) (by decide +kernel)) (fun _ _ _ _ _ => (pg_name (i := 1) sc_law.nd rfl (Or.inl rfl))) (fun _ _ _ _ _ => pts_nil) (fun _ _ _ _ _ => (pe_calG C_l_right hr hG (by rfl) pass0 (pa_cons (pe_cal C_l_pot hr (by rfl) pass0 (pa_cons (pv 0) (pa_cons (pv 1) pa_nil))) pa_nil)))) pa_nil)))), ?_⟩
    refine ⟨.ref a, rfl, a, ns, 3, rfl, hs, hl, by decide, by decide, fun H1 c k k1 k2 o1 _ hc => ?_⟩
    refine ⟨c, rfl, ⟨_, SqL.of hc⟩, fun D nD => ?_⟩
    have ncD : c ≠ D := ne_of_none hc nD
    refine lc_list (K := K) (a := c) (xs := (List.range k).map fun i => V.int ((i : Nat) : Int)) (fun i H' => Old [] H1 H' ∧ H' D = some (.lst ((List.replicate i true).map V.bl))) ⟨Old.new0 nD, upd_same⟩ (fun i H' _ h => SqL.of (h.1 _ _ (by simp) hc)) ?_ ?_
    · rintro i y H2 hy ⟨o2, h2⟩
      have hi : i < k := by have := (List.getElem?_eq_some_iff.mp hy).1; rw [List.length_map, List.length_range] at this; exact this
      rw [List.getElem?_map, List.getElem?_range hi] at hy
      have ey : y = .int (i : Int) := (Option.some.inj hy).symm
      subst ey
      refine ⟨rfl, .ref a, rfl, .int (i : Int), rfl, a, ns, (i : Int), rfl, (o1.trans o2).seqL hs (by simp), hl, by omega, by omega, fun H3 p o3 np hp => ?_⟩
      have nDp : D ≠ p := fun z => by rw [z, np] at h2; cases h2
      refine ⟨p, rfl, hp, fun H4 o4 => ?_⟩
      have o24 : Old [] H2 H4 := fun b o _ e => o4 b o (by simp; intro z; rw [z, np] at e; cases e) (o3 b o (by simp) e)
      refine ⟨_, o24 _ _ (by simp) h2, ?_, (o2.trans o24).put0 nD, ?_⟩
      · rw [List.length_map, List.length_replicate]; exact Nat.lt_of_lt_of_le (Nat.lt_of_lt_of_le hi k2) (by decide)
      · rw [upd_same, List.replicate_succ', List.map_append]; rfl
    · rintro H2 ⟨o2, h2⟩
      refine ⟨D, _, rfl, SqL.of h2, ?_⟩
      have e : (List.replicate ((List.range k).map fun i => V.int ((i : Nat) : Int)).length true).all id = true := by
        rw [List.all_eq_true]
        intro b hb
        rw [(List.mem_replicate.mp hb).2]; rfl
      rw [e]
      exact q H2
end
end L2.T39

open PySem PySem.W PyProof.Rows
open_top hd39 for PySem.Challenge.rw_passedastold_k39_packets_of_the_least_nu

namespace L2.PL
open PySem PySem.Spec PyProof.Rows
/-! ### the head, for a law that shows things: nothing is being shown where it is called -/
/-- a heap in which at most the script, at a, is tracked -/
structure Scr (P : Program) (w : World) (K : PySem.W.Frag) (h : Heap) (a : Addr) (ns : List Int) (H : Hp) : Prop where
  only : Only H
  seq : SqL K H a (ns.map V.int)
  hok : HOk P w H h
  here : ∀ {b : Addr}, H b ≠ none → b = a
  out : H a ≠ none → K.lookup a = none
section
variable {P : Program} {w : World} {K : PySem.W.Frag} {mg mb : Str → Option Value} {CX : CXT} {k : Nat} {fa a : Addr} {fd : FuncData} {x : Str} {sp : Sp} {s₁ : Shared} {vs : List Value} {ns : List Int} {H : Hp}
/-- what a law's call comes to -/
abbrev LawDone (P : Program) (w : World) (fa a : Addr) (s₁ : Shared) : Prop :=
  codeAny (model P w) callerA (.call (.ref fa) ⟨[.ref a], []⟩) (fun r s' => r = .ok (.ret (.bool true)) ∧ OldK s₁.heap s'.heap ∧ s'.os = s₁.os ∧ AllBare s'.gens) s₁
theorem Scr.hid (c : Scr P w K s₁.heap a ns H) {b : Addr} {o : Obj} (e : s₁.heap.get? b = some o) (n : b = a → H a = none) : (hidT s₁.heap H).get? b = some o := by
  apply hidT_get e
  cases q : H b with
  | none => rfl
  | some u =>
    have z : b = a := c.here (by rw [q]; exact fun y => nomatch y)
    have := n z
    rw [← z, q] at this
    cases this
theorem Scr.mod (c : Scr P w K s₁.heap a ns H) (KX : K.In s₁.heap) (g : s₁.heap.Ns mainGlobals mg) (b : s₁.heap.Ns builtinsNs mb) (bb : ∀ x : Str, x ≠ "__name__" → mb x = bootBuiltins x) (lim : s₁.heap.NoLimit)
    (ha : s₁.heap.get? a = some { cls := .type "list", data := .seq vs.toArray }) : Mod K mg (hidT s₁.heap H) := by
  have ns_ : ∀ {d : Addr} {m : Str → Option Value}, s₁.heap.Ns d m → (hidT s₁.heap H).Ns d m := by
    rintro d m ⟨o, es, ep, e, dd, r⟩
    refine ⟨o, es, ep, c.hid e fun z => ?_, dd, r⟩
    rw [z, ha] at e
    have : Data.seq vs.toArray = Data.dict es ep := by rw [← dd, ← Option.some.inj e]
    cases this
  have kin : K.In (hidT s₁.heap H) := fun d o e => c.hid (KX d o e) fun z => by
    cases q : H a with
    | none => rfl
    | some u =>
      have := c.out (by rw [q]; exact fun y => nomatch y)
      rw [← z, e] at this
      cases this
  obtain ⟨mc, l1, l2⟩ := lim
  exact ⟨kin, ns_ g, ⟨mb, ns_ b, bb⟩, mc, ns_ l1, l2⟩
theorem Scr.done (c : Scr P w K s₁.heap a ns H) (KX : K.In s₁.heap) (g : s₁.heap.Ns mainGlobals mg) (b : s₁.heap.Ns builtinsNs mb) (bb : ∀ x : Str, x ≠ "__name__" → mb x = bootBuiltins x) (lim : s₁.heap.NoLimit) (gens : s₁.gens = #[])
    (ha : s₁.heap.get? a = some { cls := .type "list", data := .seq vs.toArray }) (hr : Room k callerA)
    (F : ∀ base : Heap, K.In base → base.Ns mainGlobals mg → FnOkG P w K mg base CX k fa fd [x] sp) (hbind : ∀ (s : Shared) (u : Value), BindsTo s fd ⟨[u], []⟩ [(x, u)])
    (hsp : sp [.ref a] H (fun v _ => v = .bl true) fun _ _ _ => False) (hCX : ∀ H e s', CX [] H s₁ (fun _ _ _ => False) e s' → False) : LawDone P w fa a s₁ := by
  have M := c.mod KX g b bb lim ha
  have E : Env0 P w K mg (hidT s₁.heap H) callerA [] s₁ H :=
    ⟨rfl, M, fun b o e => of_hidT e, Nat.le_of_eq (hidT_size _ _), trivial, fun b hb => (by cases hb), c.hok, .of_eq gens⟩
  have run := (F _ M.kin M.glob).run callerA [] s₁ H ⟨[.ref a], []⟩ [.ref a] [.ref a] _ _ hr rfl E (hbind s₁ (.ref a)) (.cons rfl .nil) hsp
  refine codeAny_mono run fun r s' h => ?_
  match r, h with
  | .error e, h => exact (hCX H e s' h).elim
  | .ok .next, h => exact h.elim
  | .ok .brk, h => exact h.elim
  | .ok .cont, h => exact h.elim
  | .ok (.ret u), h =>
    obtain ⟨v, H', hos, bare, un, hok', rv, ev⟩ := h
    have ev : v = .bl true := ev
    subst ev
    obtain rfl : u = Value.bool true := rv
    refine ⟨rfl, OldK.of_keep fun d o e => ?_, hos, bare⟩
    rcases c.only d with z | ⟨ob, xs, z⟩
    · exact un.keep d o e z (fun y => by cases y) (fun y => by cases y)
    · obtain ⟨e1, _⟩ := c.hok d _ z
      obtain ⟨e2, _⟩ := hok' d _ (un.frzs d ob _ z)
      rw [e1] at e
      rw [← Option.some.inj e]
      exact e2
/-- the head of a law that shows things -/
theorem law_callG (KX : K.In s₁.heap) (g : s₁.heap.Ns mainGlobals mg) (b : s₁.heap.Ns builtinsNs mb) (bb : ∀ x : Str, x ≠ "__name__" → mb x = bootBuiltins x) (lim : s₁.heap.NoLimit) (gens : s₁.gens = #[])
    (ha : s₁.heap.get? a = some { cls := .type "list", data := .seq vs.toArray }) (hi : IntsAre vs ns) (hl : ns.length ≤ sizeLine) (hr : Room k callerA)
    (F : ∀ base : Heap, K.In base → base.Ns mainGlobals mg → FnOkG P w K mg base CX k fa fd [x] sp) (hbind : ∀ (s : Shared) (u : Value), BindsTo s fd ⟨[u], []⟩ [(x, u)])
    (hsp : ∀ H : Hp, Only H → SqL K H a (ns.map V.int) → sp [.ref a] H (fun v _ => v = .bl true) fun _ _ _ => False) (hCX : ∀ H e s', CX [] H s₁ (fun _ _ _ => False) e s' → False) : LawDone P w fa a s₁ := by
  have rv : Vals (ns.map V.int) vs := vals_ints hi
  have go : ∀ H : Hp, Scr P w K s₁.heap a ns H → LawDone P w fa a s₁ := fun H c => c.done KX g b bb lim gens ha hr F hbind (hsp H c.only c.seq) hCX
  cases hk : K.lookup a with
  | some o =>
    have e := (KX a o hk).symm.trans ha
    cases e
    refine go (fun _ => none) ⟨fun _ => .inl rfl, .inr ⟨_, vs.toArray, _, hk, rfl, rfl, rfl, ?_, by simpa using rv⟩, fun b u z => (nomatch z), fun z => (z rfl).elim, fun z => (z rfl).elim⟩
    rw [List.size_toArray, hi.length]; exact hl
  | none =>
    have hH : ∀ b : Addr, b ≠ a → (fun b => if b = a then some (HO.frz { cls := .type "list", data := .seq vs.toArray } (.lst (ns.map V.int))) else none : Hp) b = none := fun b h => if_neg h
    refine go _ ⟨fun b => ?_, .inl (.inr ⟨_, if_pos rfl⟩), fun b u z => ?_, fun {b} z => Classical.byContradiction fun h => z (hH b h), fun _ => hk⟩
    · by_cases h : b = a
      · exact .inr ⟨_, _, if_pos h⟩
      · exact .inl (hH b h)
    · by_cases h : b = a
      · have q := (if_pos h).symm.trans z
        cases q
        subst h
        exact ⟨ha, by rw [List.length_map]; exact hl, vs, _, rv, ha⟩
      · have q := (hH b h).symm.trans z
        cases q
end
/-- the goal that the head leaves, from the promise of a law that shows things -/
theorem walk_ofG {l : PySem.W.OpenLaw} {n k : Nat} {q : Program} {loose : List Str} {XP : (Str → Option Value) → Heap → Prop} {YP : World → Heap → Prop} {d : DefRec} {K : Params → PySem.W.Frag} {sp : PySem.W.Frag → Sp} {x : Str}
    (most : l.most = some n) (small : n ≤ sizeLine) (df : d.params.defaults = []) (hr : Room k callerA) (inY : ∀ (w : World) (h : Heap), YP w h → (K w.params).In h)
    (F : ∀ (w : World) (mg : Str → Option Value) (fa : Addr) (h : Heap), (K w.params).In h → h.Ns mainGlobals mg → mg d.name = some (.ref fa) → ∃ fd : FuncData, (∀ (s : Shared) (u : Value), BindsTo s fd ⟨[u], []⟩ [(x, u)]) ∧
        ∀ base : Heap, (K w.params).In base → base.Ns mainGlobals mg → FnOkG l.prog w (K w.params) mg base CX0 k fa fd [x] (sp (K w.params)))
    (right : ∀ (K : PySem.W.Frag) (H : Hp) (a : Addr) (ns : List Int), ns.length ≤ n → SqL K H a (ns.map V.int) → sp K [.ref a] H (fun v _ => v = .bl true) fun _ _ _ => False) :
    PySem.W.WalkO q loose XP YP l.row.toRowW d [] (fun f vs => PySem.call f vs) :=
  Att.attach_call most df fun w _ _ mg _ fa _ _ _ _ a _ ns G Y _ _ _ hmg hobj hints hlen hg => by
    obtain ⟨fd, hb, hF⟩ := F w mg fa _ (inY w _ Y) G.T.g hmg
    exact law_callG (inY w _ Y) G.T.g G.T.b G.T.builtins G.T.nolimit hg hobj hints (Nat.le_trans hlen small) hr hF hb (fun H _ hS => right _ H a ns hlen hS) fun H e s' h => h
end L2.PL

namespace L2.T39
open PySem PySem.Spec PyProof.Rows L2.PL
/-! what the top has written, each a fact that k_is finds; and the law's own head -/
theorem all_mk {l : PySem.W.OpenLaw} {w : World} {K : PySem.W.Frag} {h : Heap} {mg : Str → Option Value} {fa C_Program p0_Program p1_Program C_Walk p0_Walk p1_Walk p2_Walk p3_Walk p4_Walk p5_Walk p6_Walk p7_Walk p8_Walk p9_Walk C_Near p0_Near dF dN ta_copy ta_add ta_load ta_less ta_atmost ta_same ta_FIRST ta_FIRST_0 ta_FIRST_1 f_l_take f_l_of f_l_cells f_l_pot f_number_in f_signed_in f_word_in f_instruction_in f_read_lines f_Pr_init f_Pr_lines pp_Pr_lines f_is_int f_is_packet f_look_at_packet f_is_unset f_at_most f_cell_options f_place_options f_test_options f_Walk_is_ended f_Walk_instruction f_Walk_finish f_Walk_place_of f_Walk_term_of f_Walk_load f_Walk_init f_Walk_step f_Walk_look_at_cells f_Walk_go f_Walk_take f_put_in f_Near_init f_Near_with_bounds f_walk_by f_values_of f_least_packet f_packet_along f_along f_l_sums f_l_number f_l_text f_l_packet f_l_lacks f_l_instruction f_l_program f_l_is_int f_l_at_most f_l_chosen f_l_loaded f_l_tested f_l_gone f_l_walked f_l_least f_l_numbers f_l_drawn_choices f_l_right f_law : Addr} {tk_FIGURES tk_MOST_CELLS tk_NOUGHT tk_LENGTH tk_MOST_CELL tk_MOST_LINES tk_MOST_NUMBER tk_REGISTERS tk_WRONG tk_UNSET tk_BEYOND tk_END tk_FORMS_set tk_FORMS_copy tk_FORMS_add tk_FORMS_length tk_FORMS_load tk_FORMS_jump tk_FORMS_less tk_FORMS_atmost tk_FORMS_same tk_FORMS_pass tk_FORMS_drop tk_NEEDS_copy_0 tk_NEEDS_add_0 tk_NEEDS_load_0 tk_NEEDS_less_0 tk_NEEDS_less_1 tk_NEEDS_atmost_0 tk_NEEDS_same_0 tk_FIRST_0_0 tk_FIRST_0_1 tk_FIRST_0_2 tk_FIRST_1_0 tk_FIRST_1_1 tk_FIRST_1_2 : Tok}
    {od_l_take an_l_take od_l_of an_l_of od_l_cells an_l_cells od_l_pot an_l_pot od_number_in an_number_in od_signed_in an_signed_in od_word_in an_word_in od_instruction_in an_instruction_in od_read_lines an_read_lines od_Pr_init an_Pr_init od_Pr_lines an_Pr_lines od_is_int an_is_int od_is_packet an_is_packet od_look_at_packet an_look_at_packet od_is_unset an_is_unset od_at_most an_at_most od_cell_options an_cell_options od_place_options an_place_options od_test_options an_test_options od_Walk_is_ended an_Walk_is_ended od_Walk_instruction an_Walk_instruction od_Walk_finish an_Walk_finish od_Walk_place_of an_Walk_place_of od_Walk_term_of an_Walk_term_of od_Walk_load an_Walk_load od_Walk_init an_Walk_init od_Walk_step an_Walk_step od_Walk_look_at_cells an_Walk_look_at_cells od_Walk_go an_Walk_go od_Walk_take an_Walk_take od_put_in an_put_in od_Near_init an_Near_init od_Near_with_bounds an_Near_with_bounds od_walk_by an_walk_by od_values_of an_values_of od_least_packet an_least_packet od_packet_along an_packet_along od_along an_along od_l_sums an_l_sums od_l_number an_l_number od_l_text an_l_text od_l_packet an_l_packet od_l_lacks an_l_lacks od_l_instruction an_l_instruction od_l_program an_l_program od_l_is_int an_l_is_int od_l_at_most an_l_at_most od_l_chosen an_l_chosen od_l_loaded an_l_loaded od_l_tested an_l_tested od_l_gone an_l_gone od_l_walked an_l_walked od_l_least an_l_least od_l_numbers an_l_numbers od_l_drawn_choices an_l_drawn_choices od_l_right an_l_right od_law an_law : Option Addr} {sl_l_take sl_l_of sl_l_cells sl_l_pot sl_number_in sl_signed_in sl_word_in sl_instruction_in sl_read_lines sl_Pr_init sl_Pr_lines sl_is_int sl_is_packet sl_look_at_packet sl_is_unset sl_at_most sl_cell_options sl_place_options sl_test_options sl_Walk_is_ended sl_Walk_instruction sl_Walk_finish sl_Walk_place_of sl_Walk_term_of sl_Walk_load sl_Walk_init sl_Walk_step sl_Walk_look_at_cells sl_Walk_go sl_Walk_take sl_put_in sl_Near_init sl_Near_with_bounds sl_walk_by sl_values_of sl_least_packet sl_packet_along sl_along sl_l_sums sl_l_number sl_l_text sl_l_packet sl_l_lacks sl_l_instruction sl_l_program sl_l_is_int sl_l_at_most sl_l_chosen sl_l_loaded sl_l_tested sl_l_gone sl_l_walked sl_l_least sl_l_numbers sl_l_drawn_choices sl_l_right sl_law : Array (Option Value)} {oc_l_take kV_l_take dc_l_take pm_l_take cd_l_take ct_l_take oc_l_of kV_l_of dc_l_of pm_l_of cd_l_of ct_l_of oc_l_cells kV_l_cells dc_l_cells pm_l_cells cd_l_cells ct_l_cells oc_l_pot kV_l_pot dc_l_pot pm_l_pot cd_l_pot ct_l_pot oc_number_in kV_number_in dc_number_in pm_number_in cd_number_in ct_number_in oc_signed_in kV_signed_in dc_signed_in pm_signed_in cd_signed_in ct_signed_in oc_word_in kV_word_in dc_word_in pm_word_in cd_word_in ct_word_in oc_instruction_in kV_instruction_in dc_instruction_in pm_instruction_in cd_instruction_in ct_instruction_in oc_read_lines kV_read_lines dc_read_lines pm_read_lines cd_read_lines ct_read_lines oc_Pr_init kV_Pr_init dc_Pr_init pm_Pr_init cd_Pr_init ct_Pr_init oc_Pr_lines kV_Pr_lines dc_Pr_lines pm_Pr_lines cd_Pr_lines ct_Pr_lines oc_is_int kV_is_int dc_is_int pm_is_int cd_is_int ct_is_int oc_is_packet kV_is_packet dc_is_packet pm_is_packet cd_is_packet ct_is_packet oc_look_at_packet kV_look_at_packet dc_look_at_packet pm_look_at_packet cd_look_at_packet ct_look_at_packet oc_is_unset kV_is_unset dc_is_unset pm_is_unset cd_is_unset ct_is_unset oc_at_most kV_at_most dc_at_most pm_at_most cd_at_most ct_at_most oc_cell_options kV_cell_options dc_cell_options pm_cell_options cd_cell_options ct_cell_options oc_place_options kV_place_options dc_place_options pm_place_options cd_place_options ct_place_options oc_test_options kV_test_options dc_test_options pm_test_options cd_test_options ct_test_options oc_Walk_is_ended kV_Walk_is_ended dc_Walk_is_ended pm_Walk_is_ended cd_Walk_is_ended ct_Walk_is_ended oc_Walk_instruction kV_Walk_instruction dc_Walk_instruction pm_Walk_instruction cd_Walk_instruction ct_Walk_instruction oc_Walk_finish kV_Walk_finish dc_Walk_finish pm_Walk_finish cd_Walk_finish ct_Walk_finish oc_Walk_place_of kV_Walk_place_of dc_Walk_place_of pm_Walk_place_of cd_Walk_place_of ct_Walk_place_of oc_Walk_term_of kV_Walk_term_of dc_Walk_term_of pm_Walk_term_of cd_Walk_term_of ct_Walk_term_of oc_Walk_load kV_Walk_load dc_Walk_load pm_Walk_load cd_Walk_load ct_Walk_load oc_Walk_init kV_Walk_init dc_Walk_init pm_Walk_init cd_Walk_init ct_Walk_init oc_Walk_step kV_Walk_step dc_Walk_step pm_Walk_step cd_Walk_step ct_Walk_step oc_Walk_look_at_cells kV_Walk_look_at_cells dc_Walk_look_at_cells pm_Walk_look_at_cells cd_Walk_look_at_cells ct_Walk_look_at_cells oc_Walk_go kV_Walk_go dc_Walk_go pm_Walk_go cd_Walk_go ct_Walk_go oc_Walk_take kV_Walk_take dc_Walk_take pm_Walk_take cd_Walk_take ct_Walk_take oc_put_in kV_put_in dc_put_in pm_put_in cd_put_in ct_put_in oc_Near_init kV_Near_init dc_Near_init pm_Near_init cd_Near_init ct_Near_init oc_Near_with_bounds kV_Near_with_bounds dc_Near_with_bounds pm_Near_with_bounds cd_Near_with_bounds ct_Near_with_bounds oc_walk_by kV_walk_by dc_walk_by pm_walk_by cd_walk_by ct_walk_by oc_values_of kV_values_of dc_values_of pm_values_of cd_values_of ct_values_of oc_least_packet kV_least_packet dc_least_packet pm_least_packet cd_least_packet ct_least_packet oc_packet_along kV_packet_along dc_packet_along pm_packet_along cd_packet_along ct_packet_along oc_along kV_along dc_along pm_along cd_along ct_along oc_l_sums kV_l_sums dc_l_sums pm_l_sums cd_l_sums ct_l_sums oc_l_number kV_l_number dc_l_number pm_l_number cd_l_number ct_l_number oc_l_text kV_l_text dc_l_text pm_l_text cd_l_text ct_l_text oc_l_packet kV_l_packet dc_l_packet pm_l_packet cd_l_packet ct_l_packet oc_l_lacks kV_l_lacks dc_l_lacks pm_l_lacks cd_l_lacks ct_l_lacks oc_l_instruction kV_l_instruction dc_l_instruction pm_l_instruction cd_l_instruction ct_l_instruction oc_l_program kV_l_program dc_l_program pm_l_program cd_l_program ct_l_program oc_l_is_int kV_l_is_int dc_l_is_int pm_l_is_int cd_l_is_int ct_l_is_int oc_l_at_most kV_l_at_most dc_l_at_most pm_l_at_most cd_l_at_most ct_l_at_most oc_l_chosen kV_l_chosen dc_l_chosen pm_l_chosen cd_l_chosen ct_l_chosen oc_l_loaded kV_l_loaded dc_l_loaded pm_l_loaded cd_l_loaded ct_l_loaded oc_l_tested kV_l_tested dc_l_tested pm_l_tested cd_l_tested ct_l_tested oc_l_gone kV_l_gone dc_l_gone pm_l_gone cd_l_gone ct_l_gone oc_l_walked kV_l_walked dc_l_walked pm_l_walked cd_l_walked ct_l_walked oc_l_least kV_l_least dc_l_least pm_l_least cd_l_least ct_l_least oc_l_numbers kV_l_numbers dc_l_numbers pm_l_numbers cd_l_numbers ct_l_numbers oc_l_drawn_choices kV_l_drawn_choices dc_l_drawn_choices pm_l_drawn_choices cd_l_drawn_choices ct_l_drawn_choices oc_l_right kV_l_right dc_l_right pm_l_right cd_l_right ct_l_right oc_law kV_law dc_law pm_law cd_law ct_law : Value}
    {es_FORMS es_NEEDS : Array DictEntry} {n_FORMS n_NEEDS nn_copy nn_add nn_load nn_less nn_atmost nn_same nn_FIRST nn_FIRST_0 nn_FIRST_1 : Nat} {dd_copy dd_add dd_load dd_less dd_atmost dd_same dd_FIRST dd_FIRST_0 dd_FIRST_1 : Option Addr} {ss_copy ss_add ss_load ss_less ss_atmost ss_same ss_FIRST ss_FIRST_0 ss_FIRST_1 : Array (Option Value)} {rest_Pr_lines : List Value}
    (X : K.In h) (G : h.Ns mainGlobals mg) (hfa : mg "law" = some (.ref fa))
    (g_FIGURES : PySem.W.nsIn K mainGlobals "FIGURES" = some (some (.str "0123456789" tk_FIGURES)))
    (g_MOST_CELLS : PySem.W.nsIn K mainGlobals "MOST_CELLS" = some (some (.int 24 tk_MOST_CELLS)))
    (g_NOUGHT : PySem.W.nsIn K mainGlobals "NOUGHT" = some (some (.int 0 tk_NOUGHT)))
    (g_LENGTH : PySem.W.nsIn K mainGlobals "LENGTH" = some (some (.int 1 tk_LENGTH)))
    (g_MOST_CELL : PySem.W.nsIn K mainGlobals "MOST_CELL" = some (some (.int 255 tk_MOST_CELL)))
    (g_MOST_LINES : PySem.W.nsIn K mainGlobals "MOST_LINES" = some (some (.int 200 tk_MOST_LINES)))
    (g_MOST_NUMBER : PySem.W.nsIn K mainGlobals "MOST_NUMBER" = some (some (.int 9999 tk_MOST_NUMBER)))
    (g_REGISTERS : PySem.W.nsIn K mainGlobals "REGISTERS" = some (some (.str "abcdef" tk_REGISTERS)))
    (g_WRONG : PySem.W.nsIn K mainGlobals "WRONG" = some (some (.str "wrong" tk_WRONG)))
    (g_UNSET : PySem.W.nsIn K mainGlobals "UNSET" = some (some (.str "unset" tk_UNSET)))
    (g_BEYOND : PySem.W.nsIn K mainGlobals "BEYOND" = some (some (.str "beyond" tk_BEYOND)))
    (g_END : PySem.W.nsIn K mainGlobals "END" = some (some (.str "end" tk_END)))
    (z_isinstance : PySem.W.nsIn K mainGlobals "isinstance" = some none)
    (z_len : PySem.W.nsIn K mainGlobals "len" = some none)
    (z_all : PySem.W.nsIn K mainGlobals "all" = some none)
    (z_any : PySem.W.nsIn K mainGlobals "any" = some none)
    (z_min : PySem.W.nsIn K mainGlobals "min" = some none)
    (z_max : PySem.W.nsIn K mainGlobals "max" = some none)
    (z_abs : PySem.W.nsIn K mainGlobals "abs" = some none)
    (z_sum : PySem.W.nsIn K mainGlobals "sum" = some none)
    (z_repr : PySem.W.nsIn K mainGlobals "repr" = some none)
    (z_sorted : PySem.W.nsIn K mainGlobals "sorted" = some none)
    (z_int : PySem.W.nsIn K mainGlobals "int" = some none)
    (z_bool : PySem.W.nsIn K mainGlobals "bool" = some none)
    (z_str : PySem.W.nsIn K mainGlobals "str" = some none)
    (z_tuple : PySem.W.nsIn K mainGlobals "tuple" = some none)
    (z_list : PySem.W.nsIn K mainGlobals "list" = some none)
    (z_range : PySem.W.nsIn K mainGlobals "range" = some none)
    (z_enumerate : PySem.W.nsIn K mainGlobals "enumerate" = some none)
    (z_zip : PySem.W.nsIn K mainGlobals "zip" = some none)
    (cn_Program : PySem.W.nsIn K mainGlobals "Program" = some (some (.ref C_Program)))
    (pg_Program : PySem.W.plainGet K C_Program Str.empty = true)
    (ic_Program : PySem.W.isClsIn K C_Program = true)
    (po_Program : PySem.W.plainOver K C_Program = true)
    (sa_Program : PySem.W.findIn K (.ref C_Program) "__setattr__" = some (some (.builtin "object.__setattr__")))
    (mk_Program : PySem.W.makesIn K C_Program = true)
    (kc_Program : PySem.W.keepIn K (.ref C_Program) = true)
    (q0_Program : PySem.W.findIn K (.ref C_Program) "own_lines" = some (some (.ref p0_Program)))
    (u0_Program : PySem.W.specialIn K (.ref p0_Program) "__get__" = some (some (.builtin "member_descriptor.__get__")))
    (v0_Program : PySem.W.takesIn K (.ref p0_Program) = some true)
    (w0_Program : PySem.W.typeIn K (.ref p0_Program) = some (.type "member_descriptor"))
    (x0_Program : PySem.W.slotIn K p0_Program C_Program = some 0)
    (q1_Program : PySem.W.findIn K (.ref C_Program) "own_text" = some (some (.ref p1_Program)))
    (u1_Program : PySem.W.specialIn K (.ref p1_Program) "__get__" = some (some (.builtin "member_descriptor.__get__")))
    (v1_Program : PySem.W.takesIn K (.ref p1_Program) = some true)
    (w1_Program : PySem.W.typeIn K (.ref p1_Program) = some (.type "member_descriptor"))
    (x1_Program : PySem.W.slotIn K p1_Program C_Program = some 1)
    (cn_Walk : PySem.W.nsIn K mainGlobals "Walk" = some (some (.ref C_Walk)))
    (pg_Walk : PySem.W.plainGet K C_Walk Str.empty = true)
    (ic_Walk : PySem.W.isClsIn K C_Walk = true)
    (po_Walk : PySem.W.plainOver K C_Walk = true)
    (sa_Walk : PySem.W.findIn K (.ref C_Walk) "__setattr__" = some (some (.builtin "object.__setattr__")))
    (mk_Walk : PySem.W.makesIn K C_Walk = true)
    (kc_Walk : PySem.W.keepIn K (.ref C_Walk) = true)
    (q0_Walk : PySem.W.findIn K (.ref C_Walk) "at" = some (some (.ref p0_Walk)))
    (u0_Walk : PySem.W.specialIn K (.ref p0_Walk) "__get__" = some (some (.builtin "member_descriptor.__get__")))
    (v0_Walk : PySem.W.takesIn K (.ref p0_Walk) = some true)
    (w0_Walk : PySem.W.typeIn K (.ref p0_Walk) = some (.type "member_descriptor"))
    (x0_Walk : PySem.W.slotIn K p0_Walk C_Walk = some 0)
    (q1_Walk : PySem.W.findIn K (.ref C_Walk) "bounds" = some (some (.ref p1_Walk)))
    (u1_Walk : PySem.W.specialIn K (.ref p1_Walk) "__get__" = some (some (.builtin "member_descriptor.__get__")))
    (v1_Walk : PySem.W.takesIn K (.ref p1_Walk) = some true)
    (w1_Walk : PySem.W.typeIn K (.ref p1_Walk) = some (.type "member_descriptor"))
    (x1_Walk : PySem.W.slotIn K p1_Walk C_Walk = some 1)
    (q2_Walk : PySem.W.findIn K (.ref C_Walk) "came" = some (some (.ref p2_Walk)))
    (u2_Walk : PySem.W.specialIn K (.ref p2_Walk) "__get__" = some (some (.builtin "member_descriptor.__get__")))
    (v2_Walk : PySem.W.takesIn K (.ref p2_Walk) = some true)
    (w2_Walk : PySem.W.typeIn K (.ref p2_Walk) = some (.type "member_descriptor"))
    (x2_Walk : PySem.W.slotIn K p2_Walk C_Walk = some 2)
    (q3_Walk : PySem.W.findIn K (.ref C_Walk) "cells" = some (some (.ref p3_Walk)))
    (u3_Walk : PySem.W.specialIn K (.ref p3_Walk) "__get__" = some (some (.builtin "member_descriptor.__get__")))
    (v3_Walk : PySem.W.takesIn K (.ref p3_Walk) = some true)
    (w3_Walk : PySem.W.typeIn K (.ref p3_Walk) = some (.type "member_descriptor"))
    (x3_Walk : PySem.W.slotIn K p3_Walk C_Walk = some 3)
    (q4_Walk : PySem.W.findIn K (.ref C_Walk) "ends" = some (some (.ref p4_Walk)))
    (u4_Walk : PySem.W.specialIn K (.ref p4_Walk) "__get__" = some (some (.builtin "member_descriptor.__get__")))
    (v4_Walk : PySem.W.takesIn K (.ref p4_Walk) = some true)
    (w4_Walk : PySem.W.typeIn K (.ref p4_Walk) = some (.type "member_descriptor"))
    (x4_Walk : PySem.W.slotIn K p4_Walk C_Walk = some 4)
    (q5_Walk : PySem.W.findIn K (.ref C_Walk) "many" = some (some (.ref p5_Walk)))
    (u5_Walk : PySem.W.specialIn K (.ref p5_Walk) "__get__" = some (some (.builtin "member_descriptor.__get__")))
    (v5_Walk : PySem.W.takesIn K (.ref p5_Walk) = some true)
    (w5_Walk : PySem.W.typeIn K (.ref p5_Walk) = some (.type "member_descriptor"))
    (x5_Walk : PySem.W.slotIn K p5_Walk C_Walk = some 5)
    (q6_Walk : PySem.W.findIn K (.ref C_Walk) "options" = some (some (.ref p6_Walk)))
    (u6_Walk : PySem.W.specialIn K (.ref p6_Walk) "__get__" = some (some (.builtin "member_descriptor.__get__")))
    (v6_Walk : PySem.W.takesIn K (.ref p6_Walk) = some true)
    (w6_Walk : PySem.W.typeIn K (.ref p6_Walk) = some (.type "member_descriptor"))
    (x6_Walk : PySem.W.slotIn K p6_Walk C_Walk = some 6)
    (q7_Walk : PySem.W.findIn K (.ref C_Walk) "pending" = some (some (.ref p7_Walk)))
    (u7_Walk : PySem.W.specialIn K (.ref p7_Walk) "__get__" = some (some (.builtin "member_descriptor.__get__")))
    (v7_Walk : PySem.W.takesIn K (.ref p7_Walk) = some true)
    (w7_Walk : PySem.W.typeIn K (.ref p7_Walk) = some (.type "member_descriptor"))
    (x7_Walk : PySem.W.slotIn K p7_Walk C_Walk = some 7)
    (q8_Walk : PySem.W.findIn K (.ref C_Walk) "programs" = some (some (.ref p8_Walk)))
    (u8_Walk : PySem.W.specialIn K (.ref p8_Walk) "__get__" = some (some (.builtin "member_descriptor.__get__")))
    (v8_Walk : PySem.W.takesIn K (.ref p8_Walk) = some true)
    (w8_Walk : PySem.W.typeIn K (.ref p8_Walk) = some (.type "member_descriptor"))
    (x8_Walk : PySem.W.slotIn K p8_Walk C_Walk = some 8)
    (q9_Walk : PySem.W.findIn K (.ref C_Walk) "terms" = some (some (.ref p9_Walk)))
    (u9_Walk : PySem.W.specialIn K (.ref p9_Walk) "__get__" = some (some (.builtin "member_descriptor.__get__")))
    (v9_Walk : PySem.W.takesIn K (.ref p9_Walk) = some true)
    (w9_Walk : PySem.W.typeIn K (.ref p9_Walk) = some (.type "member_descriptor"))
    (x9_Walk : PySem.W.slotIn K p9_Walk C_Walk = some 9)
    (cn_Near : PySem.W.nsIn K mainGlobals "Near" = some (some (.ref C_Near)))
    (pg_Near : PySem.W.plainGet K C_Near Str.empty = true)
    (ic_Near : PySem.W.isClsIn K C_Near = true)
    (po_Near : PySem.W.plainOver K C_Near = true)
    (sa_Near : PySem.W.findIn K (.ref C_Near) "__setattr__" = some (some (.builtin "object.__setattr__")))
    (mk_Near : PySem.W.makesIn K C_Near = true)
    (kc_Near : PySem.W.keepIn K (.ref C_Near) = true)
    (q0_Near : PySem.W.findIn K (.ref C_Near) "sums" = some (some (.ref p0_Near)))
    (u0_Near : PySem.W.specialIn K (.ref p0_Near) "__get__" = some (some (.builtin "member_descriptor.__get__")))
    (v0_Near : PySem.W.takesIn K (.ref p0_Near) = some true)
    (w0_Near : PySem.W.typeIn K (.ref p0_Near) = some (.type "member_descriptor"))
    (x0_Near : PySem.W.slotIn K p0_Near C_Near = some 0)
    (a_FORMS : PySem.W.nsIn K mainGlobals "FORMS" = some (some (.ref dF)))
    (l_FORMS : K.lookup dF = some ⟨.type "dict", none, .dict es_FORMS n_FORMS, #[]⟩)
    (kl_FORMS : PySem.W.KeysLit w.params es_FORMS.toList)
    (lo_FORMS : (dF == sysModules) = false)
    (w_FORMS_set : PySem.W.nsIn K dF "set" = some (some (.str "rn" tk_FORMS_set)))
    (w_FORMS_copy : PySem.W.nsIn K dF "copy" = some (some (.str "rr" tk_FORMS_copy)))
    (w_FORMS_add : PySem.W.nsIn K dF "add" = some (some (.str "rn" tk_FORMS_add)))
    (w_FORMS_length : PySem.W.nsIn K dF "length" = some (some (.str "r" tk_FORMS_length)))
    (w_FORMS_load : PySem.W.nsIn K dF "load" = some (some (.str "rrn" tk_FORMS_load)))
    (w_FORMS_jump : PySem.W.nsIn K dF "jump" = some (some (.str "l" tk_FORMS_jump)))
    (w_FORMS_less : PySem.W.nsIn K dF "less" = some (some (.str "rrnl" tk_FORMS_less)))
    (w_FORMS_atmost : PySem.W.nsIn K dF "atmost" = some (some (.str "rnl" tk_FORMS_atmost)))
    (w_FORMS_same : PySem.W.nsIn K dF "same" = some (some (.str "rnl" tk_FORMS_same)))
    (w_FORMS_pass : PySem.W.nsIn K dF "pass" = some (some (.str "" tk_FORMS_pass)))
    (w_FORMS_drop : PySem.W.nsIn K dF "drop" = some (some (.str "" tk_FORMS_drop)))
    (a_NEEDS : PySem.W.nsIn K mainGlobals "NEEDS" = some (some (.ref dN)))
    (l_NEEDS : K.lookup dN = some ⟨.type "dict", none, .dict es_NEEDS n_NEEDS, #[]⟩)
    (kl_NEEDS : PySem.W.KeysLit w.params es_NEEDS.toList)
    (lo_NEEDS : (dN == sysModules) = false)
    (w_NEEDS_set : PySem.W.nsIn K dN "set" = some none)
    (w_NEEDS_copy : PySem.W.nsIn K dN "copy" = some (some (.ref ta_copy)))
    (y_NEEDS_copy : K.lookup ta_copy = some ⟨.type "tuple", dd_copy, .seq #[.int 2 tk_NEEDS_copy_0] nn_copy, ss_copy⟩)
    (w_NEEDS_add : PySem.W.nsIn K dN "add" = some (some (.ref ta_add)))
    (y_NEEDS_add : K.lookup ta_add = some ⟨.type "tuple", dd_add, .seq #[.int 1 tk_NEEDS_add_0] nn_add, ss_add⟩)
    (w_NEEDS_length : PySem.W.nsIn K dN "length" = some none)
    (w_NEEDS_load : PySem.W.nsIn K dN "load" = some (some (.ref ta_load)))
    (y_NEEDS_load : K.lookup ta_load = some ⟨.type "tuple", dd_load, .seq #[.int 2 tk_NEEDS_load_0] nn_load, ss_load⟩)
    (w_NEEDS_jump : PySem.W.nsIn K dN "jump" = some none)
    (w_NEEDS_less : PySem.W.nsIn K dN "less" = some (some (.ref ta_less)))
    (y_NEEDS_less : K.lookup ta_less = some ⟨.type "tuple", dd_less, .seq #[.int 1 tk_NEEDS_less_0, .int 2 tk_NEEDS_less_1] nn_less, ss_less⟩)
    (w_NEEDS_atmost : PySem.W.nsIn K dN "atmost" = some (some (.ref ta_atmost)))
    (y_NEEDS_atmost : K.lookup ta_atmost = some ⟨.type "tuple", dd_atmost, .seq #[.int 1 tk_NEEDS_atmost_0] nn_atmost, ss_atmost⟩)
    (w_NEEDS_same : PySem.W.nsIn K dN "same" = some (some (.ref ta_same)))
    (y_NEEDS_same : K.lookup ta_same = some ⟨.type "tuple", dd_same, .seq #[.int 1 tk_NEEDS_same_0] nn_same, ss_same⟩)
    (w_NEEDS_pass : PySem.W.nsIn K dN "pass" = some none)
    (w_NEEDS_drop : PySem.W.nsIn K dN "drop" = some none)
    (a_FIRST : PySem.W.nsIn K mainGlobals "FIRST" = some (some (.ref ta_FIRST)))
    (y_FIRST : K.lookup ta_FIRST = some ⟨.type "tuple", dd_FIRST, .seq #[.ref ta_FIRST_0, .ref ta_FIRST_1] nn_FIRST, ss_FIRST⟩)
    (y_FIRST_0 : K.lookup ta_FIRST_0 = some ⟨.type "tuple", dd_FIRST_0, .seq #[.int 1 tk_FIRST_0_0, .int 0 tk_FIRST_0_1, .int 24 tk_FIRST_0_2] nn_FIRST_0, ss_FIRST_0⟩)
    (y_FIRST_1 : K.lookup ta_FIRST_1 = some ⟨.type "tuple", dd_FIRST_1, .seq #[.int 0 tk_FIRST_1_0, .int 1 tk_FIRST_1_1, .int (-1) tk_FIRST_1_2] nn_FIRST_1, ss_FIRST_1⟩)
    (a_l_take : PySem.W.nsIn K mainGlobals "_law_take" = some (some (.ref f_l_take)))
    (l_l_take : K.lookup f_l_take = some ⟨oc_l_take, od_l_take, .func (PySem.W.fnOf "_law_take" "_law_take" (defArgs s_l_take) (defBody s_l_take) (defScope s_l_take) .none kV_l_take dc_l_take pm_l_take an_l_take cd_l_take ct_l_take), sl_l_take⟩)
    (c_l_take : PySem.W.codeIn K cd_l_take "_law_take" = true)
    (k_l_take : PySem.W.keepIn K (.ref f_l_take) = true)
    (a_l_of : PySem.W.nsIn K mainGlobals "_law_of" = some (some (.ref f_l_of)))
    (l_l_of : K.lookup f_l_of = some ⟨oc_l_of, od_l_of, .func (PySem.W.fnOf "_law_of" "_law_of" (defArgs s_l_of) (defBody s_l_of) (defScope s_l_of) .none kV_l_of dc_l_of pm_l_of an_l_of cd_l_of ct_l_of), sl_l_of⟩)
    (c_l_of : PySem.W.codeIn K cd_l_of "_law_of" = true)
    (k_l_of : PySem.W.keepIn K (.ref f_l_of) = true)
    (a_l_cells : PySem.W.nsIn K mainGlobals "_law_cells" = some (some (.ref f_l_cells)))
    (l_l_cells : K.lookup f_l_cells = some ⟨oc_l_cells, od_l_cells, .func (PySem.W.fnOf "_law_cells" "_law_cells" (defArgs s_l_cells) (defBody s_l_cells) (defScope s_l_cells) .none kV_l_cells dc_l_cells pm_l_cells an_l_cells cd_l_cells ct_l_cells), sl_l_cells⟩)
    (c_l_cells : PySem.W.codeIn K cd_l_cells "_law_cells" = true)
    (k_l_cells : PySem.W.keepIn K (.ref f_l_cells) = true)
    (a_l_pot : PySem.W.nsIn K mainGlobals "_law_pot" = some (some (.ref f_l_pot)))
    (l_l_pot : K.lookup f_l_pot = some ⟨oc_l_pot, od_l_pot, .func (PySem.W.fnOf "_law_pot" "_law_pot" (defArgs s_l_pot) (defBody s_l_pot) (defScope s_l_pot) .none kV_l_pot dc_l_pot pm_l_pot an_l_pot cd_l_pot ct_l_pot), sl_l_pot⟩)
    (c_l_pot : PySem.W.codeIn K cd_l_pot "_law_pot" = true)
    (k_l_pot : PySem.W.keepIn K (.ref f_l_pot) = true)
    (a_number_in : PySem.W.nsIn K mainGlobals "number_in" = some (some (.ref f_number_in)))
    (l_number_in : K.lookup f_number_in = some ⟨oc_number_in, od_number_in, .func (PySem.W.fnOf "number_in" "number_in" (defArgs s_number_in) (defBody s_number_in) (defScope s_number_in) .none kV_number_in dc_number_in pm_number_in an_number_in cd_number_in ct_number_in), sl_number_in⟩)
    (c_number_in : PySem.W.codeIn K cd_number_in "number_in" = true)
    (k_number_in : PySem.W.keepIn K (.ref f_number_in) = true)
    (a_signed_in : PySem.W.nsIn K mainGlobals "signed_in" = some (some (.ref f_signed_in)))
    (l_signed_in : K.lookup f_signed_in = some ⟨oc_signed_in, od_signed_in, .func (PySem.W.fnOf "signed_in" "signed_in" (defArgs s_signed_in) (defBody s_signed_in) (defScope s_signed_in) .none kV_signed_in dc_signed_in pm_signed_in an_signed_in cd_signed_in ct_signed_in), sl_signed_in⟩)
    (c_signed_in : PySem.W.codeIn K cd_signed_in "signed_in" = true)
    (k_signed_in : PySem.W.keepIn K (.ref f_signed_in) = true)
    (a_word_in : PySem.W.nsIn K mainGlobals "word_in" = some (some (.ref f_word_in)))
    (l_word_in : K.lookup f_word_in = some ⟨oc_word_in, od_word_in, .func (PySem.W.fnOf "word_in" "word_in" (defArgs s_word_in) (defBody s_word_in) (defScope s_word_in) .none kV_word_in dc_word_in pm_word_in an_word_in cd_word_in ct_word_in), sl_word_in⟩)
    (c_word_in : PySem.W.codeIn K cd_word_in "word_in" = true)
    (k_word_in : PySem.W.keepIn K (.ref f_word_in) = true)
    (a_instruction_in : PySem.W.nsIn K mainGlobals "instruction_in" = some (some (.ref f_instruction_in)))
    (l_instruction_in : K.lookup f_instruction_in = some ⟨oc_instruction_in, od_instruction_in, .func (PySem.W.fnOf "instruction_in" "instruction_in" (defArgs s_instruction_in) (defBody s_instruction_in) (defScope s_instruction_in) .none kV_instruction_in dc_instruction_in pm_instruction_in an_instruction_in cd_instruction_in ct_instruction_in), sl_instruction_in⟩)
    (c_instruction_in : PySem.W.codeIn K cd_instruction_in "instruction_in" = true)
    (k_instruction_in : PySem.W.keepIn K (.ref f_instruction_in) = true)
    (a_read_lines : PySem.W.nsIn K mainGlobals "read_lines" = some (some (.ref f_read_lines)))
    (l_read_lines : K.lookup f_read_lines = some ⟨oc_read_lines, od_read_lines, .func (PySem.W.fnOf "read_lines" "read_lines" (defArgs s_read_lines) (defBody s_read_lines) (defScope s_read_lines) .none kV_read_lines dc_read_lines pm_read_lines an_read_lines cd_read_lines ct_read_lines), sl_read_lines⟩)
    (c_read_lines : PySem.W.codeIn K cd_read_lines "read_lines" = true)
    (k_read_lines : PySem.W.keepIn K (.ref f_read_lines) = true)
    (a_Pr_init : PySem.W.findIn K (.ref C_Program) "__init__" = some (some (.ref f_Pr_init)))
    (i_Pr_init : PySem.W.isFn K (.ref f_Pr_init) = true)
    (l_Pr_init : K.lookup f_Pr_init = some ⟨oc_Pr_init, od_Pr_init, .func (PySem.W.fnOf "__init__" "Program.__init__" (defArgs s_Pr_init) (defBody s_Pr_init) (defScope s_Pr_init) .none kV_Pr_init dc_Pr_init pm_Pr_init an_Pr_init cd_Pr_init ct_Pr_init), sl_Pr_init⟩)
    (c_Pr_init : PySem.W.codeIn K cd_Pr_init "Program.__init__" = true)
    (k_Pr_init : PySem.W.keepIn K (.ref f_Pr_init) = true)
    (a_Pr_lines : PySem.W.findIn K (.ref C_Program) "lines" = some (some (.ref pp_Pr_lines)))
    (u_Pr_lines : PySem.W.specialIn K (.ref pp_Pr_lines) "__get__" = some (some (.builtin "property.__get__")))
    (v_Pr_lines : PySem.W.takesIn K (.ref pp_Pr_lines) = some true)
    (r_Pr_lines : PySem.W.recIn K pp_Pr_lines "property" = some (.ref f_Pr_lines :: rest_Pr_lines))
    (l_Pr_lines : K.lookup f_Pr_lines = some ⟨oc_Pr_lines, od_Pr_lines, .func (PySem.W.fnOf "lines" "Program.lines" (defArgs s_Pr_lines) (defBody s_Pr_lines) (defScope s_Pr_lines) .none kV_Pr_lines dc_Pr_lines pm_Pr_lines an_Pr_lines cd_Pr_lines ct_Pr_lines), sl_Pr_lines⟩)
    (c_Pr_lines : PySem.W.codeIn K cd_Pr_lines "Program.lines" = true)
    (k_Pr_lines : PySem.W.keepIn K (.ref f_Pr_lines) = true)
    (a_is_int : PySem.W.nsIn K mainGlobals "is_int" = some (some (.ref f_is_int)))
    (l_is_int : K.lookup f_is_int = some ⟨oc_is_int, od_is_int, .func (PySem.W.fnOf "is_int" "is_int" (defArgs s_is_int) (defBody s_is_int) (defScope s_is_int) .none kV_is_int dc_is_int pm_is_int an_is_int cd_is_int ct_is_int), sl_is_int⟩)
    (c_is_int : PySem.W.codeIn K cd_is_int "is_int" = true)
    (k_is_int : PySem.W.keepIn K (.ref f_is_int) = true)
    (a_is_packet : PySem.W.nsIn K mainGlobals "is_packet" = some (some (.ref f_is_packet)))
    (l_is_packet : K.lookup f_is_packet = some ⟨oc_is_packet, od_is_packet, .func (PySem.W.fnOf "is_packet" "is_packet" (defArgs s_is_packet) (defBody s_is_packet) (defScope s_is_packet) .none kV_is_packet dc_is_packet pm_is_packet an_is_packet cd_is_packet ct_is_packet), sl_is_packet⟩)
    (c_is_packet : PySem.W.codeIn K cd_is_packet "is_packet" = true)
    (k_is_packet : PySem.W.keepIn K (.ref f_is_packet) = true)
    (a_look_at_packet : PySem.W.nsIn K mainGlobals "look_at_packet" = some (some (.ref f_look_at_packet)))
    (l_look_at_packet : K.lookup f_look_at_packet = some ⟨oc_look_at_packet, od_look_at_packet, .func (PySem.W.fnOf "look_at_packet" "look_at_packet" (defArgs s_look_at_packet) (defBody s_look_at_packet) (defScope s_look_at_packet) .none kV_look_at_packet dc_look_at_packet pm_look_at_packet an_look_at_packet cd_look_at_packet ct_look_at_packet), sl_look_at_packet⟩)
    (c_look_at_packet : PySem.W.codeIn K cd_look_at_packet "look_at_packet" = true)
    (k_look_at_packet : PySem.W.keepIn K (.ref f_look_at_packet) = true)
    (a_is_unset : PySem.W.nsIn K mainGlobals "is_unset" = some (some (.ref f_is_unset)))
    (l_is_unset : K.lookup f_is_unset = some ⟨oc_is_unset, od_is_unset, .func (PySem.W.fnOf "is_unset" "is_unset" (defArgs s_is_unset) (defBody s_is_unset) (defScope s_is_unset) .none kV_is_unset dc_is_unset pm_is_unset an_is_unset cd_is_unset ct_is_unset), sl_is_unset⟩)
    (c_is_unset : PySem.W.codeIn K cd_is_unset "is_unset" = true)
    (k_is_unset : PySem.W.keepIn K (.ref f_is_unset) = true)
    (a_at_most : PySem.W.nsIn K mainGlobals "at_most" = some (some (.ref f_at_most)))
    (l_at_most : K.lookup f_at_most = some ⟨oc_at_most, od_at_most, .func (PySem.W.fnOf "at_most" "at_most" (defArgs s_at_most) (defBody s_at_most) (defScope s_at_most) .none kV_at_most dc_at_most pm_at_most an_at_most cd_at_most ct_at_most), sl_at_most⟩)
    (c_at_most : PySem.W.codeIn K cd_at_most "at_most" = true)
    (k_at_most : PySem.W.keepIn K (.ref f_at_most) = true)
    (a_cell_options : PySem.W.nsIn K mainGlobals "cell_options" = some (some (.ref f_cell_options)))
    (l_cell_options : K.lookup f_cell_options = some ⟨oc_cell_options, od_cell_options, .func (PySem.W.fnOf "cell_options" "cell_options" (defArgs s_cell_options) (defBody s_cell_options) (defScope s_cell_options) .none kV_cell_options dc_cell_options pm_cell_options an_cell_options cd_cell_options ct_cell_options), sl_cell_options⟩)
    (c_cell_options : PySem.W.codeIn K cd_cell_options "cell_options" = true)
    (k_cell_options : PySem.W.keepIn K (.ref f_cell_options) = true)
    (a_place_options : PySem.W.nsIn K mainGlobals "place_options" = some (some (.ref f_place_options)))
    (l_place_options : K.lookup f_place_options = some ⟨oc_place_options, od_place_options, .func (PySem.W.fnOf "place_options" "place_options" (defArgs s_place_options) (defBody s_place_options) (defScope s_place_options) .none kV_place_options dc_place_options pm_place_options an_place_options cd_place_options ct_place_options), sl_place_options⟩)
    (c_place_options : PySem.W.codeIn K cd_place_options "place_options" = true)
    (k_place_options : PySem.W.keepIn K (.ref f_place_options) = true)
    (a_test_options : PySem.W.nsIn K mainGlobals "test_options" = some (some (.ref f_test_options)))
    (l_test_options : K.lookup f_test_options = some ⟨oc_test_options, od_test_options, .func (PySem.W.fnOf "test_options" "test_options" (defArgs s_test_options) (defBody s_test_options) (defScope s_test_options) .none kV_test_options dc_test_options pm_test_options an_test_options cd_test_options ct_test_options), sl_test_options⟩)
    (c_test_options : PySem.W.codeIn K cd_test_options "test_options" = true)
    (k_test_options : PySem.W.keepIn K (.ref f_test_options) = true)
    (a_Walk_is_ended : PySem.W.findIn K (.ref C_Walk) "is_ended" = some (some (.ref f_Walk_is_ended)))
    (i_Walk_is_ended : PySem.W.isFn K (.ref f_Walk_is_ended) = true)
    (l_Walk_is_ended : K.lookup f_Walk_is_ended = some ⟨oc_Walk_is_ended, od_Walk_is_ended, .func (PySem.W.fnOf "is_ended" "Walk.is_ended" (defArgs s_Walk_is_ended) (defBody s_Walk_is_ended) (defScope s_Walk_is_ended) .none kV_Walk_is_ended dc_Walk_is_ended pm_Walk_is_ended an_Walk_is_ended cd_Walk_is_ended ct_Walk_is_ended), sl_Walk_is_ended⟩)
    (c_Walk_is_ended : PySem.W.codeIn K cd_Walk_is_ended "Walk.is_ended" = true)
    (k_Walk_is_ended : PySem.W.keepIn K (.ref f_Walk_is_ended) = true)
    (a_Walk_instruction : PySem.W.findIn K (.ref C_Walk) "instruction" = some (some (.ref f_Walk_instruction)))
    (i_Walk_instruction : PySem.W.isFn K (.ref f_Walk_instruction) = true)
    (l_Walk_instruction : K.lookup f_Walk_instruction = some ⟨oc_Walk_instruction, od_Walk_instruction, .func (PySem.W.fnOf "instruction" "Walk.instruction" (defArgs s_Walk_instruction) (defBody s_Walk_instruction) (defScope s_Walk_instruction) .none kV_Walk_instruction dc_Walk_instruction pm_Walk_instruction an_Walk_instruction cd_Walk_instruction ct_Walk_instruction), sl_Walk_instruction⟩)
    (c_Walk_instruction : PySem.W.codeIn K cd_Walk_instruction "Walk.instruction" = true)
    (k_Walk_instruction : PySem.W.keepIn K (.ref f_Walk_instruction) = true)
    (a_Walk_finish : PySem.W.findIn K (.ref C_Walk) "finish" = some (some (.ref f_Walk_finish)))
    (i_Walk_finish : PySem.W.isFn K (.ref f_Walk_finish) = true)
    (l_Walk_finish : K.lookup f_Walk_finish = some ⟨oc_Walk_finish, od_Walk_finish, .func (PySem.W.fnOf "finish" "Walk.finish" (defArgs s_Walk_finish) (defBody s_Walk_finish) (defScope s_Walk_finish) .none kV_Walk_finish dc_Walk_finish pm_Walk_finish an_Walk_finish cd_Walk_finish ct_Walk_finish), sl_Walk_finish⟩)
    (c_Walk_finish : PySem.W.codeIn K cd_Walk_finish "Walk.finish" = true)
    (k_Walk_finish : PySem.W.keepIn K (.ref f_Walk_finish) = true)
    (a_Walk_place_of : PySem.W.findIn K (.ref C_Walk) "place_of" = some (some (.ref f_Walk_place_of)))
    (i_Walk_place_of : PySem.W.isFn K (.ref f_Walk_place_of) = true)
    (l_Walk_place_of : K.lookup f_Walk_place_of = some ⟨oc_Walk_place_of, od_Walk_place_of, .func (PySem.W.fnOf "place_of" "Walk.place_of" (defArgs s_Walk_place_of) (defBody s_Walk_place_of) (defScope s_Walk_place_of) .none kV_Walk_place_of dc_Walk_place_of pm_Walk_place_of an_Walk_place_of cd_Walk_place_of ct_Walk_place_of), sl_Walk_place_of⟩)
    (c_Walk_place_of : PySem.W.codeIn K cd_Walk_place_of "Walk.place_of" = true)
    (k_Walk_place_of : PySem.W.keepIn K (.ref f_Walk_place_of) = true)
    (a_Walk_term_of : PySem.W.findIn K (.ref C_Walk) "term_of" = some (some (.ref f_Walk_term_of)))
    (i_Walk_term_of : PySem.W.isFn K (.ref f_Walk_term_of) = true)
    (l_Walk_term_of : K.lookup f_Walk_term_of = some ⟨oc_Walk_term_of, od_Walk_term_of, .func (PySem.W.fnOf "term_of" "Walk.term_of" (defArgs s_Walk_term_of) (defBody s_Walk_term_of) (defScope s_Walk_term_of) .none kV_Walk_term_of dc_Walk_term_of pm_Walk_term_of an_Walk_term_of cd_Walk_term_of ct_Walk_term_of), sl_Walk_term_of⟩)
    (c_Walk_term_of : PySem.W.codeIn K cd_Walk_term_of "Walk.term_of" = true)
    (k_Walk_term_of : PySem.W.keepIn K (.ref f_Walk_term_of) = true)
    (a_Walk_load : PySem.W.findIn K (.ref C_Walk) "load" = some (some (.ref f_Walk_load)))
    (i_Walk_load : PySem.W.isFn K (.ref f_Walk_load) = true)
    (l_Walk_load : K.lookup f_Walk_load = some ⟨oc_Walk_load, od_Walk_load, .func (PySem.W.fnOf "load" "Walk.load" (defArgs s_Walk_load) (defBody s_Walk_load) (defScope s_Walk_load) .none kV_Walk_load dc_Walk_load pm_Walk_load an_Walk_load cd_Walk_load ct_Walk_load), sl_Walk_load⟩)
    (c_Walk_load : PySem.W.codeIn K cd_Walk_load "Walk.load" = true)
    (k_Walk_load : PySem.W.keepIn K (.ref f_Walk_load) = true)
    (a_Walk_init : PySem.W.findIn K (.ref C_Walk) "__init__" = some (some (.ref f_Walk_init)))
    (i_Walk_init : PySem.W.isFn K (.ref f_Walk_init) = true)
    (l_Walk_init : K.lookup f_Walk_init = some ⟨oc_Walk_init, od_Walk_init, .func (PySem.W.fnOf "__init__" "Walk.__init__" (defArgs s_Walk_init) (defBody s_Walk_init) (defScope s_Walk_init) .none kV_Walk_init dc_Walk_init pm_Walk_init an_Walk_init cd_Walk_init ct_Walk_init), sl_Walk_init⟩)
    (c_Walk_init : PySem.W.codeIn K cd_Walk_init "Walk.__init__" = true)
    (k_Walk_init : PySem.W.keepIn K (.ref f_Walk_init) = true)
    (a_Walk_step : PySem.W.findIn K (.ref C_Walk) "step" = some (some (.ref f_Walk_step)))
    (i_Walk_step : PySem.W.isFn K (.ref f_Walk_step) = true)
    (l_Walk_step : K.lookup f_Walk_step = some ⟨oc_Walk_step, od_Walk_step, .func (PySem.W.fnOf "step" "Walk.step" (defArgs s_Walk_step) (defBody s_Walk_step) (defScope s_Walk_step) .none kV_Walk_step dc_Walk_step pm_Walk_step an_Walk_step cd_Walk_step ct_Walk_step), sl_Walk_step⟩)
    (c_Walk_step : PySem.W.codeIn K cd_Walk_step "Walk.step" = true)
    (k_Walk_step : PySem.W.keepIn K (.ref f_Walk_step) = true)
    (a_Walk_look_at_cells : PySem.W.findIn K (.ref C_Walk) "look_at_cells" = some (some (.ref f_Walk_look_at_cells)))
    (i_Walk_look_at_cells : PySem.W.isFn K (.ref f_Walk_look_at_cells) = true)
    (l_Walk_look_at_cells : K.lookup f_Walk_look_at_cells = some ⟨oc_Walk_look_at_cells, od_Walk_look_at_cells, .func (PySem.W.fnOf "look_at_cells" "Walk.look_at_cells" (defArgs s_Walk_look_at_cells) (defBody s_Walk_look_at_cells) (defScope s_Walk_look_at_cells) .none kV_Walk_look_at_cells dc_Walk_look_at_cells pm_Walk_look_at_cells an_Walk_look_at_cells cd_Walk_look_at_cells ct_Walk_look_at_cells), sl_Walk_look_at_cells⟩)
    (c_Walk_look_at_cells : PySem.W.codeIn K cd_Walk_look_at_cells "Walk.look_at_cells" = true)
    (k_Walk_look_at_cells : PySem.W.keepIn K (.ref f_Walk_look_at_cells) = true)
    (a_Walk_go : PySem.W.findIn K (.ref C_Walk) "go" = some (some (.ref f_Walk_go)))
    (i_Walk_go : PySem.W.isFn K (.ref f_Walk_go) = true)
    (l_Walk_go : K.lookup f_Walk_go = some ⟨oc_Walk_go, od_Walk_go, .func (PySem.W.fnOf "go" "Walk.go" (defArgs s_Walk_go) (defBody s_Walk_go) (defScope s_Walk_go) .none kV_Walk_go dc_Walk_go pm_Walk_go an_Walk_go cd_Walk_go ct_Walk_go), sl_Walk_go⟩)
    (c_Walk_go : PySem.W.codeIn K cd_Walk_go "Walk.go" = true)
    (k_Walk_go : PySem.W.keepIn K (.ref f_Walk_go) = true)
    (a_Walk_take : PySem.W.findIn K (.ref C_Walk) "take" = some (some (.ref f_Walk_take)))
    (i_Walk_take : PySem.W.isFn K (.ref f_Walk_take) = true)
    (l_Walk_take : K.lookup f_Walk_take = some ⟨oc_Walk_take, od_Walk_take, .func (PySem.W.fnOf "take" "Walk.take" (defArgs s_Walk_take) (defBody s_Walk_take) (defScope s_Walk_take) .none kV_Walk_take dc_Walk_take pm_Walk_take an_Walk_take cd_Walk_take ct_Walk_take), sl_Walk_take⟩)
    (c_Walk_take : PySem.W.codeIn K cd_Walk_take "Walk.take" = true)
    (k_Walk_take : PySem.W.keepIn K (.ref f_Walk_take) = true)
    (a_put_in : PySem.W.nsIn K mainGlobals "put_in" = some (some (.ref f_put_in)))
    (l_put_in : K.lookup f_put_in = some ⟨oc_put_in, od_put_in, .func (PySem.W.fnOf "put_in" "put_in" (defArgs s_put_in) (defBody s_put_in) (defScope s_put_in) .none kV_put_in dc_put_in pm_put_in an_put_in cd_put_in ct_put_in), sl_put_in⟩)
    (c_put_in : PySem.W.codeIn K cd_put_in "put_in" = true)
    (k_put_in : PySem.W.keepIn K (.ref f_put_in) = true)
    (a_Near_init : PySem.W.findIn K (.ref C_Near) "__init__" = some (some (.ref f_Near_init)))
    (i_Near_init : PySem.W.isFn K (.ref f_Near_init) = true)
    (l_Near_init : K.lookup f_Near_init = some ⟨oc_Near_init, od_Near_init, .func (PySem.W.fnOf "__init__" "Near.__init__" (defArgs s_Near_init) (defBody s_Near_init) (defScope s_Near_init) .none kV_Near_init dc_Near_init pm_Near_init an_Near_init cd_Near_init ct_Near_init), sl_Near_init⟩)
    (c_Near_init : PySem.W.codeIn K cd_Near_init "Near.__init__" = true)
    (k_Near_init : PySem.W.keepIn K (.ref f_Near_init) = true)
    (a_Near_with_bounds : PySem.W.findIn K (.ref C_Near) "with_bounds" = some (some (.ref f_Near_with_bounds)))
    (i_Near_with_bounds : PySem.W.isFn K (.ref f_Near_with_bounds) = true)
    (l_Near_with_bounds : K.lookup f_Near_with_bounds = some ⟨oc_Near_with_bounds, od_Near_with_bounds, .func (PySem.W.fnOf "with_bounds" "Near.with_bounds" (defArgs s_Near_with_bounds) (defBody s_Near_with_bounds) (defScope s_Near_with_bounds) .none kV_Near_with_bounds dc_Near_with_bounds pm_Near_with_bounds an_Near_with_bounds cd_Near_with_bounds ct_Near_with_bounds), sl_Near_with_bounds⟩)
    (c_Near_with_bounds : PySem.W.codeIn K cd_Near_with_bounds "Near.with_bounds" = true)
    (k_Near_with_bounds : PySem.W.keepIn K (.ref f_Near_with_bounds) = true)
    (a_walk_by : PySem.W.nsIn K mainGlobals "walk_by" = some (some (.ref f_walk_by)))
    (l_walk_by : K.lookup f_walk_by = some ⟨oc_walk_by, od_walk_by, .func (PySem.W.fnOf "walk_by" "walk_by" (defArgs s_walk_by) (defBody s_walk_by) (defScope s_walk_by) .none kV_walk_by dc_walk_by pm_walk_by an_walk_by cd_walk_by ct_walk_by), sl_walk_by⟩)
    (c_walk_by : PySem.W.codeIn K cd_walk_by "walk_by" = true)
    (k_walk_by : PySem.W.keepIn K (.ref f_walk_by) = true)
    (a_values_of : PySem.W.nsIn K mainGlobals "values_of" = some (some (.ref f_values_of)))
    (l_values_of : K.lookup f_values_of = some ⟨oc_values_of, od_values_of, .func (PySem.W.fnOf "values_of" "values_of" (defArgs s_values_of) (defBody s_values_of) (defScope s_values_of) .none kV_values_of dc_values_of pm_values_of an_values_of cd_values_of ct_values_of), sl_values_of⟩)
    (c_values_of : PySem.W.codeIn K cd_values_of "values_of" = true)
    (k_values_of : PySem.W.keepIn K (.ref f_values_of) = true)
    (a_least_packet : PySem.W.nsIn K mainGlobals "least_packet" = some (some (.ref f_least_packet)))
    (l_least_packet : K.lookup f_least_packet = some ⟨oc_least_packet, od_least_packet, .func (PySem.W.fnOf "least_packet" "least_packet" (defArgs s_least_packet) (defBody s_least_packet) (defScope s_least_packet) .none kV_least_packet dc_least_packet pm_least_packet an_least_packet cd_least_packet ct_least_packet), sl_least_packet⟩)
    (c_least_packet : PySem.W.codeIn K cd_least_packet "least_packet" = true)
    (k_least_packet : PySem.W.keepIn K (.ref f_least_packet) = true)
    (a_packet_along : PySem.W.nsIn K mainGlobals "packet_along" = some (some (.ref f_packet_along)))
    (l_packet_along : K.lookup f_packet_along = some ⟨oc_packet_along, od_packet_along, .func (PySem.W.fnOf "packet_along" "packet_along" (defArgs s_packet_along) (defBody s_packet_along) (defScope s_packet_along) .none kV_packet_along dc_packet_along pm_packet_along an_packet_along cd_packet_along ct_packet_along), sl_packet_along⟩)
    (c_packet_along : PySem.W.codeIn K cd_packet_along "packet_along" = true)
    (k_packet_along : PySem.W.keepIn K (.ref f_packet_along) = true)
    (a_along : PySem.W.nsIn K mainGlobals "along" = some (some (.ref f_along)))
    (l_along : K.lookup f_along = some ⟨oc_along, od_along, .func (PySem.W.fnOf "along" "along" (defArgs s_along) (defBody s_along) (defScope s_along) .none kV_along dc_along pm_along an_along cd_along ct_along), sl_along⟩)
    (c_along : PySem.W.codeIn K cd_along "along" = true)
    (k_along : PySem.W.keepIn K (.ref f_along) = true)
    (a_l_sums : PySem.W.nsIn K mainGlobals "_law_sums" = some (some (.ref f_l_sums)))
    (l_l_sums : K.lookup f_l_sums = some ⟨oc_l_sums, od_l_sums, .func (PySem.W.fnOf "_law_sums" "_law_sums" (defArgs s_l_sums) (defBody s_l_sums) (defScope s_l_sums) .none kV_l_sums dc_l_sums pm_l_sums an_l_sums cd_l_sums ct_l_sums), sl_l_sums⟩)
    (c_l_sums : PySem.W.codeIn K cd_l_sums "_law_sums" = true)
    (k_l_sums : PySem.W.keepIn K (.ref f_l_sums) = true)
    (a_l_number : PySem.W.nsIn K mainGlobals "_law_number" = some (some (.ref f_l_number)))
    (l_l_number : K.lookup f_l_number = some ⟨oc_l_number, od_l_number, .func (PySem.W.fnOf "_law_number" "_law_number" (defArgs s_l_number) (defBody s_l_number) (defScope s_l_number) .none kV_l_number dc_l_number pm_l_number an_l_number cd_l_number ct_l_number), sl_l_number⟩)
    (c_l_number : PySem.W.codeIn K cd_l_number "_law_number" = true)
    (k_l_number : PySem.W.keepIn K (.ref f_l_number) = true)
    (a_l_text : PySem.W.nsIn K mainGlobals "_law_text" = some (some (.ref f_l_text)))
    (l_l_text : K.lookup f_l_text = some ⟨oc_l_text, od_l_text, .func (PySem.W.fnOf "_law_text" "_law_text" (defArgs s_l_text) (defBody s_l_text) (defScope s_l_text) .none kV_l_text dc_l_text pm_l_text an_l_text cd_l_text ct_l_text), sl_l_text⟩)
    (c_l_text : PySem.W.codeIn K cd_l_text "_law_text" = true)
    (k_l_text : PySem.W.keepIn K (.ref f_l_text) = true)
    (a_l_packet : PySem.W.nsIn K mainGlobals "_law_packet" = some (some (.ref f_l_packet)))
    (l_l_packet : K.lookup f_l_packet = some ⟨oc_l_packet, od_l_packet, .func (PySem.W.fnOf "_law_packet" "_law_packet" (defArgs s_l_packet) (defBody s_l_packet) (defScope s_l_packet) .none kV_l_packet dc_l_packet pm_l_packet an_l_packet cd_l_packet ct_l_packet), sl_l_packet⟩)
    (c_l_packet : PySem.W.codeIn K cd_l_packet "_law_packet" = true)
    (k_l_packet : PySem.W.keepIn K (.ref f_l_packet) = true)
    (a_l_lacks : PySem.W.nsIn K mainGlobals "_law_lacks" = some (some (.ref f_l_lacks)))
    (l_l_lacks : K.lookup f_l_lacks = some ⟨oc_l_lacks, od_l_lacks, .func (PySem.W.fnOf "_law_lacks" "_law_lacks" (defArgs s_l_lacks) (defBody s_l_lacks) (defScope s_l_lacks) .none kV_l_lacks dc_l_lacks pm_l_lacks an_l_lacks cd_l_lacks ct_l_lacks), sl_l_lacks⟩)
    (c_l_lacks : PySem.W.codeIn K cd_l_lacks "_law_lacks" = true)
    (k_l_lacks : PySem.W.keepIn K (.ref f_l_lacks) = true)
    (a_l_instruction : PySem.W.nsIn K mainGlobals "_law_instruction" = some (some (.ref f_l_instruction)))
    (l_l_instruction : K.lookup f_l_instruction = some ⟨oc_l_instruction, od_l_instruction, .func (PySem.W.fnOf "_law_instruction" "_law_instruction" (defArgs s_l_instruction) (defBody s_l_instruction) (defScope s_l_instruction) .none kV_l_instruction dc_l_instruction pm_l_instruction an_l_instruction cd_l_instruction ct_l_instruction), sl_l_instruction⟩)
    (c_l_instruction : PySem.W.codeIn K cd_l_instruction "_law_instruction" = true)
    (k_l_instruction : PySem.W.keepIn K (.ref f_l_instruction) = true)
    (a_l_program : PySem.W.nsIn K mainGlobals "_law_program" = some (some (.ref f_l_program)))
    (l_l_program : K.lookup f_l_program = some ⟨oc_l_program, od_l_program, .func (PySem.W.fnOf "_law_program" "_law_program" (defArgs s_l_program) (defBody s_l_program) (defScope s_l_program) .none kV_l_program dc_l_program pm_l_program an_l_program cd_l_program ct_l_program), sl_l_program⟩)
    (c_l_program : PySem.W.codeIn K cd_l_program "_law_program" = true)
    (k_l_program : PySem.W.keepIn K (.ref f_l_program) = true)
    (a_l_is_int : PySem.W.nsIn K mainGlobals "_law_is_int" = some (some (.ref f_l_is_int)))
    (l_l_is_int : K.lookup f_l_is_int = some ⟨oc_l_is_int, od_l_is_int, .func (PySem.W.fnOf "_law_is_int" "_law_is_int" (defArgs s_l_is_int) (defBody s_l_is_int) (defScope s_l_is_int) .none kV_l_is_int dc_l_is_int pm_l_is_int an_l_is_int cd_l_is_int ct_l_is_int), sl_l_is_int⟩)
    (c_l_is_int : PySem.W.codeIn K cd_l_is_int "_law_is_int" = true)
    (k_l_is_int : PySem.W.keepIn K (.ref f_l_is_int) = true)
    (a_l_at_most : PySem.W.nsIn K mainGlobals "_law_at_most" = some (some (.ref f_l_at_most)))
    (l_l_at_most : K.lookup f_l_at_most = some ⟨oc_l_at_most, od_l_at_most, .func (PySem.W.fnOf "_law_at_most" "_law_at_most" (defArgs s_l_at_most) (defBody s_l_at_most) (defScope s_l_at_most) .none kV_l_at_most dc_l_at_most pm_l_at_most an_l_at_most cd_l_at_most ct_l_at_most), sl_l_at_most⟩)
    (c_l_at_most : PySem.W.codeIn K cd_l_at_most "_law_at_most" = true)
    (k_l_at_most : PySem.W.keepIn K (.ref f_l_at_most) = true)
    (a_l_chosen : PySem.W.nsIn K mainGlobals "_law_chosen" = some (some (.ref f_l_chosen)))
    (l_l_chosen : K.lookup f_l_chosen = some ⟨oc_l_chosen, od_l_chosen, .func (PySem.W.fnOf "_law_chosen" "_law_chosen" (defArgs s_l_chosen) (defBody s_l_chosen) (defScope s_l_chosen) .none kV_l_chosen dc_l_chosen pm_l_chosen an_l_chosen cd_l_chosen ct_l_chosen), sl_l_chosen⟩)
    (c_l_chosen : PySem.W.codeIn K cd_l_chosen "_law_chosen" = true)
    (k_l_chosen : PySem.W.keepIn K (.ref f_l_chosen) = true)
    (a_l_loaded : PySem.W.nsIn K mainGlobals "_law_loaded" = some (some (.ref f_l_loaded)))
    (l_l_loaded : K.lookup f_l_loaded = some ⟨oc_l_loaded, od_l_loaded, .func (PySem.W.fnOf "_law_loaded" "_law_loaded" (defArgs s_l_loaded) (defBody s_l_loaded) (defScope s_l_loaded) .none kV_l_loaded dc_l_loaded pm_l_loaded an_l_loaded cd_l_loaded ct_l_loaded), sl_l_loaded⟩)
    (c_l_loaded : PySem.W.codeIn K cd_l_loaded "_law_loaded" = true)
    (k_l_loaded : PySem.W.keepIn K (.ref f_l_loaded) = true)
    (a_l_tested : PySem.W.nsIn K mainGlobals "_law_tested" = some (some (.ref f_l_tested)))
    (l_l_tested : K.lookup f_l_tested = some ⟨oc_l_tested, od_l_tested, .func (PySem.W.fnOf "_law_tested" "_law_tested" (defArgs s_l_tested) (defBody s_l_tested) (defScope s_l_tested) .none kV_l_tested dc_l_tested pm_l_tested an_l_tested cd_l_tested ct_l_tested), sl_l_tested⟩)
    (c_l_tested : PySem.W.codeIn K cd_l_tested "_law_tested" = true)
    (k_l_tested : PySem.W.keepIn K (.ref f_l_tested) = true)
    (a_l_gone : PySem.W.nsIn K mainGlobals "_law_gone" = some (some (.ref f_l_gone)))
    (l_l_gone : K.lookup f_l_gone = some ⟨oc_l_gone, od_l_gone, .func (PySem.W.fnOf "_law_gone" "_law_gone" (defArgs s_l_gone) (defBody s_l_gone) (defScope s_l_gone) .none kV_l_gone dc_l_gone pm_l_gone an_l_gone cd_l_gone ct_l_gone), sl_l_gone⟩)
    (c_l_gone : PySem.W.codeIn K cd_l_gone "_law_gone" = true)
    (k_l_gone : PySem.W.keepIn K (.ref f_l_gone) = true)
    (a_l_walked : PySem.W.nsIn K mainGlobals "_law_walked" = some (some (.ref f_l_walked)))
    (l_l_walked : K.lookup f_l_walked = some ⟨oc_l_walked, od_l_walked, .func (PySem.W.fnOf "_law_walked" "_law_walked" (defArgs s_l_walked) (defBody s_l_walked) (defScope s_l_walked) .none kV_l_walked dc_l_walked pm_l_walked an_l_walked cd_l_walked ct_l_walked), sl_l_walked⟩)
    (c_l_walked : PySem.W.codeIn K cd_l_walked "_law_walked" = true)
    (k_l_walked : PySem.W.keepIn K (.ref f_l_walked) = true)
    (a_l_least : PySem.W.nsIn K mainGlobals "_law_least" = some (some (.ref f_l_least)))
    (l_l_least : K.lookup f_l_least = some ⟨oc_l_least, od_l_least, .func (PySem.W.fnOf "_law_least" "_law_least" (defArgs s_l_least) (defBody s_l_least) (defScope s_l_least) .none kV_l_least dc_l_least pm_l_least an_l_least cd_l_least ct_l_least), sl_l_least⟩)
    (c_l_least : PySem.W.codeIn K cd_l_least "_law_least" = true)
    (k_l_least : PySem.W.keepIn K (.ref f_l_least) = true)
    (a_l_numbers : PySem.W.nsIn K mainGlobals "_law_numbers" = some (some (.ref f_l_numbers)))
    (l_l_numbers : K.lookup f_l_numbers = some ⟨oc_l_numbers, od_l_numbers, .func (PySem.W.fnOf "_law_numbers" "_law_numbers" (defArgs s_l_numbers) (defBody s_l_numbers) (defScope s_l_numbers) .none kV_l_numbers dc_l_numbers pm_l_numbers an_l_numbers cd_l_numbers ct_l_numbers), sl_l_numbers⟩)
    (c_l_numbers : PySem.W.codeIn K cd_l_numbers "_law_numbers" = true)
    (k_l_numbers : PySem.W.keepIn K (.ref f_l_numbers) = true)
    (a_l_drawn_choices : PySem.W.nsIn K mainGlobals "_law_drawn_choices" = some (some (.ref f_l_drawn_choices)))
    (l_l_drawn_choices : K.lookup f_l_drawn_choices = some ⟨oc_l_drawn_choices, od_l_drawn_choices, .func (PySem.W.fnOf "_law_drawn_choices" "_law_drawn_choices" (defArgs s_l_drawn_choices) (defBody s_l_drawn_choices) (defScope s_l_drawn_choices) .none kV_l_drawn_choices dc_l_drawn_choices pm_l_drawn_choices an_l_drawn_choices cd_l_drawn_choices ct_l_drawn_choices), sl_l_drawn_choices⟩)
    (c_l_drawn_choices : PySem.W.codeIn K cd_l_drawn_choices "_law_drawn_choices" = true)
    (k_l_drawn_choices : PySem.W.keepIn K (.ref f_l_drawn_choices) = true)
    (a_l_right : PySem.W.nsIn K mainGlobals "_law_right" = some (some (.ref f_l_right)))
    (l_l_right : K.lookup f_l_right = some ⟨oc_l_right, od_l_right, .func (PySem.W.fnOf "_law_right" "_law_right" (defArgs s_l_right) (defBody s_l_right) (defScope s_l_right) .none kV_l_right dc_l_right pm_l_right an_l_right cd_l_right ct_l_right), sl_l_right⟩)
    (c_l_right : PySem.W.codeIn K cd_l_right "_law_right" = true)
    (k_l_right : PySem.W.keepIn K (.ref f_l_right) = true)
    (a_law : PySem.W.nsIn K mainGlobals "law" = some (some (.ref f_law)))
    (l_law : K.lookup f_law = some ⟨oc_law, od_law, .func (PySem.W.fnOf "law" "law" (defArgs s_law) (defBody s_law) (defScope s_law) .none kV_law dc_law pm_law an_law cd_law ct_law), sl_law⟩)
    (c_law : PySem.W.codeIn K cd_law "law" = true)
    (k_law : PySem.W.keepIn K (.ref f_law) = true)
    : ∃ fd : FuncData, (∀ (s : Shared) (v : Value), BindsTo s fd ⟨[v], []⟩ [("script", v)]) ∧ ∀ base : Heap, K.In base → base.Ns mainGlobals mg → FnOkG l.prog w K mg base CX0 9 fa fd ["script"] (spLaw K) := by
  have e := hfa.symm.trans (PySem.W.mg_of X G a_law)
  cases e
  have B : Bt mg := ⟨PySem.W.mg_none_of X G z_isinstance, PySem.W.mg_none_of X G z_len, PySem.W.mg_none_of X G z_all, PySem.W.mg_none_of X G z_any, PySem.W.mg_none_of X G z_min, PySem.W.mg_none_of X G z_max, PySem.W.mg_none_of X G z_abs, PySem.W.mg_none_of X G z_sum, PySem.W.mg_none_of X G z_repr, PySem.W.mg_none_of X G z_sorted, PySem.W.mg_none_of X G z_int, PySem.W.mg_none_of X G z_bool, PySem.W.mg_none_of X G z_str, PySem.W.mg_none_of X G z_tuple, PySem.W.mg_none_of X G z_list, PySem.W.mg_none_of X G z_range, PySem.W.mg_none_of X G z_enumerate, PySem.W.mg_none_of X G z_zip⟩
  have T : Tx mg := ⟨B, ⟨⟨_, PySem.W.mg_of X G g_FIGURES⟩, ⟨_, PySem.W.mg_of X G g_MOST_CELLS⟩, ⟨_, PySem.W.mg_of X G g_NOUGHT⟩, ⟨_, PySem.W.mg_of X G g_LENGTH⟩, ⟨_, PySem.W.mg_of X G g_MOST_CELL⟩, ⟨_, PySem.W.mg_of X G g_MOST_LINES⟩, ⟨_, PySem.W.mg_of X G g_MOST_NUMBER⟩, ⟨_, PySem.W.mg_of X G g_REGISTERS⟩, ⟨_, PySem.W.mg_of X G g_WRONG⟩, ⟨_, PySem.W.mg_of X G g_UNSET⟩, ⟨_, PySem.W.mg_of X G g_BEYOND⟩, ⟨_, PySem.W.mg_of X G g_END⟩⟩⟩
  refine ⟨PySem.W.fnOf "law" "law" (defArgs s_law) (defBody s_law) (defScope s_law) .none kV_law dc_law pm_law an_law cd_law ct_law, fun s v => .of_eq rfl, fun base _ _ => ?_⟩
  have T_Program : PrT K C_Program p0_Program p1_Program := ⟨⟨pg_Program, ic_Program, po_Program, sa_Program⟩, ⟨q0_Program, u0_Program, v0_Program, w0_Program, x0_Program, by decide⟩, ⟨q1_Program, u1_Program, v1_Program, w1_Program, x1_Program, by decide⟩⟩
  have T_Walk : WkT K C_Walk p0_Walk p1_Walk p2_Walk p3_Walk p4_Walk p5_Walk p6_Walk p7_Walk p8_Walk p9_Walk := ⟨⟨pg_Walk, ic_Walk, po_Walk, sa_Walk⟩, ⟨q0_Walk, u0_Walk, v0_Walk, w0_Walk, x0_Walk, by decide⟩, ⟨q1_Walk, u1_Walk, v1_Walk, w1_Walk, x1_Walk, by decide⟩, ⟨q2_Walk, u2_Walk, v2_Walk, w2_Walk, x2_Walk, by decide⟩, ⟨q3_Walk, u3_Walk, v3_Walk, w3_Walk, x3_Walk, by decide⟩, ⟨q4_Walk, u4_Walk, v4_Walk, w4_Walk, x4_Walk, by decide⟩, ⟨q5_Walk, u5_Walk, v5_Walk, w5_Walk, x5_Walk, by decide⟩, ⟨q6_Walk, u6_Walk, v6_Walk, w6_Walk, x6_Walk, by decide⟩, ⟨q7_Walk, u7_Walk, v7_Walk, w7_Walk, x7_Walk, by decide⟩, ⟨q8_Walk, u8_Walk, v8_Walk, w8_Walk, x8_Walk, by decide⟩, ⟨q9_Walk, u9_Walk, v9_Walk, w9_Walk, x9_Walk, by decide⟩⟩
  have T_Near : NrT K C_Near p0_Near := ⟨⟨pg_Near, ic_Near, po_Near, sa_Near⟩, ⟨q0_Near, u0_Near, v0_Near, w0_Near, x0_Near, by decide⟩⟩
  have Fm : Frm K w mg dF := ⟨PySem.W.mg_of X G a_FORMS, fun i => (by
    cases i
    case set r n => exact KDo.hit l_FORMS kl_FORMS lo_FORMS w_FORMS_set ⟨_, congrArg (fun z => Value.str z tk_FORMS_set) (by show ("rn" : Str) = ⟨#[114, 110]⟩; decide +kernel)⟩
    case copy r s => exact KDo.hit l_FORMS kl_FORMS lo_FORMS w_FORMS_copy ⟨_, congrArg (fun z => Value.str z tk_FORMS_copy) (by show ("rr" : Str) = ⟨#[114, 114]⟩; decide +kernel)⟩
    case add r n => exact KDo.hit l_FORMS kl_FORMS lo_FORMS w_FORMS_add ⟨_, congrArg (fun z => Value.str z tk_FORMS_add) (by show ("rn" : Str) = ⟨#[114, 110]⟩; decide +kernel)⟩
    case length r => exact KDo.hit l_FORMS kl_FORMS lo_FORMS w_FORMS_length ⟨_, congrArg (fun z => Value.str z tk_FORMS_length) (by show ("r" : Str) = ⟨#[114]⟩; decide +kernel)⟩
    case load r s n => exact KDo.hit l_FORMS kl_FORMS lo_FORMS w_FORMS_load ⟨_, congrArg (fun z => Value.str z tk_FORMS_load) (by show ("rrn" : Str) = ⟨#[114, 114, 110]⟩; decide +kernel)⟩
    case jump g => exact KDo.hit l_FORMS kl_FORMS lo_FORMS w_FORMS_jump ⟨_, congrArg (fun z => Value.str z tk_FORMS_jump) (by show ("l" : Str) = ⟨#[108]⟩; decide +kernel)⟩
    case less r s n g => exact KDo.hit l_FORMS kl_FORMS lo_FORMS w_FORMS_less ⟨_, congrArg (fun z => Value.str z tk_FORMS_less) (by show ("rrnl" : Str) = ⟨#[114, 114, 110, 108]⟩; decide +kernel)⟩
    case atmost r n g => exact KDo.hit l_FORMS kl_FORMS lo_FORMS w_FORMS_atmost ⟨_, congrArg (fun z => Value.str z tk_FORMS_atmost) (by show ("rnl" : Str) = ⟨#[114, 110, 108]⟩; decide +kernel)⟩
    case same r n g => exact KDo.hit l_FORMS kl_FORMS lo_FORMS w_FORMS_same ⟨_, congrArg (fun z => Value.str z tk_FORMS_same) (by show ("rnl" : Str) = ⟨#[114, 110, 108]⟩; decide +kernel)⟩
    case pass => exact KDo.hit l_FORMS kl_FORMS lo_FORMS w_FORMS_pass ⟨_, congrArg (fun z => Value.str z tk_FORMS_pass) (by show ("" : Str) = ⟨#[]⟩; decide +kernel)⟩
    case drop => exact KDo.hit l_FORMS kl_FORMS lo_FORMS w_FORMS_drop ⟨_, congrArg (fun z => Value.str z tk_FORMS_drop) (by show ("" : Str) = ⟨#[]⟩; decide +kernel)⟩)⟩
  have Nd : Nds K w mg dN := ⟨PySem.W.mg_of X G a_NEEDS, fun i => (by
    cases i
    case set r n => exact .inl ⟨rfl, KDo.miss l_NEEDS kl_NEEDS lo_NEEDS w_NEEDS_set⟩
    case copy r s => exact .inr ⟨ta_copy, KDo.hit l_NEEDS kl_NEEDS lo_NEEDS w_NEEDS_copy rfl, fun H => .inr ⟨_, _, _, y_NEEDS_copy, rfl, rfl, (by show 1 ≤ sizeLine; decide), (.cons ⟨_, rfl⟩ (.nil))⟩⟩
    case add r n => exact .inr ⟨ta_add, KDo.hit l_NEEDS kl_NEEDS lo_NEEDS w_NEEDS_add rfl, fun H => .inr ⟨_, _, _, y_NEEDS_add, rfl, rfl, (by show 1 ≤ sizeLine; decide), (.cons ⟨_, rfl⟩ (.nil))⟩⟩
    case length r => exact .inl ⟨rfl, KDo.miss l_NEEDS kl_NEEDS lo_NEEDS w_NEEDS_length⟩
    case load r s n => exact .inr ⟨ta_load, KDo.hit l_NEEDS kl_NEEDS lo_NEEDS w_NEEDS_load rfl, fun H => .inr ⟨_, _, _, y_NEEDS_load, rfl, rfl, (by show 1 ≤ sizeLine; decide), (.cons ⟨_, rfl⟩ (.nil))⟩⟩
    case jump g => exact .inl ⟨rfl, KDo.miss l_NEEDS kl_NEEDS lo_NEEDS w_NEEDS_jump⟩
    case less r s n g => exact .inr ⟨ta_less, KDo.hit l_NEEDS kl_NEEDS lo_NEEDS w_NEEDS_less rfl, fun H => .inr ⟨_, _, _, y_NEEDS_less, rfl, rfl, (by show 2 ≤ sizeLine; decide), (.cons ⟨_, rfl⟩ (.cons ⟨_, rfl⟩ (.nil)))⟩⟩
    case atmost r n g => exact .inr ⟨ta_atmost, KDo.hit l_NEEDS kl_NEEDS lo_NEEDS w_NEEDS_atmost rfl, fun H => .inr ⟨_, _, _, y_NEEDS_atmost, rfl, rfl, (by show 1 ≤ sizeLine; decide), (.cons ⟨_, rfl⟩ (.nil))⟩⟩
    case same r n g => exact .inr ⟨ta_same, KDo.hit l_NEEDS kl_NEEDS lo_NEEDS w_NEEDS_same rfl, fun H => .inr ⟨_, _, _, y_NEEDS_same, rfl, rfl, (by show 1 ≤ sizeLine; decide), (.cons ⟨_, rfl⟩ (.nil))⟩⟩
    case pass => exact .inl ⟨rfl, KDo.miss l_NEEDS kl_NEEDS lo_NEEDS w_NEEDS_pass⟩
    case drop => exact .inl ⟨rfl, KDo.miss l_NEEDS kl_NEEDS lo_NEEDS w_NEEDS_drop⟩)⟩
  have s0 : ∀ H, SqT K H ta_FIRST_0 [.int 1, .int 0, .int 24] := fun H => .inr ⟨_, _, _, y_FIRST_0, rfl, rfl, (by show 3 ≤ sizeLine; decide), .cons ⟨_, rfl⟩ (.cons ⟨_, rfl⟩ (.cons ⟨_, rfl⟩ .nil))⟩
  have s1 : ∀ H, SqT K H ta_FIRST_1 [.int 0, .int 1, .int (-1)] := fun H => .inr ⟨_, _, _, y_FIRST_1, rfl, rfl, (by show 3 ≤ sizeLine; decide), .cons ⟨_, rfl⟩ (.cons ⟨_, rfl⟩ (.cons ⟨_, rfl⟩ .nil))⟩
  have sF : ∀ H, SqT K H ta_FIRST [.ref ta_FIRST_0, .ref ta_FIRST_1] := fun H => .inr ⟨_, _, _, y_FIRST, rfl, rfl, (by show 2 ≤ sizeLine; decide), .cons rfl (.cons rfl .nil)⟩
  have TW : TxW K mg ta_FIRST := ⟨T, PySem.W.mg_of X G a_FIRST, fun H => .tup (sF H) (.cons (.tup (s0 H) (.cons (.int 1) (.cons (.int 0) (.cons (.int 24) .nil)))) (.cons (.tup (s1 H) (.cons (.int 0) (.cons (.int 1) (.cons (.int (-1)) .nil)))) .nil))⟩
  have F_l_take := fun_mk (st := s_l_take) l_l_take c_l_take k_l_take
  have b_l_take := F_l_take.binds (ps := ["pot", "upto"]) fun _ _ _ _ _ _ us hl => match us, hl with | [_, _], _ => rfl
  have C_l_take : PL.Cal l.prog w K mg base CX0 "_law_take" ["pot", "upto"] 1 (spTake) := ⟨_, _, PySem.W.mg_of X G a_l_take, k_l_take, b_l_take, fun _ => trivial, ok_take F_l_take B⟩
  have F_l_of := fun_mk (st := s_l_of) l_l_of c_l_of k_l_of
  have b_l_of := F_l_of.binds (ps := ["pot", "some"]) fun _ _ _ _ _ _ us hl => match us, hl with | [_, _], _ => rfl
  have C_l_of : PL.Cal l.prog w K mg base CX0 "_law_of" ["pot", "some"] 2 (spOf K) := ⟨_, _, PySem.W.mg_of X G a_l_of, k_l_of, b_l_of, fun _ => trivial, ok_of F_l_of B C_l_take⟩
  have F_l_cells := fun_mk (st := s_l_cells) l_l_cells c_l_cells k_l_cells
  have b_l_cells := F_l_cells.binds (ps := ["script", "most"]) fun _ _ _ _ _ _ us hl => match us, hl with | [_, _], _ => rfl
  have C_l_cells : PL.Cal l.prog w K mg base CX0 "_law_cells" ["script", "most"] 1 (spCells K) := ⟨_, _, PySem.W.mg_of X G a_l_cells, k_l_cells, b_l_cells, fun _ => trivial, ok_cells F_l_cells B⟩
  have F_l_pot := fun_mk (st := s_l_pot) l_l_pot c_l_pot k_l_pot
  have b_l_pot := F_l_pot.binds (ps := ["script", "place"]) fun _ _ _ _ _ _ us hl => match us, hl with | [_, _], _ => rfl
  have C_l_pot : PL.Cal l.prog w K mg base CX0 "_law_pot" ["script", "place"] 1 (spPot K) := ⟨_, _, PySem.W.mg_of X G a_l_pot, k_l_pot, b_l_pot, fun _ => trivial, ok_pot F_l_pot B⟩
  have F_number_in := fun_mk (st := s_number_in) l_number_in c_number_in k_number_in
  have b_number_in := F_number_in.binds (ps := ["word", "low", "high"]) fun _ _ _ _ _ _ us hl => match us, hl with | [_, _, _], _ => rfl
  have C_number_in : PL.Cal l.prog w K mg base CX0 "number_in" ["word", "low", "high"] 1 (spNumIn) := ⟨_, _, PySem.W.mg_of X G a_number_in, k_number_in, b_number_in, fun _ => trivial, ok_number_in F_number_in T⟩
  have F_signed_in := fun_mk (st := s_signed_in) l_signed_in c_signed_in k_signed_in
  have b_signed_in := F_signed_in.binds (ps := ["word", "low", "high"]) fun _ _ _ _ _ _ us hl => match us, hl with | [_, _, _], _ => rfl
  have C_signed_in : PL.Cal l.prog w K mg base CX0 "signed_in" ["word", "low", "high"] 2 (spSigned) := ⟨_, _, PySem.W.mg_of X G a_signed_in, k_signed_in, b_signed_in, fun _ => trivial, ok_signed_in F_signed_in T C_number_in⟩
  have F_word_in := fun_mk (st := s_word_in) l_word_in c_word_in k_word_in
  have b_word_in := F_word_in.binds (ps := ["kind", "word", "number"]) fun _ _ _ _ _ _ us hl => match us, hl with | [_, _, _], _ => rfl
  have C_word_in : PL.Cal l.prog w K mg base CX0 "word_in" ["kind", "word", "number"] 3 (spWordIn) := ⟨_, _, PySem.W.mg_of X G a_word_in, k_word_in, b_word_in, fun _ => trivial, ok_word_in F_word_in T C_number_in C_signed_in⟩
  have F_instruction_in := fun_mk (st := s_instruction_in) l_instruction_in c_instruction_in k_instruction_in
  have b_instruction_in := F_instruction_in.binds (ps := ["line", "number"]) fun _ _ _ _ _ _ us hl => match us, hl with | [_, _], _ => rfl
  have C_instruction_in : PL.Cal l.prog w K mg base CX0 "instruction_in" ["line", "number"] 4 (spInsIn) := ⟨_, _, PySem.W.mg_of X G a_instruction_in, k_instruction_in, b_instruction_in, fun _ => trivial, ok_instruction_in F_instruction_in T Fm C_word_in⟩
  have F_read_lines := fun_mk (st := s_read_lines) l_read_lines c_read_lines k_read_lines
  have b_read_lines := F_read_lines.binds (ps := ["text"]) fun _ _ _ _ _ _ us hl => match us, hl with | [_], _ => rfl
  have C_read_lines : PL.Cal l.prog w K mg base CX0 "read_lines" ["text"] 5 (spRead K) := ⟨_, _, PySem.W.mg_of X G a_read_lines, k_read_lines, b_read_lines, fun _ => trivial, ok_read_lines F_read_lines T C_instruction_in⟩
  have F_Pr_init := fun_mk (st := s_Pr_init) l_Pr_init c_Pr_init k_Pr_init
  have b_Pr_init := F_Pr_init.binds (ps := ["self", "text"]) fun _ _ _ _ _ _ us hl => match us, hl with | [_, _], _ => rfl
  have M_Program : MkC l.prog w K mg base CX0 "Program" C_Program ["self", "text"] 6 (spPrInit K C_Program) := ⟨_, _, PySem.W.mg_of X G cn_Program, ⟨mk_Program, a_Pr_init, i_Pr_init, kc_Program⟩, b_Pr_init, ok_pr_init F_Pr_init T T_Program C_read_lines⟩
  have F_Pr_lines := fun_mk (st := s_Pr_lines) l_Pr_lines c_Pr_lines k_Pr_lines
  have b_Pr_lines := F_Pr_lines.binds (ps := ["self"]) fun _ _ _ _ _ _ us hl => match us, hl with | [_], _ => rfl
  have P_Program_lines : PrC l.prog w K mg base CX0 C_Program "lines" 1 (spLines K C_Program) := ⟨_, _, _, a_Pr_lines, u_Pr_lines, v_Pr_lines, r_Pr_lines, (FnOk.raw (ok_pr_lines F_Pr_lines T_Program) b_Pr_lines .nil).imp fun vs H Q E h => (by rw [List.append_nil]; exact h)⟩
  have F_is_int := fun_mk (st := s_is_int) l_is_int c_is_int k_is_int
  have b_is_int := F_is_int.binds (ps := ["value", "low", "high"]) fun _ _ _ _ _ _ us hl => match us, hl with | [_, _, _], _ => rfl
  have C_is_int : PL.Cal l.prog w K mg base CX0 "is_int" ["value", "low", "high"] 1 (spIsInt) := ⟨_, _, PySem.W.mg_of X G a_is_int, k_is_int, b_is_int, fun _ => trivial, ok_is_int F_is_int B⟩
  have F_is_packet := fun_mk (st := s_is_packet) l_is_packet c_is_packet k_is_packet
  have b_is_packet := F_is_packet.binds (ps := ["value"]) fun _ _ _ _ _ _ us hl => match us, hl with | [_], _ => rfl
  have C_is_packet : PL.Cal l.prog w K mg base CX0 "is_packet" ["value"] 2 (spIsPk K) := ⟨_, _, PySem.W.mg_of X G a_is_packet, k_is_packet, b_is_packet, fun _ => trivial, ok_is_packet F_is_packet T C_is_int⟩
  have F_look_at_packet := fun_mk (st := s_look_at_packet) l_look_at_packet c_look_at_packet k_look_at_packet
  have b_look_at_packet := F_look_at_packet.binds (ps := ["packet"]) fun _ _ _ _ _ _ us hl => match us, hl with | [_], _ => rfl
  have C_look_at_packet : PL.Cal l.prog w K mg base CX0 "look_at_packet" ["packet"] 3 (spLookPk K) := ⟨_, _, PySem.W.mg_of X G a_look_at_packet, k_look_at_packet, b_look_at_packet, fun _ => trivial, ok_look_at_packet F_look_at_packet C_is_packet⟩
  have F_is_unset := fun_mk (st := s_is_unset) l_is_unset c_is_unset k_is_unset
  have b_is_unset := F_is_unset.binds (ps := ["instruction", "known"]) fun _ _ _ _ _ _ us hl => match us, hl with | [_, _], _ => rfl
  have C_is_unset : PL.Cal l.prog w K mg base CX0 "is_unset" ["instruction", "known"] 1 (spIsUnset K) := ⟨_, _, PySem.W.mg_of X G a_is_unset, k_is_unset, b_is_unset, fun _ => trivial, ok_is_unset F_is_unset T Nd⟩
  have F_at_most := fun_mk (st := s_at_most) l_at_most c_at_most k_at_most
  have b_at_most := F_at_most.binds (ps := ["one", "other", "number"]) fun _ _ _ _ _ _ us hl => match us, hl with | [_, _, _], _ => rfl
  have C_at_most : PL.Cal l.prog w K mg base CX0 "at_most" ["one", "other", "number"] 1 (spAtMost K) := ⟨_, _, PySem.W.mg_of X G a_at_most, k_at_most, b_at_most, fun _ => trivial, ok_at_most F_at_most⟩
  have F_cell_options := fun_mk (st := s_cell_options) l_cell_options c_cell_options k_cell_options
  have b_cell_options := F_cell_options.binds (ps := ["place", "other"]) fun _ _ _ _ _ _ us hl => match us, hl with | [_, _], _ => rfl
  have C_cell_options : PL.Cal l.prog w K mg base CX0 "cell_options" ["place", "other"] 2 (spCell K) := ⟨_, _, PySem.W.mg_of X G a_cell_options, k_cell_options, b_cell_options, fun _ => trivial, ok_cell_options F_cell_options C_at_most⟩
  have F_place_options := fun_mk (st := s_place_options) l_place_options c_place_options k_place_options
  have b_place_options := F_place_options.binds (ps := ["place"]) fun _ _ _ _ _ _ us hl => match us, hl with | [_], _ => rfl
  have C_place_options : PL.Cal l.prog w K mg base CX0 "place_options" ["place"] 2 (spPlace K) := ⟨_, _, PySem.W.mg_of X G a_place_options, k_place_options, b_place_options, fun _ => trivial, ok_place_options F_place_options T C_at_most⟩
  have F_test_options := fun_mk (st := s_test_options) l_test_options c_test_options k_test_options
  have b_test_options := F_test_options.binds (ps := ["instruction", "names"]) fun _ _ _ _ _ _ us hl => match us, hl with | [_, _], _ => rfl
  have C_test_options : PL.Cal l.prog w K mg base CX0 "test_options" ["instruction", "names"] 2 (spTest K) := ⟨_, _, PySem.W.mg_of X G a_test_options, k_test_options, b_test_options, fun _ => trivial, ok_test_options F_test_options T C_at_most⟩
  have F_Walk_is_ended := fun_mk (st := s_Walk_is_ended) l_Walk_is_ended c_Walk_is_ended k_Walk_is_ended
  have b_Walk_is_ended := F_Walk_is_ended.binds (ps := ["self"]) fun _ _ _ _ _ _ us hl => match us, hl with | [_], _ => rfl
  have M_Walk_is_ended : MtC l.prog w K mg base CX0 C_Walk "is_ended" ["self"] 1 (spEnded K C_Walk) := ⟨_, _, ⟨a_Walk_is_ended, i_Walk_is_ended, k_Walk_is_ended⟩, b_Walk_is_ended, ok_wk_is_ended F_Walk_is_ended T T_Walk⟩
  have F_Walk_instruction := fun_mk (st := s_Walk_instruction) l_Walk_instruction c_Walk_instruction k_Walk_instruction
  have b_Walk_instruction := F_Walk_instruction.binds (ps := ["self"]) fun _ _ _ _ _ _ us hl => match us, hl with | [_], _ => rfl
  have M_Walk_instruction : MtC l.prog w K mg base CX0 C_Walk "instruction" ["self"] 1 (spInstr_ K C_Walk) := ⟨_, _, ⟨a_Walk_instruction, i_Walk_instruction, k_Walk_instruction⟩, b_Walk_instruction, ok_wk_instruction F_Walk_instruction T T_Walk⟩
  have F_Walk_finish := fun_mk (st := s_Walk_finish) l_Walk_finish c_Walk_finish k_Walk_finish
  have b_Walk_finish := F_Walk_finish.binds (ps := ["self", "told"]) fun _ _ _ _ _ _ us hl => match us, hl with | [_, _], _ => rfl
  have M_Walk_finish : MtC l.prog w K mg base CX0 C_Walk "finish" ["self", "told"] 1 (spFinish K C_Walk) := ⟨_, _, ⟨a_Walk_finish, i_Walk_finish, k_Walk_finish⟩, b_Walk_finish, ok_wk_finish F_Walk_finish T T_Walk⟩
  have F_Walk_place_of := fun_mk (st := s_Walk_place_of) l_Walk_place_of c_Walk_place_of k_Walk_place_of
  have b_Walk_place_of := F_Walk_place_of.binds (ps := ["self", "instruction"]) fun _ _ _ _ _ _ us hl => match us, hl with | [_, _], _ => rfl
  have M_Walk_place_of : MtC l.prog w K mg base CX0 C_Walk "place_of" ["self", "instruction"] 1 (spPlaceOf K C_Walk) := ⟨_, _, ⟨a_Walk_place_of, i_Walk_place_of, k_Walk_place_of⟩, b_Walk_place_of, ok_wk_place_of F_Walk_place_of T T_Walk⟩
  have F_Walk_term_of := fun_mk (st := s_Walk_term_of) l_Walk_term_of c_Walk_term_of k_Walk_term_of
  have b_Walk_term_of := F_Walk_term_of.binds (ps := ["self", "instruction"]) fun _ _ _ _ _ _ us hl => match us, hl with | [_, _], _ => rfl
  have M_Walk_term_of : MtC l.prog w K mg base CX0 C_Walk "term_of" ["self", "instruction"] 1 (spTermOf K C_Walk) := ⟨_, _, ⟨a_Walk_term_of, i_Walk_term_of, k_Walk_term_of⟩, b_Walk_term_of, ok_wk_term_of F_Walk_term_of T T_Walk⟩
  have F_Walk_load := fun_mk (st := s_Walk_load) l_Walk_load c_Walk_load k_Walk_load
  have b_Walk_load := F_Walk_load.binds (ps := ["self", "variable"]) fun _ _ _ _ _ _ us hl => match us, hl with | [_, _], _ => rfl
  have M_Walk_load : MtC l.prog w K mg base CX0 C_Walk "load" ["self", "variable"] 2 (spLoad K C_Walk) := ⟨_, _, ⟨a_Walk_load, i_Walk_load, k_Walk_load⟩, b_Walk_load, ok_wk_load F_Walk_load T T_Walk M_Walk_instruction⟩
  have F_Walk_init := fun_mk (st := s_Walk_init) l_Walk_init c_Walk_init k_Walk_init
  have b_Walk_init := F_Walk_init.binds (ps := ["self", "programs"]) fun _ _ _ _ _ _ us hl => match us, hl with | [_, _], _ => rfl
  have M_Walk : MkC l.prog w K mg base CX0 "Walk" C_Walk ["self", "programs"] 1 (spWkInit K C_Walk) := ⟨_, _, PySem.W.mg_of X G cn_Walk, ⟨mk_Walk, a_Walk_init, i_Walk_init, kc_Walk⟩, b_Walk_init, ok_wk_init F_Walk_init TW T_Walk⟩
  have F_Walk_step := fun_mk (st := s_Walk_step) l_Walk_step c_Walk_step k_Walk_step
  have b_Walk_step := F_Walk_step.binds (ps := ["self"]) fun _ _ _ _ _ _ us hl => match us, hl with | [_], _ => rfl
  have M_Walk_step : MtC l.prog w K mg base CX0 C_Walk "step" ["self"] 3 (spStep K C_Walk) := ⟨_, _, ⟨a_Walk_step, i_Walk_step, k_Walk_step⟩, b_Walk_step, ok_wk_step F_Walk_step T T_Walk M_Walk_finish C_is_unset C_test_options C_place_options M_Walk_place_of M_Walk_term_of⟩
  have F_Walk_look_at_cells := fun_mk (st := s_Walk_look_at_cells) l_Walk_look_at_cells c_Walk_look_at_cells k_Walk_look_at_cells
  have b_Walk_look_at_cells := F_Walk_look_at_cells.binds (ps := ["self"]) fun _ _ _ _ _ _ us hl => match us, hl with | [_], _ => rfl
  have M_Walk_look_at_cells : MtC l.prog w K mg base CX0 C_Walk "look_at_cells" ["self"] 3 (spLook K C_Walk) := ⟨_, _, ⟨a_Walk_look_at_cells, i_Walk_look_at_cells, k_Walk_look_at_cells⟩, b_Walk_look_at_cells, ok_wk_look F_Walk_look_at_cells T T_Walk M_Walk_load C_cell_options⟩
  have F_Walk_go := fun_mk (st := s_Walk_go) l_Walk_go c_Walk_go k_Walk_go
  have b_Walk_go := F_Walk_go.binds (ps := ["self"]) fun _ _ _ _ _ _ us hl => match us, hl with | [_], _ => rfl
  have M_Walk_go : MtC l.prog w K mg base CX0 C_Walk "go" ["self"] 4 (spGo K C_Walk) := ⟨_, _, ⟨a_Walk_go, i_Walk_go, k_Walk_go⟩, b_Walk_go, ok_wk_go F_Walk_go T T_Walk M_Walk_is_ended M_Walk_step M_Walk_look_at_cells⟩
  have F_Walk_take := fun_mk (st := s_Walk_take) l_Walk_take c_Walk_take k_Walk_take
  have b_Walk_take := F_Walk_take.binds (ps := ["self", "number"]) fun _ _ _ _ _ _ us hl => match us, hl with | [_, _], _ => rfl
  have M_Walk_take : MtC l.prog w K mg base CX0 C_Walk "take" ["self", "number"] 3 (spTake_ K C_Walk) := ⟨_, _, ⟨a_Walk_take, i_Walk_take, k_Walk_take⟩, b_Walk_take, ok_wk_take F_Walk_take T T_Walk M_Walk_instruction M_Walk_load M_Walk_place_of M_Walk_finish⟩
  have F_put_in := fun_mk (st := s_put_in) l_put_in c_put_in k_put_in
  have b_put_in := F_put_in.binds (ps := ["sums", "x", "y", "c"]) fun _ _ _ _ _ _ us hl => match us, hl with | [_, _, _, _], _ => rfl
  have C_put_in : PL.Cal l.prog w K mg base CX0 "put_in" ["sums", "x", "y", "c"] 1 (spPutIn K) := ⟨_, _, PySem.W.mg_of X G a_put_in, k_put_in, b_put_in, fun _ => trivial, ok_put_in F_put_in T⟩
  have F_Near_init := fun_mk (st := s_Near_init) l_Near_init c_Near_init k_Near_init
  have b_Near_init := F_Near_init.binds (ps := ["self", "sums"]) fun _ _ _ _ _ _ us hl => match us, hl with | [_, _], _ => rfl
  have M_Near : MkC l.prog w K mg base CX0 "Near" C_Near ["self", "sums"] 1 (spNrInit K C_Near) := ⟨_, _, PySem.W.mg_of X G cn_Near, ⟨mk_Near, a_Near_init, i_Near_init, kc_Near⟩, b_Near_init, ok_nr_init F_Near_init T_Near⟩
  have F_Near_with_bounds := fun_mk (st := s_Near_with_bounds) l_Near_with_bounds c_Near_with_bounds k_Near_with_bounds
  have b_Near_with_bounds := F_Near_with_bounds.binds (ps := ["self", "many", "bounds"]) fun _ _ _ _ _ _ us hl => match us, hl with | [_, _, _], _ => rfl
  have M_Near_with_bounds : MtC l.prog w K mg base CX0 C_Near "with_bounds" ["self", "many", "bounds"] 3 (spWithB K C_Near) := ⟨_, _, ⟨a_Near_with_bounds, i_Near_with_bounds, k_Near_with_bounds⟩, b_Near_with_bounds, ok_with_bounds F_Near_with_bounds T T_Near C_put_in M_Near⟩
  have F_walk_by := fun_mk (st := s_walk_by) l_walk_by c_walk_by k_walk_by
  have b_walk_by := F_walk_by.binds (ps := ["programs", "choices"]) fun _ _ _ _ _ _ us hl => match us, hl with | [_, _], _ => rfl
  have C_walk_by : PL.Cal l.prog w K mg base CX0 "walk_by" ["programs", "choices"] 5 (spWalkBy K C_Walk) := ⟨_, _, PySem.W.mg_of X G a_walk_by, k_walk_by, b_walk_by, fun _ => trivial, ok_walk_by F_walk_by T T_Walk C_is_int M_Walk M_Walk_go M_Walk_take⟩
  have F_values_of := fun_mk (st := s_values_of) l_values_of c_values_of k_values_of
  have b_values_of := F_values_of.binds (ps := ["walk", "packet"]) fun _ _ _ _ _ _ us hl => match us, hl with | [_, _], _ => rfl
  have C_values_of : PL.Cal l.prog w K mg base CX0 "values_of" ["walk", "packet"] 1 (spValues K C_Walk) := ⟨_, _, PySem.W.mg_of X G a_values_of, k_values_of, b_values_of, fun _ => trivial, ok_values_of F_values_of T T_Walk⟩
  have F_least_packet := fun_mk (st := s_least_packet) l_least_packet c_least_packet k_least_packet
  have b_least_packet := F_least_packet.binds (ps := ["walk", "near"]) fun _ _ _ _ _ _ us hl => match us, hl with | [_, _], _ => rfl
  have C_least_packet : PL.Cal l.prog w K mg base CX0 "least_packet" ["walk", "near"] 1 (spLeast K C_Walk C_Near) := ⟨_, _, PySem.W.mg_of X G a_least_packet, k_least_packet, b_least_packet, fun _ => trivial, ok_least_packet F_least_packet T T_Walk T_Near⟩
  have F_packet_along := fun_mk (st := s_packet_along) l_packet_along c_packet_along k_packet_along
  have b_packet_along := F_packet_along.binds (ps := ["program", "choices"]) fun _ _ _ _ _ _ us hl => match us, hl with | [_, _], _ => rfl
  have C_packet_along : PL.Cal l.prog w K mg base CX0 "packet_along" ["program", "choices"] 6 (spPkAlong K C_Program) := ⟨_, _, PySem.W.mg_of X G a_packet_along, k_packet_along, b_packet_along, fun _ => trivial, ok_packet_along F_packet_along T_Program P_Program_lines T_Walk T_Near C_walk_by M_Near M_Near_with_bounds C_least_packet⟩
  have F_along := fun_mk (st := s_along) l_along c_along k_along
  have b_along := F_along.binds (ps := ["program", "packet"]) fun _ _ _ _ _ _ us hl => match us, hl with | [_, _], _ => rfl
  have C_along : PL.Cal l.prog w K mg base CX0 "along" ["program", "packet"] 5 (spAlong K C_Program) := ⟨_, _, PySem.W.mg_of X G a_along, k_along, b_along, fun _ => trivial, ok_along F_along T T_Program P_Program_lines T_Walk C_look_at_packet M_Walk M_Walk_go M_Walk_take C_values_of⟩
  have F_l_sums := fun_mk (st := s_l_sums) l_l_sums c_l_sums k_l_sums
  have b_l_sums := F_l_sums.binds (ps := ["many", "bounds"]) fun _ _ _ _ _ _ us hl => match us, hl with | [_, _], _ => rfl
  have C_l_sums : PL.Cal l.prog w K mg base CX0 "_law_sums" ["many", "bounds"] 1 (spSums K) := ⟨_, _, PySem.W.mg_of X G a_l_sums, k_l_sums, b_l_sums, fun _ => trivial, ok_sums F_l_sums T⟩
  have F_l_number := fun_mk (st := s_l_number) l_l_number c_l_number k_l_number
  have b_l_number := F_l_number.binds (ps := ["pot"]) fun _ _ _ _ _ _ us hl => match us, hl with | [_], _ => rfl
  have C_l_number : PL.Cal l.prog w K mg base CX0 "_law_number" ["pot"] 3 (spNumber) := ⟨_, _, PySem.W.mg_of X G a_l_number, k_l_number, b_l_number, fun _ => trivial, ok_number F_l_number B C_l_of⟩
  have F_l_text := fun_mk (st := s_l_text) l_l_text c_l_text k_l_text
  have b_l_text := F_l_text.binds (ps := ["lines"]) fun _ _ _ _ _ _ us hl => match us, hl with | [_], _ => rfl
  have C_l_text : PL.Cal l.prog w K mg base CX0 "_law_text" ["lines"] 1 (spText K) := ⟨_, _, PySem.W.mg_of X G a_l_text, k_l_text, b_l_text, fun _ => trivial, ok_text F_l_text B⟩
  have F_l_packet := fun_mk (st := s_l_packet) l_l_packet c_l_packet k_l_packet
  have b_l_packet := F_l_packet.binds (ps := ["pot", "most"]) fun _ _ _ _ _ _ us hl => match us, hl with | [_, _], _ => rfl
  have C_l_packet : PL.Cal l.prog w K mg base CX0 "_law_packet" ["pot", "most"] 3 (spPacket K) := ⟨_, _, PySem.W.mg_of X G a_l_packet, k_l_packet, b_l_packet, fun _ => trivial, ok_packet F_l_packet B C_l_of C_l_take⟩
  have F_l_lacks := fun_mk (st := s_l_lacks) l_l_lacks c_l_lacks k_l_lacks
  have b_l_lacks := F_l_lacks.binds (ps := ["line", "known"]) fun _ _ _ _ _ _ us hl => match us, hl with | [_, _], _ => rfl
  have C_l_lacks : PL.Cal l.prog w K mg base CX0 "_law_lacks" ["line", "known"] 1 (spIsUnset K) := ⟨_, _, PySem.W.mg_of X G a_l_lacks, k_l_lacks, b_l_lacks, fun _ => trivial, ok_lacks F_l_lacks B⟩
  have F_l_instruction := fun_mk (st := s_l_instruction) l_l_instruction c_l_instruction k_l_instruction
  have b_l_instruction := F_l_instruction.binds (ps := ["pot", "number", "size"]) fun _ _ _ _ _ _ us hl => match us, hl with | [_, _, _], _ => rfl
  have C_l_instruction : PL.Cal l.prog w K mg base CX0 "_law_instruction" ["pot", "number", "size"] 4 (spInstr) := ⟨_, _, PySem.W.mg_of X G a_l_instruction, k_l_instruction, b_l_instruction, fun _ => trivial, ok_instr F_l_instruction B C_l_of C_l_take C_l_number⟩
  have F_l_program := fun_mk (st := s_l_program) l_l_program c_l_program k_l_program
  have b_l_program := F_l_program.binds (ps := ["pot", "most"]) fun _ _ _ _ _ _ us hl => match us, hl with | [_, _], _ => rfl
  have C_l_program : PL.Cal l.prog w K mg base CX0 "_law_program" ["pot", "most"] 5 (spProg K) := ⟨_, _, PySem.W.mg_of X G a_l_program, k_l_program, b_l_program, fun _ => trivial, ok_prog F_l_program B C_l_of C_l_take C_l_instruction⟩
  have F_l_is_int := fun_mk (st := s_l_is_int) l_l_is_int c_l_is_int k_l_is_int
  have b_l_is_int := F_l_is_int.binds (ps := ["value", "low", "high"]) fun _ _ _ _ _ _ us hl => match us, hl with | [_, _, _], _ => rfl
  have C_l_is_int : PL.Cal l.prog w K mg base CX0 "_law_is_int" ["value", "low", "high"] 1 (spIsInt) := ⟨_, _, PySem.W.mg_of X G a_l_is_int, k_l_is_int, b_l_is_int, fun _ => trivial, ok_l_is_int F_l_is_int B⟩
  have F_l_at_most := fun_mk (st := s_l_at_most) l_l_at_most c_l_at_most k_l_at_most
  have b_l_at_most := F_l_at_most.binds (ps := ["one", "other", "number"]) fun _ _ _ _ _ _ us hl => match us, hl with | [_, _, _], _ => rfl
  have C_l_at_most : PL.Cal l.prog w K mg base CX0 "_law_at_most" ["one", "other", "number"] 1 (spAtMost K) := ⟨_, _, PySem.W.mg_of X G a_l_at_most, k_l_at_most, b_l_at_most, fun _ => trivial, ok_l_at_most F_l_at_most⟩
  have F_l_chosen := fun_mk (st := s_l_chosen) l_l_chosen c_l_chosen k_l_chosen
  have b_l_chosen := F_l_chosen.binds (ps := ["state", "options"]) fun _ _ _ _ _ _ us hl => match us, hl with | [_, _], _ => rfl
  have C_l_chosen : PL.Cal l.prog w K mg base CX0 "_law_chosen" ["state", "options"] 2 (spChosen K) := ⟨_, _, PySem.W.mg_of X G a_l_chosen, k_l_chosen, b_l_chosen, fun _ => trivial, ok_l_chosen F_l_chosen B C_l_is_int⟩
  have F_l_loaded := fun_mk (st := s_l_loaded) l_l_loaded c_l_loaded k_l_loaded
  have b_l_loaded := F_l_loaded.binds (ps := ["state", "line", "at"]) fun _ _ _ _ _ _ us hl => match us, hl with | [_, _, _], _ => rfl
  have C_l_loaded : PL.Cal l.prog w K mg base CX0 "_law_loaded" ["state", "line", "at"] 3 (spLoaded K) := ⟨_, _, PySem.W.mg_of X G a_l_loaded, k_l_loaded, b_l_loaded, fun _ => trivial, ok_l_loaded F_l_loaded B C_l_at_most C_l_chosen⟩
  have F_l_tested := fun_mk (st := s_l_tested) l_l_tested c_l_tested k_l_tested
  have b_l_tested := F_l_tested.binds (ps := ["state", "line", "at"]) fun _ _ _ _ _ _ us hl => match us, hl with | [_, _, _], _ => rfl
  have C_l_tested : PL.Cal l.prog w K mg base CX0 "_law_tested" ["state", "line", "at"] 3 (spTested K) := ⟨_, _, PySem.W.mg_of X G a_l_tested, k_l_tested, b_l_tested, fun _ => trivial, ok_l_tested F_l_tested B C_l_at_most C_l_chosen⟩
  have F_l_gone := fun_mk (st := s_l_gone) l_l_gone c_l_gone k_l_gone
  have b_l_gone := F_l_gone.binds (ps := ["state", "lines"]) fun _ _ _ _ _ _ us hl => match us, hl with | [_, _], _ => rfl
  have C_l_gone : PL.Cal l.prog w K mg base CX0 "_law_gone" ["state", "lines"] 4 (spLGone K) := ⟨_, _, PySem.W.mg_of X G a_l_gone, k_l_gone, b_l_gone, fun _ => trivial, ok_l_gone F_l_gone B C_l_lacks C_l_tested C_l_loaded⟩
  have F_l_walked := fun_mk (st := s_l_walked) l_l_walked c_l_walked k_l_walked
  have b_l_walked := F_l_walked.binds (ps := ["programs", "choices"]) fun _ _ _ _ _ _ us hl => match us, hl with | [_, _], _ => rfl
  have C_l_walked : PL.Cal l.prog w K mg base CX0 "_law_walked" ["programs", "choices"] 5 (spWalked K) := ⟨_, _, PySem.W.mg_of X G a_l_walked, k_l_walked, b_l_walked, fun _ => trivial, ok_l_walked F_l_walked B C_l_gone⟩
  have F_l_least := fun_mk (st := s_l_least) l_l_least c_l_least k_l_least
  have b_l_least := F_l_least.binds (ps := ["state"]) fun _ _ _ _ _ _ us hl => match us, hl with | [_], _ => rfl
  have C_l_least : PL.Cal l.prog w K mg base CX0 "_law_least" ["state"] 2 (spLLeast K) := ⟨_, _, PySem.W.mg_of X G a_l_least, k_l_least, b_l_least, fun _ => trivial, ok_l_least F_l_least B C_l_sums⟩
  have F_l_numbers := fun_mk (st := s_l_numbers) l_l_numbers c_l_numbers k_l_numbers
  have b_l_numbers := F_l_numbers.binds (ps := ["state", "packet"]) fun _ _ _ _ _ _ us hl => match us, hl with | [_, _], _ => rfl
  have C_l_numbers : PL.Cal l.prog w K mg base CX0 "_law_numbers" ["state", "packet"] 1 (spLNumbers K) := ⟨_, _, PySem.W.mg_of X G a_l_numbers, k_l_numbers, b_l_numbers, fun _ => trivial, ok_l_numbers F_l_numbers B⟩
  have F_l_drawn_choices := fun_mk (st := s_l_drawn_choices) l_l_drawn_choices c_l_drawn_choices k_l_drawn_choices
  have b_l_drawn_choices := F_l_drawn_choices.binds (ps := ["pot", "lines"]) fun _ _ _ _ _ _ us hl => match us, hl with | [_, _], _ => rfl
  have C_l_drawn_choices : PL.Cal l.prog w K mg base CX0 "_law_drawn_choices" ["pot", "lines"] 6 (spDrawn K) := ⟨_, _, PySem.W.mg_of X G a_l_drawn_choices, k_l_drawn_choices, b_l_drawn_choices, fun _ => trivial, ok_drawn F_l_drawn_choices B C_l_take C_l_walked⟩
  have F_l_right := fun_mk (st := s_l_right) l_l_right c_l_right k_l_right
  have b_l_right := F_l_right.binds (ps := ["pot"]) fun _ _ _ _ _ _ us hl => match us, hl with | [_], _ => rfl
  have C_l_right : CalG l.prog w K mg base CX0 "_law_right" ["pot"] 8 (spRight) := ⟨_, _, PySem.W.mg_of X G a_l_right, k_l_right, b_l_right, ok_right F_l_right B M_Program C_along C_packet_along C_l_program C_l_text C_l_packet C_l_of C_l_drawn_choices C_l_walked C_l_least C_l_numbers⟩
  have F_law := fun_mk (st := s_law) l_law c_law k_law
  have b_law := F_law.binds (ps := ["script"]) fun _ _ _ _ _ _ us hl => match us, hl with | [_], _ => rfl
  exact ok_law F_law B C_l_right C_l_pot C_l_cells
end L2.T39
open PySem PySem.W PyProof.Rows
set_option maxRecDepth 100000 in
set_option maxHeartbeats 0 in
theorem PySem.Challenge.cw_passedastold_k39_packets_of_the_least_nu_holds : PySem.Challenge.rw_passedastold_k39_packets_of_the_least_nu.Holds := by
  refine hd39 ?_
  k_fill
  refine L2.PL.walk_ofG (l := PySem.Challenge.rw_passedastold_k39_packets_of_the_least_nu) (n := 63) (k := 9) (x := "script") (sp := fun K => L2.T39.spLaw K) rfl (by decide) rfl ⟨rfl, by decide, by decide⟩ (fun w h Y => PySem.W.kIn_of Y) ?F (fun K H a ns hl hS => ⟨a, ns, rfl, hS, hl, fun _ => rfl⟩)
  case F =>
    intro w mg fa h KX G hmg
    refine' L2.T39.all_mk (l := PySem.Challenge.rw_passedastold_k39_packets_of_the_least_nu) (w := w) KX G hmg ?g_FIGURES ?g_MOST_CELLS ?g_NOUGHT ?g_LENGTH ?g_MOST_CELL ?g_MOST_LINES ?g_MOST_NUMBER ?g_REGISTERS ?g_WRONG ?g_UNSET ?g_BEYOND ?g_END ?z_isinstance ?z_len ?z_all ?z_any ?z_min ?z_max ?z_abs ?z_sum ?z_repr ?z_sorted ?z_int ?z_bool ?z_str ?z_tuple ?z_list ?z_range ?z_enumerate ?z_zip ?cn_Program ?pg_Program ?ic_Program ?po_Program ?sa_Program ?mk_Program ?kc_Program ?q0_Program ?u0_Program ?v0_Program ?w0_Program ?x0_Program ?q1_Program ?u1_Program ?v1_Program ?w1_Program ?x1_Program ?cn_Walk ?pg_Walk ?ic_Walk ?po_Walk ?sa_Walk ?mk_Walk ?kc_Walk ?q0_Walk ?u0_Walk ?v0_Walk ?w0_Walk ?x0_Walk ?q1_Walk ?u1_Walk ?v1_Walk ?w1_Walk ?x1_Walk ?q2_Walk ?u2_Walk ?v2_Walk ?w2_Walk ?x2_Walk ?q3_Walk ?u3_Walk ?v3_Walk ?w3_Walk ?x3_Walk ?q4_Walk ?u4_Walk ?v4_Walk ?w4_Walk ?x4_Walk ?q5_Walk ?u5_Walk ?v5_Walk ?w5_Walk ?x5_Walk ?q6_Walk ?u6_Walk ?v6_Walk ?w6_Walk ?x6_Walk ?q7_Walk ?u7_Walk ?v7_Walk ?w7_Walk ?x7_Walk ?q8_Walk ?u8_Walk ?v8_Walk ?w8_Walk ?x8_Walk ?q9_Walk ?u9_Walk ?v9_Walk ?w9_Walk ?x9_Walk ?cn_Near ?pg_Near ?ic_Near ?po_Near ?sa_Near ?mk_Near ?kc_Near ?q0_Near ?u0_Near ?v0_Near ?w0_Near ?x0_Near ?a_FORMS ?l_FORMS ?kl_FORMS ?lo_FORMS ?w_FORMS_set ?w_FORMS_copy ?w_FORMS_add ?w_FORMS_length ?w_FORMS_load ?w_FORMS_jump ?w_FORMS_less ?w_FORMS_atmost ?w_FORMS_same ?w_FORMS_pass ?w_FORMS_drop ?a_NEEDS ?l_NEEDS ?kl_NEEDS ?lo_NEEDS ?w_NEEDS_set ?w_NEEDS_copy ?y_NEEDS_copy ?w_NEEDS_add ?y_NEEDS_add ?w_NEEDS_length ?w_NEEDS_load ?y_NEEDS_load ?w_NEEDS_jump ?w_NEEDS_less ?y_NEEDS_less ?w_NEEDS_atmost ?y_NEEDS_atmost ?w_NEEDS_same ?y_NEEDS_same ?w_NEEDS_pass ?w_NEEDS_drop ?a_FIRST ?y_FIRST ?y_FIRST_0 ?y_FIRST_1 ?a_l_take ?l_l_take ?c_l_take ?k_l_take ?a_l_of ?l_l_of ?c_l_of ?k_l_of ?a_l_cells ?l_l_cells ?c_l_cells ?k_l_cells ?a_l_pot ?l_l_pot ?c_l_pot ?k_l_pot ?a_number_in ?l_number_in ?c_number_in ?k_number_in ?a_signed_in ?l_signed_in ?c_signed_in ?k_signed_in ?a_word_in ?l_word_in ?c_word_in ?k_word_in ?a_instruction_in ?l_instruction_in ?c_instruction_in ?k_instruction_in ?a_read_lines ?l_read_lines ?c_read_lines ?k_read_lines ?a_Pr_init ?i_Pr_init ?l_Pr_init ?c_Pr_init ?k_Pr_init ?a_Pr_lines ?u_Pr_lines ?v_Pr_lines ?r_Pr_lines ?l_Pr_lines ?c_Pr_lines ?k_Pr_lines ?a_is_int ?l_is_int ?c_is_int ?k_is_int ?a_is_packet ?l_is_packet ?c_is_packet ?k_is_packet ?a_look_at_packet ?l_look_at_packet ?c_look_at_packet ?k_look_at_packet ?a_is_unset ?l_is_unset ?c_is_unset ?k_is_unset ?a_at_most ?l_at_most ?c_at_most ?k_at_most ?a_cell_options ?l_cell_options ?c_cell_options ?k_cell_options ?a_place_options ?l_place_options ?c_place_options ?k_place_options ?a_test_options ?l_test_options ?c_test_options ?k_test_options ?a_Walk_is_ended ?i_Walk_is_ended ?l_Walk_is_ended ?c_Walk_is_ended ?k_Walk_is_ended ?a_Walk_instruction ?i_Walk_instruction ?l_Walk_instruction ?c_Walk_instruction ?k_Walk_instruction ?a_Walk_finish ?i_Walk_finish ?l_Walk_finish ?c_Walk_finish ?k_Walk_finish ?a_Walk_place_of ?i_Walk_place_of ?l_Walk_place_of ?c_Walk_place_of ?k_Walk_place_of ?a_Walk_term_of ?i_Walk_term_of ?l_Walk_term_of ?c_Walk_term_of ?k_Walk_term_of ?a_Walk_load ?i_Walk_load ?l_Walk_load ?c_Walk_load ?k_Walk_load ?a_Walk_init ?i_Walk_init ?l_Walk_init ?c_Walk_init ?k_Walk_init ?a_Walk_step ?i_Walk_step ?l_Walk_step ?c_Walk_step ?k_Walk_step ?a_Walk_look_at_cells ?i_Walk_look_at_cells ?l_Walk_look_at_cells ?c_Walk_look_at_cells ?k_Walk_look_at_cells ?a_Walk_go ?i_Walk_go ?l_Walk_go ?c_Walk_go ?k_Walk_go ?a_Walk_take ?i_Walk_take ?l_Walk_take ?c_Walk_take ?k_Walk_take ?a_put_in ?l_put_in ?c_put_in ?k_put_in ?a_Near_init ?i_Near_init ?l_Near_init ?c_Near_init ?k_Near_init ?a_Near_with_bounds ?i_Near_with_bounds ?l_Near_with_bounds ?c_Near_with_bounds ?k_Near_with_bounds ?a_walk_by ?l_walk_by ?c_walk_by ?k_walk_by ?a_values_of ?l_values_of ?c_values_of ?k_values_of ?a_least_packet ?l_least_packet ?c_least_packet ?k_least_packet ?a_packet_along ?l_packet_along ?c_packet_along ?k_packet_along ?a_along ?l_along ?c_along ?k_along ?a_l_sums ?l_l_sums ?c_l_sums ?k_l_sums ?a_l_number ?l_l_number ?c_l_number ?k_l_number ?a_l_text ?l_l_text ?c_l_text ?k_l_text ?a_l_packet ?l_l_packet ?c_l_packet ?k_l_packet ?a_l_lacks ?l_l_lacks ?c_l_lacks ?k_l_lacks ?a_l_instruction ?l_l_instruction ?c_l_instruction ?k_l_instruction ?a_l_program ?l_l_program ?c_l_program ?k_l_program ?a_l_is_int ?l_l_is_int ?c_l_is_int ?k_l_is_int ?a_l_at_most ?l_l_at_most ?c_l_at_most ?k_l_at_most ?a_l_chosen ?l_l_chosen ?c_l_chosen ?k_l_chosen ?a_l_loaded ?l_l_loaded ?c_l_loaded ?k_l_loaded ?a_l_tested ?l_l_tested ?c_l_tested ?k_l_tested ?a_l_gone ?l_l_gone ?c_l_gone ?k_l_gone ?a_l_walked ?l_l_walked ?c_l_walked ?k_l_walked ?a_l_least ?l_l_least ?c_l_least ?k_l_least ?a_l_numbers ?l_l_numbers ?c_l_numbers ?k_l_numbers ?a_l_drawn_choices ?l_l_drawn_choices ?c_l_drawn_choices ?k_l_drawn_choices ?a_l_right ?l_l_right ?c_l_right ?k_l_right ?a_law ?l_law ?c_law ?k_law
    (case g_FIGURES => k_is)
    (case g_MOST_CELLS => k_is)
    (case g_NOUGHT => k_is)
    (case g_LENGTH => k_is)
    (case g_MOST_CELL => k_is)
    (case g_MOST_LINES => k_is)
    (case g_MOST_NUMBER => k_is)
    (case g_REGISTERS => k_is)
    (case g_WRONG => k_is)
    (case g_UNSET => k_is)
    (case g_BEYOND => k_is)
    (case g_END => k_is)
    (case z_isinstance => k_is)
    (case z_len => k_is)
    (case z_all => k_is)
    (case z_any => k_is)
    (case z_min => k_is)
    (case z_max => k_is)
    (case z_abs => k_is)
    (case z_sum => k_is)
    (case z_repr => k_is)
    (case z_sorted => k_is)
    (case z_int => k_is)
    (case z_bool => k_is)
    (case z_str => k_is)
    (case z_tuple => k_is)
    (case z_list => k_is)
    (case z_range => k_is)
    (case z_enumerate => k_is)
    (case z_zip => k_is)
    (case cn_Program => k_is)
    (case pg_Program => k_is)
    (case ic_Program => k_is)
    (case po_Program => k_is)
    (case sa_Program => k_is)
    (case mk_Program => k_is)
    (case kc_Program => k_is)
    (case q0_Program => k_is)
    (case u0_Program => k_is)
    (case v0_Program => k_is)
    (case w0_Program => k_is)
    (case x0_Program => k_is)
    (case q1_Program => k_is)
    (case u1_Program => k_is)
    (case v1_Program => k_is)
    (case w1_Program => k_is)
    (case x1_Program => k_is)
    (case cn_Walk => k_is)
    (case pg_Walk => k_is)
    (case ic_Walk => k_is)
    (case po_Walk => k_is)
    (case sa_Walk => k_is)
    (case mk_Walk => k_is)
    (case kc_Walk => k_is)
    (case q0_Walk => k_is)
    (case u0_Walk => k_is)
    (case v0_Walk => k_is)
    (case w0_Walk => k_is)
    (case x0_Walk => k_is)
    (case q1_Walk => k_is)
    (case u1_Walk => k_is)
    (case v1_Walk => k_is)
    (case w1_Walk => k_is)
    (case x1_Walk => k_is)
    (case q2_Walk => k_is)
    (case u2_Walk => k_is)
    (case v2_Walk => k_is)
    (case w2_Walk => k_is)
    (case x2_Walk => k_is)
    (case q3_Walk => k_is)
    (case u3_Walk => k_is)
    (case v3_Walk => k_is)
    (case w3_Walk => k_is)
    (case x3_Walk => k_is)
    (case q4_Walk => k_is)
    (case u4_Walk => k_is)
    (case v4_Walk => k_is)
    (case w4_Walk => k_is)
    (case x4_Walk => k_is)
    (case q5_Walk => k_is)
    (case u5_Walk => k_is)
    (case v5_Walk => k_is)
    (case w5_Walk => k_is)
    (case x5_Walk => k_is)
    (case q6_Walk => k_is)
    (case u6_Walk => k_is)
    (case v6_Walk => k_is)
    (case w6_Walk => k_is)
    (case x6_Walk => k_is)
    (case q7_Walk => k_is)
    (case u7_Walk => k_is)
    (case v7_Walk => k_is)
    (case w7_Walk => k_is)
    (case x7_Walk => k_is)
    (case q8_Walk => k_is)
    (case u8_Walk => k_is)
    (case v8_Walk => k_is)
    (case w8_Walk => k_is)
    (case x8_Walk => k_is)
    (case q9_Walk => k_is)
    (case u9_Walk => k_is)
    (case v9_Walk => k_is)
    (case w9_Walk => k_is)
    (case x9_Walk => k_is)
    (case cn_Near => k_is)
    (case pg_Near => k_is)
    (case ic_Near => k_is)
    (case po_Near => k_is)
    (case sa_Near => k_is)
    (case mk_Near => k_is)
    (case kc_Near => k_is)
    (case q0_Near => k_is)
    (case u0_Near => k_is)
    (case v0_Near => k_is)
    (case w0_Near => k_is)
    (case x0_Near => k_is)
    (case a_FORMS => k_is)
    (case l_FORMS => k_is)
    (case kl_FORMS => repeat (first | exact trivial | refine ⟨⟨_, _, rfl, rfl⟩, ?_⟩))
    (case lo_FORMS => first | rfl | decide)
    (case w_FORMS_set => k_is)
    (case w_FORMS_copy => k_is)
    (case w_FORMS_add => k_is)
    (case w_FORMS_length => k_is)
    (case w_FORMS_load => k_is)
    (case w_FORMS_jump => k_is)
    (case w_FORMS_less => k_is)
    (case w_FORMS_atmost => k_is)
    (case w_FORMS_same => k_is)
    (case w_FORMS_pass => k_is)
    (case w_FORMS_drop => k_is)
    (case a_NEEDS => k_is)
    (case l_NEEDS => k_is)
    (case kl_NEEDS => repeat (first | exact trivial | refine ⟨⟨_, _, rfl, rfl⟩, ?_⟩))
    (case lo_NEEDS => first | rfl | decide)
    (case w_NEEDS_set => k_is)
    (case w_NEEDS_copy => k_is)
    (case y_NEEDS_copy => k_is)
    (case w_NEEDS_add => k_is)
    (case y_NEEDS_add => k_is)
    (case w_NEEDS_length => k_is)
    (case w_NEEDS_load => k_is)
    (case y_NEEDS_load => k_is)
    (case w_NEEDS_jump => k_is)
    (case w_NEEDS_less => k_is)
    (case y_NEEDS_less => k_is)
    (case w_NEEDS_atmost => k_is)
    (case y_NEEDS_atmost => k_is)
    (case w_NEEDS_same => k_is)
    (case y_NEEDS_same => k_is)
    (case w_NEEDS_pass => k_is)
    (case w_NEEDS_drop => k_is)
    (case a_FIRST => k_is)
    (case y_FIRST => k_is)
    (case y_FIRST_0 => k_is)
    (case y_FIRST_1 => k_is)
    (case a_l_take => k_is)
    (case l_l_take => k_is)
    (case c_l_take => k_is)
    (case k_l_take => k_is)
    (case a_l_of => k_is)
    (case l_l_of => k_is)
    (case c_l_of => k_is)
    (case k_l_of => k_is)
    (case a_l_cells => k_is)
    (case l_l_cells => k_is)
    (case c_l_cells => k_is)
    (case k_l_cells => k_is)
    (case a_l_pot => k_is)
    (case l_l_pot => k_is)
    (case c_l_pot => k_is)
    (case k_l_pot => k_is)
    (case a_number_in => k_is)
    (case l_number_in => k_is)
    (case c_number_in => k_is)
    (case k_number_in => k_is)
    (case a_signed_in => k_is)
    (case l_signed_in => k_is)
    (case c_signed_in => k_is)
    (case k_signed_in => k_is)
    (case a_word_in => k_is)
    (case l_word_in => k_is)
    (case c_word_in => k_is)
    (case k_word_in => k_is)
    (case a_instruction_in => k_is)
    (case l_instruction_in => k_is)
    (case c_instruction_in => k_is)
    (case k_instruction_in => k_is)
    (case a_read_lines => k_is)
    (case l_read_lines => k_is)
    (case c_read_lines => k_is)
    (case k_read_lines => k_is)
    (case a_Pr_init => k_is)
    (case i_Pr_init => k_is)
    (case l_Pr_init => k_is)
    (case c_Pr_init => k_is)
    (case k_Pr_init => k_is)
    (case a_Pr_lines => k_is)
    (case u_Pr_lines => k_is)
    (case v_Pr_lines => k_is)
    (case r_Pr_lines => k_is)
    (case l_Pr_lines => k_is)
    (case c_Pr_lines => k_is)
    (case k_Pr_lines => k_is)
    (case a_is_int => k_is)
    (case l_is_int => k_is)
    (case c_is_int => k_is)
    (case k_is_int => k_is)
    (case a_is_packet => k_is)
    (case l_is_packet => k_is)
    (case c_is_packet => k_is)
    (case k_is_packet => k_is)
    (case a_look_at_packet => k_is)
    (case l_look_at_packet => k_is)
    (case c_look_at_packet => k_is)
    (case k_look_at_packet => k_is)
    (case a_is_unset => k_is)
    (case l_is_unset => k_is)
    (case c_is_unset => k_is)
    (case k_is_unset => k_is)
    (case a_at_most => k_is)
    (case l_at_most => k_is)
    (case c_at_most => k_is)
    (case k_at_most => k_is)
    (case a_cell_options => k_is)
    (case l_cell_options => k_is)
    (case c_cell_options => k_is)
    (case k_cell_options => k_is)
    (case a_place_options => k_is)
    (case l_place_options => k_is)
    (case c_place_options => k_is)
    (case k_place_options => k_is)
    (case a_test_options => k_is)
    (case l_test_options => k_is)
    (case c_test_options => k_is)
    (case k_test_options => k_is)
    (case a_Walk_is_ended => k_is)
    (case i_Walk_is_ended => k_is)
    (case l_Walk_is_ended => k_is)
    (case c_Walk_is_ended => k_is)
    (case k_Walk_is_ended => k_is)
    (case a_Walk_instruction => k_is)
    (case i_Walk_instruction => k_is)
    (case l_Walk_instruction => k_is)
    (case c_Walk_instruction => k_is)
    (case k_Walk_instruction => k_is)
    (case a_Walk_finish => k_is)
    (case i_Walk_finish => k_is)
    (case l_Walk_finish => k_is)
    (case c_Walk_finish => k_is)
    (case k_Walk_finish => k_is)
    (case a_Walk_place_of => k_is)
    (case i_Walk_place_of => k_is)
    (case l_Walk_place_of => k_is)
    (case c_Walk_place_of => k_is)
    (case k_Walk_place_of => k_is)
    (case a_Walk_term_of => k_is)
    (case i_Walk_term_of => k_is)
    (case l_Walk_term_of => k_is)
    (case c_Walk_term_of => k_is)
    (case k_Walk_term_of => k_is)
    (case a_Walk_load => k_is)
    (case i_Walk_load => k_is)
    (case l_Walk_load => k_is)
    (case c_Walk_load => k_is)
    (case k_Walk_load => k_is)
    (case a_Walk_init => k_is)
    (case i_Walk_init => k_is)
    (case l_Walk_init => k_is)
    (case c_Walk_init => k_is)
    (case k_Walk_init => k_is)
    (case a_Walk_step => k_is)
    (case i_Walk_step => k_is)
    (case l_Walk_step => k_is)
    (case c_Walk_step => k_is)
    (case k_Walk_step => k_is)
    (case a_Walk_look_at_cells => k_is)
    (case i_Walk_look_at_cells => k_is)
    (case l_Walk_look_at_cells => k_is)
    (case c_Walk_look_at_cells => k_is)
    (case k_Walk_look_at_cells => k_is)
    (case a_Walk_go => k_is)
    (case i_Walk_go => k_is)
    (case l_Walk_go => k_is)
    (case c_Walk_go => k_is)
    (case k_Walk_go => k_is)
    (case a_Walk_take => k_is)
    (case i_Walk_take => k_is)
    (case l_Walk_take => k_is)
    (case c_Walk_take => k_is)
    (case k_Walk_take => k_is)
    (case a_put_in => k_is)
    (case l_put_in => k_is)
    (case c_put_in => k_is)
    (case k_put_in => k_is)
    (case a_Near_init => k_is)
    (case i_Near_init => k_is)
    (case l_Near_init => k_is)
    (case c_Near_init => k_is)
    (case k_Near_init => k_is)
    (case a_Near_with_bounds => k_is)
    (case i_Near_with_bounds => k_is)
    (case l_Near_with_bounds => k_is)
    (case c_Near_with_bounds => k_is)
    (case k_Near_with_bounds => k_is)
    (case a_walk_by => k_is)
    (case l_walk_by => k_is)
    (case c_walk_by => k_is)
    (case k_walk_by => k_is)
    (case a_values_of => k_is)
    (case l_values_of => k_is)
    (case c_values_of => k_is)
    (case k_values_of => k_is)
    (case a_least_packet => k_is)
    (case l_least_packet => k_is)
    (case c_least_packet => k_is)
    (case k_least_packet => k_is)
    (case a_packet_along => k_is)
    (case l_packet_along => k_is)
    (case c_packet_along => k_is)
    (case k_packet_along => k_is)
    (case a_along => k_is)
    (case l_along => k_is)
    (case c_along => k_is)
    (case k_along => k_is)
    (case a_l_sums => k_is)
    (case l_l_sums => k_is)
    (case c_l_sums => k_is)
    (case k_l_sums => k_is)
    (case a_l_number => k_is)
    (case l_l_number => k_is)
    (case c_l_number => k_is)
    (case k_l_number => k_is)
    (case a_l_text => k_is)
    (case l_l_text => k_is)
    (case c_l_text => k_is)
    (case k_l_text => k_is)
    (case a_l_packet => k_is)
    (case l_l_packet => k_is)
    (case c_l_packet => k_is)
    (case k_l_packet => k_is)
    (case a_l_lacks => k_is)
    (case l_l_lacks => k_is)
    (case c_l_lacks => k_is)
    (case k_l_lacks => k_is)
    (case a_l_instruction => k_is)
    (case l_l_instruction => k_is)
    (case c_l_instruction => k_is)
    (case k_l_instruction => k_is)
    (case a_l_program => k_is)
    (case l_l_program => k_is)
    (case c_l_program => k_is)
    (case k_l_program => k_is)
    (case a_l_is_int => k_is)
    (case l_l_is_int => k_is)
    (case c_l_is_int => k_is)
    (case k_l_is_int => k_is)
    (case a_l_at_most => k_is)
    (case l_l_at_most => k_is)
    (case c_l_at_most => k_is)
    (case k_l_at_most => k_is)
    (case a_l_chosen => k_is)
    (case l_l_chosen => k_is)
    (case c_l_chosen => k_is)
    (case k_l_chosen => k_is)
    (case a_l_loaded => k_is)
    (case l_l_loaded => k_is)
    (case c_l_loaded => k_is)
    (case k_l_loaded => k_is)
    (case a_l_tested => k_is)
    (case l_l_tested => k_is)
    (case c_l_tested => k_is)
    (case k_l_tested => k_is)
    (case a_l_gone => k_is)
    (case l_l_gone => k_is)
    (case c_l_gone => k_is)
    (case k_l_gone => k_is)
    (case a_l_walked => k_is)
    (case l_l_walked => k_is)
    (case c_l_walked => k_is)
    (case k_l_walked => k_is)
    (case a_l_least => k_is)
    (case l_l_least => k_is)
    (case c_l_least => k_is)
    (case k_l_least => k_is)
    (case a_l_numbers => k_is)
    (case l_l_numbers => k_is)
    (case c_l_numbers => k_is)
    (case k_l_numbers => k_is)
    (case a_l_drawn_choices => k_is)
    (case l_l_drawn_choices => k_is)
    (case c_l_drawn_choices => k_is)
    (case k_l_drawn_choices => k_is)
    (case a_l_right => k_is)
    (case l_l_right => k_is)
    (case c_l_right => k_is)
    (case k_l_right => k_is)
    (case a_law => k_is)
    (case l_law => k_is)
    (case c_law => k_is)
    (case k_law => k_is)

